import PyProof.Rows.All
import Wide.All
import OpenK.AllK
import Wide.FinOn
import HandS.ForMost
import HandS.Exc
import HandS.Lambda
import HandS.Wide
import HandS.TupAny
import HandS.Text
import HandS.Dict
import HandS.IsInst
import HandS.More
import HandS.ExcIs
import KE.KExcIs
import HandS.Iter
import HandS.Comp
import HandS.ExcField
import HandS.ExcOwn
import HandS.RevRange
import HandS.Conv
import HandS.Small
import HandS.Style
import KE.KTryMore
import HandS.ExcInit
import HandS.HeadHook4
import HandS.HeadWalk
import HandS.Head2
import PySem.Challenge.RW_setkinds_k01_kinds_looked_at
set_option Elab.async false
set_option linter.all false
set_option maxRecDepth 100000
/-! MiA: a small functional reading of Python: values, objects, expressions, statements, and what they come to. -/
namespace Mi
open PySem L2

/-! ### equality of data -/
mutual
def beqP : PyData → PyData → Bool
  | .none, .none => true
  | .bool a, .bool b => a == b
  | .int a, .int b => decide (a = b)
  | .str a, .str b => decide (a = b)
  | .list xs, .list ys => beqPs xs ys
  | .tuple xs, .tuple ys => beqPs xs ys
  | .dict xs, .dict ys => beqKs xs ys
  | _, _ => false
def beqPs : List PyData → List PyData → Bool
  | [], [] => true
  | x :: xs, y :: ys => beqP x y && beqPs xs ys
  | _, _ => false
def beqKs : List (PyData × PyData) → List (PyData × PyData) → Bool
  | [], [] => true
  | (a, b) :: xs, (c, d) :: ys => beqP a c && (beqP b d && beqKs xs ys)
  | _, _ => false
end
mutual
theorem beqP_eq : ∀ a b : PyData, beqP a b = true → a = b
  | .none, b, h => by cases b <;> simp_all [beqP]
  | .bool a, b, h => by cases b <;> simp_all [beqP]
  | .int a, b, h => by cases b <;> simp_all [beqP]
  | .str a, b, h => by cases b <;> simp_all [beqP]
  | .list xs, b, h => by
    cases b with
    | list ys => rw [beqPs_eq xs ys (by simpa [beqP] using h)]
    | _ => simp [beqP] at h
  | .tuple xs, b, h => by
    cases b with
    | tuple ys => rw [beqPs_eq xs ys (by simpa [beqP] using h)]
    | _ => simp [beqP] at h
  | .dict xs, b, h => by
    cases b with
    | dict ys => rw [beqKs_eq xs ys (by simpa [beqP] using h)]
    | _ => simp [beqP] at h
theorem beqPs_eq : ∀ a b : List PyData, beqPs a b = true → a = b
  | [], b, h => by cases b <;> simp_all [beqPs]
  | x :: xs, b, h => by
    cases b with
    | nil => simp [beqPs] at h
    | cons y ys =>
      simp only [beqPs, Bool.and_eq_true] at h
      rw [beqP_eq x y h.1, beqPs_eq xs ys h.2]
theorem beqKs_eq : ∀ a b : List (PyData × PyData), beqKs a b = true → a = b
  | [], b, h => by cases b <;> simp_all [beqKs]
  | (x, z) :: xs, b, h => by
    cases b with
    | nil => simp [beqKs] at h
    | cons y ys =>
      obtain ⟨y1, y2⟩ := y
      simp only [beqKs, Bool.and_eq_true] at h
      rw [beqP_eq x y1 h.1, beqP_eq z y2 h.2.1, beqKs_eq xs ys h.2.2]
end
mutual
theorem beqP_refl : ∀ a : PyData, beqP a a = true
  | .none => rfl
  | .bool a => by simp [beqP]
  | .int a => by simp [beqP]
  | .str a => by simp [beqP]
  | .list xs => by simp only [beqP]; exact beqPs_refl xs
  | .tuple xs => by simp only [beqP]; exact beqPs_refl xs
  | .dict xs => by simp only [beqP]; exact beqKs_refl xs
theorem beqPs_refl : ∀ a : List PyData, beqPs a a = true
  | [] => rfl
  | x :: xs => by simp only [beqPs, Bool.and_eq_true]; exact ⟨beqP_refl x, beqPs_refl xs⟩
theorem beqKs_refl : ∀ a : List (PyData × PyData), beqKs a a = true
  | [] => rfl
  | (x, y) :: xs => by simp only [beqKs, Bool.and_eq_true]; exact ⟨beqP_refl x, beqP_refl y, beqKs_refl xs⟩
end
instance : DecidableEq PyData := fun a b =>
  if h : beqP a b = true then isTrue (beqP_eq a b h) else isFalse (fun e => h (by rw [e]; exact beqP_refl b))

/-! ### values, objects, what an expression comes to -/
inductive U where
  | d (p : PyData)
  | obj (n : Nat)
  | ty (n : String)
  | glo (x : Str)
  | exc (c : Str) (fs : List (Str × PyData))
  | lam
inductive Ob where
  | lst (ps : List PyData)
  | dK (kvs : List (Key × U))
  | dT (kvs : List (List Key × U))
inductive R where
  | val (u : U)
  | new (o : Ob)
inductive Rs (α : Type) where
  | ok (a : α)
  | er (c : Str) (fs : List (Str × PyData))
abbrev Fr := List (Option U)
abbrev Hs := List Ob
abbrev M (α : Type) := Hs → Option (Rs α × Hs)
def ret {α : Type} (a : α) : M α := fun A => some (.ok a, A)
def bnd {α β : Type} (x : M α) (f : α → M β) : M β := fun A => match x A with
  | none => none
  | some (.er c fs, A') => some (.er c fs, A')
  | some (.ok a, A') => f a A'
def lft {α : Type} (o : Option α) : M α := fun A => match o with
  | some a => some (.ok a, A)
  | none => none
def bad {α : Type} : M α := fun _ => none
def rais {α : Type} (c : Str) (fs : List (Str × PyData)) : M α := fun A => some (.er c fs, A)
@[simp] theorem ret_at {α : Type} (a : α) (A : Hs) : ret a A = some (.ok a, A) := rfl
@[simp] theorem bnd_ret {α β : Type} (a : α) (f : α → M β) : bnd (ret a) f = f a := rfl
@[simp] theorem lft_some {α : Type} (a : α) : lft (some a) = ret a := rfl
@[simp] theorem lft_none {α : Type} : lft (none : Option α) = bad := rfl
@[simp] theorem bnd_bad {α β : Type} (f : α → M β) : bnd bad f = bad := rfl
@[simp] theorem bnd_rais {α β : Type} (c : Str) (fs : List (Str × PyData)) (f : α → M β) : bnd (rais c fs) f = rais c fs := rfl
theorem bnd_ok {α β : Type} {x : M α} {f : α → M β} {A A' : Hs} {a : α} (h : x A = some (.ok a, A')) : bnd x f A = f a A' := by
  unfold bnd; rw [h]
theorem bnd_er {α β : Type} {x : M α} {f : α → M β} {A A' : Hs} {c : Str} {fs : List (Str × PyData)} (h : x A = some (.er c fs, A')) : bnd x f A = some (.er c fs, A') := by
  unfold bnd; rw [h]

inductive Tg where
  | nm (i : Nat)
  | tp (ts : List Tg)
mutual
inductive E where
  | k (p : PyData)
  | v (i : Nat)
  | gc (x : Str)
  | tup (es : List E)
  | lst (es : List E)
  | dic (ks : List Key) (vs : List E)
  | alc (e : E)
  | bin (op : Operator) (a b : E)
  | neg (a : E)
  | cmp (op : CmpOp) (a b : E)
  | chn (o1 o2 : CmpOp) (a b c : E)
  | and (es : List E)
  | or (es : List E)
  | not (e : E)
  | ife (c a b : E)
  | ix (a i : E)
  | sl (a : E) (lo hi : Option E)
  | call (f : Str) (es : List E)
  | bi (f : String) (es : List E)
  | kget (x : Str) (k z : E)
  | act (i : Nat)
  | lamc (f : Str) (e : E)
  | meth (m : String) (o : E) (es : List E)
  | fld (o : E) (f : Str)
  | isi (e : E) (ts : List (String ⊕ Str)) (t : Bool)
  | lc (elt : E) (t : Tg) (it : It) (c : List E) (own : List Nat)
inductive It where
  | seq (e : E)
  | rng (es : List E)
  | enm (e : E)
  | zip (a b : E)
  | rev (e : E)
  | rvr (e : E)
end
inductive S where
  | asg (i : Nat) (e : E) (al : Bool)
  | asgT (t : Tg) (e : E)
  | par (i j : Nat) (a b : E)
  | par3 (i j l : Nat) (a b c : E)
  | six (o i e : E)
  | aug (i : Nat) (op : Operator) (e : E)
  | exp (e : E)
  | ret (e : Option E)
  | iff (c : E) (a b : List S)
  | whl (c : E) (b : List S)
  | fr (t : Tg) (it : It) (b : List S)
  | rais (c : Str) (es : List E)
  | tryC (b : List S) (cs : List Str) (ie ix : Nat)
  | tryO (b : List S) (c : Str) (h : List S)
  | pas
  | brk
  | cnt
/-- what a block comes to -/
inductive Out where
  | nx
  | rt (r : R)
  | bk
  | ct
  | ex (c : Str) (fs : List (Str × PyData))

/-! ### what is read off values -/
def lstOf (A : Hs) : U → Option (List PyData)
  | .d (.list ps) => some ps
  | .obj n => (match A[n]? with
    | some (.lst ps) => some ps
    | _ => none)
  | _ => none
def seqOf (A : Hs) : U → Option (List PyData)
  | .d (.tuple ps) => some ps
  | u => lstOf A u
def keyP : Key → PyData
  | .inl i => .int i
  | .inr x => .str x
def asKey : PyData → Option Key
  | .int i => some (.inl i)
  | .str x => some (.inr x)
  | _ => none
def asKeys : List PyData → Option (List Key)
  | [] => some []
  | p :: ps => match asKey p, asKeys ps with
    | some k, some ks => some (k :: ks)
    | _, _ => none
def purs : List (Key × U) → Option (List (PyData × PyData))
  | [] => some []
  | (k, .d p) :: r => (purs r).map fun z => (keyP k, p) :: z
  | _ :: _ => none
def pursT : List (List Key × U) → Option (List (PyData × PyData))
  | [] => some []
  | (k, .d p) :: r => (pursT r).map fun z => (.tuple (k.map keyP), p) :: z
  | _ :: _ => none
/-- an object that nobody changes any more, as a value -/
def obVal : Ob → Option U
  | .lst ps => some (.d (.list ps))
  | .dK kvs => (purs kvs).map fun z => .d (.dict z)
  | .dT [] => none
  | .dT (kv :: kvs) => (pursT (kv :: kvs)).map fun z => .d (.dict z)
def toVal : R → Option U
  | .val u => some u
  | .new o => obVal o
end Mi
set_option Elab.async false
set_option linter.all false
set_option maxRecDepth 100000
/-! MiB: how values and objects stand in the heap; steps; what is asked of a run. -/
namespace Mi
open PySem L2

/-- the addresses that are ours: by number, and hidden ones -/
structure Ow where
  ix : List Addr
  hid : List Addr
instance : Membership Addr Ow := ⟨fun ρ a => a ∈ ρ.ix ∨ a ∈ ρ.hid⟩
theorem Ow.mem_iff {ρ : Ow} {a : Addr} : a ∈ ρ ↔ a ∈ ρ.ix ∨ a ∈ ρ.hid := Iff.rfl
def Ow.add (ρ : Ow) (p : Addr) : Ow := ⟨ρ.ix ++ [p], ρ.hid⟩
def Ow.hide (ρ : Ow) (p : Addr) : Ow := ⟨ρ.ix, p :: ρ.hid⟩
def Ow.show (ρ : Ow) (p : Addr) : Ow := ⟨ρ.ix, ρ.hid.filter fun a => decide (a ≠ p)⟩
theorem Ow.mem_add {ρ : Ow} {a p : Addr} : a ∈ ρ.add p ↔ a ∈ ρ ∨ a = p := by
  simp only [Ow.mem_iff, Ow.add, List.mem_append, List.mem_singleton]
  constructor
  · rintro ((h | h) | h)
    · exact .inl (.inl h)
    · exact .inr h
    · exact .inl (.inr h)
  · rintro ((h | h) | h)
    · exact .inl (.inl h)
    · exact .inr h
    · exact .inl (.inr h)
theorem Ow.mem_hide {ρ : Ow} {a p : Addr} : a ∈ ρ.hide p ↔ a ∈ ρ ∨ a = p := by
  simp only [Ow.mem_iff, Ow.hide, List.mem_cons]
  constructor
  · rintro (h | h | h)
    · exact .inl (.inl h)
    · exact .inr h
    · exact .inl (.inr h)
  · rintro ((h | h) | h)
    · exact .inl h
    · exact .inr (.inr h)
    · exact .inr (.inl h)
theorem Ow.mem_show {ρ : Ow} {a p : Addr} (h : a ∈ ρ.show p) : a ∈ ρ := by
  rcases h with h | h
  · exact .inl h
  · exact .inr ((List.mem_filter.mp h).1)
/-- a list that nobody changes any more -/
def LAt (ρ : Ow) (H : Hp) (a : Addr) (xs : List V) : Prop := Rd H a (.lst xs) ∧ a ∉ ρ
theorem LAt.sq {ρ : Ow} {K : PySem.W.Frag} {H : Hp} {a : Addr} {xs : List V} (h : LAt ρ H a xs) : SqL K H a xs := .inl h.1
mutual
inductive RepP (ρ : Ow) (K : PySem.W.Frag) (H : Hp) : PyData → V → Prop
  | non : RepP ρ K H .none .non
  | bl (b : Bool) : RepP ρ K H (.bool b) (.bl b)
  | int (i : Int) : RepP ρ K H (.int i) (.int i)
  | str (x : Str) : RepP ρ K H (.str x) (.str x)
  | tup {a : Addr} {xs : List V} {ps : List PyData} : SqT K H a xs → RepPs ρ K H ps xs → RepP ρ K H (.tuple ps) (.ref a)
  | lst {a : Addr} {xs : List V} {ps : List PyData} : LAt ρ H a xs → RepPs ρ K H ps xs → RepP ρ K H (.list ps) (.ref a)
  | dcK {a : Addr} {kvs : List (Key × V)} {kps : List (PyData × PyData)} : H a = some (.dK kvs) → a ∉ ρ → RepKs ρ K H kps kvs → RepP ρ K H (.dict kps) (.ref a)
  | dcT {a : Addr} {kvs : List (List Key × V)} {kps : List (PyData × PyData)} : H a = some (.dT kvs) → a ∉ ρ → kvs ≠ [] → RepTs ρ K H kps kvs → RepP ρ K H (.dict kps) (.ref a)
inductive RepPs (ρ : Ow) (K : PySem.W.Frag) (H : Hp) : List PyData → List V → Prop
  | nil : RepPs ρ K H [] []
  | cons {p : PyData} {ps : List PyData} {v : V} {vs : List V} : RepP ρ K H p v → RepPs ρ K H ps vs → RepPs ρ K H (p :: ps) (v :: vs)
inductive RepKs (ρ : Ow) (K : PySem.W.Frag) (H : Hp) : List (PyData × PyData) → List (Key × V) → Prop
  | nil : RepKs ρ K H [] []
  | cons {k : Key} {p : PyData} {v : V} {r : List (PyData × PyData)} {r' : List (Key × V)} : RepP ρ K H p v → RepKs ρ K H r r' → RepKs ρ K H ((keyP k, p) :: r) ((k, v) :: r')
inductive RepTs (ρ : Ow) (K : PySem.W.Frag) (H : Hp) : List (PyData × PyData) → List (List Key × V) → Prop
  | nil : RepTs ρ K H [] []
  | cons {k : List Key} {p : PyData} {v : V} {r : List (PyData × PyData)} {r' : List (List Key × V)} : RepP ρ K H p v → RepTs ρ K H r r' → RepTs ρ K H ((.tuple (k.map keyP), p) :: r) ((k, v) :: r')
end

/-- nothing, or a table -/
def Fre (H : Hp) (a : Addr) : Prop := ∀ o, H a = some o → ∃ ps, o = .tbl ps
theorem Fre.of {H : Hp} {a : Addr} (h : H a = none) : Fre H a := fun o e => by rw [h] at e; cases e
theorem Fre.no {H : Hp} {a : Addr} {o : HO} (h : Fre H a) (e : H a = some o) (n : ∀ ps, o ≠ .tbl ps) : False := by
  obtain ⟨ps, z⟩ := h o e
  exact n ps z
/-- what is known stays known -/
structure Mv0 (ρ ρ' : Ow) (H H' : Hp) : Prop where
  keep : ∀ a o, H a = some o → a ∉ ρ → (∀ ps, o ≠ .tbl ps) → H' a = some o ∧ a ∉ ρ'
  tups : ∀ a xs, H a = some (.tup xs) → H' a = some (.tup xs)
  frzs : ∀ a o u, H a = some (.frz o u) → H' a = some (.frz o u)
structure Mv (ρ ρ' : Ow) (H H' : Hp) : Prop extends Mv0 ρ ρ' H H' where
  pre : ∃ more, ρ'.ix = ρ.ix ++ more
structure Step (ρ ρ' : Ow) (H H' : Hp) : Prop extends Mv ρ ρ' H H' where
  free : ∀ a, Fre H' a → Fre H a
  hid : ∀ a ∈ ρ.hid, a ∈ ρ'.hid ∧ H' a = H a
/-- the module's names, the tables of code objects, the lambda that is held, what stays true beside -/
structure Mg where
  g : Str → Option Value
  T : List (Addr × Str)
  act : Option Addr
  inv : Ow → Hp → Prop
  mono : ∀ {ρ ρ' : Ow} {H H' : Hp}, Step ρ ρ' H H' → inv ρ H → inv ρ' H'
instance : CoeFun Mg (fun _ => Str → Option Value) := ⟨Mg.g⟩
def nl : U → Bool
  | .lam => false
  | _ => true
/-- an exception that is held -/
def ExcO (cls : Value) (d : Option Addr) (a : Addr) : HO := .ext fun h => ∃ (oe : Obj) (vs : Array Value), h.get? a = some oe ∧ Zc cls d oe ∧ oe.data = .fields vs
inductive RepF (ρ : Ow) (K : PySem.W.Frag) (H : Hp) : List (Str × PyData) → List (Str × V) → Prop
  | nil : RepF ρ K H [] []
  | cons {f : Str} {p : PyData} {v : V} {r : List (Str × PyData)} {r' : List (Str × V)} : RepP ρ K H p v → RepF ρ K H r r' → RepF ρ K H ((f, p) :: r) ((f, v) :: r')
/-- the fields of an exception, in its own dict -/
def XAt (ρ : Ow) (K : PySem.W.Frag) (H : Hp) (fs : List (Str × PyData)) (d : Option Addr) : Prop :=
  (fs = [] ∧ d = none) ∨ ∃ (dd : Addr) (gs : List (Str × V)), d = some dd ∧ dd ∉ ρ ∧ H dd = some (.xd gs) ∧ RepF ρ K H fs gs
inductive RepU (ρ : Ow) (K : PySem.W.Frag) (mg : Mg) (H : Hp) : U → V → Prop
  | d {p : PyData} {v : V} : RepP ρ K H p v → RepU ρ K mg H (.d p) v
  | obj {n : Nat} {a : Addr} : ρ.ix[n]? = some a → RepU ρ K mg H (.obj n) (.ref a)
  | ty (n : String) : RepU ρ K mg H (.ty n) (.ty n)
  | glo {x : Str} {a : Addr} : mg x = some (.ref a) → RepU ρ K mg H (.glo x) (.ref a)
  | exc {c : Str} {fs : List (Str × PyData)} {C a : Addr} {d : Option Addr} : mg c = some (.ref C) → a ∉ ρ → H a = some (ExcO (.ref C) d a) → XAt ρ K H fs d → RepU ρ K mg H (.exc c fs) (.ref a)
  | lam {f : Addr} : mg.act = some f → RepU ρ K mg H .lam (.ref f)
inductive RepUs (ρ : Ow) (K : PySem.W.Frag) (mg : Mg) (H : Hp) : List U → List V → Prop
  | nil : RepUs ρ K mg H [] []
  | cons {u : U} {us : List U} {v : V} {vs : List V} : RepU ρ K mg H u v → RepUs ρ K mg H us vs → RepUs ρ K mg H (u :: us) (v :: vs)
inductive RepA {κ : Type} (ρ : Ow) (K : PySem.W.Frag) (mg : Mg) (H : Hp) : List (κ × U) → List (κ × V) → Prop
  | nil : RepA ρ K mg H [] []
  | cons {k : κ} {u : U} {v : V} {r : List (κ × U)} {r' : List (κ × V)} : RepU ρ K mg H u v → RepA ρ K mg H r r' → nl u = true → RepA ρ K mg H ((k, u) :: r) ((k, v) :: r')
inductive RepO (ρ : Ow) (K : PySem.W.Frag) (mg : Mg) (H : Hp) : Ob → HO → Prop
  | lst {ps : List PyData} {xs : List V} : RepPs ρ K H ps xs → RepO ρ K mg H (.lst ps) (.lst xs)
  | dK {kvs : List (Key × U)} {kws : List (Key × V)} : RepA ρ K mg H kvs kws → RepO ρ K mg H (.dK kvs) (.dK kws)
  | dT {kvs : List (List Key × U)} {kws : List (List Key × V)} : RepA ρ K mg H kvs kws → RepO ρ K mg H (.dT kvs) (.dT kws)
structure RepH (ρ : Ow) (K : PySem.W.Frag) (mg : Mg) (H : Hp) (A : Hs) : Prop where
  len : ρ.ix.length = A.length
  nd : (ρ.ix ++ ρ.hid).Nodup
  at_ : ∀ (n : Nat) (o : Ob) (a : Addr), A[n]? = some o → ρ.ix[n]? = some a → ∃ ho, H a = some ho ∧ RepO ρ K mg H o ho
  tabs : LamX.Tabs mg.T H
  inv : mg.inv ρ H
  hid : ∀ a ∈ ρ.hid, ¬ Fre H a ∧ ∀ φ, H a ≠ some (.ext φ)
structure RepE (ρ : Ow) (K : PySem.W.Frag) (mg : Mg) (H : Hp) (δ : Fr) (σ : L2.St) : Prop where
  len : δ.length = σ.length
  at_ : ∀ (i : Nat) (u : U), δ[i]? = some (some u) → ∃ v, σ[i]? = some (some v) ∧ RepU ρ K mg H u v

section
variable {ρ ρ1 ρ' : Ow} {K : PySem.W.Frag} {mg : Mg} {H H1 H' : Hp}
theorem Step.refl : Step ρ ρ H H := ⟨⟨⟨fun _ _ h n _ => ⟨h, n⟩, fun _ _ h => h, fun _ _ _ h => h⟩, ⟨[], by simp⟩⟩, fun _ h => h, fun _ h => ⟨h, rfl⟩⟩
theorem Mv.trans (s : Mv ρ ρ1 H H1) (t : Mv ρ1 ρ' H1 H') : Mv ρ ρ' H H' := by
  obtain ⟨m, e⟩ := s.pre
  obtain ⟨m', e'⟩ := t.pre
  refine ⟨⟨fun a o h n nt => ?_, fun a xs h => t.tups a xs (s.tups a xs h), fun a o u h => t.frzs a o u (s.frzs a o u h)⟩, ⟨m ++ m', by rw [e', e, List.append_assoc]⟩⟩
  obtain ⟨h1, h2⟩ := s.keep a o h n nt
  exact t.keep a o h1 h2 nt
theorem Step.trans (s : Step ρ ρ1 H H1) (t : Step ρ1 ρ' H1 H') : Step ρ ρ' H H' := by
  refine ⟨s.toMv.trans t.toMv, fun a h => s.free a (t.free a h), fun a h => ?_⟩
  obtain ⟨h1, e1⟩ := s.hid a h
  obtain ⟨h2, e2⟩ := t.hid a h1
  exact ⟨h2, e2.trans e1⟩
theorem fre_upd {p : Addr} {o : HO} (h : H p = none) (a : Addr) (z : Fre (upd H p o) a) : Fre H a := by
  by_cases e : a = p
  · rw [e]; exact Fre.of h
  · intro u hu
    exact z u (by rw [upd_ne e]; exact hu)
theorem Mv.new {p : Addr} {o : HO} (h : H p = none) (hρ : ∀ a, a ≠ p → a ∉ ρ → a ∉ ρ') (hp : ∃ more, ρ'.ix = ρ.ix ++ more) : Mv ρ ρ' H (upd H p o) :=
  ⟨⟨fun a u e n _ => ⟨by rw [upd_ne (ne_of_none e h)]; exact e, hρ a (ne_of_none e h) n⟩, fun a u e => by rw [upd_ne (ne_of_none e h)]; exact e, fun a u v e => by rw [upd_ne (ne_of_none e h)]; exact e⟩, hp⟩
/-- a new object that nobody else knows -/
theorem Step.new {p : Addr} {o : HO} (h : H p = none) (hd : p ∉ ρ.hid) : Step ρ ρ H (upd H p o) :=
  ⟨Mv.new h (fun _ _ n => n) ⟨[], by simp⟩, fre_upd h, fun a ha => ⟨ha, upd_ne (fun z => hd (z ▸ ha))⟩⟩
/-- .. and is ours from now on -/
theorem Step.own {p : Addr} (h : H p = none) (hd : p ∉ ρ.hid) {o : HO} : Step ρ (ρ.add p) H (upd H p o) :=
  ⟨Mv.new h (fun a ne n z => (Ow.mem_add.mp z).elim n ne) ⟨[p], rfl⟩, fre_upd h, fun a ha => ⟨ha, upd_ne (fun z => hd (z ▸ ha))⟩⟩
/-- .. and is hidden -/
theorem Step.hide {p : Addr} (h : H p = none) (hd : p ∉ ρ.hid) {o : HO} : Step ρ (ρ.hide p) H (upd H p o) :=
  ⟨Mv.new h (fun a ne n z => (Ow.mem_hide.mp z).elim n ne) ⟨[], by simp [Ow.hide]⟩, fre_upd h, fun a ha => ⟨List.mem_cons_of_mem _ ha, upd_ne (fun z => hd (z ▸ ha))⟩⟩
/-- one of ours is changed -/
theorem Step.wr {a : Addr} {o u : HO} (ha : a ∈ ρ.ix) (hd : a ∉ ρ.hid) (h : H a = some o) (h1 : ∀ xs, o ≠ .tup xs) (h2 : ∀ z x, o ≠ .frz z x) (h3 : ∀ ps, u ≠ .tbl ps) : Step ρ ρ H (upd H a u) := by
  refine ⟨⟨⟨fun b w e n _ => ⟨?_, n⟩, fun b xs e => ?_, fun b z x e => ?_⟩, ⟨[], by simp⟩⟩, fun b w o' e => ?_, fun b hb => ⟨hb, upd_ne (fun z => hd (z ▸ hb))⟩⟩
  · rw [upd_ne (fun z => n (by rw [z]; exact .inl ha))]; exact e
  · rw [upd_ne (fun z => by rw [z, h] at e; exact h1 xs (Option.some.inj e))]; exact e
  · rw [upd_ne (fun q => by rw [q, h] at e; exact h2 z x (Option.some.inj e))]; exact e
  · by_cases z : b = a
    · exact (w.no (o := u) (by rw [z, upd_same]) h3).elim
    · exact w o' (by rw [upd_ne z]; exact e)
/-- the heap without p -/
def cutH (H : Hp) (p : Addr) : Hp := fun b => if b = p then none else H b
theorem cutH_ne {p a : Addr} (h : a ≠ p) : cutH H p a = H a := if_neg h
theorem cutH_same {p : Addr} : cutH H p p = none := if_pos rfl
theorem upd_cutH {p : Addr} {o : HO} : upd (cutH H p) p o = upd H p o := by
  funext b
  by_cases h : b = p
  · rw [h, upd_same, upd_same]
  · rw [upd_ne h, upd_ne h, cutH_ne h]
/-- what was hidden is put away -/
theorem Mv.show {p : Addr} {o : HO} (h : H p = some o) (hp : p ∈ ρ) (h1 : ∀ xs, o ≠ .tup xs) (h2 : ∀ z x, o ≠ .frz z x) : Mv ρ (ρ.show p) H (cutH H p) := by
  have ne : ∀ a u, H a = some u → u ≠ o → a ≠ p := fun a u e q z => by
    rw [z, h] at e
    exact q (Option.some.inj e).symm
  refine ⟨⟨fun a u e n _ => ⟨?_, fun z => n (Ow.mem_show z)⟩, fun a xs e => ?_, fun a z x e => ?_⟩, ⟨[], by simp [Ow.show]⟩⟩
  · rw [cutH_ne (fun z => n (by rw [z]; exact hp))]; exact e
  · rw [cutH_ne (ne a _ e (fun z => h1 xs z.symm))]; exact e
  · rw [cutH_ne (ne a _ e (fun q => h2 z x q.symm))]; exact e
theorem Step.unhide {p : Addr} {o o2 : HO} (hn : H p = none) (hd : p ∉ ρ.hid) (s : Step (ρ.hide p) ρ' (upd H p o) H') (h : H' p = some o2) (h1 : ∀ xs, o2 ≠ .tup xs) (h2 : ∀ z x, o2 ≠ .frz z x) : Step ρ (ρ'.show p) H (cutH H' p) := by
  have hp : p ∈ ρ'.hid := (s.hid p List.mem_cons_self).1
  refine ⟨((Step.hide hn hd (o := o)).toMv.trans s.toMv).trans (Mv.show h (.inr hp) h1 h2), fun a w => ?_, fun a ha => ?_⟩
  · by_cases z : a = p
    · rw [z]; exact Fre.of hn
    · exact fre_upd hn a (s.free a (fun u hu => w u (by rw [cutH_ne z]; exact hu)))
  · have z : a ≠ p := fun z => hd (z ▸ ha)
    obtain ⟨g1, g2⟩ := s.hid a (List.mem_cons_of_mem _ ha)
    exact ⟨List.mem_filter.mpr ⟨g1, by simpa using z⟩, by rw [cutH_ne z, g2, upd_ne z]⟩
theorem Mv0.sqT (s : Mv0 ρ ρ' H H') {a : Addr} {xs : List V} (h : SqT K H a xs) : SqT K H' a xs := by
  rcases h with (h | ⟨o, h⟩) | h
  · exact .inl (.inl (s.tups a xs h))
  · exact .inl (.inr ⟨o, s.frzs a o _ h⟩)
  · exact .inr h
theorem Mv0.lAt (s : Mv0 ρ ρ' H H') {a : Addr} {xs : List V} (h : LAt ρ H a xs) : LAt ρ' H' a xs := by
  rcases h with ⟨h | ⟨o, h⟩, n⟩
  · exact ⟨.inl (s.keep a _ h n (fun _ z => by cases z)).1, (s.keep a _ h n (fun _ z => by cases z)).2⟩
  · exact ⟨.inr ⟨o, s.frzs a o _ h⟩, (s.keep a _ h n (fun _ z => by cases z)).2⟩
mutual
theorem RepP.mv (s : Mv0 ρ ρ' H H') : ∀ {p : PyData} {v : V}, RepP ρ K H p v → RepP ρ' K H' p v
  | _, _, .non => .non
  | _, _, .bl b => .bl b
  | _, _, .int i => .int i
  | _, _, .str x => .str x
  | _, _, .tup h r => .tup (s.sqT h) (RepPs.mv s r)
  | _, _, .lst h r => .lst (s.lAt h) (RepPs.mv s r)
  | _, _, .dcK h n r => .dcK (s.keep _ _ h n (fun _ z => by cases z)).1 (s.keep _ _ h n (fun _ z => by cases z)).2 (RepKs.mv s r)
  | _, _, .dcT h n z r => .dcT (s.keep _ _ h n (fun _ z => by cases z)).1 (s.keep _ _ h n (fun _ z => by cases z)).2 z (RepTs.mv s r)
theorem RepPs.mv (s : Mv0 ρ ρ' H H') : ∀ {p : List PyData} {v : List V}, RepPs ρ K H p v → RepPs ρ' K H' p v
  | _, _, .nil => .nil
  | _, _, .cons h r => .cons (RepP.mv s h) (RepPs.mv s r)
theorem RepKs.mv (s : Mv0 ρ ρ' H H') : ∀ {p : List (PyData × PyData)} {v : List (Key × V)}, RepKs ρ K H p v → RepKs ρ' K H' p v
  | _, _, .nil => .nil
  | _, _, .cons h r => .cons (RepP.mv s h) (RepKs.mv s r)
theorem RepTs.mv (s : Mv0 ρ ρ' H H') : ∀ {p : List (PyData × PyData)} {v : List (List Key × V)}, RepTs ρ K H p v → RepTs ρ' K H' p v
  | _, _, .nil => .nil
  | _, _, .cons h r => .cons (RepP.mv s h) (RepTs.mv s r)
end
theorem RepF.mv (s : Mv0 ρ ρ' H H') : ∀ {p : List (Str × PyData)} {v : List (Str × V)}, RepF ρ K H p v → RepF ρ' K H' p v
  | _, _, .nil => .nil
  | _, _, .cons h r => .cons (h.mv s) (RepF.mv s r)
theorem XAt.mv (s : Mv0 ρ ρ' H H') {fs : List (Str × PyData)} {d : Option Addr} (h : XAt ρ K H fs d) : XAt ρ' K H' fs d := by
  rcases h with h | ⟨dd, gs, e, n, h, r⟩
  · exact .inl h
  · exact .inr ⟨dd, gs, e, (s.keep _ _ h n (fun _ z => by cases z)).2, (s.keep _ _ h n (fun _ z => by cases z)).1, r.mv s⟩
theorem RepU.mv (s : Mv ρ ρ' H H') {u : U} {v : V} (h : RepU ρ K mg H u v) : RepU ρ' K mg H' u v := by
  cases h with
  | d h => exact .d (h.mv s.toMv0)
  | obj h =>
    obtain ⟨m, e⟩ := s.pre
    exact .obj (by rw [e, List.getElem?_append_left (List.getElem?_eq_some_iff.mp h).1]; exact h)
  | ty n => exact .ty n
  | glo h => exact .glo h
  | exc h1 n h2 h3 => exact .exc h1 (s.keep _ _ h2 n (fun _ z => by unfold ExcO at z; cases z)).2 (s.keep _ _ h2 n (fun _ z => by unfold ExcO at z; cases z)).1 (h3.mv s.toMv0)
  | lam h => exact .lam h
theorem RepUs.mv (s : Mv ρ ρ' H H') : ∀ {u : List U} {v : List V}, RepUs ρ K mg H u v → RepUs ρ' K mg H' u v
  | _, _, .nil => .nil
  | _, _, .cons h r => .cons (h.mv s) (RepUs.mv s r)
theorem RepA.mv {κ : Type} (s : Mv ρ ρ' H H') : ∀ {u : List (κ × U)} {v : List (κ × V)}, RepA ρ K mg H u v → RepA ρ' K mg H' u v
  | _, _, .nil => .nil
  | _, _, .cons h r n => .cons (h.mv s) (RepA.mv s r) n
theorem RepO.mv (s : Mv ρ ρ' H H') {o : Ob} {h : HO} (r : RepO ρ K mg H o h) : RepO ρ' K mg H' o h := by
  cases r with
  | lst r => exact .lst (r.mv s.toMv0)
  | dK r => exact .dK (r.mv s)
  | dT r => exact .dT (r.mv s)
theorem RepE.mv (s : Mv ρ ρ' H H') {δ : Fr} {σ : L2.St} (h : RepE ρ K mg H δ σ) : RepE ρ' K mg H' δ σ :=
  ⟨h.len, fun i u e => by
    obtain ⟨v, e1, r⟩ := h.at_ i u e
    exact ⟨v, e1, r.mv s⟩⟩
theorem RepPs.length {ps : List PyData} {xs : List V} (h : RepPs ρ K H ps xs) : ps.length = xs.length := by
  induction ps generalizing xs with
  | nil => cases h; rfl
  | cons p ps ih => cases h with | cons a b => simp [ih b]
theorem RepPs.get {ps : List PyData} {xs : List V} (h : RepPs ρ K H ps xs) {i : Nat} {p : PyData} (e : ps[i]? = some p) : ∃ v, xs[i]? = some v ∧ RepP ρ K H p v := by
  induction ps generalizing xs i with
  | nil => simp at e
  | cons q ps ih =>
    cases h with
    | cons a b =>
      cases i with
      | zero =>
        simp at e; subst e
        exact ⟨_, rfl, a⟩
      | succ i =>
        obtain ⟨v, e1, r⟩ := ih b (i := i) (by simpa using e)
        exact ⟨v, by simpa using e1, r⟩
theorem RepPs.append {ps qs : List PyData} {xs ys : List V} (h : RepPs ρ K H ps xs) (g : RepPs ρ K H qs ys) : RepPs ρ K H (ps ++ qs) (xs ++ ys) := by
  induction ps generalizing xs with
  | nil => cases h; exact g
  | cons p ps ih => cases h with | cons a b => exact .cons a (ih b)
theorem RepPs.drop {ps : List PyData} {xs : List V} (h : RepPs ρ K H ps xs) (n : Nat) : RepPs ρ K H (ps.drop n) (xs.drop n) := by
  induction n generalizing ps xs with
  | zero => exact h
  | succ n ih =>
    cases h with
    | nil => exact .nil
    | cons a b => exact ih b
theorem RepPs.take {ps : List PyData} {xs : List V} (h : RepPs ρ K H ps xs) (n : Nat) : RepPs ρ K H (ps.take n) (xs.take n) := by
  induction n generalizing ps xs with
  | zero => exact .nil
  | succ n ih =>
    cases h with
    | nil => exact .nil
    | cons a b => exact .cons a (ih b)
theorem Step.sqT (s : Step ρ ρ' H H') {a : Addr} {xs : List V} (h : SqT K H a xs) : SqT K H' a xs := s.toMv0.sqT h
theorem Step.lAt (s : Step ρ ρ' H H') {a : Addr} {xs : List V} (h : LAt ρ H a xs) : LAt ρ' H' a xs := s.toMv0.lAt h
theorem RepP.mono (s : Step ρ ρ' H H') {p : PyData} {v : V} (h : RepP ρ K H p v) : RepP ρ' K H' p v := h.mv s.toMv0
theorem RepPs.mono (s : Step ρ ρ' H H') {p : List PyData} {v : List V} (h : RepPs ρ K H p v) : RepPs ρ' K H' p v := h.mv s.toMv0
theorem XAt.mono (s : Step ρ ρ' H H') {fs : List (Str × PyData)} {d : Option Addr} (h : XAt ρ K H fs d) : XAt ρ' K H' fs d := h.mv s.toMv0
theorem RepU.mono (s : Step ρ ρ' H H') {u : U} {v : V} (h : RepU ρ K mg H u v) : RepU ρ' K mg H' u v := h.mv s.toMv
theorem RepUs.mono (s : Step ρ ρ' H H') {u : List U} {v : List V} (h : RepUs ρ K mg H u v) : RepUs ρ' K mg H' u v := h.mv s.toMv
theorem RepA.mono {κ : Type} (s : Step ρ ρ' H H') {u : List (κ × U)} {v : List (κ × V)} (h : RepA ρ K mg H u v) : RepA ρ' K mg H' u v := h.mv s.toMv
theorem RepO.mono (s : Step ρ ρ' H H') {o : Ob} {h : HO} (r : RepO ρ K mg H o h) : RepO ρ' K mg H' o h := r.mv s.toMv
theorem RepE.mono (s : Step ρ ρ' H H') {δ : Fr} {σ : L2.St} (h : RepE ρ K mg H δ σ) : RepE ρ' K mg H' δ σ := h.mv s.toMv
theorem RepO.notbl {o : Ob} {h : HO} (r : RepO ρ K mg H o h) : (∀ ps, h ≠ .tbl ps) ∧ (∀ φ, h ≠ .ext φ) ∧ (∀ xs, h ≠ .tup xs) ∧ ∀ z x, h ≠ .frz z x := by
  cases r <;> exact ⟨(fun _ z => by cases z), (fun _ z => by cases z), (fun _ z => by cases z), (fun _ _ z => by cases z)⟩
theorem tabs_upd {T : List (Addr × Str)} {a : Addr} {ho o : HO} (h : LamX.Tabs T H) (ha : H a = some ho) (n1 : ∀ ps, ho ≠ .tbl ps) (n2 : ∀ φ, ho ≠ .ext φ) : LamX.Tabs T (upd H a o) := fun p hp => by
  obtain ⟨ps, h1, h2, h3⟩ := h p hp
  have ne : ∀ b u, H b = some u → (∀ z, u = z → ho ≠ z) → b ≠ a := fun b u e q z => by
    rw [z, ha] at e
    exact q _ rfl (Option.some.inj e)
  refine ⟨ps, by rw [upd_ne (ne _ _ h1 (fun z e => by rw [← e]; exact n1 ps))]; exact h1, h2, fun pos cv hc => ?_⟩
  obtain ⟨c, e1, e2⟩ := h3 pos cv hc
  exact ⟨c, e1, by rw [upd_ne (ne _ _ e2 (fun z e => by rw [← e]; unfold LamX.CodeO; exact n2 _))]; exact e2⟩
theorem RepH.ob {A : Hs} (h : RepH ρ K mg H A) {n : Nat} {a : Addr} (e : ρ.ix[n]? = some a) : ∃ o ho, A[n]? = some o ∧ H a = some ho ∧ RepO ρ K mg H o ho := by
  have hl : n < A.length := by rw [← h.len]; exact (List.getElem?_eq_some_iff.mp e).1
  obtain ⟨ho, q, r⟩ := h.at_ n A[n] a (by simp [hl]) e
  exact ⟨A[n], ho, by simp [hl], q, r⟩
theorem RepH.hids {A : Hs} {ρ2 : Ow} {H2 : Hp} (h : RepH ρ K mg H A) (s : Step ρ ρ2 H H2) (k : ∀ a ∈ ρ2.hid, a ∈ ρ.hid) : ∀ a ∈ ρ2.hid, ¬ Fre H2 a ∧ ∀ φ, H2 a ≠ some (.ext φ) := fun a ha => by
  obtain ⟨w1, w2⟩ := h.hid a (k a ha)
  exact ⟨fun z => w1 (s.free a z), fun φ z => w2 φ (by rw [← (s.hid a (k a ha)).2]; exact z)⟩
theorem RepH.ixhid {A : Hs} (h : RepH ρ K mg H A) {a : Addr} (e : a ∈ ρ.ix) : a ∉ ρ.hid := fun z => (List.nodup_append.mp h.nd).2.2 a e a z rfl
theorem RepH.nhid {A : Hs} (h : RepH ρ K mg H A) {p : Addr} (hp : H p = none) : p ∉ ρ.hid := fun z => (h.hid p z).1 (Fre.of hp)
/-- an object of ours is changed: the others stand -/
theorem RepH.set {A : Hs} (h : RepH ρ K mg H A) {n : Nat} {a : Addr} {o : Ob} {ho : HO} (e : ρ.ix[n]? = some a) (r : RepO ρ K mg H o ho) :
    RepH ρ K mg (upd H a ho) (A.set n o) ∧ Step ρ ρ H (upd H a ho) := by
  obtain ⟨_, old, _, hold, ro⟩ := h.ob e
  obtain ⟨t1, t2, t3, t4⟩ := ro.notbl
  have s : Step ρ ρ H (upd H a ho) := Step.wr (List.mem_of_getElem? e) (h.ixhid (List.mem_of_getElem? e)) hold t3 t4 r.notbl.1
  refine ⟨⟨by rw [List.length_set]; exact h.len, h.nd, fun m o' b e1 e2 => ?_, tabs_upd h.tabs hold t1 t2, mg.mono s h.inv, h.hids s fun _ h => h⟩, s⟩
  by_cases hm : n = m
  · subst hm
    rw [e] at e2; cases e2
    have hl : n < A.length := by rw [← h.len]; exact (List.getElem?_eq_some_iff.mp e).1
    rw [List.getElem?_set_self hl] at e1; cases e1
    exact ⟨ho, upd_same, r.mono s⟩
  · rw [List.getElem?_set_ne hm] at e1
    obtain ⟨ho', q, r'⟩ := h.at_ m o' b e1 e2
    have hb : b ≠ a := fun z => by
      subst z
      obtain ⟨l1, g1⟩ := List.getElem?_eq_some_iff.mp e
      obtain ⟨l2, g2⟩ := List.getElem?_eq_some_iff.mp e2
      exact hm ((List.getElem_inj (List.nodup_append.mp h.nd).1).mp (g1.trans g2.symm))
    exact ⟨ho', by rw [upd_ne hb]; exact q, r'.mono s⟩
theorem RepH.notin {A : Hs} (h : RepH ρ K mg H A) {p : Addr} (hp : Fre H p) : p ∉ ρ := fun z => by
  rcases z with z | z
  · obtain ⟨n, hn, e⟩ := List.mem_iff_getElem.mp z
    obtain ⟨_, ho, _, q, r⟩ := h.ob (n := n) (a := p) (by rw [List.getElem?_eq_getElem hn, e])
    exact hp.no q r.notbl.1
  · exact (h.hid p z).1 hp
/-- a new object of ours -/
theorem RepH.own {A : Hs} (h : RepH ρ K mg H A) {p : Addr} {o : Ob} {ho : HO} (hp : H p = none) (r : RepO ρ K mg H o ho) : RepH (ρ.add p) K mg (upd H p ho) (A ++ [o]) ∧ Step ρ (ρ.add p) H (upd H p ho) := by
  have s : Step ρ (ρ.add p) H (upd H p ho) := Step.own hp (h.nhid hp)
  have np : p ∉ ρ := h.notin (Fre.of hp)
  refine ⟨⟨by simp [Ow.add, h.len], ?_, fun m o' b e1 e2 => ?_, h.tabs.ext fun b u e => by rw [upd_ne (ne_of_none e hp)]; exact e, mg.mono s h.inv, h.hids s fun _ h => h⟩, s⟩
  · obtain ⟨n1, n2, n3⟩ := List.nodup_append.mp h.nd
    show ((ρ.ix ++ [p]) ++ ρ.hid).Nodup
    rw [List.append_assoc, List.nodup_append]
    refine ⟨n1, List.nodup_append.mpr ⟨by simp, n2, fun x hx y hy z => ?_⟩, fun x hx y hy z => ?_⟩
    · rw [List.mem_singleton.mp hx] at z
      exact np (.inr (z ▸ hy))
    · rcases List.mem_append.mp hy with q | q
      · rw [List.mem_singleton.mp q] at z
        exact np (.inl (z ▸ hx))
      · exact n3 x hx y q z
  · have e2 : (ρ.ix ++ [p])[m]? = some b := e2
    by_cases hm : m < A.length
    · rw [List.getElem?_append_left hm] at e1
      rw [List.getElem?_append_left (by rw [h.len]; exact hm)] at e2
      obtain ⟨ho', q, r'⟩ := h.at_ m o' b e1 e2
      exact ⟨ho', by rw [upd_ne (ne_of_none q hp)]; exact q, r'.mono s⟩
    · have hm' : m = A.length := by
        have := (List.getElem?_eq_some_iff.mp e1).1
        simp at this; omega
      subst hm'
      simp at e1; subst e1
      rw [← h.len] at e2
      simp at e2; subst e2
      exact ⟨ho, upd_same, r.mono s⟩
theorem RepH.mono {A : Hs} (h : RepH ρ K mg H A) (s : Step ρ ρ H H') (hk : ∀ a o, H a = some o → H' a = some o) : RepH ρ K mg H' A :=
  ⟨h.len, h.nd, fun n o a e1 e2 => by
    obtain ⟨ho, q, r⟩ := h.at_ n o a e1 e2
    exact ⟨ho, hk _ _ q, r.mono s⟩, h.tabs.ext hk, mg.mono s h.inv, h.hids s fun _ h => h⟩
/-- a new object beside ours -/
theorem RepH.new {A : Hs} (h : RepH ρ K mg H A) {p : Addr} {o : HO} (hp : H p = none) : RepH ρ K mg (upd H p o) A :=
  h.mono (Step.new hp (h.nhid hp)) fun a u e => by rw [upd_ne (ne_of_none e hp)]; exact e
theorem RepH.stp {A : Hs} (h : RepH ρ K mg H A) {p : Addr} {o : HO} (hp : H p = none) : Step ρ ρ H (upd H p o) := Step.new hp (h.nhid hp)
/-- a new object that is hidden -/
theorem RepH.hide {A : Hs} (h : RepH ρ K mg H A) {p : Addr} {o : HO} (hp : H p = none) (no : ∀ ps, o ≠ .tbl ps) (nx : ∀ φ, o ≠ .ext φ) : RepH (ρ.hide p) K mg (upd H p o) A ∧ Step ρ (ρ.hide p) H (upd H p o) := by
  have s : Step ρ (ρ.hide p) H (upd H p o) := Step.hide hp (h.nhid hp)
  have np : p ∉ ρ := h.notin (Fre.of hp)
  refine ⟨⟨h.len, ?_, fun n o' a e1 e2 => ?_, h.tabs.ext fun b u e => by rw [upd_ne (ne_of_none e hp)]; exact e, mg.mono s h.inv, fun b hb => ?_⟩, s⟩
  · obtain ⟨n1, n2, n3⟩ := List.nodup_append.mp h.nd
    show (ρ.ix ++ p :: ρ.hid).Nodup
    refine List.nodup_append.mpr ⟨n1, List.nodup_cons.mpr ⟨fun z => np (.inr z), n2⟩, fun x hx y hy z => ?_⟩
    rcases List.mem_cons.mp hy with q | q
    · rw [q] at z
      exact np (.inl (z ▸ hx))
    · exact n3 x hx y q z
  · obtain ⟨ho, q, r⟩ := h.at_ n o' a e1 e2
    exact ⟨ho, by rw [upd_ne (ne_of_none q hp)]; exact q, r.mono s⟩
  · rcases List.mem_cons.mp hb with q | q
    · rw [q]
      exact ⟨fun z => z.no upd_same no, fun φ z => nx φ (Option.some.inj (upd_same.symm.trans z))⟩
    · obtain ⟨w1, w2⟩ := h.hid b q
      exact ⟨fun z => w1 (s.free b z), fun φ z => w2 φ (by rw [← (s.hid b q).2]; exact z)⟩
/-- .. and it is put away again -/
theorem RepH.show {A A0 : Hs} {p : Addr} {o o2 : HO} (h0 : RepH ρ K mg H A0) (hp : H p = none) (s : Step (ρ.hide p) ρ' (upd H p o) H') (h : RepH ρ' K mg H' A) (h2 : H' p = some o2) (n1 : ∀ xs, o2 ≠ .tup xs) (n2 : ∀ z x, o2 ≠ .frz z x) (n3 : ∀ ps, o2 ≠ .tbl ps) (n4 : ∀ φ, o2 ≠ .ext φ) :
    RepH (ρ'.show p) K mg (cutH H' p) A ∧ Step ρ (ρ'.show p) H (cutH H' p) ∧ Mv ρ' (ρ'.show p) H' (cutH H' p) := by
  have st := Step.unhide hp (h0.nhid hp) s h2 n1 n2
  have hm : p ∈ ρ'.hid := (s.hid p List.mem_cons_self).1
  have mv : Mv ρ' (ρ'.show p) H' (cutH H' p) := Mv.show h2 (.inr hm) n1 n2
  have nix : p ∉ ρ'.ix := fun z => h.ixhid z hm
  refine ⟨⟨h.len, ?_, fun n o' a e1 e2 => ?_, fun q hq => ?_, mg.mono st h0.inv, fun b hb => ?_⟩, st, mv⟩
  · obtain ⟨n1, n2, n3⟩ := List.nodup_append.mp h.nd
    exact List.nodup_append.mpr ⟨n1, n2.filter _, fun x hx y hy => n3 x hx y (List.mem_filter.mp hy).1⟩
  · obtain ⟨ho, q, r⟩ := h.at_ n o' a e1 e2
    have ne : a ≠ p := fun z => nix (by rw [← z]; exact List.mem_of_getElem? (show ρ'.ix[n]? = some a from e2))
    exact ⟨ho, by rw [cutH_ne ne]; exact q, r.mv mv⟩
  · obtain ⟨ps, t1, t2, t3⟩ := h.tabs q hq
    have ne : ∀ b u, H' b = some u → u ≠ o2 → b ≠ p := fun b u e q z => by
      rw [z, h2] at e
      exact q (Option.some.inj e).symm
    refine ⟨ps, by rw [cutH_ne (ne _ _ t1 (fun z => n3 ps z.symm))]; exact t1, t2, fun pos cv hc => ?_⟩
    obtain ⟨c, e1, e2⟩ := t3 pos cv hc
    exact ⟨c, e1, by rw [cutH_ne (ne _ _ e2 (fun z => by unfold LamX.CodeO at z; exact n4 _ z.symm))]; exact e2⟩
  · obtain ⟨g1, g2⟩ := List.mem_filter.mp hb
    have ne : b ≠ p := by simpa using g2
    rw [show cutH H' p b = H' b from cutH_ne ne]
    obtain ⟨w1, w2⟩ := h.hid b g1
    exact ⟨fun z => w1 (fun u hu => z u (by rw [cutH_ne ne]; exact hu)), w2⟩
end
end Mi
set_option Elab.async false
set_option linter.all false
set_option maxRecDepth 100000
/-! MiC: what operators, built-ins, expressions and statements come to. -/
namespace Mi
open PySem L2

def dI (i : Int) : R := .val (.d (.int i))
def dB (b : Bool) : R := .val (.d (.bool b))
def dS (x : Str) : R := .val (.d (.str x))
def dT (ps : List PyData) : R := .val (.d (.tuple ps))

/-! ### operators -/
def addO (A : Hs) : U → U → Option R
  | .d (.int i), .d (.int j) => some (dI (i + j))
  | .d (.str x), .d (.str y) => if x.length + y.length ≤ sizeLine then some (dS (x ++ y)) else none
  | .d (.tuple xs), .d (.tuple ys) => if xs.length + ys.length ≤ sizeLine then some (dT (xs ++ ys)) else none
  | u, v => (match lstOf A u, lstOf A v with
    | some xs, some ys => if xs.length + ys.length ≤ sizeLine then some (.new (.lst (xs ++ ys))) else none
    | _, _ => none)
def subO : U → U → Option R
  | .d (.int i), .d (.int j) => some (dI (i - j))
  | _, _ => none
def mulO : U → U → Option R
  | .d (.int i), .d (.int j) => if i.natAbs.log2 + j.natAbs.log2 < 1000000 then some (dI (i * j)) else none
  | _, _ => none
def divO : U → U → Option R
  | .d (.int i), .d (.int j) => if 0 < j ∧ j.natAbs.log2 < 9000 then some (dI (i / j)) else none
  | _, _ => none
def modO : U → U → Option R
  | .d (.int i), .d (.int j) => if 0 < j then some (dI (i % j)) else none
  | _, _ => none
def powO : U → U → Option R
  | .d (.int i), .d (.int j) => if 0 ≤ j ∧ j ≤ 1000000 ∧ i.natAbs < 18446744073709551616 then some (dI (i ^ j.toNat)) else none
  | _, _ => none
def binO (A : Hs) (op : Operator) (u v : U) : Option R := match op with
  | .Add => addO A u v
  | .Sub => subO u v
  | .Mult => mulO u v
  | .FloorDiv => divO u v
  | .Mod => modO u v
  | .Pow => powO u v
  | _ => none
def negO : U → Option R
  | .d (.int i) => some (dI (-i))
  | _ => none
/-- a value as data, lists of ours too -/
def datOf (A : Hs) : U → Option PyData
  | .d p => some p
  | .obj n => (match A[n]? with
    | some (.lst ps) => some (.list ps)
    | _ => none)
  | _ => none
def eqP : PyData → PyData → Option Bool
  | .str x, .str y => some (decide (x = y))
  | .int x, .int y => some (decide (x = y))
  | .list xs, .list [] => some xs.isEmpty
  | .tuple xs, .tuple [] => some xs.isEmpty
  | p, q => if p.canLay0 && q.canLay0 && decide (min p.depth q.depth ≤ 64) then some (PyData.eqv p q) else none
def eqO (A : Hs) (u v : U) : Option Bool := match datOf A u, datOf A v with
  | some p, some q => eqP p q
  | _, _ => none
def ltO : U → U → Option Bool
  | .d (.int i), .d (.int j) => some (decide (i < j))
  | .d (.str x), .d (.str y) => some (decide (x.cps.toList < y.cps.toList))
  | _, _ => none
def leO : U → U → Option Bool
  | .d (.int i), .d (.int j) => some (decide (i ≤ j))
  | .d (.str x), .d (.str y) => some (!decide (y.cps.toList < x.cps.toList))
  | _, _ => none
def isNO : U → U → Option Bool
  | .d .none, .d .none => some true
  | _, .d .none => some false
  | _, _ => none
def flatP : PyData → Bool
  | .none => true
  | .bool _ => true
  | .int _ => true
  | .str _ => true
  | _ => false
def valK {κ : Type} [DecidableEq κ] (kvs : List (κ × U)) (k : κ) : Option U := (kvs.find? fun kv => decide (kv.1 = k)).map (·.2)
def dkAt (A : Hs) (n : Nat) (p : PyData) : Option (Option U) := match A[n]? with
  | some (.dK kvs) => (asKey p).map fun k => valK kvs k
  | _ => none
def inO (A : Hs) : U → U → Option Bool
  | .d (.str x), .d (.str y) => (match x.cps.toList with
    | [c] => some (decide (c ∈ y.cps.toList))
    | _ => some (!(Builtin.Str.occurrences y x 0 y.length 1).isEmpty))
  | .d p, v => (match v with
    | .obj n => (match A[n]? with
      | some (.lst ps) => if flatP p && ps.all flatP then some (ps.any fun q => PyData.eqv q p) else none
      | _ => (dkAt A n p).map (·.isSome))
    | .d (.list ps) => if flatP p && ps.all flatP then some (ps.any fun q => PyData.eqv q p) else none
    | .d (.tuple ps) => if flatP p && ps.all flatP then some (ps.any fun q => PyData.eqv q p) else none
    | _ => none)
  | _, _ => none
def cmpO (A : Hs) (op : CmpOp) (u v : U) : Option Bool := match op with
  | .Eq => eqO A u v
  | .NotEq => (eqO A u v).map (!·)
  | .Lt => ltO u v
  | .LtE => leO u v
  | .Gt => ltO v u
  | .GtE => leO v u
  | .In => inO A u v
  | .NotIn => (inO A u v).map (!·)
  | .Is => isNO u v
  | .IsNot => (isNO u v).map (!·)
/-! ### items, parts -/
def ixO (A : Hs) : U → U → Option U
  | .d (.str x), .d (.int i) => if x.length ≤ sizeLine then (atI x.cps.toList i).map fun c => .d (.str ⟨#[c]⟩) else none
  | .d (.tuple ps), .d (.int i) => (atI ps i).map U.d
  | .d (.list ps), .d (.int i) => (atI ps i).map U.d
  | .obj n, .d p => (match A[n]? with
    | some (.lst ps) => (match p with
      | .int i => (atI ps i).map U.d
      | _ => none)
    | _ => (dkAt A n p).bind id)
  | _, _ => none
def cut {α : Type} (xs : List α) (lo hi : Option Int) : List α := (xs.drop (HT.sIx xs.length 0 lo)).take (HT.sIx xs.length xs.length hi - HT.sIx xs.length 0 lo)
def slO (A : Hs) (u : U) (lo hi : Option Int) : Option R := match u with
  | .d (.tuple ps) => some (dT (cut ps lo hi))
  | .d (.str x) => if x.length ≤ sizeLine then some (dS ⟨(cut x.cps.toList lo hi).toArray⟩) else none
  | u => (lstOf A u).map fun ps => .new (.lst (cut ps lo hi))
def asInt : U → Option Int
  | .d (.int i) => some i
  | _ => none
def asBool : U → Option Bool
  | .d (.bool b) => some b
  | _ => none
def asP : U → Option PyData
  | .d p => some p
  | _ => none
def asPs : List U → Option (List PyData)
  | [] => some []
  | .d p :: r => (asPs r).map (p :: ·)
  | _ :: _ => none
/-! ### what is walked -/
def rangeP (lo : Int) (n : Nat) : List PyData := (List.range n).map fun (i : Nat) => .int (lo + (i : Int))
def signs (x : Str) : List PyData := x.cps.toList.map fun c => .str ⟨#[c]⟩
def enumP (ps : List PyData) : List PyData := ps.zipIdx.map fun p => .tuple [.int (p.2 : Int), p.1]
def zipP (ps qs : List PyData) : List PyData := (ps.zip qs).map fun p => .tuple [p.1, p.2]
/-- items, and the list of ours that is walked -/
structure Wk where
  items : List PyData
  watch : Option (Nat × List PyData) := none
def wkOf (A : Hs) : U → Option Wk
  | .d (.tuple ps) => some ⟨ps, none⟩
  | .d (.list ps) => some ⟨ps, none⟩
  | .d (.str x) => some ⟨signs x, none⟩
  | .obj n => (match A[n]? with
    | some (.lst ps) => some ⟨ps, some (n, ps)⟩
    | _ => none)
  | _ => none
def wkLs (A : Hs) : U → Option Wk
  | .d (.list ps) => some ⟨ps, none⟩
  | .obj n => (match A[n]? with
    | some (.lst ps) => some ⟨ps, some (n, ps)⟩
    | _ => none)
  | _ => none
def still (A : Hs) : Option (Nat × List PyData) → Bool
  | none => true
  | some (n, ps) => (match A[n]? with
    | some (.lst qs) => decide (qs = ps)
    | _ => false)
/-! ### targets -/
mutual
def tgO : Tg → PyData → Fr → Option Fr
  | .nm i, p, δ => some (δ.set i (some (.d p)))
  | .tp ts, p, δ => (match p with
    | .tuple ps => tgOs ts ps δ
    | _ => none)
def tgOs : List Tg → List PyData → Fr → Option Fr
  | [], [], δ => some δ
  | t :: ts, p :: ps, δ => (match tgO t p δ with
    | some δ' => tgOs ts ps δ'
    | none => none)
  | _, _, _ => none
end
def wipeF (δ : Fr) : List Nat → Fr
  | [] => δ
  | v :: vs => (wipeF δ vs).set v none

/-! ### built-ins -/
def intsP : List PyData → Option (List Int)
  | [] => some []
  | .int i :: r => (intsP r).map (i :: ·)
  | _ :: _ => none
def boolsP : List PyData → Option (List Bool)
  | [] => some []
  | .bool i :: r => (boolsP r).map (i :: ·)
  | _ :: _ => none
def textsP : List PyData → Option (List Str)
  | [] => some []
  | .str i :: r => (textsP r).map (i :: ·)
  | _ :: _ => none
def leT (a b : Str) : Bool := !decide (b.cps.toList < a.cps.toList)
def sortT (xs : List Str) : List Str := xs.mergeSort leT
def maxI : List Int → Option Int
  | [] => none
  | [a] => some a
  | a :: r => (maxI r).map fun b => if b > a then b else a
def minI : List Int → Option Int
  | [] => none
  | [a] => some a
  | a :: r => (minI r).map fun b => if b < a then b else a
def keysOf (A : Hs) : U → Option (List Key)
  | .obj n => (match A[n]? with
    | some (.dK kvs) => some (kvs.map (·.1))
    | _ => none)
  | .d (.dict kvs) => (asKeys (kvs.map (·.1)))
  | _ => none
def lenO (A : Hs) : U → Option Int
  | .d (.str x) => if x.length ≤ sizeLine then some (x.length : Int) else none
  | .d (.tuple ps) => some (ps.length : Int)
  | u => (match lstOf A u with
    | some ps => some (ps.length : Int)
    | none => (keysOf A u).map fun ks => (ks.length : Int))
def reprP (p : PyData) : Option Str := if p.showable && !p.hasDict && decide (p.depth ≤ 64) && decide (p.shown.length ≤ sizeLine) then some p.shown else none
def pairsK : List PyData → Option (List (Key × U))
  | [] => some []
  | .tuple [k, v] :: r => (match asKey k, pairsK r with
    | some k, some z => some ((k, .d v) :: z)
    | _, _ => none)
  | _ :: _ => none
def putU {κ : Type} [DecidableEq κ] (kvs : List (κ × U)) (k : κ) (v : U) : List (κ × U) :=
  if (kvs.any fun kv => decide (kv.1 = k)) = true then kvs.map (fun kv => if kv.1 = k then (kv.1, v) else kv) else kvs ++ [(k, v)]
def putAllU {κ : Type} [DecidableEq κ] (kvs : List (κ × U)) : List (κ × U) → List (κ × U)
  | [] => kvs
  | (k, v) :: r => putAllU (putU kvs k v) r
def biLen (A : Hs) : List U → Option R
  | [u] => (lenO A u).map dI
  | _ => none
def biAbs : List U → Option R
  | [.d (.int i)] => some (dI (if i < 0 then -i else i))
  | _ => none
def biMin (A : Hs) : List U → Option R
  | [.d (.int i), .d (.int j)] => some (dI (if j < i then j else i))
  | [u] => (lstOf A u).bind fun ps => (intsP ps).bind fun ns => (minI ns).map dI
  | _ => none
def biMax (A : Hs) : List U → Option R
  | [.d (.int i), .d (.int j)] => some (dI (if j > i then j else i))
  | [u] => (lstOf A u).bind fun ps => (intsP ps).bind fun ns => (maxI ns).map dI
  | _ => none
def biInt : List U → Option R
  | [.d (.int i)] => some (dI i)
  | [.d (.bool b)] => some (dI (if b then 1 else 0))
  | _ => none
def biStr : List U → Option R
  | [.d (.int i)] => if i.natAbs.log2 < 1920 then some (dS (toString i)) else none
  | _ => none
def biRepr (A : Hs) : List U → Option R
  | [u] => (datOf A u).bind fun p => (reprP p).map dS
  | _ => none
def biAll (A : Hs) : List U → Option R
  | [u] => (lstOf A u).bind fun ps => (boolsP ps).map fun bs => dB (bs.all id)
  | _ => none
def biAny (A : Hs) : List U → Option R
  | [u] => (lstOf A u).bind fun ps => (boolsP ps).map fun bs => dB (bs.any id)
  | _ => none
def biList (A : Hs) : List U → Option R
  | [u] => (seqOf A u).map fun ps => .new (.lst ps)
  | _ => none
def biTuple (A : Hs) : List U → Option R
  | [u] => (seqOf A u).map fun ps => dT ps
  | _ => none
def biDict (A : Hs) : List U → Option R
  | [u] => (lstOf A u).bind fun ps => (pairsK ps).map fun kvs => .new (.dK (putAllU [] kvs))
  | _ => none
def biSorted (A : Hs) : List U → Option R
  | [u] => (match keysOf A u with
    | some ks => (textsP (ks.map keyP)).bind fun xs => if xs.length < 64 then some (.new (.lst ((sortT xs).map .str))) else none
    | none => (lstOf A u).bind fun ps => (textsP ps).bind fun xs => if xs.length < 64 then some (.new (.lst ((sortT xs).map .str))) else none)
  | _ => none
def biO (A : Hs) (f : String) (us : List U) : Option R := match f with
  | "len" => biLen A us
  | "abs" => biAbs us
  | "min" => biMin A us
  | "max" => biMax A us
  | "int" => biInt us
  | "str" => biStr us
  | "repr" => biRepr A us
  | "all" => biAll A us
  | "any" => biAny A us
  | "list" => biList A us
  | "tuple" => biTuple A us
  | "dict" => biDict A us
  | "sorted" => biSorted A us
  | _ => none
/-! ### methods that change nothing, and those that do -/
def joinO (x : Str) (ps : List PyData) : Option R := (textsP ps).bind fun ys => if ((ys.map (·.length)).sum + ys.length * x.length) ≤ 16777216 then some (dS (Txt.join x ys)) else none
def meApp (A : Hs) : U → List U → Option (R × Hs)
  | .obj n, [.d p] => (match A[n]? with
    | some (.lst ps) => if ps.length < sizeLine then some (.val (.d .none), A.set n (.lst (ps ++ [p]))) else none
    | _ => none)
  | _, _ => none
def meExt (A : Hs) : U → List U → Option (R × Hs)
  | .obj n, [u] => (match A[n]?, lstOf A u with
    | some (.lst ps), some qs => if ps.length + qs.length ≤ sizeLine then some (.val (.d .none), A.set n (.lst (ps ++ qs))) else none
    | _, _ => none)
  | _, _ => none
def mePop (A : Hs) : U → List U → Option (R × Hs)
  | .obj n, [] => (match A[n]? with
    | some (.lst ps) => (match ps[ps.length - 1]? with
      | some p => some (.val (.d p), A.set n (.lst ps.dropLast))
      | none => none)
    | _ => none)
  | _, _ => none
def meGet (A : Hs) : U → List U → Option (R × Hs)
  | .obj n, [.d p, u] => (dkAt A n p).map fun z => (.val (z.getD u), A)
  | _, _ => none
def meJoin (A : Hs) : U → List U → Option (R × Hs)
  | .d (.str x), [u] => (lstOf A u).bind fun ps => (joinO x ps).map fun r => (r, A)
  | _, _ => none
def metO (A : Hs) (m : String) (o : U) (us : List U) : Option (R × Hs) := match m with
  | "list.append" => meApp A o us
  | "list.extend" => meExt A o us
  | "list.pop" => mePop A o us
  | "dict.get" => meGet A o us
  | "str.join" => meJoin A o us
  | _ => none
def mTy : String → String
  | "list.append" => "list"
  | "list.extend" => "list"
  | "list.pop" => "list"
  | "dict.get" => "dict"
  | "str.join" => "str"
  | _ => ""
/-! ### kinds of values -/
def tyN (A : Hs) : U → Option String
  | .d .none => some "NoneType"
  | .d (.bool _) => some "bool"
  | .d (.int _) => some "int"
  | .d (.str _) => some "str"
  | .d (.tuple _) => some "tuple"
  | .d (.list _) => some "list"
  | .d (.dict _) => some "dict"
  | .obj n => (match A[n]? with
    | some (.lst _) => some "list"
    | some (.dK _) => some "dict"
    | some (.dT _) => some "dict"
    | none => none)
  | _ => none
/-- which class lies under which -/
abbrev Sub := Str → (String ⊕ Str) → Option Bool
def isTy (n : String) (t : String) : Option Bool := if ["int", "bool", "str", "tuple", "list", "dict"].contains t then some (n == t || (n == "bool" && t == "int")) else none
def isiN : Option String → (String ⊕ Str) → Option Bool
  | some n, .inl m => isTy n m
  | _, _ => none
def isiO (sb : Sub) (A : Hs) (u : U) (t : String ⊕ Str) : Option Bool := match u with
  | .exc c _ => sb c t
  | .d p => isiN (tyN A (.d p)) t
  | .obj n => isiN (tyN A (.obj n)) t
  | .ty _ => none
  | .glo _ => none
  | .lam => none
def isiOs (sb : Sub) (A : Hs) (u : U) : List (String ⊕ Str) → Option Bool
  | [] => some false
  | t :: ts => (match isiO sb A u t with
    | some true => some true
    | some false => isiOs sb A u ts
    | none => none)
/-! ### expressions -/
def valM (x : M R) : M U := bnd x fun r => lft (toVal r)
def boolM (x : M R) : M Bool := bnd (valM x) fun u => lft (asBool u)
/-- the turns of a comprehension -/
def lcGo (w : Option (Nat × List PyData)) (f : PyData → M (Option PyData)) : List PyData → M (List PyData)
  | [] => fun A => (match still A w with
    | true => some (.ok [], A)
    | false => none)
  | p :: ps => fun A => (match still A w, f p A with
    | true, some (.ok z, A') => (match lcGo w f ps A' with
      | some (.ok r, A'') => some (.ok (match z with
        | some q => q :: r
        | none => r), A'')
      | _ => none)
    | _, _ => none)
/-- what the module holds: constants, tables, which class lies under which, the fields of exceptions -/
structure Go where
  sub : Sub
  flds : Str → Option (List Str)
  gcs : Str → Option U
  kds : Str → Option (List (Str × PyData))
  lim : Nat
structure Ge where
  o : Go
  call : Str → List U → M R
  callL : Str → M R → M R
  deed : M R
mutual
def ev (G : Ge) : E → Fr → M R
  | .k p, _ => ret (.val (.d p))
  | .v i, δ => (match δ[i]? with
    | some (some u) => ret (.val u)
    | _ => bad)
  | .gc x, _ => lft ((G.o.gcs x).map .val)
  | .tup es, δ => bnd (evs G es δ) fun us => lft ((asPs us).bind fun ps => if ps.length ≤ sizeLine then some (dT ps) else none)
  | .lst es, δ => bnd (evs G es δ) fun us => lft ((asPs us).bind fun ps => if ps.length ≤ sizeLine then some (.new (.lst ps)) else none)
  | .dic ks es, δ => bnd (evs G es δ) fun us => lft (if us.all nl = true then some (.new (.dK (putAllU [] (ks.zip us)))) else none)
  | .alc e, δ => bnd (ev G e δ) fun r => (match r with
    | .new o => fun A => some (.ok (.val (.obj A.length)), A ++ [o])
    | .val _ => bad)
  | .bin op a b, δ => bnd (valM (ev G a δ)) fun u => bnd (valM (ev G b δ)) fun v => fun A => lft (binO A op u v) A
  | .neg a, δ => bnd (valM (ev G a δ)) fun u => lft (negO u)
  | .cmp op a b, δ => bnd (valM (ev G a δ)) fun u => bnd (valM (ev G b δ)) fun v => fun A => lft ((cmpO A op u v).map dB) A
  | .chn o1 o2 a b c, δ => bnd (valM (ev G a δ)) fun u => bnd (valM (ev G b δ)) fun v => fun A => (match cmpO A o1 u v with
    | some true => bnd (valM (ev G c δ)) (fun w => fun A => lft ((cmpO A o2 v w).map dB) A) A
    | some false => ret (dB false) A
    | none => none)
  | .and es, δ => evAnd G es δ
  | .or es, δ => evOr G es δ
  | .not a, δ => bnd (boolM (ev G a δ)) fun b => ret (dB (!b))
  | .ife c a b, δ => bnd (boolM (ev G c δ)) fun t => (match t with
    | true => ev G a δ
    | false => ev G b δ)
  | .ix a i, δ => bnd (valM (ev G a δ)) fun u => bnd (valM (ev G i δ)) fun v => fun A => lft ((ixO A u v).map .val) A
  | .sl a lo hi, δ => bnd (valM (ev G a δ)) fun u => bnd (evO G lo δ) fun l => bnd (evO G hi δ) fun h => fun A => lft (slO A u l h) A
  | .call f es, δ => bnd (evs G es δ) fun us => (match us.all nl with
    | true => G.call f us
    | false => bad)
  | .act i, δ => (match δ[i]? with
    | some (some .lam) => G.deed
    | _ => bad)
  | .lamc f e, δ => G.callL f (ev G e δ)
  | .bi f es, δ => bnd (evs G es δ) fun us => fun A => lft (biO A f us) A
  | .kget n k z, δ => bnd (valM (ev G k δ)) fun u => bnd (valM (ev G z δ)) fun v => lft (match u, G.o.kds n with
    | .d (.str x), some kvs => some (.val (((kvs.lookup x).map U.d).getD v))
    | _, _ => none)
  | .meth m o es, δ => bnd (valM (ev G o δ)) fun u => fun A => (match decide (tyN A u = some (mTy m)) with
    | true => bnd (evs G es δ) (fun us => fun A => (match metO A m u us with
      | some (r, A') => some (.ok r, A')
      | none => none)) A
    | false => none)
  | .fld o f, δ => bnd (valM (ev G o δ)) fun u => lft (match u with
    | .exc c fs => if ((G.o.flds c).getD []).contains f then (fs.lookup f).map fun p => .val (.d p) else none
    | _ => none)
  | .isi e ts _, δ => bnd (valM (ev G e δ)) fun u => fun A => lft ((isiOs G.o.sub A u ts).map dB) A
  | .lc elt t it cs own, δ => bnd (evI G it δ) fun w => bnd (lcGo w.watch (fun p => bnd (lft (tgO t p (wipeF δ own))) fun δ' => bnd (evC G cs δ') fun b => (match b with
    | true => bnd (valM (ev G elt δ')) fun u => lft ((asP u).map some)
    | false => ret none)) w.items) fun ps => lft (if ps.length ≤ sizeLine then some (.new (.lst ps)) else none)
def evs (G : Ge) : List E → Fr → M (List U)
  | [], _ => ret []
  | e :: es, δ => bnd (valM (ev G e δ)) fun u => bnd (evs G es δ) fun us => ret (u :: us)
def evO (G : Ge) : Option E → Fr → M (Option Int)
  | none, _ => ret none
  | some e, δ => bnd (valM (ev G e δ)) fun u => lft ((asInt u).map some)
def evAnd (G : Ge) : List E → Fr → M R
  | [], _ => bad
  | [e], δ => ev G e δ
  | e :: es, δ => bnd (boolM (ev G e δ)) fun b => (match b with
    | true => evAnd G es δ
    | false => ret (dB false))
def evOr (G : Ge) : List E → Fr → M R
  | [], _ => bad
  | [e], δ => ev G e δ
  | e :: es, δ => bnd (boolM (ev G e δ)) fun b => (match b with
    | true => ret (dB true)
    | false => evOr G es δ)
def evC (G : Ge) : List E → Fr → M Bool
  | [], _ => ret true
  | e :: _, δ => boolM (ev G e δ)
def evI (G : Ge) : It → Fr → M Wk
  | .seq e, δ => bnd (valM (ev G e δ)) fun u => fun A => lft (wkOf A u) A
  | .rng es, δ => bnd (evs G es δ) fun us => lft (match us with
    | [.d (.int j)] => if -(2 ^ 62) ≤ j ∧ j < 2 ^ 62 then some ⟨rangeP 0 j.toNat, none⟩ else none
    | [.d (.int i), .d (.int j)] => if -(2 ^ 62) ≤ i ∧ i < 2 ^ 62 ∧ -(2 ^ 62) ≤ j ∧ j < 2 ^ 62 then some ⟨rangeP i (j - i).toNat, none⟩ else none
    | _ => none)
  | .enm e, δ => bnd (valM (ev G e δ)) fun u => fun A => lft ((wkLs A u).map fun w => ⟨enumP w.items, w.watch⟩) A
  | .zip a b, δ => bnd (valM (ev G a δ)) fun u => bnd (valM (ev G b δ)) fun v => fun A => lft ((seqOf A u).bind fun xs => (seqOf A v).map fun ys => ⟨zipP xs ys, none⟩) A
  | .rev e, δ => bnd (valM (ev G e δ)) fun u => fun A => lft ((lstOf A u).map fun ps => ⟨ps.reverse, none⟩) A
  | .rvr e, δ => bnd (valM (ev G e δ)) fun u => lft (match u with
    | .d (.int j) => if -(2 ^ 62) ≤ j ∧ j < 2 ^ 62 then some ⟨(rangeP 0 j.toNat).reverse, none⟩ else none
    | _ => none)
end
/-! ### statements -/
abbrev SR := Option (Out × Fr × Hs)
def exE {α : Type} (m : M α) (δ : Fr) (k : α → Hs → SR) : Hs → SR := fun A => match m A with
  | none => none
  | some (.er c fs, A') => some (.ex c fs, δ, A')
  | some (.ok a, A') => k a A'
def seqS (x : Fr → Hs → SR) (y : Fr → Hs → SR) : Fr → Hs → SR := fun δ A => match x δ A with
  | some (.nx, δ', A') => y δ' A'
  | r => r
def nxS (δ : Fr) : Hs → SR := fun A => some (.nx, δ, A)
def setIx (A : Hs) (o i v : U) : Option Hs := match o, i with
  | .obj n, .d p => (match A[n]? with
    | some (.lst ps) => (match p, v with
      | .int k, .d q => (ixN ps.length k).map fun j => A.set n (.lst (ps.set j q))
      | _, _ => none)
    | some (.dK kvs) => (asKey p).bind fun k => if kvs.length < sizeLine ∧ nl v = true then some (A.set n (.dK (putU kvs k v))) else none
    | some (.dT _) => none
    | none => none)
  | _, _ => none
def iopO (op : Operator) (u v : U) : Option U := match op, u, v with
  | .Add, .d (.int i), .d (.int j) => some (.d (.int (i + j)))
  | .Sub, .d (.int i), .d (.int j) => some (.d (.int (i - j)))
  | _, _, _ => none
/-- the fields of an exception that is made -/
def excF (flds : Str → Option (List Str)) (c : Str) (us : List U) : Option (List (Str × PyData)) := match flds c with
  | some fs => (match fs with
    | [] => some []
    | _ => (asPs us).bind fun ps => if fs.length = ps.length then some (fs.zip ps) else none)
  | none => none
/-- a loop by its condition -/
def whlGo (c : Fr → M Bool) (b : Fr → Hs → SR) : Nat → Fr → Hs → SR
  | 0, _, _ => none
  | n + 1, δ, A => exE (c δ) δ (fun t A => match t with
    | true => (match b δ A with
      | some (.nx, δ', A') => whlGo c b n δ' A'
      | some (.ct, δ', A') => whlGo c b n δ' A'
      | some (.bk, δ', A') => some (.nx, δ', A')
      | r => r)
    | false => some (.nx, δ, A)) A
/-- the turns of a for -/
def frGo (w : Option (Nat × List PyData)) (t : Tg) (b : Fr → Hs → SR) : List PyData → Fr → Hs → SR
  | [], δ, A => (match still A w with
    | true => some (.nx, δ, A)
    | false => none)
  | p :: ps, δ, A => (match still A w with
    | true => (match tgO t p δ with
      | some δ1 => (match b δ1 A with
        | some (.nx, δ', A') => frGo w t b ps δ' A'
        | some (.ct, δ', A') => frGo w t b ps δ' A'
        | some (.bk, δ', A') => some (.nx, δ', A')
        | r => r)
      | none => none)
    | false => none)
def caught (sb : Sub) (c : Str) : List Str → Option Bool
  | [] => some false
  | k :: ks => (match sb c (.inr k), caught sb c ks with
    | some b, some d => some (b || d)
    | _, _ => none)
mutual
def ex (G : Ge) : S → Fr → Hs → SR
  | .asg i e al, δ => exE (ev G e δ) δ fun r A => (match r with
    | .val u => some (.nx, δ.set i (some u), A)
    | .new o => (match al with
      | true => some (.nx, δ.set i (some (.obj A.length)), A ++ [o])
      | false => (obVal o).map fun u => (.nx, δ.set i (some u), A)))
  | .asgT t e, δ => exE (valM (ev G e δ)) δ fun u A => (match u with
    | .d p => (tgO t p δ).map fun δ' => (.nx, δ', A)
    | _ => none)
  | .par3 i j l a b c, δ => exE (valM (ev G a δ)) δ fun u => exE (valM (ev G b δ)) δ fun v => exE (valM (ev G c δ)) δ fun w A => some (.nx, ((δ.set i (some u)).set j (some v)).set l (some w), A)
  | .par i j a b, δ => exE (valM (ev G a δ)) δ fun u => exE (valM (ev G b δ)) δ fun v A => some (.nx, (δ.set i (some u)).set j (some v), A)
  | .six o i e, δ => exE (valM (ev G e δ)) δ fun v => exE (valM (ev G o δ)) δ fun u => exE (valM (ev G i δ)) δ fun k A => (setIx A u k v).map fun A' => (.nx, δ, A')
  | .aug i op e, δ => (match δ[i]? with
    | some (some u) => exE (valM (ev G e δ)) δ fun v A => (iopO op u v).map fun z => (.nx, δ.set i (some z), A)
    | _ => fun _ => none)
  | .exp e, δ => exE (ev G e δ) δ fun _ => nxS δ
  | .ret none, δ => fun A => some (.rt (.val (.d .none)), δ, A)
  | .ret (some e), δ => exE (ev G e δ) δ fun r A => some (.rt r, δ, A)
  | .iff c a b, δ => exE (boolM (ev G c δ)) δ fun t => (match t with
    | true => exs G a δ
    | false => exs G b δ)
  | .whl c b, δ => whlGo (fun δ => boolM (ev G c δ)) (exs G b) G.o.lim δ
  | .fr t it b, δ => exE (evI G it δ) δ fun w => frGo w.watch t (exs G b) w.items δ
  | .rais c es, δ => exE (evs G es δ) δ fun us A => (excF G.o.flds c us).map fun fs => (.ex c fs, δ, A)
  | .tryC b cs ie ix, δ => fun A => (match exs G b δ A with
    | some (.ex c fs, δ', A') => (match caught G.o.sub c cs with
      | some true => some (.nx, (δ'.set ix (some (.exc c fs))).set ie none, A')
      | _ => none)
    | r => r)
  | .tryO b k h, δ => fun A => (match exs G b δ A with
    | some (.ex c fs, δ', A') => (match G.o.sub c (.inr k) with
      | some true => exs G h δ' A'
      | some false => some (.ex c fs, δ', A')
      | none => none)
    | r => r)
  | .pas, δ => nxS δ
  | .brk, δ => fun A => some (.bk, δ, A)
  | .cnt, δ => fun A => some (.ct, δ, A)
def exs (G : Ge) : List S → Fr → Hs → SR
  | [] => nxS
  | s :: ss => seqS (ex G s) (exs G ss)
end
/-! ### defs -/
structure Fn where
  name : Str
  np : Nat
  ns : Nat
  body : List S
  keep : Bool
abbrev Tab := List Fn
/-- no object of the call's own in it -/
def clean (k : Nat) : Ob → Bool
  | .lst _ => true
  | .dK kvs => kvs.all fun p => (match p.2 with
    | .obj n => decide (n < k)
    | _ => true)
  | .dT kvs => kvs.all fun p => (match p.2 with
    | .obj n => decide (n < k)
    | _ => true)
/-- what is left of a call: its own objects go -/
def leave (keep : Bool) (k : Nat) (r : R) (A : Hs) : Option (R × Hs) := match keep with
  | true => (match r with
    | .val .lam => none
    | r => some (r, A))
  | false => (match (A.take k).all (clean k) with
    | true => (match r with
      | .val .lam => none
      | .val (.obj n) => (match decide (n < k) with
        | true => some (.val (.obj n), A.take k)
        | false => (match A[n]? with
          | some o => (match clean k o with
            | true => some (.new o, A.take k)
            | false => none)
          | none => none))
      | .val u => some (.val u, A.take k)
      | .new o => (match clean k o with
        | true => some (.new o, A.take k)
        | false => none))
    | false => none)
def fnd (T : Tab) (f : Str) : Option Fn := T.find? fun d => decide (d.name = f)
def runFn (G : Ge) (d : Fn) (us : List U) : M R := fun A => match decide (us.length = d.np) with
  | true => (match exs G d.body (us.map some ++ List.replicate (d.ns - d.np) none) A with
    | some (.nx, _, A') => (leave d.keep A.length (.val (.d .none)) A').map fun z => (.ok z.1, z.2)
    | some (.rt r, _, A') => (leave d.keep A.length r A').map fun z => (.ok z.1, z.2)
    | some (.ex c fs, _, A') => (leave d.keep A.length (.val (.d .none)) A').map fun z => (.er c fs, z.2)
    | _ => none)
  | false => none
structure Pr where
  o : Go
  tab : Tab
mutual
def callN (P : Pr) : Nat → Str → List U → M R
  | 0, _, _ => bad
  | n + 1, f, us => (match fnd P.tab f with
    | some d => runFn ⟨P.o, callN P n, callD P n, bad⟩ d us
    | none => bad)
/-- a def that is handed a lambda -/
def callD (P : Pr) : Nat → Str → M R → M R
  | 0, _, _ => bad
  | n + 1, f, m => (match fnd P.tab f with
    | some d => runFn ⟨P.o, callN P n, callD P n, m⟩ d [.lam]
    | none => bad)
end
abbrev geN (P : Pr) (n : Nat) (m : M R) : Ge := ⟨P.o, callN P n, callD P n, m⟩
end Mi
set_option Elab.async false
set_option linter.all false
set_option maxRecDepth 100000
set_option maxHeartbeats 1000000
/-! MiD: what is asked of a run; operators. -/
namespace Mi
open PySem L2

/-! ### asking -/
inductive RepR (ρ0 : Ow) (H0 : Hp) (ρ : Ow) (K : PySem.W.Frag) (mg : Mg) (A : Hs) (H : Hp) : R → V → Prop
  | val {u : U} {v : V} : RepU ρ K mg H u v → RepR ρ0 H0 ρ K mg A H (.val u) v
  | new {o : Ob} {p : Addr} {ho : HO} {H1 : Hp} : Step ρ0 ρ H0 H1 → H1 p = none → H = upd H1 p ho → RepH ρ K mg H1 A → RepO ρ K mg H1 o ho → RepR ρ0 H0 ρ K mg A H (.new o) (.ref p)
def PostX (K : PySem.W.Frag) (mg : Mg) (W : WX) (σ : L2.St) (ρ : Ow) (H : Hp) (c : Str) (fs : List (Str × PyData)) (A' : Hs) : Prop :=
  ∀ ρ' H' C d, Step ρ ρ' H H' → RepH ρ' K mg H' A' → mg c = some (.ref C) → XAt ρ' K H' fs d → W (.ref C) d σ H'
def Ask {α : Type} (K : PySem.W.Frag) (mg : Mg) (W : WX) (σ : L2.St) (ρ : Ow) (H : Hp) (m : M α) (A : Hs) (Φ : α → Ow → Hp → Hs → Prop) : Prop :=
  match m A with
  | none => False
  | some (.er c fs, A') => PostX K mg W σ ρ H c fs A'
  | some (.ok a, A') => ∀ ρ' H', Step ρ ρ' H H' → RepH ρ' K mg H' A' → Φ a ρ' H' A'
section
variable {α β : Type} {K : PySem.W.Frag} {mg : Mg} {W : WX} {σ : L2.St} {ρ ρ1 ρ' : Ow} {H H1 H' H0 : Hp} {m : M α} {f : α → M β} {A A1 : Hs}
theorem PostX.from {c : Str} {fs : List (Str × PyData)} (h : PostX K mg W σ ρ H c fs A) (s : Step ρ ρ1 H H1) : PostX K mg W σ ρ1 H1 c fs A := fun ρ' H' C d t a b e => h ρ' H' C d (s.trans t) a b e
theorem Ask.mono {Φ Ψ : α → Ow → Hp → Hs → Prop} (h : Ask K mg W σ ρ H m A Φ) (k : ∀ a ρ' H' A', Step ρ ρ' H H' → RepH ρ' K mg H' A' → Φ a ρ' H' A' → Ψ a ρ' H' A') : Ask K mg W σ ρ H m A Ψ := by
  unfold Ask at h ⊢
  split
  · rename_i e; rw [e] at h; exact h
  · rename_i e; rw [e] at h; exact h
  · rename_i e; rw [e] at h
    exact fun ρ' H' s r => k _ _ _ _ s r (h ρ' H' s r)
theorem Ask.bnd {Φ : β → Ow → Hp → Hs → Prop} (h : Ask K mg W σ ρ H (bnd m f) A Φ) : Ask K mg W σ ρ H m A fun a ρ1 H1 A1 => Ask K mg W σ ρ1 H1 (f a) A1 Φ := by
  unfold Ask at h ⊢
  unfold Mi.bnd at h
  split
  · rename_i e; rw [e] at h; exact h
  · rename_i e; rw [e] at h; exact h
  · rename_i a A1 e; rw [e] at h
    intro ρ1 H1 s _
    have h' : (match f a A1 with
      | none => False
      | some (.er c fs, A') => PostX K mg W σ ρ H c fs A'
      | some (.ok a, A') => ∀ ρ' H', Step ρ ρ' H H' → RepH ρ' K mg H' A' → Φ a ρ' H' A') := h
    cases e2 : f a A1 with
    | none => rw [e2] at h'; exact h'.elim
    | some z =>
      obtain ⟨z, A2⟩ := z
      rw [e2] at h'
      cases z with
      | er c fs => exact h'.from s
      | ok b => exact fun ρ' H' t r => h' ρ' H' (s.trans t) r
theorem Ask.lft {o : Option α} {Φ : α → Ow → Hp → Hs → Prop} (h : Ask K mg W σ ρ H (lft o) A Φ) : ∃ a, o = some a ∧ ∀ ρ' H', Step ρ ρ' H H' → RepH ρ' K mg H' A → Φ a ρ' H' A := by
  unfold Ask Mi.lft at h
  cases o with
  | none => exact h.elim
  | some a => exact ⟨a, rfl, h⟩
theorem Ask.lftA {g : Hs → Option α} {Φ : α → Ow → Hp → Hs → Prop} (h : Ask K mg W σ ρ H (fun A => Mi.lft (g A) A) A Φ) : ∃ a, g A = some a ∧ ∀ ρ' H', Step ρ ρ' H H' → RepH ρ' K mg H' A → Φ a ρ' H' A :=
  Ask.lft (o := g A) h
theorem Ask.congr {m' : M α} {Φ : α → Ow → Hp → Hs → Prop} (h : Ask K mg W σ ρ H m A Φ) (e : m A = m' A) : Ask K mg W σ ρ H m' A Φ := by
  unfold Ask at h ⊢
  rw [← e]
  exact h
theorem Ask.ret {a : α} {Φ : α → Ow → Hp → Hs → Prop} (h : Ask K mg W σ ρ H (ret a) A Φ) (r : RepH ρ K mg H A) : Φ a ρ H A := h ρ H Step.refl r
theorem purs_rep {ρ : Ow} {K : PySem.W.Frag} {mg : Mg} {H : Hp} : ∀ {kvs : List (Key × U)} {kws : List (Key × V)} {z : List (PyData × PyData)}, purs kvs = some z → RepA ρ K mg H kvs kws → RepKs ρ K H z kws
  | [], _, z, e, r => by
    cases r
    have : z = [] := by simpa [purs] using e.symm
    subst this
    exact .nil
  | (k, u) :: kvs, _, z, e, r => by
    cases r with
    | cons ru rr =>
      cases u with
      | d p =>
        unfold purs at e
        cases q : purs kvs with
        | none => rw [q] at e; cases e
        | some y =>
          rw [q] at e
          have : z = (keyP k, p) :: y := by simpa using e.symm
          subst this
          cases ru with
          | d ru => exact .cons ru (purs_rep q rr)
      | _ => simp [purs] at e
theorem pursT_rep {ρ : Ow} {K : PySem.W.Frag} {mg : Mg} {H : Hp} : ∀ {kvs : List (List Key × U)} {kws : List (List Key × V)} {z : List (PyData × PyData)}, pursT kvs = some z → RepA ρ K mg H kvs kws → RepTs ρ K H z kws
  | [], _, z, e, r => by
    cases r
    have : z = [] := by simpa [pursT] using e.symm
    subst this
    exact .nil
  | (k, u) :: kvs, _, z, e, r => by
    cases r with
    | cons ru rr =>
      cases u with
      | d p =>
        unfold pursT at e
        cases q : pursT kvs with
        | none => rw [q] at e; cases e
        | some y =>
          rw [q] at e
          have : z = (.tuple (k.map keyP), p) :: y := by simpa using e.symm
          subst this
          cases ru with
          | d ru => exact .cons ru (pursT_rep q rr)
      | _ => simp [pursT] at e
theorem RepO.val {o : Ob} {ho : HO} {p : Addr} {u : U} (e : obVal o = some u) (h : H p = some ho) (n : p ∉ ρ) (r : RepO ρ K mg H o ho) : RepU ρ K mg H u (.ref p) := by
  cases r with
  | lst r =>
    cases e
    exact .d (.lst ⟨.inl h, n⟩ r)
  | dK r =>
    obtain ⟨z, q, rfl⟩ := Option.map_eq_some_iff.mp e
    exact .d (.dcK h n (purs_rep q r))
  | dT r =>
    cases r with
    | nil => cases e
    | cons a b c =>
      obtain ⟨z, q, rfl⟩ := Option.map_eq_some_iff.mp e
      exact .d (.dcT h n (by simp) (pursT_rep q (.cons a b c)))
theorem RepR.toVal {r : R} {v : V} {u : U} (h : RepR ρ1 H0 ρ K mg A H r v) (e : toVal r = some u) : RepU ρ K mg H u v := by
  cases h with
  | val h => cases e; exact h
  | new h0 h1 e1 hH r =>
    subst e1
    exact (r.mono (hH.stp h1)).val e upd_same (hH.notin (Fre.of h1))
theorem RepR.back {r : R} {v : V} (h : RepR ρ1 H1 ρ K mg A H r v) (s : Step ρ' ρ1 H0 H1) : RepR ρ' H0 ρ K mg A H r v := by
  cases h with
  | val h => exact .val h
  | new h0 h1 e1 hH r => exact .new (s.trans h0) h1 e1 hH r
/-- the reading of an expression -/
def tR (K : PySem.W.Frag) (mg : Mg) (W : WX) (m : Fr → M R) : TE := fun σ H Q => ∃ ρ A δ, RepE ρ K mg H δ σ ∧ RepH ρ K mg H A ∧ Ask K mg W σ ρ H (m δ) A fun r ρ' H' A' => ∀ v, RepR ρ H ρ' K mg A' H' r v → Q v H'
/-- an expression's value, then something -/
theorem tR.of {σ : L2.St} {δ : Fr} {m : Fr → M R} {g : U → M β} {Φ : β → Ow → Hp → Hs → Prop} {Q : VK} (hE : RepE ρ K mg H δ σ) (hH : RepH ρ K mg H A) (h : Ask K mg W σ ρ H (Mi.bnd (valM (m δ)) g) A Φ)
    (k : ∀ u v ρ1 H1 A1, Step ρ ρ1 H H1 → RepE ρ1 K mg H1 δ σ → RepH ρ1 K mg H1 A1 → RepU ρ1 K mg H1 u v → Ask K mg W σ ρ1 H1 (g u) A1 Φ → Q v H1) : tR K mg W m σ H Q := by
  refine ⟨ρ, A, δ, hE, hH, ?_⟩
  have h1 := (Ask.bnd (Ask.bnd h))
  refine h1.mono fun r ρ1 H1 A1 s r1 a => ?_
  intro v rv
  obtain ⟨u, e, a'⟩ := Ask.lft a
  exact k u v ρ1 H1 A1 s (hE.mono s) r1 (rv.toVal e) (a' ρ1 H1 Step.refl r1)
end
end Mi
set_option Elab.async false
set_option linter.all false
set_option maxRecDepth 100000
set_option maxHeartbeats 1000000
/-! MiE: operators over values. -/
namespace Mi
open PySem L2

section
variable {ρ : Ow} {K : PySem.W.Frag} {mg : Mg} {H : Hp} {A : Hs}
theorem lstOf_rep {u : U} {v : V} {ps : List PyData} (e : lstOf A u = some ps) (r : RepU ρ K mg H u v) (hH : RepH ρ K mg H A) : ∃ a xs, v = .ref a ∧ Rd H a (.lst xs) ∧ RepPs ρ K H ps xs := by
  unfold lstOf at e
  split at e
  · cases e
    cases r with
    | d r => cases r with | lst h r => exact ⟨_, _, rfl, h.1, r⟩
  · rename_i n
    cases r with
    | obj hn =>
      split at e
      · rename_i ps' ea
        cases e
        obtain ⟨ho, h1, h2⟩ := hH.at_ _ _ _ ea hn
        cases h2 with
        | lst h2 => exact ⟨_, _, rfl, .inl h1, h2⟩
      · cases e
  · cases e
theorem seqOf_rep {u : U} {v : V} {ps : List PyData} (e : seqOf A u = some ps) (r : RepU ρ K mg H u v) (hH : RepH ρ K mg H A) : ∃ a xs, v = .ref a ∧ (SqL K H a xs ∨ SqT K H a xs) ∧ RepPs ρ K H ps xs := by
  unfold seqOf at e
  split at e
  · cases e
    cases r with
    | d r => cases r with | tup h r => exact ⟨_, _, rfl, .inr h, r⟩
  · obtain ⟨a, xs, e1, e2, e3⟩ := lstOf_rep e r hH
    exact ⟨a, xs, e1, .inl (.inl e2), e3⟩
theorem RepU.int_inv {i : Int} {v : V} (r : RepU ρ K mg H (.d (.int i)) v) : v = .int i := by
  cases r with | d r => cases r; rfl
theorem RepU.str_inv {i : Str} {v : V} (r : RepU ρ K mg H (.d (.str i)) v) : v = .str i := by
  cases r with | d r => cases r; rfl
theorem RepU.bool_inv {i : Bool} {v : V} (r : RepU ρ K mg H (.d (.bool i)) v) : v = .bl i := by
  cases r with | d r => cases r; rfl
theorem RepU.none_inv {v : V} (r : RepU ρ K mg H (.d .none) v) : v = .non := by
  cases r with | d r => cases r; rfl
theorem RepU.tup_inv {ps : List PyData} {v : V} (r : RepU ρ K mg H (.d (.tuple ps)) v) : ∃ a xs, v = .ref a ∧ SqT K H a xs ∧ RepPs ρ K H ps xs := by
  cases r with | d r => cases r with | tup h r => exact ⟨_, _, rfl, h, r⟩
end

section
variable {X : Cx} {mg : Mg} {pins : List (Addr × Obj)} {σ : L2.St} {H : Hp} {s : Shared}
theorem Inv.lstR {l : Addr} {xs : List V} (I : Inv X pins σ H s) (hH : Rd H l (.lst xs)) : xs.length ≤ sizeLine ∧ ∃ (its : List Value) (n : Nat), Vals xs its ∧ xs.length = its.length ∧ s.heap.get? l = some { cls := .type "list", data := .seq its.toArray n } := by
  obtain ⟨z, its, n, r, e⟩ := hH.ok I.hok
  exact ⟨z, its, n, r, r.length, e⟩
end
section
variable {X : Cx} {mg : Mg}
def rCatR : R2 := fun x y H Q => ∃ l b xs zs, x = .ref l ∧ y = .ref b ∧ Rd H l (.lst xs) ∧ Rd H b (.lst zs) ∧ xs.length + zs.length ≤ sizeLine ∧ ∀ p, H p = none → Q (.ref p) (upd H p (.lst (xs ++ zs)))
theorem op_catR : OpR X (binaryOp .Add) rCatR := by
  intro pins s σ H x y v u Q I rx ry h
  obtain ⟨l, b, xs, zs, rfl, rfl, hH, hB, hz, q⟩ := h
  cases rx
  cases ry
  obtain ⟨z, its, n, r, hl, e⟩ := Mi.Inv.lstR I hH
  obtain ⟨z2, its2, n2, r2, hl2, e2⟩ := Mi.Inv.lstR I hB
  refine PySem.P.add_list e e2 ?_ (by rw [List.size_toArray, List.size_toArray]; omega)
  have ea : its.toArray ++ its2.toArray = (its ++ its2).toArray := by simp
  rw [ea]
  exact ⟨.ref _, _, I.lnew (t' := s.toks) (r.append r2) (by rw [List.length_append]; omega), rfl, q _ I.fresh⟩

/-- an operator by what it comes to -/
def rBin (K : PySem.W.Frag) (mg : Mg) (op : Operator) : R2 := fun x y H Q => ∃ ρ A u v r, RepH ρ K mg H A ∧ RepU ρ K mg H u x ∧ RepU ρ K mg H v y ∧ binO A op u v = some r ∧
  ∀ ρ' H' w, Step ρ ρ' H H' → RepH ρ' K mg H' A → RepR ρ H ρ' K mg A H' r w → Q w H'
theorem op_addO : OpR X (binaryOp .Add) (rBin X.K mg .Add) := by
  intro pins s σ H x y v' u' Q I rx ry h
  obtain ⟨ρ, A, u, v, r, hH, hu, hv, he, k⟩ := h
  have he : addO A u v = some r := he
  unfold addO at he
  split at he
  · cases he
    cases hu.int_inv; cases hv.int_inv
    exact op_add pins s σ H _ _ v' u' Q I rx ry ⟨_, _, rfl, rfl, k ρ H _ Step.refl hH (.val (.d (.int _)))⟩
  · split at he
    · rename_i hz
      cases he
      cases hu.str_inv; cases hv.str_inv
      exact op_add_str pins s σ H _ _ v' u' Q I rx ry ⟨_, _, rfl, rfl, hz, k ρ H _ Step.refl hH (.val (.d (.str _)))⟩
    · cases he
  · split at he
    · rename_i hz
      cases he
      obtain ⟨a, xs, rfl, ha, ra⟩ := hu.tup_inv
      obtain ⟨b, ys, rfl, hb, rb⟩ := hv.tup_inv
      rename_i ps qs
      refine op_catA pins s σ H _ _ v' u' Q I rx ry ⟨a, b, xs, ys, rfl, rfl, ha, hb, by rw [← ra.length, ← rb.length]; exact hz, fun e => ?_, fun _ e => ?_, fun _ _ p hp => ?_⟩
      · subst e
        have : ps = [] := by cases ra; rfl
        subst this
        exact k ρ H _ Step.refl hH (.val (.d (.tup hb rb)))
      · subst e
        have : qs = [] := by cases rb; rfl
        subst this
        rw [List.append_nil] at k
        exact k ρ H _ Step.refl hH (.val (.d (.tup ha ra)))
      · have st : Step ρ ρ H (upd H p (.tup (xs ++ ys))) := hH.stp hp
        exact k ρ _ _ st (hH.new hp) (.val (.d (.tup (SqT.of upd_same) ((ra.mono st).append (rb.mono st)))))
    · cases he
  · split at he
    · rename_i xs ys e1 e2
      split at he
      · rename_i hz
        cases he
        obtain ⟨a, vs, rfl, h1, r1⟩ := lstOf_rep e1 hu hH
        obtain ⟨b, ws, rfl, h2, r2⟩ := lstOf_rep e2 hv hH
        refine op_catR pins s σ H _ _ v' u' Q I rx ry ⟨a, b, vs, ws, rfl, rfl, h1, h2, by rw [← r1.length, ← r2.length]; exact hz, fun p hp => ?_⟩
        have st : Step ρ ρ H (upd H p (.lst (vs ++ ws))) := hH.stp hp
        exact k ρ _ _ st (hH.new hp) (.new Step.refl hp rfl hH (.lst (r1.append r2)))
      · cases he
    · cases he
theorem op_intO {op : Operator} {C : Int → Int → Prop} {g : Int → Int → Int} {f : U → U → Option R} (ho : OpR X (binaryOp op) (rI C fun i j => .int (g i j)))
    (hf : ∀ u v r, f u v = some r → ∃ i j, u = .d (.int i) ∧ v = .d (.int j) ∧ C i j ∧ r = dI (g i j)) (hb : ∀ A u v, binO A op u v = f u v) : OpR X (binaryOp op) (rBin X.K mg op) := by
  intro pins s σ H x y v' u' Q I rx ry h
  obtain ⟨ρ, A, u, v, r, hH, hu, hv, he, k⟩ := h
  rw [hb] at he
  obtain ⟨i, j, rfl, rfl, hc, rfl⟩ := hf u v r he
  cases hu.int_inv; cases hv.int_inv
  exact ho pins s σ H _ _ v' u' Q I rx ry ⟨_, _, rfl, rfl, hc, k ρ H _ Step.refl hH (.val (.d (.int _)))⟩
theorem op_intO0 {op : Operator} {g : Int → Int → Int} {f : U → U → Option R} (ho : OpR X (binaryOp op) (rI0 fun i j => .int (g i j)))
    (hf : ∀ u v r, f u v = some r → ∃ i j, u = .d (.int i) ∧ v = .d (.int j) ∧ r = dI (g i j)) (hb : ∀ A u v, binO A op u v = f u v) : OpR X (binaryOp op) (rBin X.K mg op) := by
  intro pins s σ H x y v' u' Q I rx ry h
  obtain ⟨ρ, A, u, v, r, hH, hu, hv, he, k⟩ := h
  rw [hb] at he
  obtain ⟨i, j, rfl, rfl, rfl⟩ := hf u v r he
  cases hu.int_inv; cases hv.int_inv
  exact ho pins s σ H _ _ v' u' Q I rx ry ⟨_, _, rfl, rfl, k ρ H _ Step.refl hH (.val (.d (.int _)))⟩
theorem op_bin (op : Operator) : OpR X (binaryOp op) (rBin X.K mg op) := by
  cases op with
  | Add => exact op_addO
  | Sub => exact op_intO0 op_sub (f := subO) (fun u v r e => by unfold subO at e; split at e <;> first | (cases e; exact ⟨_, _, rfl, rfl, rfl⟩) | cases e) (fun _ _ _ => rfl)
  | Mult => exact op_intO op_mulW (f := mulO) (fun u v r e => by
      unfold mulO at e
      split at e
      · split at e
        · rename_i h; cases e; exact ⟨_, _, rfl, rfl, h, rfl⟩
        · cases e
      · cases e) (fun _ _ _ => rfl)
  | FloorDiv => exact op_intO op_fdivW (f := divO) (fun u v r e => by
      unfold divO at e
      split at e
      · split at e
        · rename_i h; cases e; exact ⟨_, _, rfl, rfl, h, rfl⟩
        · cases e
      · cases e) (fun _ _ _ => rfl)
  | Mod => exact op_intO op_mod (f := modO) (fun u v r e => by
      unfold modO at e
      split at e
      · split at e
        · rename_i h; cases e; exact ⟨_, _, rfl, rfl, h, rfl⟩
        · cases e
      · cases e) (fun _ _ _ => rfl)
  | Pow => exact op_intO op_pow (f := powO) (fun u v r e => by
      unfold powO at e
      split at e
      · split at e
        · rename_i h; cases e; exact ⟨_, _, rfl, rfl, ⟨h.1, h.2.1, by simpa using h.2.2⟩, rfl⟩
        · cases e
      · cases e) (fun _ _ _ => rfl)
  | _ =>
    intro pins s σ H x y v' u' Q I rx ry h
    obtain ⟨ρ, A, u, v, r, hH, hu, hv, he, k⟩ := h
    cases he
end
end Mi
set_option Elab.async false
set_option linter.all false
set_option maxRecDepth 100000
set_option maxHeartbeats 1000000
/-! MiF: comparisons. -/
namespace Mi
open PySem L2
section
variable {ρ : Ow} {K : PySem.W.Frag} {mg : Mg} {H : Hp} {A : Hs}
mutual
theorem RepP.dp : ∀ {p : PyData} {v : V}, RepP ρ K H p v → p.canLay0 = true → Dp K H v p
  | _, _, .non, _ => .non
  | _, _, .bl b, _ => .bl b
  | _, _, .int i, _ => .int i
  | _, _, .str x, _ => .str x
  | _, _, .tup h r, c => .tup h (RepPs.dp r (by simpa [PyData.canLay0] using c))
  | _, _, .lst h r, c => .lst h.sq (RepPs.dp r (by simpa [PyData.canLay0] using c))
  | _, _, .dcK _ _ _, c => by simp [PyData.canLay0] at c
  | _, _, .dcT _ _ _ _, c => by simp [PyData.canLay0] at c
theorem RepPs.dp : ∀ {p : List PyData} {v : List V}, RepPs ρ K H p v → PyData.canLayAll0 p = true → DpAll K H v p
  | _, _, .nil, _ => .nil
  | _, _, .cons h r, c => by
    simp only [PyData.canLayAll0, Bool.and_eq_true] at c
    exact .cons (RepP.dp h c.1) (RepPs.dp r c.2)
end
/-- lists of ours as data -/
inductive RepD (ρ : Ow) (K : PySem.W.Frag) (H : Hp) : PyData → V → Prop
  | p {p : PyData} {v : V} : RepP ρ K H p v → RepD ρ K H p v
  | l {ps : List PyData} {xs : List V} {a : Addr} : H a = some (.lst xs) → RepPs ρ K H ps xs → RepD ρ K H (.list ps) (.ref a)
theorem datOf_rep {u : U} {v : V} {p : PyData} (e : datOf A u = some p) (r : RepU ρ K mg H u v) (hH : RepH ρ K mg H A) : RepD ρ K H p v := by
  unfold datOf at e
  split at e
  · cases e
    cases r with
    | d r => exact .p r
  · cases r with
    | obj hn =>
      split at e
      · rename_i ps' ea
        cases e
        obtain ⟨ho, h1, h2⟩ := hH.at_ _ _ _ ea hn
        cases h2 with
        | lst h2 => exact .l h1 h2
      · cases e
  · cases e
theorem RepD.dp {p : PyData} {v : V} (r : RepD ρ K H p v) (c : p.canLay0 = true) : Dp K H v p := by
  cases r with
  | p r => exact r.dp c
  | l h r => exact .lst (SqL.of h) (r.dp (by simpa [PyData.canLay0] using c))
theorem RepD.lst_inv {ps : List PyData} {v : V} (r : RepD ρ K H (.list ps) v) : ∃ a xs, v = .ref a ∧ Rd H a (.lst xs) ∧ RepPs ρ K H ps xs := by
  cases r with
  | p r => cases r with | lst h r => exact ⟨_, _, rfl, h.1, r⟩
  | l h r => exact ⟨_, _, rfl, .inl h, r⟩
theorem RepD.tup_inv {ps : List PyData} {v : V} (r : RepD ρ K H (.tuple ps) v) : ∃ a xs, v = .ref a ∧ SqT K H a xs ∧ RepPs ρ K H ps xs := by
  cases r with
  | p r => cases r with | tup h r => exact ⟨_, _, rfl, h, r⟩
theorem RepD.str_inv {x : Str} {v : V} (r : RepD ρ K H (.str x) v) : v = .str x := by
  cases r with
  | p r => cases r; rfl
theorem RepD.int_inv {x : Int} {v : V} (r : RepD ρ K H (.int x) v) : v = .int x := by
  cases r with
  | p r => cases r; rfl
end
section
variable {X : Cx} {mg : Mg}
theorem eq_dat (hu : X.A.units + 64 < cLine) {ρ : Ow} {p q : PyData} {b : Bool} {pins : List (Addr × Obj)} {s : Shared} {σ : L2.St} {H : Hp} {x y : V} {v u : Value} {Q : VK} (I : Inv X pins σ H s) (rx : RelV x v) (ry : RelV y u) (e : eqP p q = some b) (rp : RepD ρ X.K H p x) (rq : RepD ρ X.K H q y) :
    (Q (.bl b) H → wpAny (model X.prog X.w) X.A (compareOp .Eq v u) (EP X pins σ Q) X.xe s) ∧ (Q (.bl (!b)) H → wpAny (model X.prog X.w) X.A (compareOp .NotEq v u) (EP X pins σ Q) X.xe s) := by
  unfold eqP at e
  split at e
  · cases e
    cases rp.str_inv; cases rq.str_inv
    have d : ∀ a b : Str, decide (V.str a = V.str b) = decide (a = b) := fun a b => by by_cases h : a = b <;> simp [h]
    exact ⟨fun q => op_eq pins s σ H _ _ v u Q I rx ry ⟨rfl, by rw [d]; exact q⟩, fun q => op_ne pins s σ H _ _ v u Q I rx ry ⟨rfl, by rw [d]; exact q⟩⟩
  · cases e
    cases rp.int_inv; cases rq.int_inv
    have d : ∀ a b : Int, decide (V.int a = V.int b) = decide (a = b) := fun a b => by by_cases h : a = b <;> simp [h]
    exact ⟨fun q => op_eq pins s σ H _ _ v u Q I rx ry ⟨rfl, by rw [d]; exact q⟩, fun q => op_ne pins s σ H _ _ v u Q I rx ry ⟨rfl, by rw [d]; exact q⟩⟩
  · rename_i xs
    cases e
    obtain ⟨a, vs, rfl, h1, r1⟩ := rp.lst_inv
    obtain ⟨a', ws, rfl, h2, r2⟩ := rq.lst_inv
    cases r2
    cases rx; cases ry
    obtain ⟨its, rv, pl, hz⟩ := I.list (xs := vs) (.inl h1)
    obtain ⟨its2, rv2, pl2, hz2⟩ := I.list (xs := []) (.inl h2)
    cases rv2
    cases r1 with
    | nil =>
      cases rv
      exact ⟨fun q => SeqAt.RcAt.lists (e := fun _ => true) pl.isList pl2.isList rfl (by omega) (fun j h1 => absurd h1 (by simp)) _ _ _ _ ⟨.bl true, H, I, rfl, q⟩,
        fun q => SeqAt.RcNeAt.lists (e := fun _ => true) pl.isList pl2.isList rfl (by omega) (fun j h1 => absurd h1 (by simp)) _ _ _ _ ⟨.bl false, H, I, rfl, q⟩⟩
    | cons r1 r1' =>
      cases rv with
      | cons z zs =>
        exact ⟨fun q => SeqAt.RcAt.lists_lengths pl.isList pl2.isList (by simp) (by omega) _ _ _ _ ⟨.bl false, H, I, rfl, q⟩,
          fun q => SeqAt.RcNeAt.lists_lengths pl.isList pl2.isList (by simp) (by omega) _ _ _ _ ⟨.bl true, H, I, rfl, q⟩⟩
  · rename_i xs
    cases e
    obtain ⟨a, vs, rfl, h1, r1⟩ := rp.tup_inv
    obtain ⟨a', ws, rfl, h2, r2⟩ := rq.tup_inv
    cases r2
    cases rx; cases ry
    obtain ⟨its, rv, pl, hz⟩ := I.tuple h1
    obtain ⟨its2, rv2, pl2, hz2⟩ := I.tuple h2
    cases rv2
    have hm : ∀ j, j < (([] : List Value).toArray).size → False := fun j h => by simp at h
    refine ⟨fun q => SeqAt.RcAt.tuples (e := fun _ => true) (show s.heap.IsTuple a its.toArray from pl) (show s.heap.IsTuple a' ([] : List Value).toArray from pl2) (by omega) (fun j _ h2 => (hm j h2).elim) _ _ _ _ ?_,
      fun q => SeqAt.RcNeAt.tuples (e := fun _ => true) (show s.heap.IsTuple a its.toArray from pl) (show s.heap.IsTuple a' ([] : List Value).toArray from pl2) (by omega) (fun j _ h2 => (hm j h2).elim) _ _ _ _ ?_⟩
    · cases r1 with
      | nil => cases rv; exact ⟨.bl true, H, I, rfl, q⟩
      | cons r1 r1' => cases rv with | cons z zs => exact ⟨.bl false, H, I, by simp [RelV], q⟩
    · cases r1 with
      | nil => cases rv; exact ⟨.bl false, H, I, rfl, q⟩
      | cons r1 r1' => cases rv with | cons z zs => exact ⟨.bl true, H, I, by simp [RelV], q⟩
  · split at e
    · rename_i hc
      cases e
      simp only [Bool.and_eq_true, decide_eq_true_eq] at hc
      obtain ⟨⟨c1, c2⟩, c3⟩ := hc
      obtain ⟨as, ra⟩ := Dp.reads I _ _ _ (rp.dp c1) rx
      obtain ⟨bs, rb⟩ := Dp.reads I _ _ _ (rq.dp c2) ry
      exact ⟨fun q => SeqAt.compareEq_reads ra rb c1 c2 (by omega) ⟨.bl _, H, I, rfl, q⟩, fun q => SeqAt.compareNe_reads ra rb c1 c2 (by omega) ⟨.bl _, H, I, rfl, q⟩⟩
    · cases e
def rCmp (K : PySem.W.Frag) (mg : Mg) (op : CmpOp) : R2 := fun x y H Q => ∃ ρ A u v b, RepH ρ K mg H A ∧ RepU ρ K mg H u x ∧ RepU ρ K mg H v y ∧ cmpO A op u v = some b ∧ Q (.bl b) H
theorem flat_rep {ρ : Ow} {K : PySem.W.Frag} {H : Hp} {p : PyData} {v : V} (r : RepP ρ K H p v) (f : flatP p = true) : flatV v = true := by
  cases r <;> first | rfl | simp [flatP] at f
theorem flats_rep {ρ : Ow} {K : PySem.W.Frag} {H : Hp} : ∀ {ps : List PyData} {vs : List V}, RepPs ρ K H ps vs → ps.all flatP = true → vs.all flatV = true
  | _, _, .nil, _ => rfl
  | _, _, .cons h r, f => by
    simp only [List.all_cons, Bool.and_eq_true] at f ⊢
    exact ⟨flat_rep h f.1, flats_rep r f.2⟩
theorem eqV_rep {ρ : Ow} {K : PySem.W.Frag} {H : Hp} {p q : PyData} {v w : V} (r : RepP ρ K H p v) (r' : RepP ρ K H q w) (f : flatP p = true) (f' : flatP q = true) : eqV v w = PyData.eqv p q := by
  cases r <;> cases r' <;> first | rfl | simp [flatP] at f | simp [flatP] at f' | simp [eqV, PyData.eqv]
theorem inV_rep {ρ : Ow} {K : PySem.W.Frag} {H : Hp} {p : PyData} {v : V} (r : RepP ρ K H p v) (f : flatP p = true) : ∀ {ps : List PyData} {vs : List V}, RepPs ρ K H ps vs → ps.all flatP = true → inV v vs = ps.any fun q => PyData.eqv q p
  | _, _, .nil, _ => rfl
  | _, _, .cons h r', g => by
    simp only [List.all_cons, Bool.and_eq_true] at g
    have ih := inV_rep r f r' g.2
    unfold inV at ih ⊢
    rw [List.any_cons, List.any_cons, ih, eqV_rep h r g.1 f]
theorem asKey_rep {ρ : Ow} {K : PySem.W.Frag} {H : Hp} {p : PyData} {v : V} {k : Key} (r : RepP ρ K H p v) (e : asKey p = some k) : v = kV k := by
  cases r <;> simp only [asKey] at e <;> first | (cases e; rfl) | cases e
theorem valK_rep {κ : Type} [DecidableEq κ] {ρ : Ow} {K : PySem.W.Frag} {mg : Mg} {H : Hp} (k : κ) : ∀ {kvs : List (κ × U)} {kws : List (κ × V)}, RepA ρ K mg H kvs kws → (valK kvs k = none ∧ valV kws k = none) ∨ ∃ u v, valK kvs k = some u ∧ valV kws k = some v ∧ RepU ρ K mg H u v
  | _, _, .nil => .inl ⟨rfl, rfl⟩
  | _, _, .cons (k := k') (u := u) (v := v) (r := r) (r' := r') h t _ => by
    by_cases e : k' = k
    · exact .inr ⟨u, v, by simp [valK, List.find?_cons, e], by simp [valV, List.find?_cons, e], h⟩
    · have a : valK ((k', u) :: r) k = valK r k := by simp [valK, List.find?_cons, e]
      have b : valV ((k', v) :: r') k = valV r' k := by simp [valV, List.find?_cons, e]
      rw [a, b]
      exact valK_rep k t
/-- what a dict of ours holds -/
theorem dkAt_rep {ρ : Ow} {K : PySem.W.Frag} {mg : Mg} {H : Hp} {A : Hs} {n : Nat} {p : PyData} {v : V} {a : Addr} {z : Option U} (hH : RepH ρ K mg H A) (hn : ρ.ix[n]? = some a) (r : RepP ρ K H p v) (e : dkAt A n p = some z) :
    ∃ o, DGet H a v o ∧ ((z = none ∧ o = none) ∨ ∃ u w, z = some u ∧ o = some w ∧ RepU ρ K mg H u w) := by
  unfold dkAt at e
  split at e
  rotate_left
  · cases e
  rename_i kvs ea
  obtain ⟨k, ek, rfl⟩ := Option.map_eq_some_iff.mp e
  obtain ⟨ho, h1, h2⟩ := hH.at_ _ _ _ ea hn
  cases h2 with
  | dK h2 =>
    rename_i kws
    have ev := asKey_rep r ek
    subst ev
    refine ⟨_, DGet.k h1, ?_⟩
    rcases valK_rep k h2 with ⟨a1, a2⟩ | ⟨u, w, a1, a2, a3⟩
    · exact .inl ⟨a1, a2⟩
    · exact .inr ⟨u, w, a1, a2, a3⟩
theorem isN_rep {ρ : Ow} {K : PySem.W.Frag} {mg : Mg} {H : Hp} {u v : U} {x y : V} {b : Bool} (e : isNO u v = some b) (ru : RepU ρ K mg H u x) (rv : RepU ρ K mg H v y) : y = .non ∧ decide (x = .non) = b := by
  unfold isNO at e
  split at e
  · cases e
    exact ⟨rv.none_inv, by rw [ru.none_inv]; rfl⟩
  · rename_i hn
    cases e
    refine ⟨rv.none_inv, ?_⟩
    cases ru with
    | d r => cases r <;> first | rfl | exact (hn rfl).elim
    | _ => rfl
  · cases e
theorem op_inO (hu : X.A.units + 64 < cLine) {neg : Bool} {ρ : Ow} {A : Hs} {a c : U} {b : Bool} {pins : List (Addr × Obj)} {s : Shared} {σ : L2.St} {H : Hp} {x y : V} {v u : Value} {Q : VK} (I : Inv X pins σ H s) (rx : RelV x v) (ry : RelV y u) (hH : RepH ρ X.K mg H A)
    (ra : RepU ρ X.K mg H a x) (rc : RepU ρ X.K mg H c y) (e : inO A a c = some b) : (Q (.bl b) H → wpAny (model X.prog X.w) X.A (compareOp .In v u) (EP X pins σ Q) X.xe s) ∧ (Q (.bl (!b)) H → wpAny (model X.prog X.w) X.A (compareOp .NotIn v u) (EP X pins σ Q) X.xe s) := by
  have seqCase : ∀ {ps : List PyData} {xs : List V} {p : PyData} {q : Addr}, RepP ρ X.K H p x → RepPs ρ X.K H ps xs → y = .ref q → (SqL X.K H q xs ∨ SqT X.K H q xs) → (if (flatP p && ps.all flatP) = true then some (ps.any fun q => PyData.eqv q p) else none) = some b →
      (Q (.bl b) H → wpAny (model X.prog X.w) X.A (compareOp .In v u) (EP X pins σ Q) X.xe s) ∧ (Q (.bl (!b)) H → wpAny (model X.prog X.w) X.A (compareOp .NotIn v u) (EP X pins σ Q) X.xe s) := fun {ps xs p q} rp rps ey hs e => by
    split at e
    · rename_i hf
      cases e
      rw [Bool.and_eq_true] at hf
      subst ey
      have ein := inV_rep rp hf.1 rps hf.2
      refine ⟨fun k => op_in_seq pins s σ H _ _ v u Q I rx ry ⟨q, xs, rfl, hs, flat_rep rp hf.1, flats_rep rps hf.2, ?_⟩, fun k => op_notIn_seq pins s σ H _ _ v u Q I rx ry ⟨q, xs, rfl, hs, flat_rep rp hf.1, flats_rep rps hf.2, ?_⟩⟩
      · simp only [Bool.false_eq_true, if_false]; rw [ein]; exact k
      · simp only [if_true]; rw [ein]; exact k
    · cases e
  unfold inO at e
  split at e
  · rename_i x1 x2
    cases ra.str_inv; cases rc.str_inv
    split at e
    · rename_i c hc
      cases e
      have ex : x1 = ⟨#[c]⟩ := by
        obtain ⟨⟨l⟩⟩ := x1
        have hc' : l = [c] := hc
        rw [hc']
      exact ⟨fun k => op_in_sign pins s σ H _ _ v u Q I rx ry ⟨c, x2, by rw [ex], rfl, k⟩, fun k => op_notIn_sign pins s σ H _ _ v u Q I rx ry ⟨c, x2, by rw [ex], rfl, k⟩⟩
    · cases e
      exact ⟨fun k => op_in_str pins s σ H _ _ v u Q I rx ry ⟨_, _, rfl, rfl, k⟩, fun k => op_notin_str pins s σ H _ _ v u Q I rx ry ⟨_, _, rfl, rfl, k⟩⟩
  · rename_i p c hns
    cases ra with
    | d rp =>
      split at e
      · rename_i n
        cases rc with
        | obj hn =>
          rename_i q
          split at e
          · rename_i ps ea
            obtain ⟨ho, h1, h2⟩ := hH.at_ _ _ _ ea hn
            cases h2 with
            | lst h2 => exact seqCase rp h2 rfl (.inl (SqL.of h1)) e
          · obtain ⟨z, ez, rfl⟩ := Option.map_eq_some_iff.mp e
            obtain ⟨o, g, hz⟩ := dkAt_rep hH hn rp ez
            have eo : o.isSome = z.isSome := by
              rcases hz with ⟨a1, a2⟩ | ⟨_, _, a1, a2, _⟩ <;> rw [a1, a2] <;> rfl
            obtain rfl : u = Value.ref q := ry
            exact ⟨fun k => d_in (by omega) I g rx fun s3 I3 => ⟨.bl _, H, I3, rfl, by rw [eo]; exact k⟩, fun k => d_notIn (by omega) I g rx fun s3 I3 => ⟨.bl _, H, I3, rfl, by rw [eo]; exact k⟩⟩
      · obtain ⟨q, xs, rfl, h1, h2⟩ := lstOf_rep (u := .d (.list _)) (A := A) rfl rc hH
        exact seqCase rp h2 rfl (.inl (.inl h1)) e
      · obtain ⟨q, xs, rfl, h1, h2⟩ := rc.tup_inv
        exact seqCase rp h2 rfl (.inr h1) e
      · cases e
  · cases e
theorem op_cmp (hu : X.A.units + 64 < cLine) (op : CmpOp) : OpR X (compareOp op) (rCmp X.K mg op) := by
  intro pins s σ H x y v' u' Q I rx ry h
  obtain ⟨ρ, A, u, v, b, hH, ru, rv, e, k⟩ := h
  cases op with
  | Eq =>
    have e : eqO A u v = some b := e
    unfold eqO at e
    split at e
    · rename_i p q e1 e2
      exact (eq_dat hu I rx ry e (datOf_rep e1 ru hH) (datOf_rep e2 rv hH)).1 k
    · cases e
  | NotEq =>
    obtain ⟨b', e', rfl⟩ := Option.map_eq_some_iff.mp (show (eqO A u v).map (!·) = some b from e)
    unfold eqO at e'
    split at e'
    · rename_i p q e1 e2
      exact (eq_dat hu I rx ry e' (datOf_rep e1 ru hH) (datOf_rep e2 rv hH)).2 k
    · cases e'
  | Lt =>
    have e : ltO u v = some b := e
    unfold ltO at e
    split at e
    · cases e
      cases ru.int_inv; cases rv.int_inv
      exact op_lt pins s σ H _ _ v' u' Q I rx ry ⟨_, _, rfl, rfl, k⟩
    · cases e
      cases ru.str_inv; cases rv.str_inv
      exact op_lt_str pins s σ H _ _ v' u' Q I rx ry ⟨_, _, rfl, rfl, k⟩
    · cases e
  | LtE =>
    have e : leO u v = some b := e
    unfold leO at e
    split at e
    · cases e
      cases ru.int_inv; cases rv.int_inv
      exact op_le pins s σ H _ _ v' u' Q I rx ry ⟨_, _, rfl, rfl, k⟩
    · cases e
      cases ru.str_inv; cases rv.str_inv
      exact op_le_str pins s σ H _ _ v' u' Q I rx ry ⟨_, _, rfl, rfl, k⟩
    · cases e
  | Gt =>
    have e : ltO v u = some b := e
    unfold ltO at e
    split at e
    · cases e
      cases ru.int_inv; cases rv.int_inv
      exact op_gt pins s σ H _ _ v' u' Q I rx ry ⟨_, _, rfl, rfl, k⟩
    · cases e
      cases ru.str_inv; cases rv.str_inv
      exact op_gt_str pins s σ H _ _ v' u' Q I rx ry ⟨_, _, rfl, rfl, k⟩
    · cases e
  | GtE =>
    have e : leO v u = some b := e
    unfold leO at e
    split at e
    · cases e
      cases ru.int_inv; cases rv.int_inv
      exact op_ge pins s σ H _ _ v' u' Q I rx ry ⟨_, _, rfl, rfl, k⟩
    · cases e
      cases ru.str_inv; cases rv.str_inv
      exact op_ge_str pins s σ H _ _ v' u' Q I rx ry ⟨_, _, rfl, rfl, k⟩
    · cases e
  | In => exact (op_inO hu (neg := false) I rx ry hH ru rv e).1 k
  | NotIn =>
    obtain ⟨b', e', rfl⟩ := Option.map_eq_some_iff.mp (show (inO A u v).map (!·) = some b from e)
    exact (op_inO hu (neg := true) I rx ry hH ru rv e').2 k
  | Is =>
    obtain ⟨e1, e2⟩ := isN_rep (show isNO u v = some b from e) ru rv
    exact op_isN pins s σ H _ _ v' u' Q I rx ry ⟨e1, by rw [e2]; exact k⟩
  | IsNot =>
    obtain ⟨b', e', rfl⟩ := Option.map_eq_some_iff.mp (show (isNO u v).map (!·) = some b from e)
    obtain ⟨e1, e2⟩ := isN_rep e' ru rv
    exact op_notN pins s σ H _ _ v' u' Q I rx ry ⟨e1, by rw [e2]; exact k⟩
end
end Mi
set_option Elab.async false
set_option linter.all false
set_option maxRecDepth 100000
set_option maxHeartbeats 1000000
/-! MiG: items, parts, built-ins, methods, isinstance. -/
namespace Mi
open PySem L2
section
variable {ρ : Ow} {K : PySem.W.Frag} {mg : Mg} {H : Hp} {A : Hs}
theorem RepPs.atI {ps : List PyData} {xs : List V} {i : Int} {p : PyData} (r : RepPs ρ K H ps xs) (e : atI ps i = some p) : ∃ v, L2.atI xs i = some v ∧ RepP ρ K H p v := by
  unfold L2.atI at e ⊢
  rw [← r.length]
  cases q : ixN ps.length i with
  | none => rw [q] at e; cases e
  | some j =>
    rw [q] at e
    exact r.get e
theorem RepPs.cut {ps : List PyData} {xs : List V} (r : RepPs ρ K H ps xs) (lo hi : Option Int) : RepPs ρ K H (Mi.cut ps lo hi) (cutV xs lo hi) := by
  unfold Mi.cut cutV
  rw [← r.length]
  exact (r.drop _).take _
end
section
variable {X : Cx} {mg : Mg}
def rIxO (K : PySem.W.Frag) (mg : Mg) : R2 := fun x y H Q => ∃ ρ A u v w, RepH ρ K mg H A ∧ RepU ρ K mg H u x ∧ RepU ρ K mg H v y ∧ ixO A u v = some w ∧ ∀ z, RepU ρ K mg H w z → Q z H
theorem ix_dict (hu : X.A.units + 1 < cLine) : IxR X (fun x y H Q => ∃ a v, x = .ref a ∧ DGet H a y (some v) ∧ Q v H) := by
  intro value slice pins s σ H x y v u Q I rx ry h hs
  obtain ⟨a, z, rfl, g, q⟩ := h
  obtain rfl : v = Value.ref a := rx
  exact PyProof.Rows.tail_any (dict_typeIs I g) PySem.F.slot_dict_getitem.lookup (d_getItem hu I g ry fun w' s3 I3 rw' => ⟨z, H, I3, rw', q⟩) hs
theorem ix_o (hu : X.A.units + 64 < cLine) : IxR X (rIxO X.K mg) := by
  intro value slice pins s σ H x y v' u' Q I rx ry h hs
  obtain ⟨ρ, A, u, v, w, hH, ru, rv, e, k⟩ := h
  unfold ixO at e
  split at e
  · split at e
    · rename_i hz
      obtain ⟨c, ec, rfl⟩ := Option.map_eq_some_iff.mp e
      cases ru.str_inv; cases rv.int_inv
      exact ix_str value slice pins s σ H _ _ v' u' Q I rx ry ⟨_, _, c, rfl, rfl, hz, ec, k _ (.d (.str _))⟩ hs
    · cases e
  · obtain ⟨p, ep, rfl⟩ := Option.map_eq_some_iff.mp e
    obtain ⟨a, xs, rfl, h1, r1⟩ := ru.tup_inv
    cases rv.int_inv
    obtain ⟨z, ez, rz⟩ := r1.atI ep
    exact ix_tup value slice pins s σ H _ _ v' u' Q I rx ry ⟨a, xs, _, z, rfl, rfl, h1, ez, k _ (.d rz)⟩ hs
  · obtain ⟨p, ep, rfl⟩ := Option.map_eq_some_iff.mp e
    obtain ⟨a, xs, rfl, h1, r1⟩ := lstOf_rep (u := .d (.list _)) (A := A) rfl ru hH
    cases rv.int_inv
    obtain ⟨z, ez, rz⟩ := r1.atI ep
    exact ix_list value slice pins s σ H _ _ v' u' Q I rx ry ⟨a, xs, _, z, rfl, rfl, .inl h1, ez, k _ (.d rz)⟩ hs
  · rename_i n p
    cases rv with
    | d rp =>
      split at e
      · rename_i ps ea
        split at e
        · obtain ⟨p, ep, rfl⟩ := Option.map_eq_some_iff.mp e
          obtain ⟨a, xs, rfl, h1, r1⟩ := lstOf_rep (u := .obj n) (A := A) (ps := ps) (by simp [lstOf, ea]) ru hH
          cases rp
          obtain ⟨z, ez, rz⟩ := r1.atI ep
          exact ix_list value slice pins s σ H _ _ v' u' Q I rx ry ⟨a, xs, _, z, rfl, rfl, .inl h1, ez, k _ (.d rz)⟩ hs
        · cases e
      · cases ru with
        | obj hn =>
          obtain ⟨z, ez, e2⟩ := Option.bind_eq_some_iff.mp e
          have e2 : z = some w := e2
          subst e2
          obtain ⟨o, g, hz⟩ := dkAt_rep hH hn rp ez
          rcases hz with ⟨a1, _⟩ | ⟨u1, w1, a1, a2, a3⟩
          · cases a1
          · cases a1
            subst a2
            exact ix_dict (by omega) value slice pins s σ H _ _ v' u' Q I rx ry ⟨_, w1, rfl, g, k _ a3⟩ hs
  · cases e
def rSlO (K : PySem.W.Frag) (mg : Mg) : V → Option Int → Option Int → Hp → VK → Prop := fun x lo hi H Q => ∃ ρ A u r, RepH ρ K mg H A ∧ RepU ρ K mg H u x ∧ slO A u lo hi = some r ∧ ∀ ρ' H' w, Step ρ ρ' H H' → RepH ρ' K mg H' A → RepR ρ H ρ' K mg A H' r w → Q w H'
theorem cut_whole {α : Type} (xs : List α) (lo hi : Option Int) (h1 : HT.sIx xs.length 0 lo = 0) (h2 : HT.sIx xs.length xs.length hi = xs.length) : cut xs lo hi = xs := by
  unfold cut
  rw [h1, h2]
  simp
theorem cutS_eq (x : Str) (lo hi : Option Int) : cutS x lo hi = ⟨(Mi.cut x.cps.toList lo hi).toArray⟩ := by
  unfold cutS Mi.cut
  rw [Array.length_toList]
  rfl
theorem sl_o : SlR X (rSlO X.K mg) := by
  intro pins s σ H x v vl vu lo hi sl Q I rx hs pl pu h
  obtain ⟨ρ, A, u, r, hH, ru, e, k⟩ := h
  unfold slO at e
  split at e
  · rename_i ps
    cases e
    obtain ⟨a, xs, rfl, h1, r1⟩ := ru.tup_inv
    refine sl_tupA pins s σ H _ v vl vu lo hi sl Q I rx hs pl pu ⟨a, xs, rfl, h1, fun hw => ?_, fun hw p hp => ?_⟩
    · rw [← r1.length] at hw
      rw [cut_whole ps lo hi hw.1 hw.2] at k
      exact k ρ H _ Step.refl hH (.val (.d (.tup h1 r1)))
    · have st : Step ρ ρ H (upd H p (.tup (cutV xs lo hi))) := hH.stp hp
      exact k ρ _ _ st (hH.new hp) (.val (.d (.tup (SqT.of upd_same) ((r1.mono st).cut lo hi))))
  · split at e
    · rename_i hz
      cases e
      cases ru.str_inv
      exact sl_str pins s σ H _ v vl vu lo hi sl Q I rx hs pl pu ⟨_, rfl, hz, by
        rw [cutS_eq]
        exact k ρ H _ Step.refl hH (.val (.d (.str _)))⟩
    · cases e
  · obtain ⟨ps, ep, rfl⟩ := Option.map_eq_some_iff.mp e
    obtain ⟨a, xs, rfl, h1, r1⟩ := lstOf_rep ep ru hH
    refine sl_list pins s σ H _ v vl vu lo hi sl Q I rx hs pl pu ⟨a, xs, rfl, .inl h1, fun p hp => ?_⟩
    have st : Step ρ ρ H (upd H p (.lst (cutV xs lo hi))) := hH.stp hp
    exact k ρ _ _ st (hH.new hp) (.new Step.refl hp rfl hH (.lst (r1.cut lo hi)))
/-! ### built-ins -/
theorem intsP_rep {ρ : Ow} {K : PySem.W.Frag} {H : Hp} : ∀ {ps : List PyData} {xs : List V} {ns : List Int}, intsP ps = some ns → RepPs ρ K H ps xs → xs = ns.map V.int
  | [], _, ns, e, r => by
    cases r
    have : ns = [] := by simpa [intsP] using e.symm
    subst this; rfl
  | p :: ps, _, ns, e, r => by
    cases r with
    | cons a b =>
      cases p with
      | int i =>
        unfold intsP at e
        obtain ⟨m, em, rfl⟩ := Option.map_eq_some_iff.mp e
        cases a
        rw [intsP_rep em b]; rfl
      | _ => simp [intsP] at e
theorem boolsP_rep {ρ : Ow} {K : PySem.W.Frag} {H : Hp} : ∀ {ps : List PyData} {xs : List V} {ns : List Bool}, boolsP ps = some ns → RepPs ρ K H ps xs → xs = ns.map V.bl
  | [], _, ns, e, r => by
    cases r
    have : ns = [] := by simpa [boolsP] using e.symm
    subst this; rfl
  | p :: ps, _, ns, e, r => by
    cases r with
    | cons a b =>
      cases p with
      | bool i =>
        unfold boolsP at e
        obtain ⟨m, em, rfl⟩ := Option.map_eq_some_iff.mp e
        cases a
        rw [boolsP_rep em b]; rfl
      | _ => simp [boolsP] at e
theorem textsP_rep {ρ : Ow} {K : PySem.W.Frag} {H : Hp} : ∀ {ps : List PyData} {xs : List V} {ns : List Str}, textsP ps = some ns → RepPs ρ K H ps xs → xs = ns.map V.str
  | [], _, ns, e, r => by
    cases r
    have : ns = [] := by simpa [textsP] using e.symm
    subst this; rfl
  | p :: ps, _, ns, e, r => by
    cases r with
    | cons a b =>
      cases p with
      | str i =>
        unfold textsP at e
        obtain ⟨m, em, rfl⟩ := Option.map_eq_some_iff.mp e
        cases a
        rw [textsP_rep em b]; rfl
      | _ => simp [textsP] at e
theorem textsP_len {ps : List PyData} {ns : List Str} (e : textsP ps = some ns) : ps = ns.map PyData.str := by
  induction ps generalizing ns with
  | nil => have : ns = [] := by simpa [textsP] using e.symm
           subst this; rfl
  | cons p ps ih =>
    cases p with
    | str i =>
      unfold textsP at e
      obtain ⟨m, em, rfl⟩ := Option.map_eq_some_iff.mp e
      rw [ih em]; rfl
    | _ => simp [textsP] at e
theorem repTexts {ρ : Ow} {K : PySem.W.Frag} {H : Hp} : ∀ xs : List Str, RepPs ρ K H (xs.map PyData.str) (xs.map V.str)
  | [] => .nil
  | x :: xs => .cons (.str x) (repTexts xs)
theorem maxI_mem : ∀ {ns : List Int} {m : Int}, maxI ns = some m → m ∈ ns ∧ ∀ y ∈ ns, y ≤ m
  | [], m, e => by cases e
  | [a], m, e => by cases e; simp
  | a :: b :: r, m, e => by
    unfold maxI at e
    obtain ⟨c, ec, rfl⟩ := Option.map_eq_some_iff.mp e
    obtain ⟨h1, h2⟩ := maxI_mem ec
    split
    · rename_i hc
      exact ⟨List.mem_cons_of_mem _ h1, fun y hy => by
        rcases List.mem_cons.mp hy with rfl | hy
        · omega
        · exact h2 y hy⟩
    · rename_i hc
      exact ⟨List.mem_cons_self .., fun y hy => by
        rcases List.mem_cons.mp hy with rfl | hy
        · omega
        · have := h2 y hy; omega⟩
theorem minI_mem : ∀ {ns : List Int} {m : Int}, minI ns = some m → m ∈ ns ∧ ∀ y ∈ ns, m ≤ y
  | [], m, e => by cases e
  | [a], m, e => by cases e; simp
  | a :: b :: r, m, e => by
    unfold minI at e
    obtain ⟨c, ec, rfl⟩ := Option.map_eq_some_iff.mp e
    obtain ⟨h1, h2⟩ := minI_mem ec
    split
    · rename_i hc
      exact ⟨List.mem_cons_of_mem _ h1, fun y hy => by
        rcases List.mem_cons.mp hy with rfl | hy
        · omega
        · exact h2 y hy⟩
    · rename_i hc
      exact ⟨List.mem_cons_self .., fun y hy => by
        rcases List.mem_cons.mp hy with rfl | hy
        · omega
        · have := h2 y hy; omega⟩
end
end Mi
set_option Elab.async false
set_option linter.all false
set_option maxRecDepth 100000
set_option maxHeartbeats 1000000
/-! MiH: calls of built-ins. -/
namespace Mi
open PySem L2
/-! ### the one sorted list -/
theorem leT_iff (a b : Str) : leT a b = true ↔ a.cps.toList ≤ b.cps.toList := by
  unfold leT
  rw [Bool.not_eq_true', decide_eq_false_iff_not]
  exact Iff.rfl
theorem leT_trans (a b c : Str) (h1 : leT a b = true) (h2 : leT b c = true) : leT a c = true := by
  rw [leT_iff] at *
  exact List.le_trans h1 h2
theorem leT_total (a b : Str) : (leT a b || leT b a) = true := by
  rw [Bool.or_eq_true, leT_iff, leT_iff]
  exact List.le_total _ _
theorem leT_antisymm (a b : Str) (h1 : leT a b = true) (h2 : leT b a = true) : a = b := by
  rw [leT_iff] at *
  have h := List.le_antisymm h1 h2
  cases a; cases b
  simp only [Str.mk.injEq]
  exact Array.toList_inj.mp h
theorem rising_pair : ∀ (l : List Str) (x : Str), PyProof.Rows.risingS x l = true → (x :: l).Pairwise (fun a b => leT a b = true)
  | [], x, _ => by simp
  | y :: l, x, h => by
    simp only [PyProof.Rows.risingS, Bool.and_eq_true] at h
    have h1 : leT x y = true := by unfold leT; rw [← PyProof.Rows.ltCps_eq]; exact h.1
    have ih := rising_pair l y h.2
    refine List.pairwise_cons.mpr ⟨fun z hz => ?_, ih⟩
    rcases List.mem_cons.mp hz with rfl | hz
    · exact h1
    · exact leT_trans _ _ _ h1 ((List.pairwise_cons.mp ih).1 z hz)
theorem sortedS_pair (l : List Str) (h : PyProof.Rows.sortedS l = true) : l.Pairwise (fun a b => leT a b = true) := by
  cases l with
  | nil => exact .nil
  | cons x l => exact rising_pair l x h
theorem sortT_one {xs ys : List Str} (hp : ys.Perm xs) (hs : PyProof.Rows.sortedS ys = true) : ys = sortT xs := by
  unfold sortT
  refine List.Perm.eq_of_pairwise (le := fun a b => leT a b = true) (fun a b _ _ h1 h2 => leT_antisymm a b h1 h2) (sortedS_pair ys hs) ?_ (hp.trans (List.mergeSort_perm xs leT).symm)
  exact List.pairwise_mergeSort leT_trans leT_total xs
section
variable {ρ : Ow} {K : PySem.W.Frag} {mg : Mg} {H : Hp} {A : Hs}
theorem RepUs.one {u : U} {vs : List V} (h : RepUs ρ K mg H [u] vs) : ∃ v, vs = [v] ∧ RepU ρ K mg H u v := by
  cases h with | cons a b => cases b; exact ⟨_, rfl, a⟩
theorem RepUs.two {u u' : U} {vs : List V} (h : RepUs ρ K mg H [u, u'] vs) : ∃ v v', vs = [v, v'] ∧ RepU ρ K mg H u v ∧ RepU ρ K mg H u' v' := by
  cases h with | cons a b => cases b with | cons c d => cases d; exact ⟨_, _, rfl, a, c⟩
theorem asKeys_keys {kvs : List (PyData × PyData)} {kws : List (Key × V)} (r : RepKs ρ K H kvs kws) : asKeys (kvs.map (·.1)) = some (kws.map (·.1)) := by
  induction kvs generalizing kws with
  | nil => cases r; rfl
  | cons kv kvs ih =>
    cases r with
    | cons a b =>
      rename_i k p v r'
      have h1 : asKey (keyP k) = some k := by cases k <;> rfl
      show (match asKey (keyP k), asKeys (kvs.map (·.1)) with
        | some k, some ks => some (k :: ks)
        | _, _ => none) = _
      rw [h1, ih b]
      rfl
theorem asKeys_tup {kvs : List (PyData × PyData)} {kws : List (List Key × V)} (r : RepTs ρ K H kvs kws) {ks : List Key} (e : asKeys (kvs.map (·.1)) = some ks) : kvs = [] ∧ ks = [] ∧ kws = [] := by
  cases r with
  | nil => exact ⟨rfl, by simpa [asKeys] using e.symm, rfl⟩
  | cons a b => simp [asKeys, asKey] at e
theorem keysOf_rep {u : U} {v : V} {ks : List Key} (e : keysOf A u = some ks) (r : RepU ρ K mg H u v) (hH : RepH ρ K mg H A) : ∃ (a : Addr) (kvs : List (Key × V)), v = .ref a ∧ H a = some (.dK kvs) ∧ kvs.map (·.1) = ks := by
  unfold keysOf at e
  split at e
  · cases r with
    | obj hn =>
      split at e
      · rename_i kvs ea
        cases e
        obtain ⟨ho, h1, h2⟩ := hH.at_ _ _ _ ea hn
        cases h2 with
        | dK h2 =>
          refine ⟨_, _, rfl, h1, ?_⟩
          clear ea h1
          induction h2 with
          | nil => rfl
          | cons a b c ih => simp [ih]
      · cases e
  · cases r with
    | d r =>
      cases r with
      | dcK h n r =>
        rw [asKeys_keys r] at e
        cases e
        exact ⟨_, _, rfl, h, rfl⟩
      | dcT h n z r => exact absurd (asKeys_tup r e).2.2 z
  · cases e
end
section
variable {X : Cx} {mg : Mg}
def rBi (K : PySem.W.Frag) (mg : Mg) (f : String) : List V → Hp → VK → Prop := fun xs H Q => ∃ ρ A us r, RepH ρ K mg H A ∧ RepUs ρ K mg H us xs ∧ biO A f us = some r ∧ ∀ ρ' H' w, Step ρ ρ' H H' → RepH ρ' K mg H' A → RepR ρ H ρ' K mg A H' r w → Q w H'
theorem keyStrs {ks : List Key} {xs : List Str} (e : textsP (ks.map keyP) = some xs) : ks = xs.map Sum.inr := by
  have h := textsP_len e
  induction ks generalizing xs with
  | nil => cases xs with
    | nil => rfl
    | cons x xs => simp at h
  | cons k ks ih =>
    cases xs with
    | nil => simp at h
    | cons x xs =>
      simp only [List.map_cons, List.cons.injEq] at h
      cases k with
      | inl i => simp [keyP] at h
      | inr y =>
        simp only [keyP, PyData.str.injEq] at h
        have e' : textsP (ks.map keyP) = some xs := by
          rw [List.map_cons] at e
          unfold textsP at e
          simp only [keyP] at e
          obtain ⟨m, em, e2⟩ := Option.map_eq_some_iff.mp e
          simp only [List.cons.injEq] at e2
          rw [em, e2.2]
        rw [List.map_cons, ih e' h.2, h.1]
theorem bi_sorted (hc : X.calm = true) : CallR X (.builtin "sorted") (rBi X.K mg "sorted") := by
  intro pins s σ H xs us' Q I r h
  obtain ⟨ρ, A, us, r', hH, hus, e, k⟩ := h
  have e : biSorted A us = some r' := e
  unfold biSorted at e
  split at e
  rotate_left
  · cases e
  rename_i u
  obtain ⟨v, rfl, rv⟩ := hus.one
  have fin : ∀ (zs ys : List Str) (p : Addr), ys.Perm zs → PyProof.Rows.sortedS ys = true → H p = none → (∀ ρ' H' w, Step ρ ρ' H H' → RepH ρ' X.K mg H' A → RepR ρ H ρ' X.K mg A H' (.new (.lst ((sortT zs).map .str))) w → Q w H') → Q (.ref p) (upd H p (.lst (ys.map V.str))) := fun zs ys p hp hs hn k => by
    have e := sortT_one hp hs
    subst e
    exact k ρ _ _ (hH.stp hn) (hH.new hn) (.new Step.refl hn rfl hH (.lst (repTexts _)))
  split at e
  · rename_i ks ek
    obtain ⟨a, kvs, rfl, h1, h2⟩ := keysOf_rep ek rv hH
    obtain ⟨zs, ez, e2⟩ := Option.bind_eq_some_iff.mp e
    split at e2
    · rename_i hl
      cases e2
      have ek2 := keyStrs ez
      exact call_sortedD hc pins s σ H _ us' Q I r ⟨a, kvs, zs, rfl, .inl h1, h2.trans ek2, hl, fun ys p hp hs hn => fin zs ys p hp hs hn k⟩
    · cases e2
  · obtain ⟨ps, ep, e2⟩ := Option.bind_eq_some_iff.mp e
    obtain ⟨zs, ez, e3⟩ := Option.bind_eq_some_iff.mp e2
    split at e3
    · rename_i hl
      cases e3
      obtain ⟨a, xs, rfl, h1, r1⟩ := lstOf_rep ep rv hH
      have ex := textsP_rep ez r1
      subst ex
      exact cr_sortedS pins s σ H _ us' Q I r ⟨a, zs, rfl, .inl h1, hl, fun ys p hp hs hn => fin zs ys p hp hs hn k⟩
    · cases e3
theorem bi_len : CallR X (.builtin "len") (rBi X.K mg "len") := by
  intro pins s σ H xs us' Q I r h
  obtain ⟨ρ, A, us, r', hH, hus, e, k⟩ := h
  have e : biLen A us = some r' := e
  unfold biLen at e
  split at e
  rotate_left
  · cases e
  rename_i u
  obtain ⟨v, rfl, rv⟩ := hus.one
  obtain ⟨n, en, rfl⟩ := Option.map_eq_some_iff.mp e
  have fin := k ρ H (.int n) Step.refl hH (.val (.d (.int _)))
  unfold lenO at en
  split at en
  · split at en
    · rename_i hz
      cases en
      cases rv.str_inv
      exact call_len_str pins s σ H _ us' Q I r ⟨_, rfl, hz, fin⟩
    · cases en
  · cases en
    obtain ⟨a, xs, rfl, h1, r1⟩ := rv.tup_inv
    rw [r1.length] at fin
    exact call_len_seq pins s σ H _ us' Q I r ⟨a, xs, rfl, .inr h1, fin⟩
  · split at en
    · rename_i ps ep
      cases en
      obtain ⟨a, xs, rfl, h1, r1⟩ := lstOf_rep ep rv hH
      rw [r1.length] at fin
      exact call_len_seq pins s σ H _ us' Q I r ⟨a, xs, rfl, .inl (.inl h1), fin⟩
    · obtain ⟨ks, ek, rfl⟩ := Option.map_eq_some_iff.mp en
      obtain ⟨a, kvs, rfl, h1, h2⟩ := keysOf_rep ek rv hH
      subst h2
      rw [List.length_map] at fin
      exact call_lenD pins s σ H _ us' Q I r ⟨a, kvs, rfl, h1, fin⟩
theorem bi_abs : CallR X (.builtin "abs") (rBi X.K mg "abs") := by
  intro pins s σ H xs us' Q I r h
  obtain ⟨ρ, A, us, r', hH, hus, e, k⟩ := h
  have e : biAbs us = some r' := e
  unfold biAbs at e
  split at e
  · cases e
    obtain ⟨v, rfl, rv⟩ := hus.one
    cases rv.int_inv
    exact call_abs pins s σ H _ us' Q I r ⟨_, rfl, k ρ H _ Step.refl hH (.val (.d (.int _)))⟩
  · cases e
theorem bi_min (hc : X.calm = true) : CallR X (.builtin "min") (rBi X.K mg "min") := by
  intro pins s σ H xs us' Q I r h
  obtain ⟨ρ, A, us, r', hH, hus, e, k⟩ := h
  have e : biMin A us = some r' := e
  unfold biMin at e
  split at e
  · cases e
    obtain ⟨v, v', rfl, rv, rv'⟩ := hus.two
    cases rv.int_inv; cases rv'.int_inv
    exact call_min2 hc pins s σ H _ us' Q I r ⟨_, _, rfl, k ρ H _ Step.refl hH (.val (.d (.int _)))⟩
  · obtain ⟨ps, ep, e⟩ := Option.bind_eq_some_iff.mp e
    obtain ⟨ns, en, e⟩ := Option.bind_eq_some_iff.mp e
    obtain ⟨m, em, rfl⟩ := Option.map_eq_some_iff.mp e
    obtain ⟨v, rfl, rv⟩ := hus.one
    obtain ⟨a, xs, rfl, h1, r1⟩ := lstOf_rep ep rv hH
    have ex := intsP_rep en r1
    subst ex
    obtain ⟨m1, m2⟩ := minI_mem em
    refine cr_min hc pins s σ H _ us' Q I r ⟨a, ns, rfl, .inl h1, List.length_pos_of_mem m1, fun n h1 h2 => ?_⟩
    have e : n = m := Int.le_antisymm (h2 m m1) (m2 n h1)
    subst e
    exact k ρ H _ Step.refl hH (.val (.d (.int _)))
  · cases e
theorem bi_max (hc : X.calm = true) : CallR X (.builtin "max") (rBi X.K mg "max") := by
  intro pins s σ H xs us' Q I r h
  obtain ⟨ρ, A, us, r', hH, hus, e, k⟩ := h
  have e : biMax A us = some r' := e
  unfold biMax at e
  split at e
  · cases e
    obtain ⟨v, v', rfl, rv, rv'⟩ := hus.two
    cases rv.int_inv; cases rv'.int_inv
    exact call_max2 hc pins s σ H _ us' Q I r ⟨_, _, rfl, k ρ H _ Step.refl hH (.val (.d (.int _)))⟩
  · obtain ⟨ps, ep, e⟩ := Option.bind_eq_some_iff.mp e
    obtain ⟨ns, en, e⟩ := Option.bind_eq_some_iff.mp e
    obtain ⟨m, em, rfl⟩ := Option.map_eq_some_iff.mp e
    obtain ⟨v, rfl, rv⟩ := hus.one
    obtain ⟨a, xs, rfl, h1, r1⟩ := lstOf_rep ep rv hH
    have ex := intsP_rep en r1
    subst ex
    obtain ⟨m1, m2⟩ := maxI_mem em
    refine cr_max hc pins s σ H _ us' Q I r ⟨a, ns, rfl, .inl h1, List.length_pos_of_mem m1, fun n h1 h2 => ?_⟩
    have e : n = m := Int.le_antisymm (m2 n h1) (h2 m m1)
    subst e
    exact k ρ H _ Step.refl hH (.val (.d (.int _)))
  · cases e
theorem bi_all (hc : X.calm = true) : CallR X (.builtin "all") (rBi X.K mg "all") := by
  intro pins s σ H xs us' Q I r h
  obtain ⟨ρ, A, us, r', hH, hus, e, k⟩ := h
  have e : biAll A us = some r' := e
  unfold biAll at e
  split at e
  · obtain ⟨ps, ep, e⟩ := Option.bind_eq_some_iff.mp e
    obtain ⟨ns, en, rfl⟩ := Option.map_eq_some_iff.mp e
    obtain ⟨v, rfl, rv⟩ := hus.one
    obtain ⟨a, xs, rfl, h1, r1⟩ := lstOf_rep ep rv hH
    have ex := boolsP_rep en r1
    subst ex
    exact cr_all hc pins s σ H _ us' Q I r ⟨a, ns, rfl, .inl h1, k ρ H _ Step.refl hH (.val (.d (.bl _)))⟩
  · cases e
theorem bi_any (hc : X.calm = true) : CallR X (.builtin "any") (rBi X.K mg "any") := by
  intro pins s σ H xs us' Q I r h
  obtain ⟨ρ, A, us, r', hH, hus, e, k⟩ := h
  have e : biAny A us = some r' := e
  unfold biAny at e
  split at e
  · obtain ⟨ps, ep, e⟩ := Option.bind_eq_some_iff.mp e
    obtain ⟨ns, en, rfl⟩ := Option.map_eq_some_iff.mp e
    obtain ⟨v, rfl, rv⟩ := hus.one
    obtain ⟨a, xs, rfl, h1, r1⟩ := lstOf_rep ep rv hH
    have ex := boolsP_rep en r1
    subst ex
    exact cr_any hc pins s σ H _ us' Q I r ⟨a, ns, rfl, .inl h1, k ρ H _ Step.refl hH (.val (.d (.bl _)))⟩
  · cases e
theorem bi_int : CallR X (.type "int") (rBi X.K mg "int") := by
  intro pins s σ H xs us' Q I r h
  obtain ⟨ρ, A, us, r', hH, hus, e, k⟩ := h
  have e : biInt us = some r' := e
  unfold biInt at e
  split at e
  · cases e
    obtain ⟨v, rfl, rv⟩ := hus.one
    cases rv.int_inv
    exact call_int1 pins s σ H _ us' Q I r (.inl ⟨_, rfl, k ρ H _ Step.refl hH (.val (.d (.int _)))⟩)
  · cases e
    obtain ⟨v, rfl, rv⟩ := hus.one
    cases rv.bool_inv
    exact call_int1 pins s σ H _ us' Q I r (.inr ⟨_, rfl, k ρ H _ Step.refl hH (.val (.d (.int _)))⟩)
  · cases e
theorem bi_str : CallR X (.type "str") (rBi X.K mg "str") := by
  intro pins s σ H xs us' Q I r h
  obtain ⟨ρ, A, us, r', hH, hus, e, k⟩ := h
  have e : biStr us = some r' := e
  unfold biStr at e
  split at e
  · split at e
    · rename_i hz
      cases e
      obtain ⟨v, rfl, rv⟩ := hus.one
      cases rv.int_inv
      exact call_str_int pins s σ H _ us' Q I r ⟨_, rfl, hz, k ρ H _ Step.refl hH (.val (.d (.str _)))⟩
    · cases e
  · cases e
theorem bi_list : CallR X (.type "list") (rBi X.K mg "list") := by
  intro pins s σ H xs us' Q I r h
  obtain ⟨ρ, A, us, r', hH, hus, e, k⟩ := h
  have e : biList A us = some r' := e
  unfold biList at e
  split at e
  · obtain ⟨ps, ep, rfl⟩ := Option.map_eq_some_iff.mp e
    obtain ⟨v, rfl, rv⟩ := hus.one
    obtain ⟨a, xs, rfl, h1, r1⟩ := seqOf_rep ep rv hH
    refine call_list_of pins s σ H _ us' Q I r ⟨a, xs, rfl, h1, fun p hp => ?_⟩
    exact k ρ _ _ (hH.stp hp) (hH.new hp) (.new Step.refl hp rfl hH (.lst r1))
  · cases e
theorem bi_tuple : CallR X (.type "tuple") (rBi X.K mg "tuple") := by
  intro pins s σ H xs us' Q I r h
  obtain ⟨ρ, A, us, r', hH, hus, e, k⟩ := h
  have e : biTuple A us = some r' := e
  unfold biTuple at e
  split at e
  · obtain ⟨ps, ep, rfl⟩ := Option.map_eq_some_iff.mp e
    obtain ⟨v, rfl, rv⟩ := hus.one
    obtain ⟨a, xs, rfl, h1, r1⟩ := seqOf_rep ep rv hH
    refine call_tuple_of pins s σ H _ us' Q I r ⟨a, xs, rfl, ?_⟩
    rcases h1 with h1 | h1
    · exact .inl ⟨h1, fun p hp => k ρ _ _ (hH.stp hp) (hH.new hp) (.val (.d (.tup (SqT.of upd_same) (r1.mono (hH.stp hp)))))⟩
    · exact .inr ⟨h1, k ρ H _ Step.refl hH (.val (.d (.tup h1 r1)))⟩
  · cases e
end
end Mi
set_option Elab.async false
set_option linter.all false
set_option maxRecDepth 100000
set_option maxHeartbeats 1000000
/-! MiI: dict(..), repr(..). -/
namespace Mi
open PySem L2
section
variable {ρ : Ow} {K : PySem.W.Frag} {mg : Mg} {H : Hp} {A : Hs}
mutual
theorem RepP.dpN : ∀ {p : PyData} {v : V}, RepP ρ K H p v → p.hasDict = false → Dp K H v p
  | _, _, .non, _ => .non
  | _, _, .bl b, _ => .bl b
  | _, _, .int i, _ => .int i
  | _, _, .str x, _ => .str x
  | _, _, .tup h r, c => .tup h (RepPs.dpN r (by simpa [PyData.hasDict] using c))
  | _, _, .lst h r, c => .lst h.sq (RepPs.dpN r (by simpa [PyData.hasDict] using c))
  | _, _, .dcK _ _ _, c => by simp [PyData.hasDict] at c
  | _, _, .dcT _ _ _ _, c => by simp [PyData.hasDict] at c
theorem RepPs.dpN : ∀ {p : List PyData} {v : List V}, RepPs ρ K H p v → PyData.hasDictAll p = false → DpAll K H v p
  | _, _, .nil, _ => .nil
  | _, _, .cons h r, c => by
    simp only [PyData.hasDictAll, Bool.or_eq_false_iff] at c
    exact .cons (RepP.dpN h c.1) (RepPs.dpN r c.2)
end
theorem RepD.dpN {p : PyData} {v : V} (r : RepD ρ K H p v) (c : p.hasDict = false) : Dp K H v p := by
  cases r with
  | p r => exact r.dpN c
  | l h r => exact .lst (SqL.of h) (r.dpN (by simpa [PyData.hasDict] using c))
theorem putU_rep {κ : Type} [DecidableEq κ] {kvs : List (κ × U)} {kws : List (κ × V)} {k : κ} {u : U} {v : V} (r : RepA ρ K mg H kvs kws) (ru : RepU ρ K mg H u v) (nu : nl u = true) : RepA ρ K mg H (putU kvs k u) (putK kws k v) := by
  have hany : ∀ {kvs : List (κ × U)} {kws : List (κ × V)}, RepA ρ K mg H kvs kws → (kvs.any fun kv => decide (kv.1 = k)) = (kws.any fun kv => decide (kv.1 = k)) := fun r => by
    induction r with
    | nil => rfl
    | cons a b c ih => simp only [List.any_cons, ih]
  have hmap : ∀ {kvs : List (κ × U)} {kws : List (κ × V)}, RepA ρ K mg H kvs kws → RepA ρ K mg H (kvs.map fun kv => if kv.1 = k then (kv.1, u) else kv) (kws.map fun kv => if kv.1 = k then (kv.1, v) else kv) := fun r => by
    induction r with
    | nil => exact .nil
    | cons a b c ih =>
      simp only [List.map_cons]
      split
      · exact .cons ru ih nu
      · exact .cons a ih c
  have happ : ∀ {kvs : List (κ × U)} {kws : List (κ × V)}, RepA ρ K mg H kvs kws → RepA ρ K mg H (kvs ++ [(k, u)]) (kws ++ [(k, v)]) := fun r => by
    induction r with
    | nil => exact .cons ru .nil nu
    | cons a b c ih => exact .cons a ih c
  unfold putU putK
  rw [hany r]
  split
  · exact hmap r
  · exact happ r
theorem merge_rep {kvs : List (Key × U)} {kws : List (Key × V)} (h : RepA ρ K mg H kvs kws) : ∀ {acc : List (Key × U)} {bcc : List (Key × V)}, RepA ρ K mg H acc bcc → RepA ρ K mg H (putAllU acc kvs) (mergeK bcc kws) := by
  induction h with
  | nil => intro acc bcc r; exact r
  | cons a b c ih => intro acc bcc r; exact ih (putU_rep r a c)
/-- the pairs of a list, where each stands -/
theorem pairs_rep : ∀ {ps : List PyData} {xs : List V} {kvs : List (Key × U)}, pairsK ps = some kvs → RepPs ρ K H ps xs → ∃ (bs : List Addr) (kws : List (Key × V)), xs = bs.map V.ref ∧ Paired (fun p kv => SqT K H p [kV kv.1, kv.2]) bs kws ∧ RepA ρ K mg H kvs kws
  | [], _, kvs, e, r => by
    cases r
    have : kvs = [] := by simpa [pairsK] using e.symm
    subst this
    exact ⟨[], [], rfl, .nil, .nil⟩
  | p :: ps, _, kvs, e, r => by
    cases r with
    | cons ra rb =>
      unfold pairsK at e
      split at e
      · cases ‹_ :: _ = []›
      · rename_i k v r' heq
        cases heq
        split at e
        · rename_i k' z e1 e2
          cases e
          obtain ⟨bs, kws, rfl, hp, hr⟩ := pairs_rep e2 rb
          cases ra with
          | tup hq rr =>
            rename_i a zs
            cases rr with
            | cons r1 r2 =>
              cases r2 with
              | cons r2 r3 =>
                cases r3
                have ek := asKey_rep r1 e1
                subst ek
                exact ⟨a :: bs, (k', _) :: kws, rfl, .cons hq hp, .cons (.d r2) hr rfl⟩
        · cases e
      · cases e
end
section
variable {X : Cx} {mg : Mg}
theorem bi_dict (hc : X.calm = true) : CallR X (.type "dict") (rBi X.K mg "dict") := by
  intro pins s σ H xs us' Q I r h
  obtain ⟨ρ, A, us, r', hH, hus, e, k⟩ := h
  have e : biDict A us = some r' := e
  unfold biDict at e
  split at e
  · obtain ⟨ps, ep, e⟩ := Option.bind_eq_some_iff.mp e
    obtain ⟨kvs, ek, rfl⟩ := Option.map_eq_some_iff.mp e
    obtain ⟨v, rfl, rv⟩ := hus.one
    obtain ⟨a, xs, rfl, h1, r1⟩ := lstOf_rep ep rv hH
    obtain ⟨bs, kws, rfl, hp, hr⟩ := pairs_rep (mg := mg) ek r1
    refine call_dictP hc pins s σ H _ us' Q I r ⟨a, bs, kws, rfl, .inl h1, hp, fun p hn => ?_⟩
    exact k ρ _ _ (hH.stp hn) (hH.new hn) (.new Step.refl hn rfl hH (.dK (merge_rep hr .nil)))
  · cases e
/-- repr of data -/
theorem bi_repr (hg : X.A.guards = some []) (hu : X.A.units + 100 < cLine) : CallR X (.builtin "repr") (rBi X.K mg "repr") := by
  intro pins s σ H xs us' Q I r h
  obtain ⟨ρ, A, us, r', hH, hus, e, k⟩ := h
  have e : biRepr A us = some r' := e
  unfold biRepr at e
  split at e
  · obtain ⟨p, ep, e⟩ := Option.bind_eq_some_iff.mp e
    obtain ⟨x, ex, rfl⟩ := Option.map_eq_some_iff.mp e
    obtain ⟨v, rfl, rv⟩ := hus.one
    have rd := datOf_rep ep rv hH
    unfold reprP at ex
    split at ex
    · rename_i hc
      cases ex
      simp only [Bool.and_eq_true, decide_eq_true_eq, Bool.not_eq_true'] at hc
      obtain ⟨⟨⟨c1, c2⟩, c3⟩, c4⟩ := hc
      obtain ⟨u, rfl, ru⟩ := vals1 r
      have fin : Q (.str p.shown) H := k ρ H _ Step.refl hH (.val (.d (.str _)))
      have ref : ∀ a, u = Value.ref a → wpAny (model X.prog X.w) X.A (call (.builtin "repr") [u]) (EP X pins σ Q) X.xe s := fun a ea => by
        subst ea
        obtain ⟨as, rr⟩ := Dp.reads I _ _ _ (rd.dpN c2) ru
        exact PySem.repr_of_reads' rr c1 (fun h => by rw [c2] at h; cases h) hg (by omega) (fun _ _ e => e) (fun h' t tk hk => ⟨.str _, H, I.kept hk, ⟨_, rfl⟩, fin⟩) c4
      cases rd with
      | p rp =>
        cases rp with
        | non =>
          cases (show u = Value.none from ru)
          exact PySem.P.repr_of_none ⟨.str _, H, I.tok _, ⟨_, rfl⟩, fin⟩
        | bl b =>
          cases (show u = Value.bool b from ru)
          exact PySem.P.repr_of_bool ⟨.str _, H, I.tok _, ⟨_, rfl⟩, fin⟩
        | int i =>
          obtain ⟨t, rfl⟩ := ru
          exact PySem.P.repr_of_int (by simpa [PyData.showable] using c1) ⟨.str _, H, I.tok _, ⟨_, rfl⟩, fin⟩
        | str y =>
          obtain ⟨t, rfl⟩ := ru
          exact PySem.P.repr_of_str ⟨.str _, H, I.tok _, ⟨_, rfl⟩, fin⟩ c4
        | tup h r => exact ref _ ru
        | lst h r => exact ref _ ru
        | dcK h n r => exact ref _ ru
        | dcT h n z r => exact ref _ ru
      | l h r => exact ref _ ru
    · cases ex
  · cases e
end
end Mi
set_option Elab.async false
set_option linter.all false
set_option maxRecDepth 100000
set_option maxHeartbeats 1000000
/-! MiJ: methods, isinstance. -/
namespace Mi
open PySem L2
section
variable {ρ : Ow} {K : PySem.W.Frag} {mg : Mg} {H : Hp} {A : Hs}
theorem lst_notup (xs : List V) : (∀ ys, HO.lst xs ≠ .tup ys) ∧ ∀ z x, HO.lst xs ≠ .frz z x := ⟨(fun _ h => by cases h), (fun _ _ h => by cases h)⟩
theorem RepPs.dropLast {ps : List PyData} {xs : List V} (h : RepPs ρ K H ps xs) : RepPs ρ K H ps.dropLast xs.dropLast := by
  induction ps generalizing xs with
  | nil => cases h; exact .nil
  | cons p ps ih =>
    cases h with
    | cons a b =>
      cases b with
      | nil => exact .nil
      | cons c d => exact .cons a (ih (.cons c d))
theorem tyN_tyV {u : U} {v : V} {T : String} (e : tyN A u = some T) (hT : T = "list" ∨ T = "dict" ∨ T = "str") (r : RepU ρ K mg H u v) (hH : RepH ρ K mg H A) : tyV K T v H := by
  unfold tyN at e
  split at e <;> try (cases e; simp at hT; done)
  · cases e
    cases r.str_inv; rfl
  · cases e
    obtain ⟨a, xs, rfl, h1, r1⟩ := lstOf_rep (u := .d (.list _)) (A := A) rfl r hH
    exact .inl ⟨rfl, xs, .inl h1⟩
  · cases e
    cases r with
    | d r =>
      cases r with
      | dcK h n r => exact .inr (.inr (.inl ⟨rfl, .inl ⟨_, h⟩⟩))
      | dcT h n z r => exact .inr (.inr (.inl ⟨rfl, .inr ⟨_, h⟩⟩))
  · cases r with
    | obj hn =>
      split at e
      · rename_i ea
        cases e
        obtain ⟨ho, h1, h2⟩ := hH.at_ _ _ _ ea hn
        cases h2 with
        | lst h2 => exact .inl ⟨rfl, _, SqL.of h1⟩
      · rename_i ea
        cases e
        obtain ⟨ho, h1, h2⟩ := hH.at_ _ _ _ ea hn
        cases h2 with
        | dK h2 => exact .inr (.inr (.inl ⟨rfl, .inl ⟨_, h1⟩⟩))
      · rename_i ea
        cases e
        obtain ⟨ho, h1, h2⟩ := hH.at_ _ _ _ ea hn
        cases h2 with
        | dT h2 => exact .inr (.inr (.inl ⟨rfl, .inr ⟨_, h1⟩⟩))
      · cases e
  · cases e
end
section
variable {X : Cx} {mg : Mg}
def rMt (K : PySem.W.Frag) (mg : Mg) (id : String) : V → List V → Hp → VK → Prop := fun x xs H Q => ∃ ρ A u us r A', RepH ρ K mg H A ∧ RepU ρ K mg H u x ∧ RepUs ρ K mg H us xs ∧ metO A id u us = some (r, A') ∧ ∀ ρ' H' w, Step ρ ρ' H H' → RepH ρ' K mg H' A' → RepR ρ H ρ' K mg A' H' r w → Q w H'
theorem me_append : MtR X "list.append" (rMt X.K mg "list.append") := by
  intro pins s σ H x xs v us' Q I rx rv h
  obtain ⟨ρ, A, u, us, r, A', hH, hu, hus, e, k⟩ := h
  have e : meApp A u us = some (r, A') := e
  unfold meApp at e
  split at e
  · split at e
    · rename_i n p ps ea
      split at e
      · rename_i hl
        cases e
        cases hu with
        | obj hn =>
          obtain ⟨v', rfl, rv'⟩ := hus.one
          cases rv' with
          | d rp =>
            obtain ⟨ho, h1, h2⟩ := hH.at_ _ _ _ ea hn
            cases h2 with
            | lst h2 =>
              rename_i ys
              refine mt_append pins s σ H _ _ v us' Q I rx rv ⟨_, ys, v', rfl, rfl, h1, by rw [← h2.length]; exact hl, ?_⟩
              obtain ⟨g1, g2⟩ := hH.set hn (.lst (h2.append (.cons rp .nil)))
              exact k ρ _ _ g2 g1 (.val (.d .non))
      · cases e
    · cases e
  · cases e
def rExtR : V → List V → Hp → VK → Prop := fun x vs H Q => ∃ l b xs zs, x = .ref l ∧ vs = [.ref b] ∧ H l = some (.lst xs) ∧ Rd H b (.lst zs) ∧ xs.length + zs.length ≤ sizeLine ∧ Q .non (upd H l (.lst (xs ++ zs)))
theorem mt_extR : MtM X "list.extend" rExtR := by
  intro pins s σ H x vs v us Q I rx rv h
  obtain ⟨l, b, xs, zs, rfl, rfl, hH, hB, hz, q⟩ := h
  cases rx
  obtain ⟨u, rfl, ru⟩ := rv.one
  cases ru
  obtain ⟨z, its, n, r, hl, e⟩ := I.lstM hH
  obtain ⟨z2, its2, n2, r2, hl2, e2⟩ := Mi.Inv.lstR I hB
  have hsz : its.toArray.size + its2.toArray.size ≤ sizeLine := by rw [List.size_toArray, List.size_toArray]; omega
  have hlong : ¬ (!its.toArray.isEmpty && Builtin.List.listTooLong (its.toArray.size + its2.toArray.size)) = true := by
    rw [notLongL hsz, Bool.and_false]
    exact Bool.false_ne_true
  refine PySem.call_meets F.slot_list_extend ⟨_, e, rfl⟩ F.entry_list_extend (F.args_list_extend_2 _ _)
    (AutoSeq1.list_extend_list_list_0 l its.toArray n b its2.toArray n2 hlong (by rw [List.size_toArray]; omega) (by omega)) ⟨e, e2, ?_⟩
  refine ⟨.non, _, I.lset (its' := its ++ its2) hH e (by simp) (r.append r2) ?_, rfl, q⟩
  rw [List.length_append]
  omega
theorem me_extend : MtR X "list.extend" (rMt X.K mg "list.extend") := by
  intro pins s σ H x xs v us' Q I rx rv h
  obtain ⟨ρ, A, u, us, r, A', hH, hu, hus, e, k⟩ := h
  have e : meExt A u us = some (r, A') := e
  unfold meExt at e
  split at e
  · split at e
    · rename_i n w ps qs ea el
      split at e
      · rename_i hl
        cases e
        cases hu with
        | obj hn =>
          obtain ⟨v', rfl, rv'⟩ := hus.one
          obtain ⟨b, zs, rfl, h3, r3⟩ := lstOf_rep el rv' hH
          obtain ⟨ho, h1, h2⟩ := hH.at_ _ _ _ ea hn
          cases h2 with
          | lst h2 =>
            rename_i ys
            refine mt_extR pins s σ H _ _ v us' Q I rx rv ⟨_, b, ys, zs, rfl, rfl, h1, h3, by rw [← h2.length, ← r3.length]; exact hl, ?_⟩
            obtain ⟨g1, g2⟩ := hH.set hn (.lst (h2.append r3))
            exact k ρ _ _ g2 g1 (.val (.d .non))
      · cases e
    · cases e
  · cases e
theorem me_pop : MtR X "list.pop" (rMt X.K mg "list.pop") := by
  intro pins s σ H x xs v us' Q I rx rv h
  obtain ⟨ρ, A, u, us, r, A', hH, hu, hus, e, k⟩ := h
  have e : mePop A u us = some (r, A') := e
  unfold mePop at e
  split at e
  · split at e
    · rename_i n ps ea
      split at e
      · rename_i p ep
        cases e
        cases hu with
        | obj hn =>
          cases hus
          obtain ⟨ho, h1, h2⟩ := hH.at_ _ _ _ ea hn
          cases h2 with
          | lst h2 =>
            rename_i ys
            obtain ⟨y, ey, ry⟩ := h2.get ep
            obtain ⟨g1, g2⟩ := hH.set (o := .lst ps.dropLast) hn (.lst h2.dropLast)
            refine mt_pop pins s σ H _ _ v us' Q I rx rv ⟨_, ys, y, rfl, rfl, h1, by rw [← h2.length]; exact ey, ?_⟩
            exact k ρ _ _ g2 g1 (.val (.d (ry.mono g2)))
      · cases e
    · cases e
  · cases e
theorem me_get (hu' : X.A.units + 1 < cLine) : MtR X "dict.get" (rMt X.K mg "dict.get") := by
  intro pins s σ H x xs v us' Q I rx rv h
  obtain ⟨ρ, A, u, us, r, A', hH, hu, hus, e, k⟩ := h
  have e : meGet A u us = some (r, A') := e
  unfold meGet at e
  split at e
  · obtain ⟨z, ez, e2⟩ := Option.map_eq_some_iff.mp e
    cases e2
    cases hu with
    | obj hn =>
      rename_i a
      obtain ⟨v1, v2, rfl, r1, r2⟩ := hus.two
      cases r1 with
      | d rp =>
        obtain ⟨o, g, hz⟩ := dkAt_rep hH hn rp ez
        obtain ⟨w1, w2, rfl, q1, q2⟩ := vals2 rv
        obtain rfl : v = Value.ref a := rx
        refine d_get2 hu' I g q1 q2 fun w' s' I' rw' => ⟨_, H, I', rw', k ρ H _ Step.refl hH (.val ?_)⟩
        rcases hz with ⟨a1, a2⟩ | ⟨u1, w3, a1, a2, a3⟩
        · rw [a1, a2]; exact r2
        · rw [a1, a2]; exact a3
  · cases e
theorem me_join : MtR X "str.join" (rMt X.K mg "str.join") := by
  intro pins s σ H x xs v us' Q I rx rv h
  obtain ⟨ρ, A, u, us, r, A', hH, hu, hus, e, k⟩ := h
  have e : meJoin A u us = some (r, A') := e
  unfold meJoin at e
  split at e
  · obtain ⟨ps, ep, e⟩ := Option.bind_eq_some_iff.mp e
    obtain ⟨r', er, e2⟩ := Option.map_eq_some_iff.mp e
    cases e2
    unfold joinO at er
    obtain ⟨ys, ey, er⟩ := Option.bind_eq_some_iff.mp er
    split at er
    · rename_i hz
      cases er
      cases hu.str_inv
      obtain ⟨v', rfl, rv'⟩ := hus.one
      obtain ⟨b, zs, rfl, h3, r3⟩ := lstOf_rep ep rv' hH
      have ez := textsP_rep ey r3
      subst ez
      exact mt_join pins s σ H _ _ v us' Q I rx rv ⟨_, b, ys, rfl, rfl, .inl (.inl h3), hz, k ρ H _ Step.refl hH (.val (.d (.str _)))⟩
    · cases er
  · cases e
end
end Mi
set_option Elab.async false
set_option linter.all false
set_option maxRecDepth 100000
set_option maxHeartbeats 1000000
/-! MiK: isinstance; fields of exceptions. -/
namespace Mi
open PySem L2
/-- a class by its name -/
inductive ClsAt (mg : Mg) : (String ⊕ Str) → V → Value → Prop
  | ty (n : String) : ClsAt mg (.inl n) (.ty n) (.type n)
  | own {x : Str} {C : Addr} : mg x = some (.ref C) → ClsAt mg (.inr x) (.ref C) (.ref C)
theorem ClsAt.clsV {mg : Mg} {t : String ⊕ Str} {v : V} {u : Value} (h : ClsAt mg t v u) : ClsV v u := by
  cases h with
  | ty n => exact .ty n
  | own _ => exact .own _
/-- what the table of classes says is so -/
structure SubOk (sb : Sub) (K : PySem.W.Frag) (mg : Mg) : Prop where
  exc : ∀ c t b C, sb c t = some b → mg c = some (.ref C) → ExcC K C
  kit : ∀ c t b C v u, sb c t = some b → mg c = some (.ref C) → ClsAt mg t v u → PySem.W.kitOne K (.ref C) u = some b
  exm : ∀ c k b C D, sb c (.inr k) = some b → mg c = some (.ref C) → mg k = some (.ref D) → PySem.W.exmOne K (.ref C) (.ref D) = some b
theorem isTy_kit {n t : String} {b : Bool} (hn : n ∈ ["NoneType", "bool", "int", "str", "tuple", "list", "dict"]) (e : isTy n t = some b) : kitB n t = some b := by
  unfold isTy at e
  split at e
  · rename_i ht
    have ht : t ∈ ["int", "bool", "str", "tuple", "list", "dict"] := by simpa using ht
    cases e
    have all : ∀ n ∈ ["NoneType", "bool", "int", "str", "tuple", "list", "dict"], ∀ t ∈ ["int", "bool", "str", "tuple", "list", "dict"], kitB n t = some (n == t || (n == "bool" && t == "int")) := by decide +kernel
    exact all n hn t ht
  · cases e
section
variable {ρ : Ow} {K : PySem.W.Frag} {mg : Mg} {H : Hp} {A : Hs}
theorem tyN_mem {u : U} {n : String} (e : tyN A u = some n) : n ∈ ["NoneType", "bool", "int", "str", "tuple", "list", "dict"] := by
  unfold tyN at e
  split at e
  all_goals first | (cases e; done) | (cases e; decide) | skip
  split at e <;> first | (cases e; done) | (cases e; decide)
theorem tyN_tyX {u : U} {v : V} {n : String} (e : tyN A u = some n) (r : RepU ρ K mg H u v) (hH : RepH ρ K mg H A) : TyX K H v (.type n) := by
  unfold tyN at e
  split at e
  · cases e; cases r.none_inv; exact .base .non
  · cases e; cases r.bool_inv; exact .base (.bl _)
  · cases e; cases r.int_inv; exact .base (.int _)
  · cases e; cases r.str_inv; exact .base (.str _)
  · cases e
    obtain ⟨a, xs, rfl, h1, r1⟩ := r.tup_inv
    rcases h1 with (h1 | ⟨o, h1⟩) | ⟨o, its, n, h1, h2, _⟩
    · exact .base (.tup h1)
    · exact .fTuple h1
    · exact .kTuple h1 h2
  · cases e
    obtain ⟨a, xs, rfl, h1, r1⟩ := lstOf_rep (u := .d (.list _)) (A := A) rfl r hH
    rcases h1 with h1 | ⟨o, h1⟩
    · exact .base (.lst h1)
    · exact .base (.frz h1)
  · cases e
    cases r with
    | d r =>
      cases r with
      | dcK h n r => exact .base (.dK h)
      | dcT h n z r => exact .base (.dT h)
  · cases r with
    | obj hn =>
      split at e
      · rename_i ea
        cases e
        obtain ⟨ho, h1, h2⟩ := hH.at_ _ _ _ ea hn
        cases h2 with
        | lst h2 => exact .base (.lst h1)
      · rename_i ea
        cases e
        obtain ⟨ho, h1, h2⟩ := hH.at_ _ _ _ ea hn
        cases h2 with
        | dK h2 => exact .base (.dK h1)
      · rename_i ea
        cases e
        obtain ⟨ho, h1, h2⟩ := hH.at_ _ _ _ ea hn
        cases h2 with
        | dT h2 => exact .base (.dT h1)
      · cases e
  · cases e
end
section
variable {X : Cx} {mg : Mg} {pins : List (Addr × Obj)} {σ : L2.St} {H : Hp} {s : Shared}
/-- an exception of ours as it stands -/
theorem exc_inst {C a : Addr} {d : Option Addr} {ρ : Ow} {fs : List (Str × PyData)} (I : Inv X pins σ H s) (h : H a = some (ExcO (.ref C) d a)) (x : XAt ρ X.K H fs d) : ∃ oe od, PySem.W.InstAt s.heap a oe C od := by
  obtain ⟨⟨oe, vs, h1, hz, hd⟩, _, _⟩ := I.hok a _ h
  have hno : PySem.W.notCls oe = true := by unfold PySem.W.notCls; rw [hd] <;> rfl
  rcases x with ⟨_, rfl⟩ | ⟨dd, gs, rfl, _, h2, _⟩
  · exact ⟨oe, none, h1, hz.1, hno, by rw [hz.2]; trivial⟩
  · obtain ⟨mA, hns, _⟩ := I.hok dd _ h2
    obtain ⟨od, ho, _⟩ := lookIn_ns hns
    exact ⟨oe, some od, h1, hz.1, hno, by rw [hz.2]; exact ho⟩
/-- what isinstance asks of a value -/
theorem isi_kit {sb : Sub} {ρ : Ow} {A : Hs} {u : U} {x : V} {xv : Value} (S : SubOk sb X.K mg) (I : Inv X pins σ H s) (hH : RepH ρ X.K mg H A) (r : RepU ρ X.K mg H u x) (rx : RelV x xv) {t : String ⊕ Str} {b : Bool} (e : isiO sb A u t = some b) :
    ∃ (tv : Value) (P : Heap → Prop), PySem.W.KitX X.K xv tv P ∧ P s.heap ∧ xv ≠ .builtin "__main__.__loader__#opaque" ∧ ∀ t b v u', isiO sb A u t = some b → ClsAt mg t v u' → PySem.W.kitOne X.K tv u' = some b := by
  have data : ∀ {u : U}, RepU ρ X.K mg H u x → (∀ t, isiO sb A u t = isiN (tyN A u) t) → isiO sb A u t = some b → ∃ (tv : Value) (P : Heap → Prop), PySem.W.KitX X.K xv tv P ∧ P s.heap ∧ xv ≠ .builtin "__main__.__loader__#opaque" ∧ ∀ t b v u', isiO sb A u t = some b → ClsAt mg t v u' → PySem.W.kitOne X.K tv u' = some b := fun {u} r hq e => by
    rw [hq] at e
    cases en : tyN A u with
    | none => rw [en] at e; cases e
    | some n =>
      obtain ⟨P, Z, p, hx⟩ := kit_of I rx (tyN_tyX en r hH)
      refine ⟨.type n, P, Z, p, hx, fun t b v u' e' hc' => ?_⟩
      rw [hq, en] at e'
      cases hc' with
      | ty m' => exact kit_ty (isTy_kit (tyN_mem en) e')
      | own hm => cases e'
  cases u with
  | exc c fs =>
    cases r with
    | exc hm hn h1 h2 =>
      rename_i C a d
      cases (show xv = Value.ref a from rx)
      obtain ⟨oe, od, J⟩ := exc_inst I h1 h2
      have E := S.exc c t b C e hm
      obtain ⟨cd, hc, _⟩ := PySem.W.any_some E.hd
      exact ⟨.ref C, _, PySem.W.kitx_exc (ox := oe) (od := od) (by rw [hc]; rfl) E.hg E.hk E.hs E.ha E.hn E.ht E.hm, J, (fun z => by cases z), fun t b v u' e' hc' => S.kit c t b C v u' e' hm hc'⟩
  | d p => exact data r (fun _ => rfl) e
  | obj n => exact data r (fun _ => rfl) e
  | ty n => cases e
  | glo x => cases e
  | lam => cases e
theorem isi_all {sb : Sub} {A : Hs} {u : U} {tv : Value} {K : PySem.W.Frag} {mg : Mg} (h : ∀ t b v u', isiO sb A u t = some b → ClsAt mg t v u' → PySem.W.kitOne K tv u' = some b) : ∀ {ts : List (String ⊕ Str)} {vs : List V} {us : List Value} {b : Bool}, isiOs sb A u ts = some b → (∀ (i : Nat) (t : String ⊕ Str), ts[i]? = some t → ∃ v u', vs[i]? = some v ∧ us[i]? = some u' ∧ ClsAt mg t v u') → ts.length = us.length → PySem.W.kitAny K tv us = some b
  | [], _, [], b, e, _, _ => by
    cases e; rfl
  | [], _, _ :: _, _, _, _, hl => by cases hl
  | t :: ts, _, [], _, _, _, hl => by cases hl
  | t :: ts, vs, u0 :: us, b, e, hc, hl => by
    obtain ⟨v, u', _, e2, c0⟩ := hc 0 t rfl
    have e2 : u0 = u' := by simpa using e2
    subst e2
    unfold isiOs at e
    split at e
    · rename_i e1
      cases e
      exact kitAny_cons (h t true v u0 e1 c0) (fun z => by cases z) (fun _ => rfl)
    · rename_i e1
      refine kitAny_cons (h t false v u0 e1 c0) (fun _ => ?_) (fun z => by cases z)
      exact isi_all h (vs := vs.drop 1) e (fun i t' ht => by
        obtain ⟨v', u'', a1, a2, a3⟩ := hc (i + 1) t' (by simpa using ht)
        exact ⟨v', u'', by rw [List.getElem?_drop, Nat.add_comm]; exact a1, by simpa using a2, a3⟩) (by simpa using hl)
    · cases e
/-- isinstance(x, c) -/
def rIs1 (K : PySem.W.Frag) (mg : Mg) (sb : Sub) (t : String ⊕ Str) : List V → Hp → VK → Prop := fun xs H Q => ∃ ρ A u x c cu b, xs = [x, c] ∧ ClsAt mg t c cu ∧ RepH ρ K mg H A ∧ RepU ρ K mg H u x ∧ isiO sb A u t = some b ∧ Q (.bl b) H
theorem call_is1 {sb : Sub} (S : SubOk sb X.K mg) (t : String ⊕ Str) : CallR X (.builtin "isinstance") (rIs1 X.K mg sb t) := by
  intro pins s σ H xs us Q I r h
  obtain ⟨ρ, A, u, x, c, cu, b, rfl, hc, hH, ru, e, q⟩ := h
  obtain ⟨u1, u2, rfl, r1, r2⟩ := vals2 r
  have e2 := hc.clsV.eq r2
  subst e2
  obtain ⟨tv, P, Z, p, hx, hk⟩ := isi_kit S I hH ru r1 e
  exact PySem.W.kia_one Z I.kIn p (hk t b c _ e hc) hx fun tk => ⟨.bl b, H, I.tok tk, rfl, q⟩
/-- isinstance(x, (c, ..)) -/
def rIsN (K : PySem.W.Frag) (mg : Mg) (sb : Sub) (ts : List (String ⊕ Str)) : List V → Hp → VK → Prop := fun xs H Q => ∃ ρ A u x tp cs cus b, xs = [x, .ref tp] ∧ H tp = some (.tup cs) ∧ ts.length = cus.length ∧ (∀ (i : Nat) (t : String ⊕ Str), ts[i]? = some t → ∃ v u', cs[i]? = some v ∧ cus[i]? = some u' ∧ ClsAt mg t v u') ∧ Paired ClsV cs cus ∧
  RepH ρ K mg H A ∧ RepU ρ K mg H u x ∧ isiOs sb A u ts = some b ∧ ts ≠ [] ∧ Q (.bl b) H
theorem call_isN {sb : Sub} (S : SubOk sb X.K mg) (ts : List (String ⊕ Str)) : CallR X (.builtin "isinstance") (rIsN X.K mg sb ts) := by
  intro pins s σ H xs us Q I r h
  obtain ⟨ρ, A, u, x, tp, cs, ws, b, rfl, hT, hl, hc, kp, hH, ru, e, hne, q⟩ := h
  obtain ⟨u1, u2, rfl, r1, r2⟩ := vals2 r
  cases (show u2 = Value.ref tp from r2)
  obtain ⟨t0, b0, e0⟩ : ∃ t b, isiO sb A u t = some b := by
    cases ts with
    | nil => exact (hne rfl).elim
    | cons t ts =>
      unfold isiOs at e
      split at e
      · exact ⟨t, _, ‹_›⟩
      · exact ⟨t, _, ‹_›⟩
      · cases e
  obtain ⟨tv, P, Z, p, hx, hk⟩ := isi_kit S I hH ru r1 e0
  obtain ⟨_, its, rv, o, h1, h2, n, h3⟩ := (show ObjOk X.prog X.w H s.heap tp (.tup cs) from I.hok tp _ hT)
  have e3 := ClsV.all kp rv
  subst e3
  obtain ⟨oc, od, dt, sl⟩ := o
  simp only at h2 h3
  subst h2 h3
  exact PySem.W.kia_tup Z I.kIn p h1 (isi_all hk e hc hl) hx fun tk => ⟨.bl b, H, I.tok tk, rfl, q⟩
end
end Mi
set_option Elab.async false
set_option linter.all false
set_option maxRecDepth 100000
set_option maxHeartbeats 1000000
/-! MiL: expressions, one rule for each form. -/
namespace Mi
open PySem L2
abbrev FM := Fr → M R
section
variable {X : Cx} {mg : Mg} {W : WX} {a b c e : Expr} {es : List Expr} {pos : Pos} {ma mb mc : FM}
theorem pe_imp {t t' : TE} (h : PE X e t) (k : ∀ σ H Q, t' σ H Q → t σ H Q) : PE X e t' := ⟨fun pins s σ H Q I q => h.run pins s σ H Q I (k σ H Q q)⟩
theorem pt_imp {t t' : TT} (h : PT X e t) (k : ∀ σ H Q, t' σ H Q → t σ H Q) : PT X e t' := ⟨fun pins s σ H Q I q => h.run pins s σ H Q I (k σ H Q q)⟩
theorem pa_imp {t t' : TA} (h : PA X es t) (k : ∀ σ H Q, t' σ H Q → t σ H Q) : PA X es t' := ⟨fun pos pins s σ H Q I q => h.run pos pins s σ H Q I (k σ H Q q)⟩
/-- a test -/
def tT (K : PySem.W.Frag) (mg : Mg) (W : WX) (m : FM) : TT := fun σ H Q => ∃ ρ A δ, RepE ρ K mg H δ σ ∧ RepH ρ K mg H A ∧ Ask K mg W σ ρ H (boolM (m δ)) A fun b _ H' _ => Q b H'
/-- several values -/
def tRs (K : PySem.W.Frag) (mg : Mg) (W : WX) (m : Fr → M (List U)) : TA := fun σ H Q => ∃ ρ A δ, RepE ρ K mg H δ σ ∧ RepH ρ K mg H A ∧ Ask K mg W σ ρ H (m δ) A fun us ρ' H' _ => ∀ vs, RepUs ρ' K mg H' us vs → Q vs H'
theorem tRs.of {σ : L2.St} {δ : Fr} {β : Type} {m : Fr → M (List U)} {g : List U → M β} {Φ : β → Ow → Hp → Hs → Prop} {Q : List V → Hp → Prop} {ρ : Ow} {H : Hp} {A : Hs} (hE : RepE ρ X.K mg H δ σ) (hH : RepH ρ X.K mg H A) (h : Ask X.K mg W σ ρ H (Mi.bnd (m δ) g) A Φ)
    (k : ∀ us vs ρ1 H1 A1, Step ρ ρ1 H H1 → RepE ρ1 X.K mg H1 δ σ → RepH ρ1 X.K mg H1 A1 → RepUs ρ1 X.K mg H1 us vs → Ask X.K mg W σ ρ1 H1 (g us) A1 Φ → Q vs H1) : tRs X.K mg W m σ H Q := by
  refine ⟨ρ, A, δ, hE, hH, (Ask.bnd h).mono fun us ρ1 H1 A1 s r1 a => ?_⟩
  exact fun vs rv => k us vs ρ1 H1 A1 s (hE.mono s) r1 rv a
/-- names -/
theorem x_var {i : Nat} {x : Str} (hN : X.N[i]? = some x) (hv : Vis X.env.scope x) (hd : (x == ("__debug__" : Str)) = false) (hcd : (x == ("__classdict__" : Str)) = false) :
    PE X (.Name x pos) (tR X.K mg W fun δ => match δ[i]? with | some (some u) => ret (.val u) | _ => bad) := by
  refine pe_imp (pe_var hN hv hd hcd) fun σ H Q h => ?_
  obtain ⟨ρ, A, δ, hE, hH, h⟩ := h
  cases e : δ[i]? with
  | none => simp only [e] at h; exact h.elim
  | some o =>
    cases o with
    | none => simp only [e] at h; exact h.elim
    | some u =>
      simp only [e] at h
      obtain ⟨v, ev, rv⟩ := hE.at_ i u e
      exact ⟨v, ev, h.ret hH v (.val rv)⟩
theorem x_con {v : V} {p : PyData} (h : PE X e (tC v)) (r : ∀ ρ H, RepP ρ X.K H p v) : PE X e (tR X.K mg W fun _ => ret (.val (.d p))) := by
  refine pe_imp h fun σ H Q h => ?_
  obtain ⟨ρ, A, δ, hE, hH, h⟩ := h
  exact h.ret hH v (.val (.d (r ρ H)))
theorem x_gc {v : V} {u : U} (h : PE X e (tC v)) (r : ∀ ρ H, RepU ρ X.K mg H u v) : PE X e (tR X.K mg W fun _ => ret (.val u)) := by
  refine pe_imp h fun σ H Q h => ?_
  obtain ⟨ρ, A, δ, hE, hH, h⟩ := h
  exact h.ret hH v (.val (r ρ H))
/-- operators -/
theorem x_bin {op : Operator} (ha : PE X a (tR X.K mg W ma)) (hb : PE X b (tR X.K mg W mb)) :
    PE X (.BinOp a op b pos) (tR X.K mg W fun δ => bnd (valM (ma δ)) fun u => bnd (valM (mb δ)) fun v => fun A => lft (binO A op u v) A) := by
  refine pe_imp (pe_op (op_bin (mg := mg) op) ha hb) fun σ H Q h => ?_
  obtain ⟨ρ, A, δ, hE, hH, h⟩ := h
  refine tR.of hE hH h fun u x ρ1 H1 A1 s1 E1 hH1 r1 a1 => ?_
  refine tR.of E1 hH1 a1 fun v y ρ2 H2 A2 s2 E2 hH2 r2 a2 => ?_
  obtain ⟨r, er, k⟩ := Ask.lftA a2
  exact ⟨ρ2, A2, u, v, r, hH2, r1.mono s2, r2, er, fun ρ' H' w st hh rr => k ρ' H' st hh w (rr.back (s1.trans s2))⟩
theorem x_neg (ha : PE X a (tR X.K mg W ma)) : PE X (.UnaryOp .USub a pos) (tR X.K mg W fun δ => bnd (valM (ma δ)) fun u => lft (negO u)) := by
  refine pe_imp (pe_un un_neg ha) fun σ H Q h => ?_
  obtain ⟨ρ, A, δ, hE, hH, h⟩ := h
  refine tR.of hE hH h fun u x ρ1 H1 A1 s1 E1 hH1 r1 a1 => ?_
  obtain ⟨r, er, k⟩ := Ask.lft a1
  unfold negO at er
  split at er
  · cases er
    cases r1.int_inv
    exact ⟨_, rfl, k ρ1 H1 Step.refl hH1 _ (.val (.d (.int _)))⟩
  · cases er
theorem x_cmp0 {op : CmpOp} {σ : L2.St} {H : Hp} {Q : VK} (h : tR X.K mg W (fun δ => bnd (valM (ma δ)) fun u => bnd (valM (mb δ)) fun v => fun A => lft ((cmpO A op u v).map dB) A) σ H Q) : tOp (rCmp X.K mg op) (tR X.K mg W ma) (tR X.K mg W mb) σ H Q := by
  obtain ⟨ρ, A, δ, hE, hH, h⟩ := h
  refine tR.of hE hH h fun u x ρ1 H1 A1 s1 E1 hH1 r1 a1 => ?_
  refine tR.of E1 hH1 a1 fun v y ρ2 H2 A2 s2 E2 hH2 r2 a2 => ?_
  obtain ⟨r, er, k⟩ := Ask.lftA a2
  obtain ⟨t, et, rfl⟩ := Option.map_eq_some_iff.mp er
  exact ⟨ρ2, A2, u, v, t, hH2, r1.mono s2, r2, et, k ρ2 H2 Step.refl hH2 _ (.val (.d (.bl _)))⟩
theorem x_cmp {op : CmpOp} (hu : X.A.units + 64 < cLine) (ha : PE X a (tR X.K mg W ma)) (hb : PE X b (tR X.K mg W mb)) (hm : behindInMarks op b = false) :
    PE X (.Compare a [op] [b] pos) (tR X.K mg W fun δ => bnd (valM (ma δ)) fun u => bnd (valM (mb δ)) fun v => fun A => lft ((cmpO A op u v).map dB) A) :=
  pe_imp (pe_cmpR (op_cmp (mg := mg) hu op) ha hb hm) fun σ H Q h => x_cmp0 h
/-- a test from a value's reading: for readings of our kind -/
theorem tT.toR {m : FM} {σ : L2.St} {H : Hp} {Q : Bool → Hp → Prop} (h : tT X.K mg W m σ H Q) : tR X.K mg W m σ H (fun x H' => ∃ k, x = .bl k ∧ Q k H') := by
  obtain ⟨ρ, A, δ, hE, hH, h⟩ := h
  unfold boolM at h
  refine tR.of hE hH h fun u x ρ1 H1 A1 s1 E1 hH1 r1 a1 => ?_
  obtain ⟨t, et, k⟩ := Ask.lft a1
  unfold asBool at et
  split at et
  · cases et
    cases r1.bool_inv
    exact ⟨_, rfl, k ρ1 H1 Step.refl hH1⟩
  · cases et
theorem y_cmp {op : CmpOp} (hu : X.A.units + 64 < cLine) (ha : PE X a (tR X.K mg W ma)) (hb : PE X b (tR X.K mg W mb)) (hm : behindInMarks op b = false) :
    PT X (.Compare a [op] [b] pos) (tT X.K mg W fun δ => bnd (valM (ma δ)) fun u => bnd (valM (mb δ)) fun v => fun A => lft ((cmpO A op u v).map dB) A) :=
  pt_imp (pt_cmpR (op_cmp (mg := mg) hu op) ha hb hm) fun σ H Q h => x_cmp0 h.toR
theorem x_chn0 {o1 o2 : CmpOp} {σ : L2.St} {H : Hp} {Q : VK} (h : tR X.K mg W (fun δ => bnd (valM (ma δ)) fun u => bnd (valM (mb δ)) fun v => fun A => (match cmpO A o1 u v with
    | some true => bnd (valM (mc δ)) (fun w => fun A => lft ((cmpO A o2 v w).map dB) A) A
    | some false => ret (dB false) A
    | none => none)) σ H Q) : tChain (rCmp X.K mg o1) (rCmp X.K mg o2) (tR X.K mg W ma) (tR X.K mg W mb) (tR X.K mg W mc) σ H Q := by
  obtain ⟨ρ, A, δ, hE, hH, h⟩ := h
  refine tR.of hE hH h fun u x ρ1 H1 A1 s1 E1 hH1 r1 a1 => ?_
  refine tR.of E1 hH1 a1 fun v y ρ2 H2 A2 s2 E2 hH2 r2 a2 => ?_
  cases ec : cmpO A2 o1 u v with
  | none => exact (a2.congr (m' := bad) (by simp only [ec]; rfl)).elim
  | some t =>
    refine ⟨ρ2, A2, u, v, t, hH2, r1.mono s2, r2, ec, t, rfl, ?_⟩
    cases t with
    | false =>
      have a3 := a2.congr (m' := ret (dB false)) (by simp only [ec])
      simp only [Bool.false_eq_true, if_false]
      exact a3.ret hH2 _ (.val (.d (.bl _)))
    | true =>
      have a3 := a2.congr (m' := bnd (valM (mc δ)) (fun w => fun A => lft ((cmpO A o2 v w).map dB) A)) (by simp only [ec])
      simp only [if_true]
      refine tR.of E2 hH2 a3 fun w z ρ3 H3 A3 s3 E3 hH3 r3 a3 => ?_
      obtain ⟨r, er, k⟩ := Ask.lftA a3
      obtain ⟨t, et, rfl⟩ := Option.map_eq_some_iff.mp er
      exact ⟨ρ3, A3, v, w, t, hH3, r2.mono s3, r3, et, k ρ3 H3 Step.refl hH3 _ (.val (.d (.bl _)))⟩
def mChn (o1 o2 : CmpOp) (ma mb mc : FM) : FM := fun δ => bnd (valM (ma δ)) fun u => bnd (valM (mb δ)) fun v => fun A => (match cmpO A o1 u v with
    | some true => bnd (valM (mc δ)) (fun w => fun A => lft ((cmpO A o2 v w).map dB) A) A
    | some false => ret (dB false) A
    | none => none)
theorem x_chn {o1 o2 : CmpOp} (hu : X.A.units + 64 < cLine) (ha : PE X a (tR X.K mg W ma)) (hb : PE X b (tR X.K mg W mb)) (hc : PE X c (tR X.K mg W mc)) (hm : lastMarks [o1, o2] [b, c] = false) :
    PE X (.Compare a [o1, o2] [b, c] pos) (tR X.K mg W (mChn o1 o2 ma mb mc)) :=
  pe_imp (pe_chain (op_cmp (mg := mg) hu o1) (op_cmp (mg := mg) hu o2) ha hb hc hm) fun σ H Q h => x_chn0 h
theorem y_chn {o1 o2 : CmpOp} (hu : X.A.units + 64 < cLine) (ha : PE X a (tR X.K mg W ma)) (hb : PE X b (tR X.K mg W mb)) (hc : PE X c (tR X.K mg W mc)) (hm : lastMarks [o1, o2] [b, c] = false) :
    PT X (.Compare a [o1, o2] [b, c] pos) (tT X.K mg W (mChn o1 o2 ma mb mc)) :=
  pt_imp (pt_chain (op_cmp (mg := mg) hu o1) (op_cmp (mg := mg) hu o2) ha hb hc hm) fun σ H Q h => x_chn0 (tT.toR h)
/-- a value that is a bool, as a test -/
theorem y_val (h : PE X e (tR X.K mg W ma)) (he : ∀ whole, isTrue e X.env whole = (do let v ← whole; standAt e.pos; holding [v] (truthy v))) : PT X e (tT X.K mg W ma) :=
  pt_imp (pt_val h he) fun σ H Q h => h.toR
/-- and, or, not -/
theorem tT.of {σ : L2.St} {δ : Fr} {β : Type} {m : FM} {g : Bool → M β} {Φ : β → Ow → Hp → Hs → Prop} {Q : Bool → Hp → Prop} {ρ : Ow} {H : Hp} {A : Hs} (hE : RepE ρ X.K mg H δ σ) (hH : RepH ρ X.K mg H A) (h : Ask X.K mg W σ ρ H (Mi.bnd (boolM (m δ)) g) A Φ)
    (k : ∀ t ρ1 H1 A1, Step ρ ρ1 H H1 → RepE ρ1 X.K mg H1 δ σ → RepH ρ1 X.K mg H1 A1 → Ask X.K mg W σ ρ1 H1 (g t) A1 Φ → Q t H1) : tT X.K mg W m σ H Q :=
  ⟨ρ, A, δ, hE, hH, (Ask.bnd h).mono fun t ρ1 H1 A1 s r1 a => k t ρ1 H1 A1 s (hE.mono s) r1 a⟩
/-- the readings that are told again from a later heap -/
theorem tR.back {m : FM} {σ : L2.St} {δ : Fr} {Q : VK} {ρ ρ0 : Ow} {H H0 : Hp} {A : Hs} (hE : RepE ρ X.K mg H δ σ) (hH : RepH ρ X.K mg H A) (s : Step ρ0 ρ H0 H) (h : Ask X.K mg W σ ρ H (m δ) A fun r ρ' H' A' => ∀ v, RepR ρ0 H0 ρ' X.K mg A' H' r v → Q v H') : tR X.K mg W m σ H Q :=
  ⟨ρ, A, δ, hE, hH, h.mono fun r ρ' H' A' _ _ k v rv => k v (rv.back s)⟩
def mAnd (ma mb : FM) : FM := fun δ => bnd (boolM (ma δ)) fun b => (match b with
    | true => mb δ
    | false => ret (dB false))
def mOr (ma mb : FM) : FM := fun δ => bnd (boolM (ma δ)) fun b => (match b with
    | true => ret (dB true)
    | false => mb δ)
theorem x_and {op : BoolOp} {rest : List Expr} (ha : PE X a (tR X.K mg W ma)) (hb : PE X (.BoolOp .And (b :: rest) pos) (tR X.K mg W mb)) : PE X (.BoolOp .And (a :: b :: rest) pos) (tR X.K mg W (mAnd ma mb)) := by
  refine pe_imp (pe_and ha hb) fun σ H Q h => ?_
  obtain ⟨ρ, A, δ, hE, hH, h⟩ := h
  refine (tT.of hE hH h fun t ρ1 H1 A1 s1 E1 hH1 a1 => ?_).toR
  cases t with
  | false => exact Ask.ret a1 hH1 _ (.val (.d (.bl _)))
  | true => exact tR.back E1 hH1 s1 a1
theorem x_or {op : BoolOp} {rest : List Expr} (ha : PE X a (tR X.K mg W ma)) (hb : PE X (.BoolOp .Or (b :: rest) pos) (tR X.K mg W mb)) : PE X (.BoolOp .Or (a :: b :: rest) pos) (tR X.K mg W (mOr ma mb)) := by
  refine pe_imp (pe_or ha hb) fun σ H Q h => ?_
  obtain ⟨ρ, A, δ, hE, hH, h⟩ := h
  refine (tT.of hE hH h fun t ρ1 H1 A1 s1 E1 hH1 a1 => ?_).toR
  cases t with
  | true => exact Ask.ret a1 hH1 _ (.val (.d (.bl _)))
  | false => exact tR.back E1 hH1 s1 a1
theorem boolM_bnd {β : Type} {x : M β} {f : β → M R} : boolM (bnd x f) = bnd x fun a => boolM (f a) := by
  funext A
  unfold boolM valM bnd
  cases x A with
  | none => rfl
  | some z =>
    obtain ⟨z, A'⟩ := z
    cases z <;> rfl
theorem boolM_ret {t : Bool} : boolM (ret (dB t)) = ret t := rfl
theorem y_and {rest : List Expr} (ha : PT X a (tT X.K mg W ma)) (hb : PW X (.BoolOp .And (b :: rest) pos) (tT X.K mg W mb)) : PW X (.BoolOp .And (a :: b :: rest) pos) (tT X.K mg W (mAnd ma mb)) := by
  refine ⟨fun wh pins s σ H Q I h => (pw_and ha hb).run wh pins s σ H Q I ?_⟩
  obtain ⟨ρ, A, δ, hE, hH, h⟩ := h
  unfold mAnd at h
  rw [boolM_bnd] at h
  refine tT.of hE hH h fun t ρ1 H1 A1 s1 E1 hH1 a1 => ?_
  cases t with
  | false => exact Ask.ret a1 hH1
  | true => exact ⟨ρ1, A1, δ, E1, hH1, a1⟩
theorem y_or {rest : List Expr} (ha : PT X a (tT X.K mg W ma)) (hb : PW X (.BoolOp .Or (b :: rest) pos) (tT X.K mg W mb)) : PW X (.BoolOp .Or (a :: b :: rest) pos) (tT X.K mg W (mOr ma mb)) := by
  refine ⟨fun wh pins s σ H Q I h => (pw_or ha hb).run wh pins s σ H Q I ?_⟩
  obtain ⟨ρ, A, δ, hE, hH, h⟩ := h
  unfold mOr at h
  rw [boolM_bnd] at h
  refine tT.of hE hH h fun t ρ1 H1 A1 s1 E1 hH1 a1 => ?_
  cases t with
  | true => exact Ask.ret a1 hH1
  | false => exact ⟨ρ1, A1, δ, E1, hH1, a1⟩
theorem x_not (ha : PE X a (tR X.K mg W ma)) : PE X (.UnaryOp .Not a pos) (tR X.K mg W fun δ => bnd (boolM (ma δ)) fun b => ret (dB (!b))) := by
  refine pe_imp (pe_not ha) fun σ H Q h => ?_
  obtain ⟨ρ, A, δ, hE, hH, h⟩ := h
  exact (tT.of hE hH h fun t ρ1 H1 A1 s1 E1 hH1 a1 => Ask.ret a1 hH1 _ (.val (.d (.bl _)))).toR
theorem y_not (ha : PT X a (tT X.K mg W ma)) : PT X (.UnaryOp .Not a pos) (tT X.K mg W fun δ => bnd (boolM (ma δ)) fun b => ret (dB (!b))) := by
  refine pt_imp (pt_not ha) fun σ H Q h => ?_
  obtain ⟨ρ, A, δ, hE, hH, h⟩ := h
  rw [boolM_bnd] at h
  exact tT.of hE hH h fun t ρ1 H1 A1 s1 E1 hH1 a1 => Ask.ret a1 hH1
theorem x_ife (hc : PT X c (tT X.K mg W mc)) (ha : PE X a (tR X.K mg W ma)) (hb : PE X b (tR X.K mg W mb)) : PE X (.IfExp c a b pos) (tR X.K mg W fun δ => bnd (boolM (mc δ)) fun t => (match t with
    | true => ma δ
    | false => mb δ)) := by
  refine pe_imp (pe_ifExp hc ha hb) fun σ H Q h => ?_
  obtain ⟨ρ, A, δ, hE, hH, h⟩ := h
  refine tT.of hE hH h fun t ρ1 H1 A1 s1 E1 hH1 a1 => ?_
  cases t with
  | true => exact tR.back E1 hH1 s1 a1
  | false => exact tR.back E1 hH1 s1 a1
/-- lists of values -/
theorem x_nil : PA X [] (tRs X.K mg W fun _ => ret []) := by
  refine pa_imp pa_nil fun σ H Q h => ?_
  obtain ⟨ρ, A, δ, hE, hH, h⟩ := h
  exact h.ret hH _ .nil
theorem x_cons {ms : Fr → M (List U)} (ha : PE X e (tR X.K mg W ma)) (hr : PA X es (tRs X.K mg W ms)) (hs : starEach (e :: es) X.env = (false, eval e X.env) :: starEach es X.env) :
    PA X (e :: es) (tRs X.K mg W fun δ => bnd (valM (ma δ)) fun u => bnd (ms δ) fun us => ret (u :: us)) := by
  refine pa_imp (pa_cons ha hr hs) fun σ H Q h => ?_
  obtain ⟨ρ, A, δ, hE, hH, h⟩ := h
  refine tR.of hE hH h fun u x ρ1 H1 A1 s1 E1 hH1 r1 a1 => ?_
  refine tRs.of E1 hH1 a1 fun us vs ρ2 H2 A2 s2 E2 hH2 r2 a2 => ?_
  exact a2.ret hH2 _ (.cons (r1.mono s2) r2)
theorem RepUs.data {ρ : Ow} {K : PySem.W.Frag} {H : Hp} : ∀ {us : List U} {vs : List V} {ps : List PyData}, asPs us = some ps → RepUs ρ K mg H us vs → RepPs ρ K H ps vs
  | [], _, ps, e, r => by
    cases r
    cases e
    exact .nil
  | u :: us, _, ps, e, r => by
    cases r with
    | cons ru rr =>
      cases u with
      | d p =>
        obtain ⟨qs, eq, rfl⟩ := Option.map_eq_some_iff.mp (show (asPs us).map (p :: ·) = some ps from e)
        cases ru with
        | d ru => exact .cons ru (RepUs.data eq rr)
      | _ => cases e
theorem x_tup {x1 : Nat} {ms : Fr → M (List U)} (ha : PA X es (tRs X.K mg W ms)) : PE X (.Tuple es x1 pos) (tR X.K mg W fun δ => bnd (ms δ) fun us => lft ((asPs us).bind fun ps => if ps.length ≤ sizeLine then some (dT ps) else none)) := by
  refine pe_imp (pe_tup ha) fun σ H Q h => ?_
  obtain ⟨ρ, A, δ, hE, hH, h⟩ := h
  refine tRs.of hE hH h fun us vs ρ1 H1 A1 s1 E1 hH1 r1 a1 => ?_
  obtain ⟨r, er, k⟩ := Ask.lft a1
  obtain ⟨ps, ep, er⟩ := Option.bind_eq_some_iff.mp er
  split at er
  · rename_i hl
    cases er
    have rp := r1.data ep
    refine ⟨by rw [← rp.length]; exact hl, fun p hp => ?_⟩
    exact k ρ1 _ (hH1.stp hp) (hH1.new hp) _ (.val (.d (.tup (SqT.of upd_same) (rp.mono (hH1.stp hp)))))
  · cases er
theorem x_lst {ms : Fr → M (List U)} (ha : PA X es (tRs X.K mg W ms)) : PE X (.List es pos) (tR X.K mg W fun δ => bnd (ms δ) fun us => lft ((asPs us).bind fun ps => if ps.length ≤ sizeLine then some (.new (.lst ps)) else none)) := by
  refine pe_imp (pe_lst ha) fun σ H Q h => ?_
  obtain ⟨ρ, A, δ, hE, hH, h⟩ := h
  refine tRs.of hE hH h fun us vs ρ1 H1 A1 s1 E1 hH1 r1 a1 => ?_
  obtain ⟨r, er, k⟩ := Ask.lft a1
  obtain ⟨ps, ep, er⟩ := Option.bind_eq_some_iff.mp er
  split at er
  · rename_i hl
    cases er
    have rp := r1.data ep
    refine ⟨by rw [← rp.length]; exact hl, fun p hp => ?_⟩
    refine k ρ1 _ (hH1.stp hp) (hH1.new hp) _ (.new s1 hp rfl hH1 (.lst rp))
  · cases er
/-- a new object that is ours from now on -/
theorem x_alc (ha : PE X e (tR X.K mg W ma)) : PE X e (tR X.K mg W fun δ => bnd (ma δ) fun r => (match r with
    | .new o => fun A => some (.ok (.val (.obj A.length)), A ++ [o])
    | .val _ => bad)) := by
  refine pe_imp ha fun σ H Q h => ?_
  obtain ⟨ρ, A, δ, hE, hH, h⟩ := h
  refine ⟨ρ, A, δ, hE, hH, ?_⟩
  unfold Ask at h ⊢
  cases em : ma δ A with
  | none => simp only [bnd, em] at h
  | some z =>
    obtain ⟨z, A1⟩ := z
    cases z with
    | er c fs =>
      simp only [bnd, em] at h
      exact h
    | ok r =>
      intro ρ1 H1 s1 hH1 v rv
      cases r with
      | val u => simp only [bnd, em, bad] at h
      | new o =>
        simp only [bnd, em] at h
        cases rv with
        | new h0 h1 e1 hr ro =>
          subst e1
          obtain ⟨g1, g2⟩ := hr.own h1 ro
          exact h _ _ (h0.trans g2) g1 _ (.val (.obj (by rw [← hr.len]; simp [Ow.add])))
end
end Mi
set_option Elab.async false
set_option linter.all false
set_option maxRecDepth 100000
set_option maxHeartbeats 1000000
/-! MiM: subscripts, displays of dicts, calls of built-ins, methods. -/
namespace Mi
open PySem L2
section
variable {X : Cx} {mg : Mg} {W : WX} {a b c e o : Expr} {es : List Expr} {pos p apos cpos : Pos} {ma mb mc : FM} {ms : Fr → M (List U)}
theorem x_ix (hu : X.A.units + 64 < cLine) (ha : PE X a (tR X.K mg W ma)) (hb : PE X b (tR X.K mg W mb)) (hs : PlainIx b) :
    PE X (.Subscript a b pos) (tR X.K mg W fun δ => bnd (valM (ma δ)) fun u => bnd (valM (mb δ)) fun v => fun A => lft ((ixO A u v).map .val) A) := by
  refine pe_imp (pe_ix (ix_o (mg := mg) hu) ha hb hs) fun σ H Q h => ?_
  obtain ⟨ρ, A, δ, hE, hH, h⟩ := h
  refine tR.of hE hH h fun u x ρ1 H1 A1 s1 E1 hH1 r1 a1 => ?_
  refine tR.of E1 hH1 a1 fun v y ρ2 H2 A2 s2 E2 hH2 r2 a2 => ?_
  obtain ⟨r, er, k⟩ := Ask.lftA a2
  obtain ⟨w, ew, rfl⟩ := Option.map_eq_some_iff.mp er
  exact ⟨ρ2, A2, u, v, w, hH2, r1.mono s2, r2, ew, fun z rz => k ρ2 H2 Step.refl hH2 z (.val rz)⟩
/-- a part's bound -/
def tO (K : PySem.W.Frag) (mg : Mg) (W : WX) (m : Fr → M (Option Int)) : TO := fun σ H Q => ∃ ρ A δ, RepE ρ K mg H δ σ ∧ RepH ρ K mg H A ∧ Ask K mg W σ ρ H (m δ) A fun i _ H' _ => Q i H'
theorem po_imp {oe : Option Expr} {t t' : TO} (h : PO X oe t) (k : ∀ σ H Q, t' σ H Q → t σ H Q) : PO X oe t' := ⟨fun pins s σ H Q I q => h.run pins s σ H Q I (k σ H Q q)⟩
theorem o_none : PO X none (tO X.K mg W fun _ => ret none) := by
  refine po_imp po_none fun σ H Q h => ?_
  obtain ⟨ρ, A, δ, hE, hH, h⟩ := h
  exact h.ret hH
theorem o_some (ha : PE X a (tR X.K mg W ma)) : PO X (some a) (tO X.K mg W fun δ => bnd (valM (ma δ)) fun u => lft ((asInt u).map some)) := by
  refine po_imp (po_some ha) fun σ H Q h => ?_
  obtain ⟨ρ, A, δ, hE, hH, h⟩ := h
  refine tR.of hE hH h fun u x ρ1 H1 A1 s1 E1 hH1 r1 a1 => ?_
  obtain ⟨r, er, k⟩ := Ask.lft a1
  obtain ⟨i, ei, rfl⟩ := Option.map_eq_some_iff.mp er
  unfold asInt at ei
  split at ei
  · cases ei
    cases r1.int_inv
    exact ⟨_, rfl, k ρ1 H1 Step.refl hH1⟩
  · cases ei
theorem tO.of {σ : L2.St} {δ : Fr} {β : Type} {m : Fr → M (Option Int)} {g : Option Int → M β} {Φ : β → Ow → Hp → Hs → Prop} {Q : Option Int → Hp → Prop} {ρ : Ow} {H : Hp} {A : Hs} (hE : RepE ρ X.K mg H δ σ) (hH : RepH ρ X.K mg H A) (h : Ask X.K mg W σ ρ H (Mi.bnd (m δ) g) A Φ)
    (k : ∀ t ρ1 H1 A1, Step ρ ρ1 H H1 → RepE ρ1 X.K mg H1 δ σ → RepH ρ1 X.K mg H1 A1 → Ask X.K mg W σ ρ1 H1 (g t) A1 Φ → Q t H1) : tO X.K mg W m σ H Q :=
  ⟨ρ, A, δ, hE, hH, (Ask.bnd h).mono fun t ρ1 H1 A1 s r1 a => k t ρ1 H1 A1 s (hE.mono s) r1 a⟩
theorem x_sl {lo hi : Option Expr} {p2 : Pos} {ml mh : Fr → M (Option Int)} (ha : PE X a (tR X.K mg W ma)) (hl : PO X lo (tO X.K mg W ml)) (hh : PO X hi (tO X.K mg W mh)) :
    PE X (.Subscript a (.Slice lo hi none p2) pos) (tR X.K mg W fun δ => bnd (valM (ma δ)) fun u => bnd (ml δ) fun l => bnd (mh δ) fun h => fun A => lft (slO A u l h) A) := by
  refine pe_imp (pe_slice (sl_o (mg := mg)) ha hl hh) fun σ H Q h => ?_
  obtain ⟨ρ, A, δ, hE, hH, h⟩ := h
  refine tR.of hE hH h fun u x ρ1 H1 A1 s1 E1 hH1 r1 a1 => ?_
  refine tO.of E1 hH1 a1 fun l ρ2 H2 A2 s2 E2 hH2 a2 => ?_
  refine tO.of E2 hH2 a2 fun h' ρ3 H3 A3 s3 E3 hH3 a3 => ?_
  obtain ⟨r, er, k⟩ := Ask.lftA a3
  exact ⟨ρ3, A3, u, r, hH3, (r1.mono s2).mono s3, er, fun ρ' H' w st hh rr => k ρ' H' st hh w (rr.back ((s1.trans s2).trans s3))⟩
/-- built-in functions and types -/
theorem x_bi {f : Str} {id : String} {F : String} (hc : CallR X (.builtin id) (rBi X.K mg F)) (hg : Gl X f) (hm : X.mg f = none) (hv : bootBuiltins f = some (.builtin id)) (ha : PA X (e :: es) (tRs X.K mg W ms)) (hn : f ≠ "__name__") (hdb : (f == ("__debug__" : Str)) = false)
    (he : starEach (e :: es) X.env = (false, eval e X.env) :: starEach es X.env) (hpl : (backTo pos (starEach es X.env)).any (·.1) = false) :
    PE X (.Call (.Name f p) (e :: es) [] pos) (tR X.K mg W fun δ => bnd (ms δ) fun us => fun A => lft (biO A F us) A) := by
  refine pe_imp (pe_callB hc hg hm hv ha hn hdb he hpl) fun σ H Q h => ?_
  obtain ⟨ρ, A, δ, hE, hH, h⟩ := h
  refine tRs.of hE hH h fun us vs ρ1 H1 A1 s1 E1 hH1 r1 a1 => ?_
  obtain ⟨r, er, k⟩ := Ask.lftA a1
  exact ⟨ρ1, A1, us, r, hH1, r1, er, fun ρ' H' w st hh rr => k ρ' H' st hh w (rr.back s1)⟩
theorem x_bt {f : Str} {T : String} {F : String} (hc : CallR X (.type T) (rBi X.K mg F)) (hg : Gl X f) (hm : X.mg f = none) (hv : bootBuiltins f = some (.type T)) (ha : PA X (e :: es) (tRs X.K mg W ms)) (hn : f ≠ "__name__") (hdb : (f == ("__debug__" : Str)) = false)
    (he : starEach (e :: es) X.env = (false, eval e X.env) :: starEach es X.env) (hpl : (backTo pos (starEach es X.env)).any (·.1) = false) :
    PE X (.Call (.Name f p) (e :: es) [] pos) (tR X.K mg W fun δ => bnd (ms δ) fun us => fun A => lft (biO A F us) A) := by
  refine pe_imp (pe_callTy hc hg hm hv ha hn hdb he hpl) fun σ H Q h => ?_
  obtain ⟨ρ, A, δ, hE, hH, h⟩ := h
  refine tRs.of hE hH h fun us vs ρ1 H1 A1 s1 E1 hH1 r1 a1 => ?_
  obtain ⟨r, er, k⟩ := Ask.lftA a1
  exact ⟨ρ1, A1, us, r, hH1, r1, er, fun ρ' H' w st hh rr => k ρ' H' st hh w (rr.back s1)⟩
/-- methods -/
def mMeth (m : String) (mo : FM) (ms : Fr → M (List U)) : FM := fun δ => bnd (valM (mo δ)) fun u => fun A => (match decide (tyN A u = some (mTy m)) with
    | true => bnd (ms δ) (fun us => fun A => (match metO A m u us with
      | some (r, A') => some (.ok r, A')
      | none => none)) A
    | false => none)
theorem m_end {m : String} {σ : L2.St} {H0 H : Hp} {ρ ρ0 : Ow} {A : Hs} {u : U} {x : V} {us : List U} {vs : List V} {Q : VK} (s : Step ρ0 ρ H0 H) (hH : RepH ρ X.K mg H A) (ru : RepU ρ X.K mg H u x) (rus : RepUs ρ X.K mg H us vs)
    (h : Ask X.K mg W σ ρ H (fun A => (match metO A m u us with
      | some (r, A') => some (.ok r, A')
      | none => none)) A fun r ρ' H' A' => ∀ v, RepR ρ0 H0 ρ' X.K mg A' H' r v → Q v H') : rMt X.K mg m x vs H Q := by
  cases em : metO A m u us with
  | none => exact (h.congr (m' := bad) (by simp only [em]; rfl)).elim
  | some z =>
    obtain ⟨r, A'⟩ := z
    have h2 := h.congr (m' := fun _ => some (.ok r, A')) (by simp only [em])
    exact ⟨ρ, A, u, us, r, A', hH, ru, rus, em, fun ρ' H' w st hh rr => h2 ρ' H' st hh w (rr.back s)⟩
theorem x_meth {T m : String} {name : Str} (hT : mTy m = T) (hT' : T = "list" ∨ T = "dict" ∨ T = "str") (pa : PlainAttrs T) (slot : Slot T name m) (hty : typeOf (.builtin m) = pure (.type "method_descriptor")) (hm : MtR X m (rMt X.K mg m)) (ho : PE X o (tR X.K mg W ma)) (ha : PA X (e :: es) (tRs X.K mg W ms))
    (hbase : attributeBase o name X.env (eval o X.env) = eval o X.env)
    (hfew : ((backTo cpos (starEach (e :: es) X.env)).all (fun x => !x.1) && (backToKw cpos (keywordEach [] X.env)).all (fun x => x.1.isSome)
      && decide ((e :: es).length + ([] : List Keyword).length + (if ([] : List Keyword).isEmpty then 0 else 1) < 30)) = true)
    (hline : (apos.endLine == cpos.line) = true) (hs : starEach (e :: es) X.env = (false, eval e X.env) :: starEach es X.env) (hplain : (backTo cpos (starEach es X.env)).any (·.1) = false) :
    PE X (.Call (.Attribute o name apos) (e :: es) [] cpos) (tR X.K mg W (mMeth m ma ms)) := by
  refine pe_imp (pe_bm pa slot hty hm ho ha hbase hfew hline hs hplain) fun σ H Q h => ?_
  obtain ⟨ρ, A, δ, hE, hH, h⟩ := h
  refine tR.of hE hH h fun u x ρ1 H1 A1 s1 E1 hH1 r1 a1 => ?_
  cases et : decide (tyN A1 u = some (mTy m)) with
  | false => exact (a1.congr (m' := bad) (by simp only [et]; rfl)).elim
  | true =>
    have a2 := a1.congr (m' := bnd (ms δ) (fun us => fun A => (match metO A m u us with
      | some (r, A') => some (.ok r, A')
      | none => none))) (by simp only [et])
    refine ⟨tyN_tyV ((of_decide_eq_true et).trans (by rw [hT])) hT' r1 hH1, ?_⟩
    refine tRs.of E1 hH1 a2 fun us vs ρ2 H2 A2 s2 E2 hH2 r2 a3 => ?_
    exact m_end (s1.trans s2) hH2 (r1.mono s2) r2 a3
theorem x_meth0 {T m : String} {name : Str} (hT : mTy m = T) (hT' : T = "list" ∨ T = "dict" ∨ T = "str") (pa : PlainAttrs T) (slot : Slot T name m) (hty : typeOf (.builtin m) = pure (.type "method_descriptor")) (hm : MtR X m (rMt X.K mg m)) (ho : PE X o (tR X.K mg W ma))
    (hbase : attributeBase o name X.env (eval o X.env) = eval o X.env) (hline : (apos.endLine == cpos.line) = true) :
    PE X (.Call (.Attribute o name apos) [] [] cpos) (tR X.K mg W (mMeth m ma fun _ => ret [])) := by
  refine pe_imp (pe_bm0 pa slot hty hm ho hbase hline) fun σ H Q h => ?_
  obtain ⟨ρ, A, δ, hE, hH, h⟩ := h
  refine tR.of hE hH h fun u x ρ1 H1 A1 s1 E1 hH1 r1 a1 => ?_
  cases et : decide (tyN A1 u = some (mTy m)) with
  | false => exact (a1.congr (m' := bad) (by simp only [et]; rfl)).elim
  | true =>
    have a2 := a1.congr (m' := bnd (ret []) (fun us => fun A => (match metO A m u us with
      | some (r, A') => some (.ok r, A')
      | none => none))) (by simp only [et])
    refine ⟨tyN_tyV ((of_decide_eq_true et).trans (by rw [hT])) hT' r1 hH1, ?_⟩
    exact m_end s1 hH1 r1 .nil a2
/-- isinstance -/
theorem x_is1 {sb : Sub} (S : SubOk sb X.K mg) {t : String ⊕ Str} {cv : V} {cu : Value} (hc : ClsAt mg t cv cu) (hg : Gl X "isinstance") (hm : X.mg "isinstance" = none) (ha : PE X a (tR X.K mg W ma)) (hb : PE X b (tC cv)) (h1 : starEach [a, b] X.env = (false, eval a X.env) :: starEach [b] X.env) (h2 : starEach [b] X.env = (false, eval b X.env) :: starEach [] X.env) :
    PE X (.Call (.Name "isinstance" p) [a, b] [] pos) (tR X.K mg W fun δ => bnd (valM (ma δ)) fun u => fun A => lft ((isiOs sb A u [t]).map dB) A) := by
  refine pe_imp (pe_callB (call_is1 (mg := mg) S t) hg hm (by decide +kernel) (pa_cons ha (pa_cons hb pa_nil h2) h1) (he := h1) (hpl := by rw [h2]; rfl)) fun σ H Q h => ?_
  obtain ⟨ρ, A, δ, hE, hH, h⟩ := h
  refine tR.of hE hH h fun u x ρ1 H1 A1 s1 E1 hH1 r1 a1 => ?_
  obtain ⟨r, er, k⟩ := Ask.lftA a1
  obtain ⟨t', et, rfl⟩ := Option.map_eq_some_iff.mp er
  refine ⟨ρ1, A1, u, x, cv, cu, t', rfl, hc, hH1, r1, ?_, k ρ1 H1 Step.refl hH1 _ (.val (.d (.bl _)))⟩
  unfold isiOs at et
  split at et
  · rename_i z; cases et; exact z
  · rename_i z; cases et; exact z
  · cases et
end
end Mi
set_option Elab.async false
set_option linter.all false
set_option maxRecDepth 100000
set_option maxHeartbeats 1000000
/-! MiN: calls of defs, tables of the module, fields of exceptions, displays of dicts. -/
namespace Mi
open PySem L2
/-! ### the held lambda put away -/
def Mg.off (mg : Mg) : Mg := ⟨mg.g, mg.T, none, fun _ _ => True, fun _ h => h⟩
section
variable {ρ ρ' ρ0 : Ow} {K : PySem.W.Frag} {m m' : Mg} {H H' H0 : Hp} {A A' : Hs}
theorem RepU.sw (hg : m.g = m'.g) {u : U} {v : V} (r : RepU ρ K m H u v) (n : nl u = true) : RepU ρ K m' H u v := by
  cases r with
  | d h => exact .d h
  | obj h => exact .obj h
  | ty z => exact .ty z
  | glo h => exact .glo (by rw [← hg]; exact h)
  | exc h1 h2 h3 h4 => exact .exc (by rw [← hg]; exact h1) h2 h3 h4
  | lam h => cases n
theorem RepUs.sw (hg : m.g = m'.g) : ∀ {us : List U} {vs : List V}, RepUs ρ K m H us vs → us.all nl = true → RepUs ρ K m' H us vs
  | _, _, .nil, _ => .nil
  | _, _, .cons h r, n => by
    simp only [List.all_cons, Bool.and_eq_true] at n
    exact .cons (h.sw hg n.1) (RepUs.sw hg r n.2)
theorem RepA.sw {κ : Type} (hg : m.g = m'.g) : ∀ {us : List (κ × U)} {vs : List (κ × V)}, RepA ρ K m H us vs → RepA ρ K m' H us vs
  | _, _, .nil => .nil
  | _, _, .cons h r n => .cons (h.sw hg n) (RepA.sw hg r) n
theorem RepO.sw (hg : m.g = m'.g) {o : Ob} {ho : HO} (r : RepO ρ K m H o ho) : RepO ρ K m' H o ho := by
  cases r with
  | lst r => exact .lst r
  | dK r => exact .dK (r.sw hg)
  | dT r => exact .dT (r.sw hg)
theorem RepH.sw (hg : m.g = m'.g) (hT : m.T = m'.T) (h : RepH ρ K m H A) (i : m'.inv ρ H) : RepH ρ K m' H A :=
  ⟨h.len, h.nd, fun n o a e1 e2 => by
    obtain ⟨ho, q, r⟩ := h.at_ n o a e1 e2
    exact ⟨ho, q, r.sw hg⟩, by rw [← hT]; exact h.tabs, i, h.hid⟩
def nlR : R → Bool
  | .val u => nl u
  | .new _ => true
theorem RepR.sw (hg : m.g = m'.g) (hT : m.T = m'.T) {r : R} {v : V} (h : RepR ρ0 H0 ρ K m A H r v) (n : nlR r = true) (i : ∀ ρ H, Step ρ0 ρ H0 H → m'.inv ρ H) : RepR ρ0 H0 ρ K m' A H r v := by
  cases h with
  | val h => exact .val (h.sw hg n)
  | new h0 h1 h2 h3 h4 => exact .new h0 h1 h2 (h3.sw hg hT (i _ _ h0)) (h4.sw hg)
end
/-! ### what a def promises -/
def spF (K : PySem.W.Frag) (mg : Mg) (c : List U → M R) : Sp := fun vs H Q E => ∃ ρ A us, RepUs ρ K mg H us vs ∧ RepH ρ K mg H A ∧ Ask K mg (fun cls d _ H => E cls d H) [] ρ H (c us) A fun r ρ' H' A' => nlR r = true ∧ ∀ v, RepR ρ H ρ' K mg A' H' r v → Q v H'
structure FnG (P : Program) (w : World) (K : PySem.W.Frag) (mg : Str → Option Value) (base : Heap) (k : Nat) (f : Addr) (fd : FuncData) (ps : List Str) (sp : Sp) : Prop where
  len : ∀ vs H Q E, sp vs H Q E → vs.length = ps.length
  run : ∀ (A : Around) (outer : List Env) (s : Shared) (H : Hp) (args : Args) (us : List Value) (vs : List V) (Q : VK) (E : XK), Room k A → A.guards = some [] → Env0 P w K mg base A outer s H → BindsTo s fd args (ps.zip us) → Vals vs us → sp vs H Q E →
    codeAny (model P w) A (.call (.ref f) args) (CR (CX P w) outer P w H s Q E) s
/-- the def of the name f does what c says -/
structure CallOk (X : Cx) (mg : Mg) (f : Str) (c : List U → M R) : Prop where
  ex : ∃ (a : Addr) (fd : FuncData) (ps : List Str) (k : Nat), X.mg f = some (.ref a) ∧ PySem.W.keepIn X.K (.ref a) = true ∧ L2.Binds X.K fd ps [] ∧ Room k X.A ∧ FnG X.prog X.w X.K X.mg X.base k a fd ps (spF X.K mg.off c)
  nl : ∀ us A r A', c us A = some (.ok r, A') → nlR r = true
section
variable {X : Cx} {mg : Mg} {W : WX} {a b c e o : Expr} {es : List Expr} {pos p apos cpos : Pos} {ma mb mc : FM} {ms : Fr → M (List U)}
theorem Ask.offs {α : Type} {σ : L2.St} {ρ : Ow} {H : Hp} {A : Hs} {m : M α} {Φ : α → Ow → Hp → Hs → Prop} (h : Ask X.K mg W σ ρ H m A Φ) (hH : RepH ρ X.K mg H A) :
    Ask X.K mg.off (fun cls d _ H => W cls d σ H) [] ρ H m A Φ := by
  unfold Ask at h ⊢
  split
  · rename_i e; rw [e] at h; exact h
  · rename_i e; rw [e] at h
    exact fun ρ' H' C d s r e x => h ρ' H' C d s (RepH.sw (m := mg.off) (m' := mg) rfl rfl r (mg.mono s hH.inv)) e x
  · rename_i e; rw [e] at h
    exact fun ρ' H' s r => h ρ' H' s (RepH.sw (m := mg.off) (m' := mg) rfl rfl r (mg.mono s hH.inv))
theorem Ask.and {α : Type} {K : PySem.W.Frag} {σ : L2.St} {ρ : Ow} {H : Hp} {A : Hs} {m : M α} {Φ : α → Ow → Hp → Hs → Prop} {P : α → Prop} (h : Ask K mg W σ ρ H m A Φ) (p : ∀ a A', m A = some (.ok a, A') → P a) : Ask K mg W σ ρ H m A fun a ρ' H' A' => P a ∧ Φ a ρ' H' A' := by
  unfold Ask at h ⊢
  split
  · rename_i e; rw [e] at h; exact h
  · rename_i e; rw [e] at h; exact h
  · rename_i e; rw [e] at h
    exact fun ρ' H' s r => ⟨p _ _ e, h ρ' H' s r⟩
theorem x_call {f : Str} {c : List U → M R} (C : CallOk X mg f c) (hgd : X.A.guards = some []) (tk : Takes X W) (hg : Gl X f) (hdb : (f == ("__debug__" : Str)) = false) (ha : PA X (e :: es) (tRs X.K mg W ms))
    (he : starEach (e :: es) X.env = (false, eval e X.env) :: starEach es X.env) (hpl : (backTo pos (starEach es X.env)).any (·.1) = false) :
    PE X (.Call (.Name f p) (e :: es) [] pos) (tR X.K mg W fun δ => bnd (ms δ) fun us => (match us.all nl with
    | true => c us
    | false => bad)) := by
  obtain ⟨⟨ad, fd, ps, k, hm, hk, hb, hr, F⟩, hnl⟩ := C
  refine ⟨fun pins s σ H Q I h => ?_⟩
  obtain ⟨ρ, A, δ, hE, hH, h⟩ := h
  have h1 : tRs X.K mg W ms σ H (fun vs H1 => spF X.K mg.off c vs H1 Q (WE W σ)) := by
    refine tRs.of hE hH h fun us vs ρ1 H1 A1 s1 E1 hH1 r1 a1 => ?_
    cases en : us.all nl with
    | false => rw [en] at a1; exact a1.elim
    | true =>
      rw [en] at a1
      refine ⟨ρ1, A1, us, RepUs.sw (m := mg) (m' := mg.off) rfl r1 en, RepH.sw (m := mg) (m' := mg.off) rfl rfl hH1 trivial, ?_⟩
      refine ((a1.offs hH1).and (P := fun r => nlR r = true) (fun r A' e => hnl us A1 r A' e)).mono fun r ρ' H' A' s' hh' hq => ⟨hq.1, fun v rv => hq.2 v ?_⟩
      exact (RepR.sw (m := mg.off) (m' := mg) rfl rfl rv hq.1 (fun ρ2 H2 s2 => mg.mono s2 hH1.inv)).back s1
  refine wpAny_Call_Name_kw (ld_glob I hg hm ?_ hdb)
  refine PySem.W.callWith_K (h₀ := X.base) I.ok.mod.kin hk (thn (ha.run pos pins s σ H _ I h1) fun us s1 ⟨vs, H1, I1, r, q⟩ => ⟨I1.kIn, ?_⟩) he hpl
  have hl : us.length = ps.length := by rw [← r.length]; exact F.len _ _ _ _ q
  have b := hb s1 us I1.kIn (by rw [List.append_nil]; exact hl)
  rw [List.append_nil] at b
  refine wpAny_call (codeAny_mono (F.run X.A X.stack s1 H1 ⟨us, []⟩ us vs Q (WE W σ) hr hgd I1.env0 b r q) fun r s' hq => ?_)
  cases r with
  | error e => exact passAt tk σ pins H1 s1 e s' I1 hq
  | ok fl =>
    cases fl with
    | ret u => exact I1.after hq
    | next => exact False.elim hq
    | brk => exact False.elim hq
    | cont => exact False.elim hq
/-! ### a table of the module -/
structure KdOk (X : Cx) (x : Str) (kvs : List (Str × PyData)) : Prop where
  ex : ∃ (d : Addr) (es : Array DictEntry) (n : Nat), X.mg x = some (.ref d) ∧ KDict X.K X.w d es n ∧ ∀ z, (kvs.lookup z = none ∧ PySem.W.nsIn X.K d z = some none) ∨ ∃ q u0 v0, kvs.lookup z = some q ∧ PySem.W.nsIn X.K d z = some (some u0) ∧ RelV v0 u0 ∧ ∀ ρ H, RepP ρ X.K H q v0
theorem x_kget {x : Str} {kvs : List (Str × PyData)} {p0 : Pos} (D : KdOk X x kvs) (hg : Gl X x) (hdb : (x == ("__debug__" : Str)) = false) (ha : PE X a (tR X.K mg W ma)) (hb : PE X b (tR X.K mg W mb))
    (hfew : ((backTo cpos (starEach [a, b] X.env)).all (fun x => !x.1) && (backToKw cpos (keywordEach [] X.env)).all (fun x => x.1.isSome)
      && decide (([a, b] : List Expr).length + ([] : List Keyword).length + (if ([] : List Keyword).isEmpty then 0 else 1) < 30)) = true)
    (hline : (apos.endLine == cpos.line) = true) (hs : starEach [a, b] X.env = (false, eval a X.env) :: starEach [b] X.env) (hs2 : starEach [b] X.env = (false, eval b X.env) :: starEach [] X.env) :
    PE X (.Call (.Attribute (.Name x p0) "get" apos) [a, b] [] cpos) (tR X.K mg W fun δ => bnd (valM (ma δ)) fun u => bnd (valM (mb δ)) fun v => lft (match u, some kvs with
    | .d (.str x), some kvs => some (.val (((kvs.lookup x).map U.d).getD v))
    | _, _ => none)) := by
  obtain ⟨d, ens, n, hm, K, hl⟩ := D.ex
  refine ⟨fun pins s σ H Q I h => ?_⟩
  obtain ⟨ρ, A, δ, hE, hH, h⟩ := h
  have h1 : tCons (tR X.K mg W ma) (tCons (tR X.K mg W mb) tNil) σ H (fun vs H2 => ∃ z y w, vs = [.str z, y] ∧ ((PySem.W.nsIn X.K d z = some none ∧ w = y) ∨ ∃ u0, PySem.W.nsIn X.K d z = some (some u0) ∧ RelV w u0) ∧ Q w H2) := by
    refine tR.of hE hH h fun u x ρ1 H1 A1 s1 E1 hH1 r1 a1 => ?_
    refine tR.of E1 hH1 a1 fun v y ρ2 H2 A2 s2 E2 hH2 r2 a2 => ?_
    obtain ⟨r, er, k⟩ := Ask.lft a2
    split at er
    · rename_i z kvs' e2
      cases e2
      cases er
      cases r1.str_inv
      rcases hl z with ⟨l1, l2⟩ | ⟨q, u0, v0, l1, l2, l3, l4⟩
      · refine ⟨z, y, y, rfl, .inl ⟨l2, rfl⟩, k ρ2 H2 Step.refl hH2 _ (.val ?_)⟩
        rw [l1]; exact r2
      · refine ⟨z, y, v0, rfl, .inr ⟨u0, l2, l3⟩, k ρ2 H2 Step.refl hH2 _ (.val ?_)⟩
        rw [l1]; exact .d (l4 _ _)
    · cases er
  refine wpAny_Call_method_late (by rfl) hfew hline rfl (ld_glob I hg hm ?_ hdb)
  refine ⟨"dict", "dict.get", PySem.F.plainAttrs_dict, PySem.F.slot_dict_get, PySem.F.type_dict_get, kd_type K I, fun b' e' => ?_, ?_⟩
  · cases e'
    exact ⟨_, I.kIn _ _ K.at_, rfl⟩
  have hA := (pa_cons ha (pa_cons hb pa_nil hs2) hs).run cpos pins s σ H _ I h1
  rw [hs] at hA ⊢
  refine Calls.callWith_builtin (by show (false || (backTo cpos (starEach [b] X.env)).any (·.1)) = false; rw [hs2]; rfl) (Calls.evalArgs_plain ?_)
  refine thn hA fun us s2 ⟨vs, H2, I2, r2, z, y, w, ev, hw, q⟩ => ?_
  subst ev
  obtain ⟨u1, u2, rfl, q1, q2⟩ := vals2 r2
  obtain ⟨t, rfl⟩ := q1
  refine call_meetsIn PySem.F.slot_dict_get (kd_type K I2) PySem.F.entry_dict_get (PySem.F.args_dict_get_3 _ _ _) (meets_dict_get_default (PySem.strKind X.prog X.w) d (PySem.strKind_is X.prog X.w z t) K.low u2) ⟨_, PySem.W.mapOf_K (prog := X.prog) I2.kIn K.at_ K.lit, ?_⟩
  rcases hw with ⟨l2, rfl⟩ | ⟨u0, l2, l3⟩
  · rw [PySem.W.find_K K.at_ l2]
    exact ⟨w, H2, I2.tok _, q2, q⟩
  · rw [PySem.W.find_K K.at_ l2]
    exact ⟨w, H2, I2.tok _, l3, q⟩
end
end Mi
set_option Elab.async false
set_option linter.all false
set_option maxRecDepth 100000
set_option maxHeartbeats 1000000
/-! MiO: fields of exceptions, isinstance with a tuple, displays of dicts, targets. -/
namespace Mi
open PySem L2
section
variable {X : Cx} {mg : Mg} {W : WX} {a b c e o : Expr} {es : List Expr} {pos p apos cpos : Pos} {ma mb mc : FM} {ms : Fr → M (List U)}
theorem RepF.look {ρ : Ow} {K : PySem.W.Frag} {H : Hp} {f : Str} {q : PyData} : ∀ {fs : List (Str × PyData)} {gs : List (Str × V)}, RepF ρ K H fs gs → fs.lookup f = some q → ∃ v, gs.lookup f = some v ∧ RepP ρ K H q v
  | _, _, .nil, h => by cases h
  | _, _, .cons (f := g) (p := p) (v := v) h r, e => by
    simp only [List.lookup] at e ⊢
    split at e
    · cases e
      exact ⟨v, rfl, h⟩
    · exact RepF.look r e
/-- the fields of the class may be read -/
structure FldOk (X : Cx) (mg : Mg) (flds : Str → Option (List Str)) : Prop where
  at_ : ∀ c f C, ((flds c).getD []).contains f = true → mg c = some (.ref C) → XfC X.K C ∧ PySem.W.findIn X.K (.ref C) f = some none
theorem x_fld {flds : Str → Option (List Str)} {f : Str} (F : FldOk X mg flds) (ha : PE X o (tR X.K mg W ma)) (hb : attributeBase o f X.env (eval o X.env) = eval o X.env) :
    PE X (.Attribute o f pos) (tR X.K mg W fun δ => bnd (valM (ma δ)) fun u => lft (match u with
    | .exc c fs => if ((flds c).getD []).contains f then (fs.lookup f).map fun p => .val (.d p) else none
    | _ => none)) := by
  refine ⟨fun pins s σ H Q I h => ?_⟩
  obtain ⟨ρ, A, δ, hE, hH, h⟩ := h
  have h1 : tR X.K mg W ma σ H (fun x H1 => ∃ (a C dd : Addr) (gs : List (Str × V)) (v : V), x = .ref a ∧ H1 a = some (ExcO (.ref C) (some dd) a) ∧ H1 dd = some (.xd gs) ∧ gs.lookup f = some v ∧ XfC X.K C ∧ PySem.W.findIn X.K (.ref C) f = some none ∧ Q v H1) := by
    refine tR.of hE hH h fun u x ρ1 H1 A1 s1 E1 hH1 r1 a1 => ?_
    obtain ⟨r, er, k⟩ := Ask.lft a1
    split at er
    · rename_i c fs
      split at er
      · rename_i hc
        obtain ⟨q, eq, rfl⟩ := Option.map_eq_some_iff.mp er
        cases r1 with
        | exc hm hn h1 h2 =>
          rcases h2 with ⟨rfl, _⟩ | ⟨dd, gs, rfl, nd, h2, rf⟩
          · cases eq
          · obtain ⟨v, ev, rv⟩ := rf.look eq
            obtain ⟨f1, f2⟩ := F.at_ c f _ hc hm
            exact ⟨_, _, dd, gs, v, rfl, h1, h2, ev, f1, f2, k ρ1 H1 Step.refl hH1 _ (.val (.d rv))⟩
      · cases er
    · cases er
  refine attr_of hb (thn (ha.run pins s σ H _ I h1) fun u s1 hh => ?_)
  obtain ⟨x, H1, I1, rx, ad, C, dd, gs, v, ex, h1, h2, l, T, hno, q⟩ := hh
  subst ex
  obtain rfl : u = Value.ref ad := rx
  obtain ⟨⟨oe, vs, h1, hz, hd⟩, _, _⟩ := I1.hok ad _ h1
  obtain ⟨mA, hns, hr⟩ := (show ObjOk X.prog X.w H1 s1.heap dd (.xd gs) from I1.hok dd _ h2)
  obtain ⟨od, ho, hl⟩ := lookIn_ns hns
  obtain ⟨u, hu, ru⟩ := RelO.some_of (v := v) (o := mA f) (by rw [← l]; exact hr f)
  have J : PySem.W.InstAt s1.heap ad oe C (some od) := ⟨h1, hz.1, by unfold PySem.W.notCls; rw [hd] <;> rfl, by rw [hz.2]; exact ho⟩
  exact HandSPX.exc_get I1.kIn J T.ga T.gg T.exC (PySem.W.findObj_own T.hdC hno rfl (by rw [hl, hu])) (handed_of ru) ⟨v, H1, I1.tok _, ru, q⟩
/-- isinstance with a tuple of classes -/
inductive Clss (X : Cx) (mg : Mg) : List (String ⊕ Str) → List Expr → List V → List Value → Prop
  | nil : Clss X mg [] [] [] []
  | cons {t : String ⊕ Str} {ts : List (String ⊕ Str)} {e : Expr} {es : List Expr} {v : V} {vs : List V} {u : Value} {us : List Value} : ClsAt mg t v u → PE X e (tC v) → starEach (e :: es) X.env = (false, eval e X.env) :: starEach es X.env → Clss X mg ts es vs us → Clss X mg (t :: ts) (e :: es) (v :: vs) (u :: us)
theorem Clss.pa {ts : List (String ⊕ Str)} {es : List Expr} {vs : List V} {us : List Value} (h : Clss X mg ts es vs us) : PA X es (fun _ H Q => Q vs H) := by
  induction h with
  | nil => exact pa_imp pa_nil fun σ H Q h => h
  | cons c hp hs _ ih => exact pa_imp (pa_cons hp ih hs) fun σ H Q h => h
theorem Clss.at_ {ts : List (String ⊕ Str)} {es : List Expr} {vs : List V} {us : List Value} (h : Clss X mg ts es vs us) : ts.length = us.length ∧ Paired ClsV vs us ∧ ∀ (i : Nat) (t : String ⊕ Str), ts[i]? = some t → ∃ v u', vs[i]? = some v ∧ us[i]? = some u' ∧ ClsAt mg t v u' := by
  induction h with
  | nil => exact ⟨rfl, .nil, fun i t e => by simp at e⟩
  | cons c hp hs _ ih =>
    obtain ⟨h1, h2, h3⟩ := ih
    refine ⟨by simp [h1], .cons c.clsV h2, fun i t e => ?_⟩
    cases i with
    | zero =>
      simp at e
      subst e
      exact ⟨_, _, rfl, rfl, c⟩
    | succ i => simpa using h3 i t (by simpa using e)
theorem x_isN {sb : Sub} (S : SubOk sb X.K mg) {ts : List (String ⊕ Str)} {cs : List V} {cus : List Value} {k0 : Nat} {p2 : Pos} (hc : Clss X mg ts es cs cus) (hne : ts ≠ []) (hz : cs.length ≤ sizeLine) (hg : Gl X "isinstance") (hm : X.mg "isinstance" = none) (ha : PE X a (tR X.K mg W ma)) (h1 : starEach [a, .Tuple es k0 p2] X.env = (false, eval a X.env) :: starEach [.Tuple es k0 p2] X.env) :
    PE X (.Call (.Name "isinstance" p) [a, .Tuple es k0 p2] [] pos) (tR X.K mg W fun δ => bnd (valM (ma δ)) fun u => fun A => lft ((isiOs sb A u ts).map dB) A) := by
  obtain ⟨c1, c2, c3⟩ := hc.at_
  refine pe_imp (pe_callB (call_isN (mg := mg) S ts) hg hm (by decide +kernel) (pa_cons ha (pa_cons (pe_tup hc.pa) pa_nil (by rfl)) h1) (he := h1) (hpl := by rfl)) fun σ H Q h => ?_
  obtain ⟨ρ, A, δ, hE, hH, h⟩ := h
  refine tR.of hE hH h fun u x ρ1 H1 A1 s1 E1 hH1 r1 a1 => ?_
  obtain ⟨r, er, k⟩ := Ask.lftA a1
  obtain ⟨t', et, rfl⟩ := Option.map_eq_some_iff.mp er
  refine ⟨hz, fun q hq => ?_⟩
  have st : Step ρ1 ρ1 H1 (upd H1 q (.tup cs)) := hH1.stp hq
  exact ⟨ρ1, A1, u, x, q, cs, cus, t', rfl, upd_same, c1, c3, c2, hH1.new hq, r1.mono st, et, hne, k ρ1 _ st (hH1.new hq) _ (.val (.d (.bl _)))⟩
/-! ### displays of dicts -/
def mEvs : List FM → Fr → M (List U)
  | [], _ => ret []
  | m :: ms, δ => bnd (valM (m δ)) fun u => bnd (mEvs ms δ) fun us => ret (u :: us)
theorem bnd_assoc {α β γ : Type} {x : M α} {f : α → M β} {g : β → M γ} : bnd (bnd x f) g = bnd x fun a => bnd (f a) g := by
  funext A
  unfold bnd
  cases x A with
  | none => rfl
  | some z =>
    obtain ⟨z, A'⟩ := z
    cases z <;> rfl
theorem x_pairs {σ : L2.St} {δ : Fr} : ∀ {ks : List Key} {ms : List FM} {β : Type} {g : List U → M β} {Φ : β → Ow → Hp → Hs → Prop} {Q : List (V × V) → Hp → Prop} {ρ : Ow} {H : Hp} {A : Hs}, ks.length = ms.length → RepE ρ X.K mg H δ σ → RepH ρ X.K mg H A → Ask X.K mg W σ ρ H (bnd (mEvs ms δ) g) A Φ →
    (∀ us vs ρ1 H1 A1, us.length = ks.length → Step ρ ρ1 H H1 → RepH ρ1 X.K mg H1 A1 → RepUs ρ1 X.K mg H1 us vs → Ask X.K mg W σ ρ1 H1 (g us) A1 Φ → Q ((ks.zip vs).map fun kv => (kV kv.1, kv.2)) H1) →
    tPairs ((ks.zip ms).map fun km => (tC (kV km.1), tR X.K mg W km.2)) σ H Q
  | [], [], β, g, Φ, Q, ρ, H, A, _, hE, hH, h, k => by
    have h := Ask.bnd h
    exact k [] [] ρ H A rfl Step.refl hH .nil (h.ret hH)
  | k0 :: ks, m :: ms, β, g, Φ, Q, ρ, H, A, hl, hE, hH, h, k => by
    have h2 : Ask X.K mg W σ ρ H (bnd (valM (m δ)) fun u => bnd (mEvs ms δ) fun us => g (u :: us)) A Φ := by
      have e : bnd (mEvs (m :: ms) δ) g = bnd (valM (m δ)) fun u => bnd (mEvs ms δ) fun us => g (u :: us) := by
        rw [show mEvs (m :: ms) δ = bnd (valM (m δ)) fun u => bnd (mEvs ms δ) fun us => ret (u :: us) from rfl, bnd_assoc]
        congr 1
        funext u
        rw [bnd_assoc]
        rfl
      rw [← e]
      exact h
    refine tR.of hE hH h2 fun u x ρ1 H1 A1 s1 E1 hH1 r1 a1 => ?_
    refine x_pairs (by simpa using hl) E1 hH1 a1 fun us vs ρ2 H2 A2 hl2 s2 hH2 r2 a2 => ?_
    exact k (u :: us) (x :: vs) ρ2 H2 A2 (by simp [hl2]) (s1.trans s2) hH2 (.cons (r1.mono s2) r2) a2
  | [], _ :: _, _, _, _, _, _, _, _, hl, _, _, _, _ => by cases hl
  | _ :: _, [], _, _, _, _, _, _, _, hl, _, _, _, _ => by cases hl
theorem zip_rep {κ : Type} {ρ : Ow} {K : PySem.W.Frag} {H : Hp} : ∀ {ks : List κ} {us : List U} {vs : List V}, RepUs ρ K mg H us vs → us.all nl = true → RepA ρ K mg H (ks.zip us) (ks.zip vs)
  | [], _, _, _, _ => by simpa using RepA.nil
  | k :: ks, _, _, .nil, _ => .nil
  | k :: ks, _, _, .cons h r, n => by
    simp only [List.all_cons, Bool.and_eq_true] at n
    exact .cons h (zip_rep r n.2) n.1
def mDic (ks : List Key) (ms : Fr → M (List U)) : FM := fun δ => bnd (ms δ) fun us => lft (if us.all nl = true then some (.new (.dK (putAllU [] (ks.zip us)))) else none)
theorem Ask.later {α : Type} {K : PySem.W.Frag} {σ : L2.St} {ρ ρ1 : Ow} {H H1 : Hp} {A : Hs} {m : M α} {Φ : α → Ow → Hp → Hs → Prop} (h : Ask K mg W σ ρ H m A Φ) (s : Step ρ ρ1 H H1) : Ask K mg W σ ρ1 H1 m A Φ := by
  unfold Ask at h ⊢
  split
  · rename_i e; rw [e] at h; exact h
  · rename_i e; rw [e] at h; exact h.from s
  · rename_i e; rw [e] at h
    exact fun ρ' H' t r => h ρ' H' (s.trans t) r
theorem Ask.fst {α β : Type} {K : PySem.W.Frag} {σ : L2.St} {ρ : Ow} {H : Hp} {A : Hs} {m : M α} {f : α → M β} {Φ : β → Ow → Hp → Hs → Prop} (h : Ask K mg W σ ρ H (Mi.bnd m f) A Φ) : Ask K mg W σ ρ H m A fun a _ _ A' => m A = some (.ok a, A') := by
  have h := Ask.bnd h
  unfold Ask at h ⊢
  split
  · rename_i e; rw [e] at h; exact h
  · rename_i e; rw [e] at h; exact h
  · rename_i e
    exact fun _ _ _ _ => e
theorem bnd_retR {α : Type} {x : M α} : bnd x ret = x := by
  funext A
  unfold bnd
  cases x A with
  | none => rfl
  | some z =>
    obtain ⟨z, A'⟩ := z
    cases z <;> rfl
theorem x_dic {ks : List Key} {mss : List FM} {keys : List (Option Expr)} {values : List Expr} (h : PPs X pos keys values ((ks.zip mss).map fun km => (tC (kV km.1), tR X.K mg W km.2))) (hl : ks.length = mss.length) (hall : keys.all (·.isSome) = true) (hl2 : keys.length = values.length) (h0 : keys ≠ []) (h15 : keys.length ≤ 15) (hk : ks.length ≤ 15) :
    PE X (.Dict keys values pos) (tR X.K mg W (mDic ks (mEvs mss))) := by
  refine pe_imp (pe_disp h hall hl2 h0 h15) fun σ H Q hq => ?_
  obtain ⟨ρ, A, δ, hE, hH, hq⟩ := hq
  intro p hp
  obtain ⟨g1, g2⟩ := hH.hide (o := .dK []) hp (fun _ z => by cases z) (fun _ z => by cases z)
  have hA := Ask.later (ρ1 := ρ.hide p) (H1 := upd H p (.dK [])) (Ask.fst hq) g2
  refine x_pairs (g := ret) hl (hE.mono g2) g1 (by rw [bnd_retR]; exact hA) fun us vs ρ1 H1 A1 hlu s1 hH1 r1 a1 => ?_
  have em : mEvs mss δ A = some (.ok us, A1) := a1.ret hH1
  have hpp : H1 p = some (.dK []) := by
    rw [(s1.hid p List.mem_cons_self).2, upd_same]
  refine ⟨hpp, ks.zip vs, rfl, by rw [List.length_zip]; omega, ?_⟩
  obtain ⟨c1, c2, c3⟩ := hH.show hp s1 hH1 hpp (fun _ z => by cases z) (fun _ _ z => by cases z) (fun _ z => by cases z) (fun _ z => by cases z)
  cases en : us.all nl with
  | false =>
    unfold Ask at hq
    simp [mDic, bnd, em, en, lft] at hq
  | true =>
    unfold Ask at hq
    simp only [mDic, bnd, em, en, lft, if_true] at hq
    have ro : RepO (ρ1.show p) X.K mg (cutH H1 p) (.dK (putAllU [] (ks.zip us))) (.dK (mergeK [] (ks.zip vs))) := .dK (merge_rep (zip_rep (ks := ks) (r1.mv c3) en) .nil)
    have hfin := c1.stp (o := .dK (mergeK [] (ks.zip vs))) (p := p) cutH_same
    rw [← upd_cutH]
    exact hq (ρ1.show p) _ (c2.trans hfin) (c1.new cutH_same) _ (.new c2 cutH_same rfl c1 ro)
theorem x_dic0 : PE X (.Dict [] [] pos) (tR X.K mg W fun _ => ret (.new (.dK []))) := by
  refine pe_imp pe_dnewK fun σ H Q h => ?_
  obtain ⟨ρ, A, δ, hE, hH, h⟩ := h
  exact fun p hp => h ρ _ (hH.stp hp) (hH.new hp) _ (.new Step.refl hp rfl hH (.dK .nil))
end
end Mi
set_option Elab.async false
set_option linter.all false
set_option maxRecDepth 100000
set_option maxHeartbeats 1000000
/-! MiP: targets; what is walked. -/
namespace Mi
open PySem L2
/-! ### targets -/
theorem wipe_set {σ : L2.St} {i : Nat} {x : Option V} : ∀ {vs : List Nat}, i ∈ vs → wipe (σ.set i x) vs = wipe σ vs
  | [], h => by cases h
  | v :: vs, h => by
    unfold wipe
    by_cases hv : i ∈ vs
    · rw [wipe_set hv]
    · have e : i = v := by simpa [hv] using h
      subst e
      have hh : ∀ (ws : List Nat) (σ : L2.St), (wipe (σ.set i x) ws).set i none = (wipe σ ws).set i none := by
        intro ws
        induction ws with
        | nil => intro σ; unfold wipe; rw [List.set_set]
        | cons w ws ih =>
          intro σ
          unfold wipe
          by_cases hw : w = i
          · subst hw; rw [List.set_set, List.set_set]; exact ih σ
          · rw [List.set_comm _ _ hw, ih σ, List.set_comm _ _ (Ne.symm hw)]
      exact hh vs σ
theorem RepE.set {ρ : Ow} {K : PySem.W.Frag} {mg : Mg} {H : Hp} {δ : Fr} {σ : L2.St} (h : RepE ρ K mg H δ σ) {u : U} {v : V} (i : Nat) (r : RepU ρ K mg H u v) : RepE ρ K mg H (δ.set i (some u)) (σ.set i (some v)) := by
  refine ⟨by rw [List.length_set, List.length_set]; exact h.len, fun j w e => ?_⟩
  by_cases hj : i = j
  · subst hj
    have hl : i < δ.length := by
      have := (List.getElem?_eq_some_iff.mp e).1
      simpa using this
    rw [List.getElem?_set_self hl] at e
    cases e
    exact ⟨v, List.getElem?_set_self (by rw [← h.len]; exact hl), r⟩
  · rw [List.getElem?_set_ne hj] at e ⊢
    exact h.at_ j w e
theorem RepE.unset {ρ : Ow} {K : PySem.W.Frag} {mg : Mg} {H : Hp} {δ : Fr} {σ : L2.St} (h : RepE ρ K mg H δ σ) (i : Nat) : RepE ρ K mg H (δ.set i none) (σ.set i none) := by
  refine ⟨by rw [List.length_set, List.length_set]; exact h.len, fun j w e => ?_⟩
  by_cases hj : i = j
  · subst hj
    by_cases hl : i < δ.length
    · rw [List.getElem?_set_self hl] at e; cases e
    · rw [List.getElem?_eq_none (by simpa using hl)] at e; cases e
  · rw [List.getElem?_set_ne hj] at e ⊢
    exact h.at_ j w e
theorem RepE.wipe {ρ : Ow} {K : PySem.W.Frag} {mg : Mg} {H : Hp} {δ : Fr} {σ : L2.St} (h : RepE ρ K mg H δ σ) : ∀ vs : List Nat, RepE ρ K mg H (wipeF δ vs) (L2.wipe σ vs)
  | [] => h
  | v :: vs => (RepE.wipe h vs).unset v
mutual
def tgIn : Tg → List Nat → Bool
  | .nm i, vs => vs.contains i
  | .tp ts, vs => tgsIn ts vs
def tgsIn : List Tg → List Nat → Bool
  | [], _ => true
  | t :: ts, vs => tgIn t vs && tgsIn ts vs
end
def gT (K : PySem.W.Frag) (mg : Mg) (t : Tg) : TG := fun v σ H Q => ∃ ρ δ p δ', RepP ρ K H p v ∧ RepE ρ K mg H δ σ ∧ tgO t p δ = some δ' ∧ ∀ σ', RepE ρ K mg H δ' σ' → (∀ vs, tgIn t vs = true → wipe σ' vs = wipe σ vs) → Q σ' H
def gTs (K : PySem.W.Frag) (mg : Mg) (ts : List Tg) : TGs := fun vs σ H Q => ∃ ρ δ ps δ', RepPs ρ K H ps vs ∧ RepE ρ K mg H δ σ ∧ tgOs ts ps δ = some δ' ∧ ∀ σ', RepE ρ K mg H δ' σ' → (∀ ws, tgsIn ts ws = true → wipe σ' ws = wipe σ ws) → Q σ' H
theorem pg_imp {X : Cx} {e : Expr} {t t' : TG} (h : PG X e t) (k : ∀ v σ H Q, t' v σ H Q → t v σ H Q) : PG X e t' := ⟨fun pins s σ H v u Q I r q => h.run pins s σ H v u Q I r (k _ _ _ _ q)⟩
theorem pgs_imp {X : Cx} {e : List Expr} {t t' : TGs} (h : PGs X e t) (k : ∀ v σ H Q, t' v σ H Q → t v σ H Q) : PGs X e t' := ⟨fun pins s σ H v u Q I r q => h.run pins s σ H v u Q I r (k _ _ _ _ q)⟩
def locB (sc : Scope) (x : Str) : Bool := match sc.names.lookup x with
  | some .local => true
  | some .cell => true
  | _ => false
theorem locB_ok {sc : Scope} {x : Str} (h : locB sc x = true) : Loc sc x := by
  unfold locB at h
  split at h
  · exact .inl ‹_›
  · exact .inr ‹_›
  · cases h
mutual
def ckT (N : List Str) (sc : Scope) (fn : Str → Bool) : Tg → Expr → Bool
  | .nm i, e => (match e with
    | .Name x _ => decide (N[i]? = some x) && locB sc x && (fn x || decide (sc.names.lookup x = some .local))
    | _ => false)
  | .tp ts, e => (match e with
    | .Tuple es _ _ => ckTs N sc fn ts es
    | _ => false)
def ckTs (N : List Str) (sc : Scope) (fn : Str → Bool) : List Tg → List Expr → Bool
  | [], [] => true
  | t :: ts, e :: es => ckT N sc fn t e && ckTs N sc fn ts es
  | _, _ => false
end
theorem ckT_each {N : List Str} {sc : Scope} {fn : Str → Bool} {t : Tg} {e : Expr} {es : List Expr} {env : Env} (h : ckT N sc fn t e = true) : assignEach (e :: es) env = (false, assign e env) :: assignEach es env := by
  cases t <;> (unfold ckT at h; split at h <;> first | rfl | cases h)
mutual
theorem ckT_ok {X : Cx} {mg : Mg} (hc : X.calm = true) (hN : X.N.Nodup) : ∀ (t : Tg) (e : Expr), ckT X.N X.env.scope X.fn t e = true → PG X e (gT X.K mg t)
  | .nm i, e, h => by
    unfold ckT at h
    split at h
    · simp only [Bool.and_eq_true, Bool.or_eq_true, decide_eq_true_eq] at h
      obtain ⟨⟨h1, h2⟩, h3⟩ := h
      refine pg_imp (pg_name hN h1 (locB_ok h2) h3) fun v σ H Q q => ?_
      obtain ⟨ρ, δ, p, δ', rp, rE, et, k⟩ := q
      unfold tgO at et
      cases et
      exact k _ (rE.set i (.d rp)) fun vs hv => wipe_set (by unfold tgIn at hv; simpa using hv)
    · cases h
  | .tp ts, e, h => by
    unfold ckT at h
    split at h
    · rename_i es kk pp
      obtain ⟨h1, h2, h3, h4⟩ := ckTs_ok (mg := mg) hc hN ts es h
      refine pg_imp (pg_tup hc h1 (n := ts.length) h2 h3) fun v σ H Q q => ?_
      obtain ⟨ρ, δ, p, δ', rp, rE, et, k⟩ := q
      unfold tgO at et
      split at et
      · rename_i ps
        cases rp with
        | tup hq rps =>
          rename_i a xs
          refine ⟨a, xs, rfl, hq, by rw [← rps.length]; exact h4 ps δ δ' et, ρ, δ, ps, δ', rps, rE, et, fun σ' r1 r2 => k σ' r1 fun vs hv => r2 vs ?_⟩
          unfold tgIn at hv
          exact hv
      · cases et
    · cases h
theorem ckTs_ok {X : Cx} {mg : Mg} (hc : X.calm = true) (hN : X.N.Nodup) : ∀ (ts : List Tg) (es : List Expr), ckTs X.N X.env.scope X.fn ts es = true → PGs X es (gTs X.K mg ts) ∧ (assignEach es X.env).length = ts.length ∧ (assignEach es X.env).findIdx? (·.1) = none ∧ ∀ ps δ δ', tgOs ts ps δ = some δ' → ps.length = ts.length
  | [], [], _ => by
    refine ⟨pgs_imp pgs_nil fun v σ H Q q => ?_, rfl, rfl, fun ps δ δ' e => ?_⟩
    · obtain ⟨ρ, δ, ps, δ', rp, rE, et, k⟩ := q
      cases ps with
      | nil =>
        cases rp
        unfold tgOs at et
        cases et
        exact ⟨rfl, k σ rE fun _ _ => rfl⟩
      | cons p ps => simp [tgOs] at et
    · cases ps with
      | nil => rfl
      | cons p ps => simp [tgOs] at e
  | t :: ts, e :: es, h => by
    unfold ckTs at h
    simp only [Bool.and_eq_true] at h
    have h1 := ckT_ok (mg := mg) hc hN t e h.1
    obtain ⟨g1, g2, g3, g4⟩ := ckTs_ok (mg := mg) hc hN ts es h.2
    have hA := ckT_each (env := X.env) (es := es) h.1
    refine ⟨pgs_imp (pgs_cons h1 g1 (by rw [hA]; rfl)) fun v σ H Q q => ?_, by rw [hA]; simp [g2], by rw [hA]; simp [List.findIdx?_cons, g3], fun ps δ δ' e => ?_⟩
    · obtain ⟨ρ, δ, ps, δ', rp, rE, et, k⟩ := q
      cases rp with
      | nil => simp [tgOs] at et
      | cons rp rps =>
        rename_i p ps v vs
        unfold tgOs at et
        split at et
        · rename_i δ1 e1
          refine ⟨v, vs, rfl, ρ, δ, p, δ1, rp, rE, e1, fun σ1 r1 w1 => ?_⟩
          refine ⟨ρ, δ1, ps, δ', rps, r1, et, fun σ2 r2 w2 => k σ2 r2 fun ws hw => ?_⟩
          unfold tgsIn at hw
          simp only [Bool.and_eq_true] at hw
          rw [w2 ws hw.2, w1 ws hw.1]
        · cases et
    · cases ps with
      | nil => simp [tgOs] at e
      | cons p ps =>
        unfold tgOs at e
        split at e
        · simpa using g4 _ _ _ e
        · cases e
  | [], _ :: _, h => by simp [ckTs] at h
  | _ :: _, [], h => by simp [ckTs] at h
end
/-! ### what is walked -/
def WalkR (K : PySem.W.Frag) (mg : Mg) (ρ : Ow) (H : Hp) (J : L2.It) (w : Wk) : Prop := ∀ ρ2 H2 A2, Step ρ ρ2 H H2 → RepH ρ2 K mg H2 A2 → still A2 w.watch = true → ∀ i,
  (w.items.length ≤ i → J.stop i H2) ∧ ∀ p, w.items[i]? = some p → J.go i H2 ∧ ∀ x H3, J.yld i H2 x H3 → Step ρ2 ρ2 H2 H3 ∧ RepH ρ2 K mg H3 A2 ∧ RepP ρ2 K H3 p x
def tI (K : PySem.W.Frag) (mg : Mg) (W : WX) (m : Fr → M Wk) : TI := fun σ H R => ∃ ρ A δ, RepE ρ K mg H δ σ ∧ RepH ρ K mg H A ∧ Ask K mg W σ ρ H (m δ) A fun w ρ' H' _ => ∀ J, WalkR K mg ρ' H' J w → R J H'
section
variable {X : Cx} {mg : Mg} {W : WX} {a b c e o tg : Expr} {es : List Expr} {pos p apos cpos : Pos} {ma mb mc : FM} {ms : Fr → M (List U)}
theorem pi_imp {t t' : TI} (h : PI X tg e t) (k : ∀ σ H Q, t' σ H Q → t σ H Q) : PI X tg e t' := ⟨fun pins s σ H Q I q => h.run pins s σ H Q I (k σ H Q q)⟩
theorem pi_or {t t' t'' : TI} (h : PI X tg e t) (h' : PI X tg e t') (k : ∀ σ H Q, t'' σ H Q → t σ H Q ∨ t' σ H Q) : PI X tg e t'' := ⟨fun pins s σ H Q I q => by
  rcases k σ H Q q with z | z
  · exact h.run pins s σ H Q I z
  · exact h'.run pins s σ H Q I z⟩
variable {K : PySem.W.Frag} {ρ : Ow} {H : Hp}
theorem RepPs.len_get {ps : List PyData} {xs : List V} (r : RepPs ρ K H ps xs) {i : Nat} {q : PyData} (e : ps[i]? = some q) : ∃ x, xs[i]? = some x ∧ RepP ρ K H q x := r.get e
theorem walk_tup {ad : Addr} {xs : List V} {ps : List PyData} (h : SqT K H ad xs) (r : RepPs ρ K H ps xs) : WalkR K mg ρ H (Itt K ad) ⟨ps, none⟩ := by
  intro ρ2 H2 A2 s hH _ i
  have h2 := s.sqT h
  have r2 := r.mono s
  refine ⟨fun hl => ⟨xs, h2, by rw [← r.length]; exact hl⟩, fun q e => ?_⟩
  obtain ⟨x, ex, rx⟩ := r2.get e
  refine ⟨⟨xs, x, h2, ex⟩, fun y H3 hy => ?_⟩
  obtain ⟨rfl, hy⟩ := hy
  have e2 := hy xs h2
  rw [ex] at e2
  cases e2
  exact ⟨Step.refl, hH, rx⟩
theorem walk_lst {ad : Addr} {xs : List V} {ps : List PyData} (h : LAt ρ H ad xs) (r : RepPs ρ K H ps xs) : WalkR K mg ρ H (Itl K ad) ⟨ps, none⟩ := by
  intro ρ2 H2 A2 s hH _ i
  have h2 := (s.lAt h).sq (K := K)
  have r2 := r.mono s
  refine ⟨fun hl => ⟨xs, h2, by rw [← r.length]; exact hl⟩, fun q e => ?_⟩
  obtain ⟨x, ex, rx⟩ := r2.get e
  refine ⟨⟨xs, x, h2, ex⟩, fun y H3 hy => ?_⟩
  obtain ⟨rfl, hy⟩ := hy
  have e2 := hy xs h2
  rw [ex] at e2
  cases e2
  exact ⟨Step.refl, hH, rx⟩
theorem walk_own {n : Nat} {ad : Addr} {ps : List PyData} (hn : ρ.ix[n]? = some ad) : WalkR K mg ρ H (Itl K ad) ⟨ps, some (n, ps)⟩ := by
  intro ρ2 H2 A2 s hH hs i
  have hn2 : ρ2.ix[n]? = some ad := by
    obtain ⟨m, e⟩ := s.pre
    rw [e, List.getElem?_append_left (List.getElem?_eq_some_iff.mp hn).1]
    exact hn
  obtain ⟨ob, ho, ea, h1, h2⟩ := hH.ob hn2
  unfold still at hs
  simp only [ea] at hs
  cases ob with
  | lst qs =>
    simp only [decide_eq_true_eq] at hs
    subst hs
    cases h2 with
    | lst r =>
      rename_i xs
      have h2 : SqL K H2 ad xs := SqL.of h1
      refine ⟨fun hl => ⟨xs, h2, by rw [← r.length]; exact hl⟩, fun q e => ?_⟩
      obtain ⟨x, ex, rx⟩ := r.get e
      refine ⟨⟨xs, x, h2, ex⟩, fun y H3 hy => ?_⟩
      obtain ⟨rfl, hy⟩ := hy
      have e2 := hy xs h2
      rw [ex] at e2
      cases e2
      exact ⟨Step.refl, hH, rx⟩
  | dK l => simp at hs
  | dT l => simp at hs
theorem walk_str {x : Str} : WalkR K mg ρ H (Its x) ⟨signs x, none⟩ := by
  intro ρ2 H2 A2 s hH _ i
  refine ⟨fun hl => ?_, fun q e => ?_⟩
  · show x.cps.size ≤ i
    simpa [signs] using hl
  · unfold signs at e
    simp only [List.getElem?_map] at e
    obtain ⟨c, ec, rfl⟩ := Option.map_eq_some_iff.mp e
    have hlt := (List.getElem?_eq_some_iff.mp ec).1
    refine ⟨show i < x.cps.size by simpa using hlt, fun y H3 hy => ?_⟩
    obtain ⟨rfl, c', hc, rfl⟩ := hy
    have : c' = c := by
      have h2 : x.cps.toList[i]? = some c' := by simpa using hc
      rw [ec] at h2
      exact (Option.some.inj h2).symm
    subst this
    exact ⟨Step.refl, hH, .str _⟩
theorem walk_rng {lo : Int} {n : Nat} : WalkR K mg ρ H (Itr lo n) ⟨rangeP lo n, none⟩ := by
  intro ρ2 H2 A2 s hH _ i
  refine ⟨fun hl => ?_, fun q e => ?_⟩
  · show n ≤ i
    simpa [rangeP] using hl
  · unfold rangeP at e
    simp only [List.getElem?_map] at e
    obtain ⟨j, ej, rfl⟩ := Option.map_eq_some_iff.mp e
    have hlt := (List.getElem?_eq_some_iff.mp ej).1
    have hj : j = i := by
      have := List.getElem?_range (n := n) (i := i) (by simpa using hlt)
      rw [this] at ej
      exact (Option.some.inj ej).symm
    subst hj
    refine ⟨show j < n by simpa using hlt, fun y H3 hy => ?_⟩
    obtain ⟨rfl, rfl⟩ := hy
    exact ⟨Step.refl, hH, .int _⟩
theorem walk_rev {n : Nat} : WalkR K mg ρ H (Itc (0 + (n : Int) - 1) (-1) n) ⟨(rangeP 0 n).reverse, none⟩ := by
  intro ρ2 H2 A2 s hH _ i
  refine ⟨fun hl => ?_, fun q e => ?_⟩
  · show n ≤ i
    simpa [rangeP] using hl
  · have hlt : i < n := by
      have := (List.getElem?_eq_some_iff.mp e).1
      simpa [rangeP] using this
    refine ⟨hlt, fun y H3 hy => ?_⟩
    obtain ⟨rfl, rfl⟩ := hy
    refine ⟨Step.refl, hH, ?_⟩
    have hq : q = .int (0 + (n : Int) - 1 + (i : Nat) * -1) := by
      rw [List.getElem?_reverse (by simpa [rangeP] using hlt)] at e
      unfold rangeP at e
      rw [List.getElem?_map, List.length_map, List.length_range, List.getElem?_range (by omega)] at e
      have e := (Option.some.inj e).symm
      rw [e]
      exact congrArg PyData.int (by omega)
    rw [hq]
    exact .int _
/-- enumerate over what is walked as a list -/
theorem walk_enm {ad : Addr} {w : Wk} (hw : WalkR K mg ρ H (Itl K ad) w) : WalkR K mg ρ H (Ite K ad) ⟨enumP w.items, w.watch⟩ := by
  intro ρ2 H2 A2 s hH hs i
  obtain ⟨h1, h2⟩ := hw ρ2 H2 A2 s hH hs i
  refine ⟨fun hl => ?_, fun q e => ?_⟩
  · obtain ⟨xs, q1, q2⟩ := h1 (by simpa [enumP] using hl)
    exact ⟨xs, q1, q2⟩
  · unfold enumP at e
    simp only [List.getElem?_map] at e
    obtain ⟨z, ez, rfl⟩ := Option.map_eq_some_iff.mp e
    obtain ⟨z1, z2⟩ := z
    have ei : w.items[i]? = some z1 ∧ z2 = i := by
      have hlt := (List.getElem?_eq_some_iff.mp ez).1
      rw [List.length_zipIdx] at hlt
      rw [List.getElem?_zipIdx] at ez
      obtain ⟨y, ey, e3⟩ := Option.map_eq_some_iff.mp ez
      cases e3
      exact ⟨ey, by omega⟩
    obtain ⟨ei, rfl⟩ := ei
    obtain ⟨⟨xs, x0, q1, q2⟩, g2⟩ := h2 z1 ei
    refine ⟨⟨xs, x0, q1, q2⟩, fun y H3 hy => ?_⟩
    obtain ⟨T, x, rfl, hT, rfl, hx⟩ := hy
    obtain ⟨_, _, rp⟩ := g2 x H2 ⟨rfl, hx⟩
    have st : Step ρ2 ρ2 H2 (upd H2 T (.tup [.int (z2 : Nat), x])) := hH.stp hT
    exact ⟨st, hH.new hT, .tup (SqT.of upd_same) (.cons (.int _) (.cons (rp.mono st) .nil))⟩
end
end Mi
set_option Elab.async false
set_option linter.all false
set_option maxRecDepth 100000
set_option maxHeartbeats 1000000
/-! MiQ: iterators; comprehensions. -/
namespace Mi
open PySem L2
section
variable {X : Cx} {mg : Mg} {W : WX} {a b c e o tg : Expr} {es : List Expr} {pos p apos cpos : Pos} {ma mb mc : FM} {ms : Fr → M (List U)}
theorem Ask.go {α β : Type} {K : PySem.W.Frag} {σ : L2.St} {ρ : Ow} {H : Hp} {A A1 : Hs} {m : M α} {f : α → M β} {Φ : β → Ow → Hp → Hs → Prop} {x : α} (h : Ask K mg W σ ρ H (Mi.bnd m f) A Φ) (e : m A = some (.ok x, A1)) : Ask K mg W σ ρ H (f x) A1 Φ := by
  unfold Ask at h ⊢
  rw [Mi.bnd_ok e] at h
  exact h
theorem tR.ofE {σ : L2.St} {δ : Fr} {β : Type} {m : FM} {g : U → M β} {Φ : β → Ow → Hp → Hs → Prop} {Q : VK} {ρ : Ow} {H : Hp} {A : Hs} (hE : RepE ρ X.K mg H δ σ) (hH : RepH ρ X.K mg H A) (h : Ask X.K mg W σ ρ H (Mi.bnd (valM (m δ)) g) A Φ)
    (k : ∀ u v ρ1 H1 A1, valM (m δ) A = some (.ok u, A1) → Step ρ ρ1 H H1 → RepE ρ1 X.K mg H1 δ σ → RepH ρ1 X.K mg H1 A1 → RepU ρ1 X.K mg H1 u v → Q v H1) : tR X.K mg W m σ H Q := by
  have h1 := Ask.fst h
  refine tR.of (g := ret) hE hH (by rw [bnd_retR]; exact h1) fun u v ρ1 H1 A1 s1 E1 hH1 r1 a1 => ?_
  exact k u v ρ1 H1 A1 (a1.ret hH1) s1 E1 hH1 r1
theorem i_seq (ha : PE X a (tR X.K mg W ma)) : PI X tg a (tI X.K mg W fun δ => bnd (valM (ma δ)) fun u => fun A => lft (wkOf A u) A) := by
  refine pi_or (pi_tup ha) (pi_or (t'' := fun σ H R => iList X.K (tR X.K mg W ma) σ H R ∨ iStr (tR X.K mg W ma) σ H R) (pi_list ha) (pi_str ha) fun _ _ _ h => h) fun σ H R h => ?_
  obtain ⟨ρ, A, δ, hE, hH, h⟩ := h
  cases em : valM (ma δ) A with
  | none =>
    unfold Ask at h
    simp [bnd, em] at h
  | some z =>
    obtain ⟨z, A1⟩ := z
    cases z with
    | er c fs =>
      refine .inl (tR.ofE hE hH h fun u v ρ1 H1 A2 e _ _ _ _ => ?_)
      rw [em] at e
      cases e
    | ok u =>
      obtain ⟨w, ew, k⟩ := Ask.lft (o := wkOf A1 u) (h.go em)
      unfold wkOf at ew
      split at ew
      · cases ew
        refine .inl (tR.ofE hE hH h fun u v ρ1 H1 A2 e s1 _ hH1 r1 => ?_)
        rw [em] at e
        cases e
        obtain ⟨ad, xs, rfl, h1, h2⟩ := r1.tup_inv
        exact ⟨ad, rfl, ⟨xs, h1⟩, k ρ1 H1 s1 hH1 _ (walk_tup h1 h2)⟩
      · cases ew
        refine .inr (.inl (tR.ofE hE hH h fun u v ρ1 H1 A2 e s1 _ hH1 r1 => ?_))
        rw [em] at e
        cases e
        cases r1 with
        | d r1 =>
          cases r1 with
          | lst h1 h2 => exact ⟨_, rfl, ⟨_, h1.sq⟩, k ρ1 H1 s1 hH1 _ (walk_lst h1 h2)⟩
      · cases ew
        refine .inr (.inr (tR.ofE hE hH h fun u v ρ1 H1 A2 e s1 _ hH1 r1 => ?_))
        rw [em] at e
        cases e
        exact ⟨_, r1.str_inv, k ρ1 H1 s1 hH1 _ walk_str⟩
      · split at ew
        · rename_i n ps ea
          cases ew
          refine .inr (.inl (tR.ofE hE hH h fun u v ρ1 H1 A2 e s1 _ hH1 r1 => ?_))
          rw [em] at e
          cases e
          cases r1 with
          | obj hn =>
            obtain ⟨ho, q1, q2⟩ := hH1.at_ _ _ _ ea hn
            cases q2 with
            | lst q2 => exact ⟨_, rfl, ⟨_, SqL.of q1⟩, k ρ1 H1 s1 hH1 _ (walk_own hn)⟩
        · cases ew
      · cases ew
theorem wkLs_walk {K : PySem.W.Frag} {ρ : Ow} {H : Hp} {A : Hs} {u : U} {v : V} {w : Wk} (e : wkLs A u = some w) (r : RepU ρ K mg H u v) (hH : RepH ρ K mg H A) : ∃ ad xs, v = .ref ad ∧ SqL K H ad xs ∧ WalkR K mg ρ H (Itl K ad) w := by
  unfold wkLs at e
  split at e
  · cases e
    cases r with
    | d r =>
      cases r with
      | lst h1 h2 => exact ⟨_, _, rfl, h1.sq, walk_lst h1 h2⟩
  · split at e
    · rename_i ea
      cases e
      cases r with
      | obj hn =>
        obtain ⟨ho, q1, q2⟩ := hH.at_ _ _ _ ea hn
        cases q2 with
        | lst q2 => exact ⟨_, _, rfl, SqL.of q1, walk_own hn⟩
    · cases e
  · cases e
theorem i_enm {elts : List Expr} {kk : Nat} {tpos : Pos} (hg : Gl X "enumerate") (hm : X.mg "enumerate" = none) (ha : PE X a (tR X.K mg W ma)) (hs : starEach [a] X.env = (false, eval a X.env) :: starEach [] X.env) :
    PI X (.Tuple elts kk tpos) (.Call (.Name "enumerate" p) [a] [] pos) (tI X.K mg W fun δ => bnd (valM (ma δ)) fun u => fun A => lft ((wkLs A u).map fun w => ⟨enumP w.items, w.watch⟩) A) := by
  refine pi_imp (pi_enum hg hm (pa_cons ha pa_nil hs) hs) fun σ H R h => ?_
  obtain ⟨ρ, A, δ, hE, hH, h⟩ := h
  refine tR.of hE hH h fun u v ρ1 H1 A1 s1 E1 hH1 r1 a1 => ?_
  obtain ⟨w, ew, k⟩ := Ask.lftA a1
  obtain ⟨w0, e0, rfl⟩ := Option.map_eq_some_iff.mp ew
  obtain ⟨ad, xs, rfl, h1, h2⟩ := wkLs_walk e0 r1 hH1
  exact ⟨ad, xs, rfl, h1, k ρ1 H1 Step.refl hH1 _ (walk_enm h2)⟩
def rngO (us : List U) : Option Wk := match us with
    | [.d (.int j)] => if -(2 ^ 62) ≤ j ∧ j < 2 ^ 62 then some ⟨rangeP 0 j.toNat, none⟩ else none
    | [.d (.int i), .d (.int j)] => if -(2 ^ 62) ≤ i ∧ i < 2 ^ 62 ∧ -(2 ^ 62) ≤ j ∧ j < 2 ^ 62 then some ⟨rangeP i (j - i).toNat, none⟩ else none
    | _ => none
theorem i_rng1 (hg : Gl X "range") (hm : X.mg "range" = none) (ha : PA X [a] (tRs X.K mg W ms)) (hs : starEach [a] X.env = [(false, eval a X.env)]) (hl : ∀ δ A us A', ms δ A = some (.ok us, A') → us.length = 1) :
    PI X tg (.Call (.Name "range" p) [a] [] pos) (tI X.K mg W fun δ => bnd (ms δ) fun us => lft (rngO us)) := by
  refine pi_imp (pi_range1 hg hm ha hs) fun σ H R h => ?_
  obtain ⟨ρ, A, δ, hE, hH, h⟩ := h
  have h1 := Ask.fst h
  refine ⟨ρ, A, δ, hE, hH, h1.mono fun us ρ1 H1 A1 s1 hH1 e vs rv => ?_⟩
  obtain ⟨w, ew, k⟩ := Ask.lft (h.go e)
  have hl := hl _ _ _ _ e
  unfold rngO at ew
  split at ew
  · split at ew
    · rename_i hj
      cases ew
      obtain ⟨v, rfl, r1⟩ := rv.one
      cases r1.int_inv
      exact ⟨_, rfl, hj.1, hj.2, k ρ1 H1 s1 hH1 _ walk_rng⟩
    · cases ew
  · cases hl
  · cases ew
theorem i_rng2 (hg : Gl X "range") (hm : X.mg "range" = none) (ha : PA X [a, b] (tRs X.K mg W ms)) (hs : starEach [a, b] X.env = [(false, eval a X.env), (false, eval b X.env)]) (hs2 : starEach [b] X.env = [(false, eval b X.env)]) (hl : ∀ δ A us A', ms δ A = some (.ok us, A') → us.length = 2) :
    PI X tg (.Call (.Name "range" p) [a, b] [] pos) (tI X.K mg W fun δ => bnd (ms δ) fun us => lft (rngO us)) := by
  refine pi_imp (pi_range2 hg hm ha hs hs2) fun σ H R h => ?_
  obtain ⟨ρ, A, δ, hE, hH, h⟩ := h
  have h1 := Ask.fst h
  refine ⟨ρ, A, δ, hE, hH, h1.mono fun us ρ1 H1 A1 s1 hH1 e vs rv => ?_⟩
  obtain ⟨w, ew, k⟩ := Ask.lft (h.go e)
  have hl := hl _ _ _ _ e
  unfold rngO at ew
  split at ew
  · cases hl
  · split at ew
    · rename_i hj
      cases ew
      obtain ⟨v, v', rfl, r1, r2⟩ := rv.two
      cases r1.int_inv
      cases r2.int_inv
      exact ⟨_, _, rfl, hj, k ρ1 H1 s1 hH1 _ walk_rng⟩
    · cases ew
  · cases ew
def rvrO (u : U) : Option Wk := match u with
    | .d (.int j) => if -(2 ^ 62) ≤ j ∧ j < 2 ^ 62 then some ⟨(rangeP 0 j.toNat).reverse, none⟩ else none
    | _ => none
theorem i_rvr {p2 pos2 : Pos} (hg : Gl X "reversed") (hm : X.mg "reversed" = none) (hg2 : Gl X "range") (hm2 : X.mg "range" = none) (ha : PE X a (tR X.K mg W ma)) (hs : starEach [a] X.env = (false, eval a X.env) :: starEach [] X.env) :
    PI X tg (.Call (.Name "reversed" p) [.Call (.Name "range" p2) [a] [] pos2] [] pos) (tI X.K mg W fun δ => bnd (valM (ma δ)) fun u => lft (rvrO u)) := by
  refine pi_imp (pi_revR hg hm (prg_1 hg2 hm2 ha hs)) fun σ H R h => ?_
  obtain ⟨ρ, A, δ, hE, hH, h⟩ := h
  refine tR.of hE hH h fun u v ρ1 H1 A1 s1 E1 hH1 r1 a1 => ?_
  obtain ⟨w, ew, k⟩ := Ask.lft a1
  unfold rvrO at ew
  split at ew
  · split at ew
    · rename_i j hj
      cases ew
      cases r1.int_inv
      refine ⟨_, rfl, by decide, by decide, hj.1, hj.2, ?_⟩
      rw [Int.sub_zero]
      exact k ρ1 H1 Step.refl hH1 _ walk_rev
    · cases ew
  · cases ew
end
end Mi
set_option Elab.async false
set_option linter.all false
set_option maxRecDepth 100000
set_option maxHeartbeats 1000000
/-! MiR: comprehensions. -/
namespace Mi
open PySem L2
abbrev WF : WX := fun _ _ _ _ => False
/-- tests of a comprehension -/
def tB (K : PySem.W.Frag) (mg : Mg) (W : WX) (m : Fr → M Bool) : TT := fun σ H Q => ∃ ρ A δ, RepE ρ K mg H δ σ ∧ RepH ρ K mg H A ∧ Ask K mg W σ ρ H (m δ) A fun b _ H' _ => Q b H'
theorem wipe_wipe {σ : L2.St} : ∀ (us vs : List Nat), (∀ i ∈ us, i ∈ vs) → L2.wipe (L2.wipe σ us) vs = L2.wipe σ vs
  | [], _, _ => rfl
  | u :: us, vs, h => by
    show L2.wipe ((L2.wipe σ us).set u none) vs = _
    rw [wipe_set (h u (by simp)), wipe_wipe us vs fun i hi => h i (by simp [hi])]
theorem upd_back {H : Hp} {p : Addr} {o : HO} (h : H p = some o) : H = upd (cutH H p) p o := by
  rw [upd_cutH]
  funext b
  by_cases e : b = p
  · rw [e, upd_same, h]
  · rw [upd_ne e]
section
variable {X : Cx} {mg : Mg} {W : WX} {ma : FM}
theorem tR.val {σ : L2.St} {δ : Fr} {m : FM} {Q : VK} {ρ : Ow} {H : Hp} {A A1 : Hs} {u : U} (hE : RepE ρ X.K mg H δ σ) (hH : RepH ρ X.K mg H A) (e : valM (m δ) A = some (.ok u, A1))
    (k : ∀ v ρ1 H1, Step ρ ρ1 H H1 → RepH ρ1 X.K mg H1 A1 → RepU ρ1 X.K mg H1 u v → Q v H1) : tR X.K mg W m σ H Q := by
  refine tR.ofE (g := ret) (Φ := fun _ _ _ _ => True) hE hH (by unfold Ask; rw [Mi.bnd_ok e]; exact fun _ _ _ _ => trivial) fun u' v ρ1 H1 A2 e2 s1 _ hH1 r1 => ?_
  rw [e] at e2
  cases e2
  exact k v ρ1 H1 s1 hH1 r1
theorem tB.val {σ : L2.St} {δ : Fr} {m : Fr → M Bool} {Q : Bool → Hp → Prop} {ρ : Ow} {H : Hp} {A A1 : Hs} {b : Bool} (hE : RepE ρ X.K mg H δ σ) (hH : RepH ρ X.K mg H A) (e : m δ A = some (.ok b, A1))
    (k : ∀ ρ1 H1, Step ρ ρ1 H H1 → RepH ρ1 X.K mg H1 A1 → Q b H1) : tB X.K mg W m σ H Q :=
  ⟨ρ, A, δ, hE, hH, by unfold Ask; rw [e]; exact fun ρ' H' s r => k ρ' H' s r⟩
def lcF (t : Tg) (vs : List Nat) (mcs : Fr → M Bool) (me : FM) (δ : Fr) : PyData → M (Option PyData) := fun p => bnd (lft (tgO t p (wipeF δ vs))) fun δ' => bnd (mcs δ') fun b => (match b with
    | true => bnd (valM (me δ')) fun u => lft ((asP u).map some)
    | false => ret none)
theorem lcF_inv {t : Tg} {vs : List Nat} {mcs : Fr → M Bool} {me : FM} {δ : Fr} {p : PyData} {A A' : Hs} {z : Option PyData} (h : lcF t vs mcs me δ p A = some (.ok z, A')) :
    ∃ δ' b A2, tgO t p (wipeF δ vs) = some δ' ∧ mcs δ' A = some (.ok b, A2) ∧ ((b = false ∧ z = none ∧ A' = A2) ∨ ∃ q, b = true ∧ valM (me δ') A2 = some (.ok (.d q), A') ∧ z = some q) := by
  unfold lcF at h
  cases e1 : tgO t p (wipeF δ vs) with
  | none => rw [e1] at h; cases h
  | some δ' =>
    rw [e1, lft_some, bnd_ret] at h
    unfold bnd at h
    cases e2 : mcs δ' A with
    | none => rw [e2] at h; cases h
    | some y =>
      obtain ⟨y, A2⟩ := y
      rw [e2] at h
      cases y with
      | er c fs => cases h
      | ok b =>
        refine ⟨δ', b, A2, rfl, e2, ?_⟩
        cases b with
        | false =>
          cases h
          exact .inl ⟨rfl, rfl, rfl⟩
        | true =>
          have h : bnd (valM (me δ')) (fun u => lft ((asP u).map some)) A2 = some (.ok z, A') := h
          unfold bnd at h
          cases e3 : valM (me δ') A2 with
          | none => rw [e3] at h; cases h
          | some y =>
            obtain ⟨y, A3⟩ := y
            rw [e3] at h
            cases y with
            | er c fs => cases h
            | ok u =>
              cases u with
              | d q =>
                cases h
                exact .inr ⟨q, rfl, rfl, rfl⟩
              | _ => cases h
def mLc (mi : Fr → M Wk) (t : Tg) (vs : List Nat) (mcs : Fr → M Bool) (me : FM) : FM := fun δ => bnd (mi δ) fun w => bnd (lcGo w.watch (lcF t vs mcs me δ) w.items) fun ps => lft (if ps.length ≤ sizeLine then some (.new (.lst ps)) else none)
theorem lcGo_er {w : Option (Nat × List PyData)} {f : PyData → M (Option PyData)} {ps : List PyData} {A A' : Hs} {c : Str} {fs : List (Str × PyData)} : lcGo w f ps A ≠ some (.er c fs, A') := by
  intro h
  cases ps with
  | nil =>
    unfold lcGo at h
    split at h <;> cases h
  | cons p ps =>
    unfold lcGo at h
    split at h
    · split at h <;> cases h
    · cases h
theorem lc_read {wi : TI} {t : Tg} {vs : List Nat} {mi : Fr → M Wk} {mcs : Fr → M Bool} {me : FM} (hin : tgIn t vs = true) {σ : L2.St} {H : Hp} {Q : VK} (h : tR X.K mg W (mLc mi t vs mcs me) σ H Q) :
    tLc (tI X.K mg W mi) (gT X.K mg t) (tB X.K mg WF mcs) (tR X.K mg WF me) vs σ H Q := by
  obtain ⟨ρ, A, δ, hE, hH, h⟩ := h
  refine ⟨ρ, A, δ, hE, hH, (Ask.fst h).mono fun w ρ1 H1 A1 s1 hH1 e J hJ => ?_⟩
  intro D hD
  have h2 := h.go e
  cases em : lcGo w.watch (lcF t vs mcs me δ) w.items A1 with
  | none =>
    unfold Ask at h2
    simp [bnd, em] at h2
  | some z =>
    obtain ⟨z, An⟩ := z
    cases z with
    | er c fs => exact (lcGo_er em).elim
    | ok ps =>
      obtain ⟨r, er, kf⟩ := Ask.lft (h2.go em)
      split at er
      · rename_i hps
        cases er
        refine ⟨fun i m H' => m = w.items.length - i ∧ i ≤ w.items.length ∧ ∃ (ρi : Ow) (Hi : Hp) (Ai : Hs) (pre rest : List PyData) (xs : List V), Step ρ1 ρi H1 Hi ∧ Hi D = none ∧ RepH ρi X.K mg Hi Ai ∧ H' = upd Hi D (.lst xs) ∧ RepPs ρi X.K Hi pre xs ∧
          lcGo w.watch (lcF t vs mcs me δ) (w.items.drop i) Ai = some (.ok rest, An) ∧ pre ++ rest = ps, ⟨_, rfl, Nat.zero_le _, ρ1, H1, A1, [], ps, [], Step.refl, hD, hH1, rfl, .nil, em, rfl⟩, ?_⟩
        rintro i m H' ⟨rfl, hi, ρi, Hi, Ai, pre, rest, xs, si, hDi, hHi, rfl, rp, eg, epre⟩
        obtain ⟨g1, g2⟩ := hHi.hide (o := .lst xs) hDi (fun _ z => by cases z) (fun _ z => by cases z)
        by_cases hlt : i < w.items.length
        · right
          have hdrop : w.items.drop i = w.items[i] :: w.items.drop (i + 1) := List.drop_eq_getElem_cons hlt
          rw [hdrop] at eg
          unfold lcGo at eg
          split at eg
          · rename_i z A' hs hf
            split at eg
            · rename_i r A'' hr
              cases eg
              obtain ⟨hgo, hyl⟩ := (hJ _ _ Ai (si.trans g2) g1 hs i).2 w.items[i] (by simp [hlt])
              refine ⟨hgo, fun H3 => w.items.length - (i + 1) < w.items.length - i ∧ ∃ (ρi : Ow) (Hi : Hp) (Ai : Hs) (pre rest : List PyData) (xs : List V), Step ρ1 ρi H1 Hi ∧ Hi D = none ∧ RepH ρi X.K mg Hi Ai ∧ H3 = upd Hi D (.lst xs) ∧ RepPs ρi X.K Hi pre xs ∧
                  lcGo w.watch (lcF t vs mcs me δ) (w.items.drop (i + 1)) Ai = some (.ok rest, An) ∧ pre ++ rest = ps, fun H3 h3 => ⟨_, h3.1, rfl, hlt, h3.2⟩, fun x H'' hy => ?_⟩
              obtain ⟨sy, hHy, rx⟩ := hyl x H'' hy
              obtain ⟨δ', b, A2, et, eb, hz⟩ := lcF_inv hf
              have hEh := hE.mono (((s1.trans si).trans g2).trans sy)
              refine ⟨_, wipeF δ vs, w.items[i], δ', rx, hEh.wipe vs, et, fun σ2 rE2 hw => ⟨by rw [hw vs hin]; exact wipe_wipe vs vs fun _ h => h, ?_⟩⟩
              refine tB.val rE2 hHy eb fun ρ2 H3 s2 hH2 => ?_
              have s02 := sy.trans s2
              have hD3 : H3 D = some (.lst xs) := by rw [(s02.hid D List.mem_cons_self).2, upd_same]
              rcases hz with ⟨rfl, rfl, rfl⟩ | ⟨q, rfl, ev, rfl⟩
              · simp only [Bool.false_eq_true, if_false]
                obtain ⟨c1, c2, c3⟩ := hHi.show hDi s02 hH2 hD3 (fun _ z => by cases z) (fun _ _ z => by cases z) (fun _ z => by cases z) (fun _ z => by cases z)
                exact ⟨by omega, _, _, A', pre, r, xs, si.trans c2, cutH_same, c1, upd_back hD3, rp.mono c2, hr, epre⟩
              · simp only [if_true]
                refine tR.val (rE2.mono s2) hH2 ev fun y ρ3 H4 s3 hH3 ru => ?_
                have s03 := s02.trans s3
                have hD4 : H4 D = some (.lst xs) := by rw [(s03.hid D List.mem_cons_self).2, upd_same]
                obtain ⟨c1, c2, c3⟩ := hHi.show hDi s03 hH3 hD4 (fun _ z => by cases z) (fun _ _ z => by cases z) (fun _ z => by cases z) (fun _ z => by cases z)
                have hlen : xs.length < sizeLine := by
                  have h1 : pre.length + (r.length + 1) = ps.length := by
                    have := congrArg List.length epre
                    simpa using this
                  rw [← rp.length]
                  omega
                refine ⟨xs, hD4, hlen, by omega, _, _, A', pre ++ [q], r, xs ++ [y], si.trans c2, cutH_same, c1, upd_cutH.symm, ?_, hr, by rw [← epre]; simp⟩
                cases ru with
                | d ru => exact (rp.mono c2).append (.cons (ru.mv c3.toMv0) .nil)
            · cases eg
          · cases eg
        · left
          have hi' : i = w.items.length := by omega
          subst hi'
          rw [List.drop_length] at eg
          unfold lcGo at eg
          split at eg
          · rename_i hs
            cases eg
            refine ⟨(hJ _ _ An (si.trans g2) g1 hs _).1 (Nat.le_refl _), ?_⟩
            simp only [List.append_nil] at epre
            subst epre
            have sF := (s1.trans si).trans (hHi.stp (o := .lst xs) hDi)
            exact kf ρi _ sF (hHi.new hDi) _ (.new (s1.trans si) hDi rfl hHi (.lst rp))
          · cases eg
      · cases er
theorem x_lc {elt tg iter : Expr} {ifs : List Expr} {scope : Scope} {own : List (Str × Nat)} {pos : Pos} {t : Tg} {mi : Fr → M Wk} {mcs : Fr → M Bool} {me : FM} (hc : X.calm = true) (hN : X.N.Nodup) (hi : PI X tg iter (tI X.K mg W mi)) (ok : BlkOk X.N X.env.scope scope own)
    (hg : ∀ (s : Shared) (H : Hp) (C : Addr) (cl : List (Str × Addr)) (fp : List Addr), PG (X.blk s H scope (compEnvC scope cl C X.env) fp) tg (gT X.K mg t)) (ht : ∀ (s : Shared) (H : Hp) (C : Addr) (cl : List (Str × Addr)) (fp : List Addr), PTs (X.blk s H scope (compEnvC scope cl C X.env) fp) ifs (tB X.K mg WF mcs))
    (he : ∀ (s : Shared) (H : Hp) (C : Addr) (cl : List (Str × Addr)) (fp : List Addr), PE (X.blk s H scope (compEnvC scope cl C X.env) fp) elt (tR X.K mg WF me)) (hs : ∀ x, foldedSetIterable iter X.env x = pure x) (hin : tgIn t (own.map (·.2)) = true) :
    PE X (.ListComp elt [⟨tg, iter, ifs, 0⟩] scope pos) (tR X.K mg W (mLc mi t (own.map (·.2)) mcs me)) :=
  pe_imp (pe_lc hc hN hi ok hg ht he hs) fun σ H Q h => lc_read (wi := tI X.K mg W mi) hin h
end
end Mi
set_option Elab.async false
set_option linter.all false
set_option maxRecDepth 100000
set_option maxHeartbeats 1000000
/-! MiS: the check that an expression is the one that is read. -/
namespace Mi
open PySem L2
/-! ### what is seen of an expression -/
def okX : Expr → Bool
  | .Starred _ _ => false
  | .Slice _ _ _ _ => false
  | .Set _ _ _ => false
  | _ => true
def attrX : Expr → Bool
  | .Call _ [] _ _ => false
  | _ => true
theorem okX_star {x : Expr} (h : okX x = true) (es : List Expr) (env : Env) : starEach (x :: es) env = (false, eval x env) :: starEach es env := by
  cases x <;> first | rfl | cases h
theorem okX_ix {x : Expr} (h : okX x = true) : PlainIx x := by
  intro o i
  cases x <;> first | rfl | cases h
theorem okX_marks {x : Expr} {op : CmpOp} (h : okX x = true) : behindInMarks op x = false := by
  cases x <;> first | rfl | cases h
theorem okX_fold {x : Expr} (h : okX x = true) (env : Env) : ∀ v, foldedSetIterable x env v = pure v := by
  intro v
  cases x <;> first | rfl | cases h
theorem attrX_ok {x : Expr} (h : attrX x = true) (n : Str) (env : Env) : attributeBase x n env (eval x env) = eval x env := by
  cases x with
  | Call f args kws pos =>
    cases args with
    | nil => cases h
    | cons a as => cases f <;> rfl
  | _ => rfl
def NS (xs : List Expr) : Prop := ∀ x ∈ xs, okX x = true
theorem NS.any {xs : List Expr} (h : NS xs) (pos : Pos) (env : Env) : (backTo pos (starEach xs env)).any (·.1) = false := by
  induction xs with
  | nil => rfl
  | cons x xs ih =>
    rw [okX_star (h x (by simp))]
    have := ih fun y hy => h y (by simp [hy])
    simp only [backTo, List.map_cons, List.any_cons, Bool.false_or] at this ⊢
    exact this
theorem NS.all {xs : List Expr} (h : NS xs) (pos : Pos) (env : Env) : (backTo pos (starEach xs env)).all (fun x => !x.1) = true := by
  induction xs with
  | nil => rfl
  | cons x xs ih =>
    rw [okX_star (h x (by simp))]
    have := ih fun y hy => h y (by simp [hy])
    simp only [backTo, List.map_cons, List.all_cons, Bool.not_false, Bool.true_and] at this ⊢
    exact this
theorem NS.few {xs : List Expr} (h : NS xs) (hl : xs.length < 30) (pos : Pos) (env : Env) : ((backTo pos (starEach xs env)).all (fun x => !x.1) && (backToKw pos (keywordEach [] env)).all (fun x => x.1.isSome)
      && decide (xs.length + ([] : List Keyword).length + (if ([] : List Keyword).isEmpty then 0 else 1) < 30)) = true := by
  rw [h.all]
  simp [backToKw, keywordEach, hl]
/-! ### the check -/
structure Ck where
  N : List Str
  sc : Scope
  fn : Str → Bool
  cls : List Str
  fns : List Str
  kds : List Str
  lams : List Str
  top : Bool
def visB (sc : Scope) (x : Str) : Bool := match sc.names.lookup x with
  | some .local => true
  | some .cell => true
  | some .free => true
  | _ => false
theorem visB_ok {sc : Scope} {x : Str} (h : visB sc x = true) : Vis sc x := by
  unfold visB at h
  split at h
  · exact .inl ‹_›
  · exact .inr (.inl ‹_›)
  · exact .inr (.inr ‹_›)
  · cases h
def glB (sc : Scope) (x : Str) : Bool := decide (sc.names.lookup x = some .globalImplicit) && !(x == ("__debug__" : Str))
def vrB (c : Ck) (i : Nat) (x : Str) : Bool := decide (c.N[i]? = some x) && visB c.sc x && !(x == ("__debug__" : Str)) && !(x == ("__classdict__" : Str))
def biF : List String := ["len", "abs", "min", "max", "all", "any", "sorted", "repr"]
def biT : List String := ["int", "str", "list", "tuple", "dict"]
def tyNs : List String := ["int", "bool", "str", "tuple", "list", "dict", "ValueError", "LookupError"]
def bltN : List Str := (biF ++ biT ++ tyNs ++ ["isinstance", "range", "enumerate", "reversed"]).map Str.ofString
def mNm : String → String
  | "list.append" => "append"
  | "list.extend" => "extend"
  | "list.pop" => "pop"
  | "dict.get" => "get"
  | "str.join" => "join"
  | _ => ""
def mAll : List String := ["list.append", "list.extend", "list.pop", "dict.get", "str.join"]
def ckCls (c : Ck) : (String ⊕ Str) → Expr → Bool
  | t, .Name y _ => (match t with
    | .inl n => tyNs.contains n && decide (y = Str.ofString n) && glB c.sc y
    | .inr x => decide (y = x) && c.cls.contains x && glB c.sc y)
  | _, _ => false
def ckClss (c : Ck) : List (String ⊕ Str) → List Expr → Bool
  | [], [] => true
  | t :: ts, e :: es => ckCls c t e && ckClss c ts es
  | _, _ => false
def ckKey : Key → Option Expr → Bool
  | .inr k, some (.Constant (.str y) _ _) => decide (k = y)
  | .inl k, some (.Constant (.int y) _ _) => decide (k = y)
  | _, _ => false
def ckKeys : List Key → List (Option Expr) → Bool
  | [], [] => true
  | k :: ks, e :: es => ckKey k e && ckKeys ks es
  | _, _ => false
def isC : E → Bool
  | .k _ => true
  | _ => false
def noArgs : Arguments → Bool
  | ⟨[], [], none, [], [], none, []⟩ => true
  | _ => false
mutual
/-- t: as a test -/
def ck (c : Ck) (t : Bool) : E → Expr → Bool
  | .k p, x => (match x with
    | .Constant k _ _ => (match p, k with
      | .none, .none => true
      | .bool a, .bool b => a == b
      | .int a, .int b => decide (a = b)
      | .str a, .str b => decide (a = b)
      | _, _ => false)
    | _ => false)
  | .v i, x => (match x with
    | .Name y _ => vrB c i y
    | _ => false)
  | .gc n, x => (match x with
    | .Name y _ => decide (n = y) && glB c.sc y
    | _ => false)
  | .tup es, x => (match x with
    | .Tuple xs _ _ => cks c es xs
    | _ => false)
  | .lst es, x => (match x with
    | .List xs _ => cks c es xs
    | _ => false)
  | .dic ks es, x => (match x with
    | .Dict keys vals _ => ckKeys ks keys && cks c es vals && decide (ks.length = es.length) && decide (ks.length ≤ 15)
    | _ => false)
  | .alc e, x => !t && ck c false e x
  | .bin op a b, x => (match x with
    | .BinOp l o r _ => decide (op = o) && ck c false a l && ck c false b r
    | _ => false)
  | .neg a, x => (match x with
    | .UnaryOp .USub y _ => ck c false a y
    | _ => false)
  | .cmp op a b, x => (match x with
    | .Compare l [o] [r] _ => decide (op = o) && ck c false a l && ck c false b r
    | _ => false)
  | .chn o1 o2 a b d, x => (match x with
    | .Compare l [p1, p2] [m, r] _ => decide (o1 = p1) && decide (o2 = p2) && ck c false a l && ck c false b m && ck c false d r
    | _ => false)
  | .and es, x => (match x with
    | .BoolOp .And xs _ => ckb c t es xs
    | _ => false)
  | .or es, x => (match x with
    | .BoolOp .Or xs _ => ckb c t es xs
    | _ => false)
  | .not a, x => (match x with
    | .UnaryOp .Not y _ => ck c t a y
    | _ => false)
  | .ife q a b, x => !t && (match x with
    | .IfExp z y w _ => ck c true q z && ck c false a y && ck c false b w
    | _ => false)
  | .ix a i, x => (match x with
    | .Subscript y z _ => ck c false a y && ck c false i z
    | _ => false)
  | .sl a lo hi, x => (match x with
    | .Subscript y (.Slice l h none _) _ => ck c false a y && cko c lo l && cko c hi h
    | _ => false)
  | .call f es, x => (match x with
    | .Call (.Name y _) (z :: zs) [] _ => decide (f = y) && c.fns.contains y && glB c.sc y && cks c es (z :: zs)
    | _ => false)
  | .bi f es, x => (match x with
    | .Call (.Name y _) (z :: zs) [] _ => (biF.contains f || biT.contains f) && decide (y = Str.ofString f) && glB c.sc y && cks c es (z :: zs)
    | _ => false)
  | .kget n k z, x => (match x with
    | .Call (.Attribute (.Name y _) g ap) [u, v] [] cp => decide (n = y) && c.kds.contains y && glB c.sc y && decide (g = ("get" : Str)) && (ap.endLine == cp.line) && ck c false k u && ck c false z v
    | _ => false)
  | .act i, x => c.top && (match x with
    | .Call (.Name y _) [] [] _ => vrB c i y
    | _ => false)
  | .lamc f e, x => c.top && (match x with
    | .Call (.Name y _) [.Lambda pr body scope _] [] _ => decide (f = y) && c.lams.contains y && glB c.sc y && noArgs pr && LamX.lamSB c.sc scope && ck ⟨c.N, scope, fun _ => false, c.cls, c.fns, c.kds, [], false⟩ false e body
    | _ => false)
  | .meth m o es, x => (match x with
    | .Call (.Attribute y g ap) zs [] cp => mAll.contains m && decide (g = Str.ofString (mNm m)) && attrX y && (ap.endLine == cp.line) && ck c false o y && cks c es zs && decide (zs.length < 30)
    | _ => false)
  | .fld o f, x => (match x with
    | .Attribute y g _ => decide (f = g) && attrX y && ck c false o y
    | _ => false)
  | .isi e ts tt, x => (match x with
    | .Call (.Name y _) [z, w] [] _ => decide (y = ("isinstance" : Str)) && glB c.sc y && ck c false e z && (match tt with
      | false => (match ts with
        | [q] => ckCls c q w
        | _ => false)
      | true => (match w with
        | .Tuple ws _ _ => ckClss c ts ws && !ts.isEmpty && decide (ts.length ≤ 1000)
        | _ => false))
    | _ => false)
  | .lc elt tg it cs own, x => (match x with
    | .ListComp y [⟨z, w, ifs, as⟩] scope _ => decide (as = 0) && ckI c it w z && blkC c.N c.sc scope (own.map fun i => (c.N.getD i default, i)) && tgIn tg own &&
        ckT c.N (relS scope c.sc) (fun x => scope.names.lookup x == some .cell) tg z &&
        ckc ⟨c.N, relS scope c.sc, fun x => scope.names.lookup x == some .cell, c.cls, c.fns, c.kds, [], false⟩ cs ifs &&
        ck ⟨c.N, relS scope c.sc, fun x => scope.names.lookup x == some .cell, c.cls, c.fns, c.kds, [], false⟩ false elt y
    | _ => false)
def cks (c : Ck) : List E → List Expr → Bool
  | [], [] => true
  | e :: es, x :: xs => ck c false e x && cks c es xs
  | _, _ => false
def ckb (c : Ck) (t : Bool) : List E → List Expr → Bool
  | [], _ => false
  | e :: es, x :: xs => (match es with
    | [] => ck c t e x && xs.isEmpty
    | _ :: _ => ck c t e x && ckb c t es xs)
  | _, _ => false
def cko (c : Ck) : Option E → Option Expr → Bool
  | none, none => true
  | some e, some x => ck c false e x
  | _, _ => false
def ckc (c : Ck) : List E → List Expr → Bool
  | [], [] => true
  | e :: _, x :: xs => xs.isEmpty && ck c true e x
  | _, _ => false
/-- z: the target -/
def ckI (c : Ck) : It → Expr → Expr → Bool
  | .seq e, x, _ => ck c false e x
  | .rng es, x, _ => (match x with
    | .Call (.Name y _) zs [] _ => decide (y = ("range" : Str)) && glB c.sc y && cks c es zs && (decide (zs.length = 1) || decide (zs.length = 2))
    | _ => false)
  | .enm e, x, z => (match x, z with
    | .Call (.Name y _) [w] [] _, .Tuple _ _ _ => decide (y = ("enumerate" : Str)) && glB c.sc y && ck c false e w
    | _, _ => false)
  | .rvr e, x, _ => (match x with
    | .Call (.Name y _) [.Call (.Name y2 _) [w] [] _] [] _ => decide (y = ("reversed" : Str)) && glB c.sc y && decide (y2 = ("range" : Str)) && glB c.sc y2 && ck c false e w
    | _ => false)
  | .zip _ _, _, _ => false
  | .rev _, _, _ => false
end
/-! ### what is checked is no star, no part, no set -/
theorem ck_ok0 (c : Ck) : ∀ (t : Bool) (e : E) (x : Expr), ck c t e x = true → okX x = true
  | t, .alc e, x, h => by
    unfold ck at h
    simp only [Bool.and_eq_true] at h
    exact ck_ok0 c false e x h.2
  | t, .k p, x, h => by unfold ck at h; split at h <;> first | rfl | cases h
  | t, .v p, x, h => by unfold ck at h; split at h <;> first | rfl | cases h
  | t, .gc p, x, h => by unfold ck at h; split at h <;> first | rfl | cases h
  | t, .tup p, x, h => by unfold ck at h; split at h <;> first | rfl | cases h
  | t, .lst p, x, h => by unfold ck at h; split at h <;> first | rfl | cases h
  | t, .dic p q, x, h => by unfold ck at h; split at h <;> first | rfl | cases h
  | t, .bin _ _ _, x, h => by unfold ck at h; split at h <;> first | rfl | cases h
  | t, .neg _, x, h => by unfold ck at h; split at h <;> first | rfl | cases h
  | t, .cmp _ _ _, x, h => by unfold ck at h; split at h <;> first | rfl | cases h
  | t, .chn _ _ _ _ _, x, h => by unfold ck at h; split at h <;> first | rfl | cases h
  | t, .and _, x, h => by unfold ck at h; split at h <;> first | rfl | cases h
  | t, .or _, x, h => by unfold ck at h; split at h <;> first | rfl | cases h
  | t, .not _, x, h => by unfold ck at h; split at h <;> first | rfl | cases h
  | t, .ife _ _ _, x, h => by
    unfold ck at h
    simp only [Bool.and_eq_true] at h
    obtain ⟨_, h⟩ := h
    split at h <;> first | rfl | cases h
  | t, .ix _ _, x, h => by unfold ck at h; split at h <;> first | rfl | cases h
  | t, .sl _ _ _, x, h => by unfold ck at h; split at h <;> first | rfl | cases h
  | t, .call _ _, x, h => by unfold ck at h; split at h <;> first | rfl | cases h
  | t, .bi _ _, x, h => by unfold ck at h; split at h <;> first | rfl | cases h
  | t, .kget _ _ _, x, h => by unfold ck at h; split at h <;> first | rfl | cases h
  | t, .act _, x, h => by
    unfold ck at h
    simp only [Bool.and_eq_true] at h
    obtain ⟨_, h⟩ := h
    split at h <;> first | rfl | cases h
  | t, .lamc _ _, x, h => by
    unfold ck at h
    simp only [Bool.and_eq_true] at h
    obtain ⟨_, h⟩ := h
    split at h <;> first | rfl | cases h
  | t, .meth _ _ _, x, h => by unfold ck at h; split at h <;> first | rfl | cases h
  | t, .fld _ _, x, h => by unfold ck at h; split at h <;> first | rfl | cases h
  | t, .isi _ _ _, x, h => by unfold ck at h; split at h <;> first | rfl | cases h
  | t, .lc _ _ _ _ _, x, h => by unfold ck at h; split at h <;> first | rfl | cases h
theorem cks_ns (c : Ck) : ∀ (es : List E) (xs : List Expr), cks c es xs = true → NS xs
  | [], [], _ => fun x hx => by cases hx
  | e :: es, x :: xs, h => by
    unfold cks at h
    simp only [Bool.and_eq_true] at h
    intro y hy
    rcases List.mem_cons.mp hy with z | z
    · rw [z]; exact ck_ok0 c false e x h.1
    · exact cks_ns c es xs h.2 y z
  | [], _ :: _, h => by simp [cks] at h
  | _ :: _, [], h => by simp [cks] at h
end Mi
set_option Elab.async false
set_option linter.all false
set_option maxRecDepth 100000
set_option maxHeartbeats 4000000
/-! MiT: what is checked runs as it is read: expressions. -/
namespace Mi
open PySem L2
structure Cok0 (X : Cx) (mg : Mg) (G : Ge) (W : WX) (c : Ck) : Prop where
  hN : X.N = c.N
  hsc : X.env.scope = c.sc
  hfn : X.fn = c.fn
  nd : X.N.Nodup
  calm : X.calm = true
  mgE : mg.g = X.mg
  un : X.A.units + 164 < cLine
  gd : X.A.guards = some []
  tk : Takes X W
  sub : SubOk G.o.sub X.K mg
  fld : FldOk X mg G.o.flds
  blt : ∀ x ∈ bltN, X.mg x = none
  cls : ∀ x ∈ c.cls, ∃ C, X.mg x = some (.ref C)
  gcs : ∀ x u, G.o.gcs x = some u → ∃ val v, X.mg x = some val ∧ RelV v val ∧ ∀ ρ H, RepU ρ X.K mg H u v
  kds : ∀ x ∈ c.kds, ∃ kvs, G.o.kds x = some kvs ∧ KdOk X x kvs
  call : ∀ f ∈ c.fns, CallOk X mg f (G.call f)
structure TopOk (X : Cx) (mg : Mg) (G : Ge) (W : WX) (c : Ck) : Prop where
  act : ∀ (i : Nat) (x : Str) (p1 p2 : Pos), X.N[i]? = some x → Vis X.env.scope x → (x == ("__debug__" : Str)) = false → (x == ("__classdict__" : Str)) = false →
    PE X (.Call (.Name x p1) [] [] p2) (tR X.K mg W fun δ => match δ[i]? with | some (some .lam) => G.deed | _ => bad)
  lam : ∀ f ∈ c.lams, ∀ (p lpos pos : Pos) (pr : Arguments) (body : Expr) (scope : Scope) (m : FM), Gl X f → (f == ("__debug__" : Str)) = false → noArgs pr = true → LamX.lamSB X.env.scope scope = true →
    (∀ X' W', Cok0 X' mg G W' ⟨c.N, scope, fun _ => false, c.cls, c.fns, c.kds, [], false⟩ → PE X' body (tR X'.K mg W' m)) →
    PE X (.Call (.Name f p) [.Lambda pr body scope lpos] [] pos) (tR X.K mg W fun δ => G.callL f (m δ))
section
variable {X : Cx} {mg : Mg} {G : Ge} {W : WX} {c : Ck}
theorem Cok0.gl (h : Cok0 X mg G W c) {x : Str} (e : glB c.sc x = true) : Gl X x ∧ (x == ("__debug__" : Str)) = false := by
  unfold glB at e
  simp only [Bool.and_eq_true, decide_eq_true_eq, Bool.not_eq_true'] at e
  refine ⟨?_, e.2⟩
  show X.env.scope.names.lookup x = _
  rw [h.hsc]
  exact e.1
theorem Cok0.vr (h : Cok0 X mg G W c) {i : Nat} {x : Str} (e : vrB c i x = true) : X.N[i]? = some x ∧ Vis X.env.scope x ∧ (x == ("__debug__" : Str)) = false ∧ (x == ("__classdict__" : Str)) = false := by
  unfold vrB at e
  simp only [Bool.and_eq_true, decide_eq_true_eq, Bool.not_eq_true'] at e
  obtain ⟨⟨⟨h1, h2⟩, h3⟩, h4⟩ := e
  refine ⟨by rw [h.hN]; exact h1, by rw [h.hsc]; exact visB_ok h2, h3, h4⟩
/-- in a comprehension's block -/
theorem Cok0.blk (h : Cok0 X mg G W c) (s : Shared) (H : Hp) (scope : Scope) (cl : List (Str × Addr)) (C : Addr) (fp : List Addr) : Cok0 (X.blk s H scope (compEnvC scope cl C X.env) fp) mg G WF ⟨c.N, relS scope c.sc, fun x => scope.names.lookup x == some .cell, c.cls, c.fns, c.kds, [], false⟩ :=
  ⟨h.hN, by rw [← h.hsc]; rfl, rfl, h.nd, h.calm, h.mgE, h.un, h.gd, LamX.takes0, h.sub, ⟨h.fld.at_⟩, h.blt, h.cls, h.gcs, fun x e => (h.kds x e).imp fun kvs q => ⟨q.1, ⟨q.2.ex⟩⟩, fun f e => ⟨(h.call f e).ex, (h.call f e).nl⟩⟩
theorem pe_pt {e : Expr} {m : FM} (h : PE X e (tR X.K mg W m)) (he : ∀ whole, isTrue e X.env whole = (do let v ← whole; standAt e.pos; holding [v] (truthy v))) (t : Bool) : PE X e (tR X.K mg W m) ∧ (t = true → PT X e (tT X.K mg W m)) := ⟨h, fun _ => y_val h he⟩
theorem boot_ty {n : String} (h : tyNs.contains n = true) : bootBuiltins (Str.ofString n) = some (.type n) ∧ Str.ofString n ∈ bltN ∧ Str.ofString n ≠ "__name__" := by
  have h : n ∈ tyNs := by simpa using h
  have all : ∀ n ∈ tyNs, bootBuiltins (Str.ofString n) = some (.type n) ∧ Str.ofString n ∈ bltN ∧ Str.ofString n ≠ "__name__" := by decide +kernel
  exact all n h
/-- a class by its name -/
theorem cls_main (h : Cok0 X mg G W c) : ∀ (t : String ⊕ Str) (x : Expr), ckCls c t x = true → ∃ v u, ClsAt mg t v u ∧ PE X x (tC v) ∧ okX x = true
  | .inl n, x, e => by
    cases x <;> simp only [ckCls] at e <;> try cases e
    simp only [Bool.and_eq_true, decide_eq_true_eq] at e
    obtain ⟨⟨e1, rfl⟩, e3⟩ := e
    obtain ⟨b1, b2, b3⟩ := boot_ty e1
    obtain ⟨g1, g2⟩ := h.gl e3
    exact ⟨_, _, .ty n, pe_bltn g1 (h.blt _ b2) b1 rfl b3 g2, rfl⟩
  | .inr y, x, e => by
    cases x <;> simp only [ckCls] at e <;> try cases e
    simp only [Bool.and_eq_true, decide_eq_true_eq] at e
    obtain ⟨⟨rfl, e2⟩, e3⟩ := e
    obtain ⟨g1, g2⟩ := h.gl e3
    obtain ⟨C, hC⟩ := h.cls _ (by simpa using e2)
    exact ⟨_, _, .own (C := C) (by rw [h.mgE]; exact hC), pe_glob g1 hC rfl g2, rfl⟩
theorem clss_main (h : Cok0 X mg G W c) : ∀ (ts : List (String ⊕ Str)) (xs : List Expr), ckClss c ts xs = true → ∃ vs us, Clss X mg ts xs vs us ∧ vs.length = ts.length
  | [], [], _ => ⟨_, _, .nil, rfl⟩
  | t :: ts, x :: xs, e => by
    unfold ckClss at e
    simp only [Bool.and_eq_true] at e
    obtain ⟨v, u, h1, h2, h3⟩ := cls_main h t x e.1
    obtain ⟨vs, us, h4, h5⟩ := clss_main h ts xs e.2
    exact ⟨_, _, .cons h1 h2 (okX_star h3 _ _) h4, by simp [h5]⟩
  | [], _ :: _, e => by simp [ckClss] at e
  | _ :: _, [], e => by simp [ckClss] at e
theorem biF_main (h : Cok0 X mg G W c) {f : String} (hf : biF.contains f = true) : ∃ id, bootBuiltins (Str.ofString f) = some (.builtin id) ∧ X.mg (Str.ofString f) = none ∧ Str.ofString f ≠ "__name__" ∧ CallR X (.builtin id) (rBi X.K mg f) := by
  have hu := h.un
  have h0 : f ∈ biF := by simpa using hf
  have hb : X.mg (Str.ofString f) = none := by
    have all : ∀ f ∈ biF, Str.ofString f ∈ bltN := by decide +kernel
    exact h.blt _ (all f h0)
  have hn : Str.ofString f ≠ "__name__" := by
    have all : ∀ f ∈ biF, Str.ofString f ≠ "__name__" := by decide +kernel
    exact all f h0
  simp only [biF, List.mem_cons, List.not_mem_nil, or_false] at h0
  rcases h0 with rfl | rfl | rfl | rfl | rfl | rfl | rfl | rfl
  · exact ⟨"len", by decide +kernel, hb, hn, bi_len⟩
  · exact ⟨"abs", by decide +kernel, hb, hn, bi_abs⟩
  · exact ⟨"min", by decide +kernel, hb, hn, bi_min h.calm⟩
  · exact ⟨"max", by decide +kernel, hb, hn, bi_max h.calm⟩
  · exact ⟨"all", by decide +kernel, hb, hn, bi_all h.calm⟩
  · exact ⟨"any", by decide +kernel, hb, hn, bi_any h.calm⟩
  · exact ⟨"sorted", by decide +kernel, hb, hn, bi_sorted h.calm⟩
  · exact ⟨"repr", by decide +kernel, hb, hn, bi_repr h.gd (by omega)⟩
theorem biT_main (h : Cok0 X mg G W c) {f : String} (hf : biT.contains f = true) : bootBuiltins (Str.ofString f) = some (.type f) ∧ X.mg (Str.ofString f) = none ∧ Str.ofString f ≠ "__name__" ∧ CallR X (.type f) (rBi X.K mg f) := by
  have h0 : f ∈ biT := by simpa using hf
  have hb : X.mg (Str.ofString f) = none := by
    have all : ∀ f ∈ biT, Str.ofString f ∈ bltN := by decide +kernel
    exact h.blt _ (all f h0)
  have hn : Str.ofString f ≠ "__name__" := by
    have all : ∀ f ∈ biT, Str.ofString f ≠ "__name__" := by decide +kernel
    exact all f h0
  simp only [biT, List.mem_cons, List.not_mem_nil, or_false] at h0
  rcases h0 with rfl | rfl | rfl | rfl | rfl
  · exact ⟨by decide +kernel, hb, hn, bi_int⟩
  · exact ⟨by decide +kernel, hb, hn, bi_str⟩
  · exact ⟨by decide +kernel, hb, hn, bi_list⟩
  · exact ⟨by decide +kernel, hb, hn, bi_tuple⟩
  · exact ⟨by decide +kernel, hb, hn, bi_dict h.calm⟩
theorem mt_main (h : Cok0 X mg G W c) {m : String} (hm : mAll.contains m = true) : (mTy m = "list" ∨ mTy m = "dict" ∨ mTy m = "str") ∧ PlainAttrs (mTy m) ∧ Slot (mTy m) (Str.ofString (mNm m)) m ∧ typeOf (.builtin m) = pure (.type "method_descriptor") ∧ MtR X m (rMt X.K mg m) := by
  have hu := h.un
  have h0 : m ∈ mAll := by simpa using hm
  simp only [mAll, List.mem_cons, List.not_mem_nil, or_false] at h0
  rcases h0 with rfl | rfl | rfl | rfl | rfl
  · exact ⟨.inl rfl, PySem.F.plainAttrs_list, PySem.F.slot_list_append, PySem.F.type_list_append, me_append⟩
  · exact ⟨.inl rfl, PySem.F.plainAttrs_list, PySem.F.slot_list_extend, PySem.F.type_list_extend, me_extend⟩
  · exact ⟨.inl rfl, PySem.F.plainAttrs_list, PySem.F.slot_list_pop, PySem.F.type_list_pop, me_pop⟩
  · exact ⟨.inr (.inl rfl), PySem.F.plainAttrs_dict, PySem.F.slot_dict_get, PySem.F.type_dict_get, me_get (by omega)⟩
  · exact ⟨.inr (.inr rfl), PySem.F.plainAttrs_str, PySem.F.slot_str_join, PySem.F.type_str_join, me_join⟩
end
theorem evs_mEvs (G : Ge) (δ : Fr) : ∀ es : List E, evs G es δ = mEvs (es.map (ev G)) δ
  | [] => by simp only [evs, mEvs, List.map_nil]
  | e :: es => by
    simp only [evs, mEvs, List.map_cons]
    rw [evs_mEvs G δ es]
theorem evs_len (G : Ge) (δ : Fr) : ∀ (es : List E) (A : Hs) (us : List U) (A' : Hs), evs G es δ A = some (.ok us, A') → us.length = es.length
  | [], A, us, A', h => by
    simp only [evs, ret] at h
    cases h; rfl
  | e :: es, A, us, A', h => by
    simp only [evs, bnd] at h
    cases e1 : valM (ev G e δ) A with
    | none => rw [e1] at h; cases h
    | some z =>
      obtain ⟨z, A1⟩ := z
      rw [e1] at h
      cases z with
      | er _ _ => cases h
      | ok u =>
        simp only at h
        cases e2 : evs G es δ A1 with
        | none => rw [e2] at h; cases h
        | some z =>
          obtain ⟨z, A2⟩ := z
          rw [e2] at h
          cases z with
          | er _ _ => cases h
          | ok us' =>
            simp only [ret] at h
            cases h
            simp [evs_len G δ es A1 us' _ e2]
theorem cks_len (c : Ck) : ∀ (es : List E) (xs : List Expr), cks c es xs = true → es.length = xs.length
  | [], [], _ => rfl
  | e :: es, x :: xs, h => by
    unfold cks at h
    simp only [Bool.and_eq_true] at h
    simp [cks_len c es xs h.2]
  | [], _ :: _, h => by simp [cks] at h
  | _ :: _, [], h => by simp [cks] at h
end Mi
set_option Elab.async false
set_option linter.all false
set_option maxRecDepth 100000
set_option maxHeartbeats 8000000
/-! MiU: what is checked runs as it is read: the theorem for expressions. -/
namespace Mi
open PySem L2
mutual
theorem ck_main (G : Ge) (mg : Mg) : ∀ (e : E) (c : Ck) (t : Bool) (X : Cx) (W : WX) (x : Expr), Cok0 X mg G W c → (c.top = true → TopOk X mg G W c) → ck c t e x = true → PE X x (tR X.K mg W (ev G e)) ∧ (t = true → PT X x (tT X.K mg W (ev G e)))
  | .k p, c, t, X, W, x, h, ht, e => by
    unfold ck at e
    split at e
    · refine pe_pt ?_ (fun _ => rfl) t
      split at e
      · exact x_con pe_non fun _ _ => .non
      · cases (show _ = _ by simpa using e); exact x_con pe_bl fun _ _ => .bl _
      · cases of_decide_eq_true e; exact x_con pe_int fun _ _ => .int _
      · cases of_decide_eq_true e; exact x_con pe_str fun _ _ => .str _
      · cases e
    · cases e
  | .v i, c, t, X, W, x, h, ht, e => by
    unfold ck at e
    split at e
    · obtain ⟨h1, h2, h3, h4⟩ := h.vr e
      exact pe_pt (x_var h1 h2 h3 h4) (fun _ => rfl) t
    · cases e
  | .gc n, c, t, X, W, x, h, ht, e => by
    unfold ck at e
    split at e
    · simp only [Bool.and_eq_true, decide_eq_true_eq] at e
      obtain ⟨rfl, e2⟩ := e
      obtain ⟨g1, g2⟩ := h.gl e2
      refine pe_pt ?_ (fun _ => rfl) t
      cases eg : G.o.gcs n with
      | none =>
        refine ⟨fun pins s σ H Q I q => ?_⟩
        obtain ⟨ρ, A, δ, hE, hH, q⟩ := q
        simp only [ev, eg, Option.map_none, lft_none] at q
        exact q.elim
      | some u =>
        obtain ⟨val, v, m1, m2, m3⟩ := h.gcs n u eg
        refine pe_imp (x_gc (W := W) (pe_glob g1 m1 m2 g2) m3) fun σ H Q q => ?_
        obtain ⟨ρ, A, δ, hE, hH, q⟩ := q
        simp only [ev, eg, Option.map_some, lft_some] at q
        exact ⟨ρ, A, δ, hE, hH, q⟩
    · cases e
  | .tup es, c, t, X, W, x, h, ht, e => by
    unfold ck at e
    split at e
    · refine pe_pt ?_ (fun _ => rfl) t
      exact x_tup (cks_main G mg es c X W _ h ht e)
    · cases e
  | .lst es, c, t, X, W, x, h, ht, e => by
    unfold ck at e
    split at e
    · refine pe_pt ?_ (fun _ => rfl) t
      exact x_lst (cks_main G mg es c X W _ h ht e)
    · cases e
  | .dic ks es, c, t, X, W, x, h, ht, e => by
    unfold ck at e
    split at e
    · rename_i keys vals pos
      simp only [Bool.and_eq_true, decide_eq_true_eq] at e
      obtain ⟨⟨⟨e1, e2⟩, e3⟩, e4⟩ := e
      refine pe_pt ?_ (fun _ => rfl) t
      obtain ⟨p1, p2, p3⟩ := ckd_main G mg es c X W pos ks keys vals h ht e1 e2 e3
      cases ks with
      | nil =>
        cases es with
        | nil =>
          have k0 : keys = [] := by cases keys with | nil => rfl | cons _ _ => simp [ckKeys] at e1
          have v0 : vals = [] := by cases vals with | nil => rfl | cons _ _ => simp [cks] at e2
          subst k0 v0
          exact x_dic0
        | cons _ _ => cases e3
      | cons k ks =>
        have hne : keys ≠ [] := by rintro rfl; cases p3
        refine pe_imp (x_dic p1 (by simpa using e3) p2 (by rw [← cks_len c es vals e2, ← e3, p3]) hne (by rw [← p3]; exact e4) e4) fun σ H Q q => ?_
        obtain ⟨ρ, A, δ, hE, hH, q⟩ := q
        refine ⟨ρ, A, δ, hE, hH, ?_⟩
        simp only [ev, evs_mEvs] at q
        exact q
    · cases e
  | .alc e', c, t, X, W, x, h, ht, e => by
    unfold ck at e
    simp only [Bool.and_eq_true, Bool.not_eq_true'] at e
    obtain ⟨rfl, e⟩ := e
    exact ⟨x_alc (ck_main G mg e' c false X W x h ht e).1, fun z => by cases z⟩
  | .bin op a b, c, t, X, W, x, h, ht, e => by
    unfold ck at e
    split at e
    · simp only [Bool.and_eq_true, decide_eq_true_eq] at e
      obtain ⟨⟨rfl, e1⟩, e2⟩ := e
      refine pe_pt ?_ (fun _ => rfl) t
      exact x_bin (ck_main G mg a c false X W _ h ht e1).1 (ck_main G mg b c false X W _ h ht e2).1
    · cases e
  | .neg a, c, t, X, W, x, h, ht, e => by
    unfold ck at e
    split at e
    · refine pe_pt ?_ (fun _ => rfl) t
      exact x_neg (ck_main G mg a c false X W _ h ht e).1
    · cases e
  | .cmp op a b, c, t, X, W, x, h, ht, e => by
    have hu := h.un
    unfold ck at e
    split at e
    · simp only [Bool.and_eq_true, decide_eq_true_eq] at e
      obtain ⟨⟨rfl, e1⟩, e2⟩ := e
      have ha := (ck_main G mg a c false X W _ h ht e1).1
      have hb := (ck_main G mg b c false X W _ h ht e2).1
      have hm := okX_marks (op := op) (ck_ok0 c false b _ e2)
      exact ⟨x_cmp (by omega) ha hb hm, fun _ => y_cmp (by omega) ha hb hm⟩
    · cases e
  | .chn o1 o2 a b d, c, t, X, W, x, h, ht, e => by
    have hu := h.un
    unfold ck at e
    split at e
    · simp only [Bool.and_eq_true, decide_eq_true_eq] at e
      obtain ⟨⟨⟨⟨rfl, rfl⟩, e1⟩, e2⟩, e3⟩ := e
      have ha := (ck_main G mg a c false X W _ h ht e1).1
      have hb := (ck_main G mg b c false X W _ h ht e2).1
      have hd := (ck_main G mg d c false X W _ h ht e3).1
      have hm := okX_marks (op := o2) (ck_ok0 c false d _ e3)
      exact ⟨x_chn (by omega) ha hb hd hm, fun _ => y_chn (by omega) ha hb hd hm⟩
    · cases e
  | .and es, c, t, X, W, x, h, ht, e => by
    unfold ck at e
    split at e
    · rename_i xs pos
      have z := cka_main G mg es c t X W pos _ h ht e
      exact ⟨z.1, fun q => (z.2 q).pt⟩
    · cases e
  | .or es, c, t, X, W, x, h, ht, e => by
    unfold ck at e
    split at e
    · rename_i xs pos
      have z := ckor_main G mg es c t X W pos _ h ht e
      exact ⟨z.1, fun q => (z.2 q).pt⟩
    · cases e
  | .not a, c, t, X, W, x, h, ht, e => by
    unfold ck at e
    split at e
    · have z := ck_main G mg a c t X W _ h ht e
      exact ⟨x_not z.1, fun q => y_not (z.2 q)⟩
    · cases e
  | .ife q a b, c, t, X, W, x, h, ht, e => by
    unfold ck at e
    simp only [Bool.and_eq_true, Bool.not_eq_true'] at e
    obtain ⟨rfl, e⟩ := e
    split at e
    · simp only [Bool.and_eq_true] at e
      obtain ⟨⟨e1, e2⟩, e3⟩ := e
      exact ⟨x_ife ((ck_main G mg q c true X W _ h ht e1).2 rfl) (ck_main G mg a c false X W _ h ht e2).1 (ck_main G mg b c false X W _ h ht e3).1, fun z => by cases z⟩
    · cases e
  | .ix a i, c, t, X, W, x, h, ht, e => by
    have hu := h.un
    unfold ck at e
    split at e
    · simp only [Bool.and_eq_true] at e
      refine pe_pt ?_ (fun _ => rfl) t
      exact x_ix (by omega) (ck_main G mg a c false X W _ h ht e.1).1 (ck_main G mg i c false X W _ h ht e.2).1 (okX_ix (ck_ok0 c false i _ e.2))
    · cases e
  | .sl a lo hi, c, t, X, W, x, h, ht, e => by
    unfold ck at e
    split at e
    · simp only [Bool.and_eq_true] at e
      obtain ⟨⟨e1, e2⟩, e3⟩ := e
      refine pe_pt ?_ (fun _ => rfl) t
      exact x_sl (ck_main G mg a c false X W _ h ht e1).1 (cko_main G mg lo c X W _ h ht e2) (cko_main G mg hi c X W _ h ht e3)
    · cases e
  | .call f es, c, t, X, W, x, h, ht, e => by
    unfold ck at e
    split at e
    · rename_i y p z zs pos
      simp only [Bool.and_eq_true, decide_eq_true_eq] at e
      obtain ⟨⟨⟨rfl, e0⟩, e1⟩, e2⟩ := e
      obtain ⟨g1, g2⟩ := h.gl e1
      have ns := cks_ns c es _ e2
      have ha := cks_main G mg es c X W _ h ht e2
      refine pe_pt ?_ (fun _ => rfl) t
      exact x_call (h.call f (by simpa using e0)) h.gd h.tk g1 g2 ha (okX_star (ns z (by simp)) _ _) (NS.any (fun w hw => ns w (by simp [hw])) _ _)
    · cases e
  | .bi f es, c, t, X, W, x, h, ht, e => by
    unfold ck at e
    split at e
    · rename_i y p z zs pos
      simp only [Bool.and_eq_true, Bool.or_eq_true, decide_eq_true_eq] at e
      obtain ⟨⟨⟨e0, rfl⟩, e1⟩, e2⟩ := e
      obtain ⟨g1, g2⟩ := h.gl e1
      have ns := cks_ns c es _ e2
      have ha := cks_main G mg es c X W _ h ht e2
      refine pe_pt ?_ (fun _ => rfl) t
      rcases e0 with e0 | e0
      · obtain ⟨id, b1, b2, b3, b4⟩ := biF_main h e0
        exact x_bi b4 g1 b2 b1 ha b3 g2 (okX_star (ns z (by simp)) _ _) (NS.any (fun w hw => ns w (by simp [hw])) _ _)
      · obtain ⟨b1, b2, b3, b4⟩ := biT_main h e0
        exact x_bt b4 g1 b2 b1 ha b3 g2 (okX_star (ns z (by simp)) _ _) (NS.any (fun w hw => ns w (by simp [hw])) _ _)
    · cases e
  | .kget n k z, c, t, X, W, x, h, ht, e => by
    unfold ck at e
    split at e
    · rename_i y p g ap u v cp
      simp only [Bool.and_eq_true, decide_eq_true_eq] at e
      obtain ⟨⟨⟨⟨⟨⟨rfl, e0⟩, e1⟩, rfl⟩, e2⟩, e3⟩, e4⟩ := e
      obtain ⟨g1, g2⟩ := h.gl e1
      have hk := (ck_main G mg k c false X W _ h ht e3).1
      have hz := (ck_main G mg z c false X W _ h ht e4).1
      have o1 := ck_ok0 c false k _ e3
      have o2 := ck_ok0 c false z _ e4
      have ns : NS [u, v] := fun w hw => by
        rcases List.mem_cons.mp hw with q | q
        · rw [q]; exact o1
        · rw [List.mem_singleton.mp q]; exact o2
      refine pe_pt ?_ (fun _ => rfl) t
      obtain ⟨kvs, ek, hk0⟩ := h.kds n (by simpa using e0)
      refine pe_imp (x_kget hk0 g1 g2 hk hz (NS.few ns (by simp) _ _) e2 (okX_star o1 _ _) (okX_star o2 _ _)) fun σ H Q q => ?_
      obtain ⟨ρ, A, δ, hE, hH, q⟩ := q
      simp only [ev, ek] at q
      exact ⟨ρ, A, δ, hE, hH, q⟩
    · cases e
  | .act i, c, t, X, W, x, h, ht, e => by
    unfold ck at e
    simp only [Bool.and_eq_true] at e
    obtain ⟨e0, e⟩ := e
    split at e
    · obtain ⟨h1, h2, h3, h4⟩ := h.vr e
      exact pe_pt ((ht e0).act i _ _ _ h1 h2 h3 h4) (fun _ => rfl) t
    · cases e
  | .lamc f e', c, t, X, W, x, h, ht, e => by
    unfold ck at e
    simp only [Bool.and_eq_true] at e
    obtain ⟨e0, e⟩ := e
    split at e
    · simp only [Bool.and_eq_true, decide_eq_true_eq] at e
      obtain ⟨⟨⟨⟨⟨rfl, eL⟩, e1⟩, e2⟩, e3⟩, e4⟩ := e
      obtain ⟨g1, g2⟩ := h.gl e1
      refine pe_pt ?_ (fun _ => rfl) t
      exact (ht e0).lam f (by simpa using eL) _ _ _ _ _ _ (ev G e') g1 g2 e2 (by rw [h.hsc]; exact e3) fun X' W' h' => (ck_main G mg e' _ false X' W' _ h' (fun z => by cases z) e4).1
    · cases e
  | .meth m o es, c, t, X, W, x, h, ht, e => by
    unfold ck at e
    split at e
    · rename_i y g ap zs cp
      simp only [Bool.and_eq_true, decide_eq_true_eq] at e
      obtain ⟨⟨⟨⟨⟨⟨e0, rfl⟩, e1⟩, e2⟩, e3⟩, e4⟩, e5⟩ := e
      obtain ⟨m1, m2, m3, m4, m5⟩ := mt_main h e0
      have ho := (ck_main G mg o c false X W _ h ht e3).1
      have ha := cks_main G mg es c X W _ h ht e4
      have ns := cks_ns c es _ e4
      refine pe_pt ?_ (fun _ => rfl) t
      cases zs with
      | nil =>
        have hes : es = [] := by cases es with | nil => rfl | cons _ _ => simp [cks] at e4
        subst hes
        exact x_meth0 rfl m1 m2 m3 m4 m5 ho (attrX_ok e1 _ _) e2
      | cons z zs => exact x_meth rfl m1 m2 m3 m4 m5 ho ha (attrX_ok e1 _ _) (NS.few ns e5 _ _) e2 (okX_star (ns z (by simp)) _ _) (NS.any (fun w hw => ns w (by simp [hw])) _ _)
    · cases e
  | .fld o f, c, t, X, W, x, h, ht, e => by
    unfold ck at e
    split at e
    · simp only [Bool.and_eq_true, decide_eq_true_eq] at e
      obtain ⟨⟨rfl, e1⟩, e2⟩ := e
      refine pe_pt ?_ (fun _ => rfl) t
      exact x_fld h.fld (ck_main G mg o c false X W _ h ht e2).1 (attrX_ok e1 _ _)
    · cases e
  | .isi e' ts tt, c, t, X, W, x, h, ht, e => by
    unfold ck at e
    split at e
    · rename_i y p z w pos
      simp only [Bool.and_eq_true, decide_eq_true_eq] at e
      obtain ⟨⟨⟨rfl, e1⟩, e2⟩, e3⟩ := e
      obtain ⟨g1, g2⟩ := h.gl e1
      have ha := (ck_main G mg e' c false X W _ h ht e2).1
      have hm := h.blt "isinstance" (by decide +kernel)
      refine pe_pt ?_ (fun _ => rfl) t
      cases tt with
      | false =>
        simp only at e3
        split at e3
        · obtain ⟨v, u, c1, c2, c3⟩ := cls_main h _ _ e3
          exact x_is1 h.sub c1 g1 hm ha c2 (okX_star (ck_ok0 c false e' _ e2) _ _) (okX_star c3 _ _)
        · cases e3
      | true =>
        simp only at e3
        split at e3
        · simp only [Bool.and_eq_true, Bool.not_eq_true', decide_eq_true_eq] at e3
          obtain ⟨⟨c0, c1⟩, c2⟩ := e3
          obtain ⟨vs, us, c3, c4⟩ := clss_main h _ _ c0
          exact x_isN h.sub c3 (by rintro rfl; cases c1) (by rw [c4, sizeLine_eq]; omega) g1 hm ha (okX_star (ck_ok0 c false e' _ e2) _ _)
        · cases e3
    · cases e
  | .lc elt tg it cs own, c, t, X, W, x, h, ht, e => by
    unfold ck at e
    split at e
    · rename_i y z w ifs as scope pos
      simp only [Bool.and_eq_true, decide_eq_true_eq] at e
      obtain ⟨⟨⟨⟨⟨⟨rfl, e1⟩, e2⟩, e3⟩, e4⟩, e5⟩, e6⟩ := e
      refine pe_pt ?_ (fun _ => rfl) t
      have hi := ckI_main G mg it c X W w z h ht e1
      have ho : (own.map fun i => (c.N.getD i default, i)).map (·.2) = own := by simp [Function.comp_def]
      have hb : BlkOk X.N X.env.scope scope (own.map fun i => (c.N.getD i default, i)) := blkOk_by (by rw [h.hN, h.hsc]; exact e2)
      have z := x_lc (pos := pos) h.calm h.nd hi.1 hb (fun s H C cl fp => ckT_ok (mg := mg) (h.blk s H scope cl C fp).calm (h.blk s H scope cl C fp).nd tg z (by
          have q := h.blk s H scope cl C fp
          rw [q.hN, q.hsc, q.hfn]; exact e4))
        (fun s H C cl fp => ckc_main G mg cs _ _ _ ifs rfl (h.blk s H scope cl C fp) e5)
        (fun s H C cl fp => (ck_main G mg elt _ false _ _ y (h.blk s H scope cl C fp) (fun z => by cases z) e6).1) (okX_fold hi.2 _) (by rw [ho]; exact e3)
      rw [ho] at z
      exact z
    · cases e
theorem cks_main (G : Ge) (mg : Mg) : ∀ (es : List E) (c : Ck) (X : Cx) (W : WX) (xs : List Expr), Cok0 X mg G W c → (c.top = true → TopOk X mg G W c) → cks c es xs = true → PA X xs (tRs X.K mg W (evs G es))
  | [], c, X, W, [], h, ht, e => x_nil
  | e' :: es, c, X, W, x :: xs, h, ht, e => by
    unfold cks at e
    simp only [Bool.and_eq_true] at e
    exact x_cons (ck_main G mg e' c false X W x h ht e.1).1 (cks_main G mg es c X W xs h ht e.2) (okX_star (ck_ok0 c false e' x e.1) _ _)
  | [], c, X, W, _ :: _, h, ht, e => by simp [cks] at e
  | _ :: _, c, X, W, [], h, ht, e => by simp [cks] at e
theorem ckd_main (G : Ge) (mg : Mg) : ∀ (es : List E) (c : Ck) (X : Cx) (W : WX) (pos : Pos) (ks : List Key) (keys : List (Option Expr)) (vals : List Expr), Cok0 X mg G W c → (c.top = true → TopOk X mg G W c) → ckKeys ks keys = true → cks c es vals = true → ks.length = es.length →
    PPs X pos keys vals ((ks.zip (es.map (ev G))).map fun km => (tC (kV km.1), tR X.K mg W km.2)) ∧ keys.all (·.isSome) = true ∧ ks.length = keys.length
  | [], c, X, W, pos, [], [], [], h, ht, _, _, _ => ⟨pps_nil, rfl, rfl⟩
  | e' :: es, c, X, W, pos, k :: ks, key :: keys, v :: vals, h, ht, e1, e2, e3 => by
    unfold cks at e2
    unfold ckKeys at e1
    simp only [Bool.and_eq_true] at e1 e2
    obtain ⟨z1, z2, z3⟩ := ckd_main G mg es c X W pos ks keys vals h ht e1.2 e2.2 (by simpa using e3)
    have hv := (ck_main G mg e' c false X W v h ht e2.1).1
    have hk := e1.1
    unfold ckKey at hk
    split at hk
    · cases of_decide_eq_true hk
      exact ⟨pps_cons pe_str hv z1, by simp [z2], by simp [z3]⟩
    · cases of_decide_eq_true hk
      exact ⟨pps_cons pe_int hv z1, by simp [z2], by simp [z3]⟩
    · cases hk
  | [], c, X, W, pos, _ :: _, _, _, h, ht, _, _, e => by cases e
  | _ :: _, c, X, W, pos, [], _, _, h, ht, _, _, e => by cases e
  | [], c, X, W, pos, [], _ :: _, _, h, ht, e, _, _ => by simp [ckKeys] at e
  | [], c, X, W, pos, [], [], _ :: _, h, ht, _, e, _ => by simp [cks] at e
  | _ :: _, c, X, W, pos, _ :: _, [], _, h, ht, e, _, _ => by simp [ckKeys] at e
  | _ :: _, c, X, W, pos, _ :: _, _ :: _, [], h, ht, _, e, _ => by simp [cks] at e
theorem cka_main (G : Ge) (mg : Mg) : ∀ (es : List E) (c : Ck) (t : Bool) (X : Cx) (W : WX) (pos : Pos) (xs : List Expr), Cok0 X mg G W c → (c.top = true → TopOk X mg G W c) → ckb c t es xs = true →
    PE X (.BoolOp .And xs pos) (tR X.K mg W (evAnd G es)) ∧ (t = true → PW X (.BoolOp .And xs pos) (tT X.K mg W (evAnd G es)))
  | [], c, t, X, W, pos, xs, h, ht, e => by simp [ckb] at e
  | [e'], c, t, X, W, pos, xs, h, ht, e => by
    cases xs with
    | nil => simp [ckb] at e
    | cons x xs =>
      simp only [ckb, Bool.and_eq_true] at e
      obtain ⟨e1, e2⟩ := e
      have : xs = [] := by simpa using e2
      subst this
      have z := ck_main G mg e' c t X W x h ht e1
      exact ⟨pe_one z.1, fun q => pw_and1 (z.2 q)⟩
  | e' :: e2 :: es, c, t, X, W, pos, xs, h, ht, e => by
    cases xs with
    | nil => simp [ckb] at e
    | cons x xs =>
      have e : (ck c t e' x && ckb c t (e2 :: es) xs) = true := by
        unfold ckb at e
        exact e
      simp only [Bool.and_eq_true] at e
      have z := ck_main G mg e' c t X W x h ht e.1
      have zs := cka_main G mg (e2 :: es) c t X W pos xs h ht e.2
      cases xs with
      | nil => simp [ckb] at e
      | cons y ys => exact ⟨x_and (op := .And) z.1 zs.1, fun q => y_and (z.2 q) (zs.2 q)⟩
theorem ckor_main (G : Ge) (mg : Mg) : ∀ (es : List E) (c : Ck) (t : Bool) (X : Cx) (W : WX) (pos : Pos) (xs : List Expr), Cok0 X mg G W c → (c.top = true → TopOk X mg G W c) → ckb c t es xs = true →
    PE X (.BoolOp .Or xs pos) (tR X.K mg W (evOr G es)) ∧ (t = true → PW X (.BoolOp .Or xs pos) (tT X.K mg W (evOr G es)))
  | [], c, t, X, W, pos, xs, h, ht, e => by simp [ckb] at e
  | [e'], c, t, X, W, pos, xs, h, ht, e => by
    cases xs with
    | nil => simp [ckb] at e
    | cons x xs =>
      simp only [ckb, Bool.and_eq_true] at e
      obtain ⟨e1, e2⟩ := e
      have : xs = [] := by simpa using e2
      subst this
      have z := ck_main G mg e' c t X W x h ht e1
      exact ⟨pe_one z.1, fun q => pw_or1 (z.2 q)⟩
  | e' :: e2 :: es, c, t, X, W, pos, xs, h, ht, e => by
    cases xs with
    | nil => simp [ckb] at e
    | cons x xs =>
      have e : (ck c t e' x && ckb c t (e2 :: es) xs) = true := by
        unfold ckb at e
        exact e
      simp only [Bool.and_eq_true] at e
      have z := ck_main G mg e' c t X W x h ht e.1
      have zs := ckor_main G mg (e2 :: es) c t X W pos xs h ht e.2
      cases xs with
      | nil => simp [ckb] at e
      | cons y ys => exact ⟨x_or (op := .Or) z.1 zs.1, fun q => y_or (z.2 q) (zs.2 q)⟩
theorem cko_main (G : Ge) (mg : Mg) : ∀ (oe : Option E) (c : Ck) (X : Cx) (W : WX) (ox : Option Expr), Cok0 X mg G W c → (c.top = true → TopOk X mg G W c) → cko c oe ox = true → PO X ox (tO X.K mg W (evO G oe))
  | none, c, X, W, none, h, ht, e => o_none
  | some e', c, X, W, some x, h, ht, e => by
    unfold cko at e
    exact o_some (ck_main G mg e' c false X W x h ht e).1
  | none, c, X, W, some _, h, ht, e => by simp [cko] at e
  | some _, c, X, W, none, h, ht, e => by simp [cko] at e
theorem ckc_main (G : Ge) (mg : Mg) : ∀ (cs : List E) (c : Ck) (X : Cx) (W : WX) (ifs : List Expr), c.top = false → Cok0 X mg G W c → ckc c cs ifs = true → PTs X ifs (tB X.K mg W (evC G cs))
  | [], c, X, W, [], hf, h, e => ⟨fun pins s σ H Q I q => pts_nil.run pins s σ H Q I (by
      obtain ⟨ρ, A, δ, hE, hH, q⟩ := q
      exact q.ret hH)⟩
  | e' :: es, c, X, W, x :: xs, hf, h, e => by
    unfold ckc at e
    simp only [Bool.and_eq_true] at e
    have : xs = [] := by simpa using e.1
    subst this
    exact pts_one ((ck_main G mg e' _ true X W x h (fun z => by rw [hf] at z; cases z) e.2).2 rfl)
  | [], c, X, W, _ :: _, hf, h, e => by simp [ckc] at e
  | _ :: _, c, X, W, [], hf, h, e => by simp [ckc] at e
theorem ckI_main (G : Ge) (mg : Mg) : ∀ (it : It) (c : Ck) (X : Cx) (W : WX) (x tg : Expr), Cok0 X mg G W c → (c.top = true → TopOk X mg G W c) → ckI c it x tg = true → PI X tg x (tI X.K mg W (evI G it)) ∧ okX x = true
  | .seq e', c, X, W, x, tg, h, ht, e => by
    unfold ckI at e
    exact ⟨i_seq (ck_main G mg e' c false X W x h ht e).1, ck_ok0 c false e' x e⟩
  | .rng es, c, X, W, x, tg, h, ht, e => by
    unfold ckI at e
    split at e
    · rename_i y p zs pos
      simp only [Bool.and_eq_true, Bool.or_eq_true, decide_eq_true_eq] at e
      obtain ⟨⟨⟨rfl, e1⟩, e2⟩, e3⟩ := e
      obtain ⟨g1, g2⟩ := h.gl e1
      have hm := h.blt "range" (by decide +kernel)
      have ha := cks_main G mg es c X W _ h ht e2
      have ns := cks_ns c es _ e2
      have hl := cks_len c es _ e2
      refine ⟨?_, rfl⟩
      rcases e3 with e3 | e3
      · match zs, e3, ha, ns, hl with
        | [z], _, ha, ns, hl =>
          refine i_rng1 g1 hm ha (okX_star (ns z (by simp)) _ _) fun δ A us A' q => ?_
          rw [evs_len G δ es A us A' q, hl]
          rfl
      · match zs, e3, ha, ns, hl with
        | [z, w], _, ha, ns, hl =>
          refine i_rng2 g1 hm ha ?_ (okX_star (ns w (by simp)) _ _) fun δ A us A' q => ?_
          · rw [okX_star (ns z (by simp)), okX_star (ns w (by simp))]; rfl
          · rw [evs_len G δ es A us A' q, hl]
            rfl
    · cases e
  | .enm e', c, X, W, x, tg, h, ht, e => by
    unfold ckI at e
    split at e
    · simp only [Bool.and_eq_true, decide_eq_true_eq] at e
      obtain ⟨⟨rfl, e1⟩, e2⟩ := e
      obtain ⟨g1, g2⟩ := h.gl e1
      exact ⟨i_enm g1 (h.blt "enumerate" (by decide +kernel)) (ck_main G mg e' c false X W _ h ht e2).1 (okX_star (ck_ok0 c false e' _ e2) _ _), rfl⟩
    · cases e
  | .rvr e', c, X, W, x, tg, h, ht, e => by
    unfold ckI at e
    split at e
    · simp only [Bool.and_eq_true, decide_eq_true_eq] at e
      obtain ⟨⟨⟨⟨rfl, e1⟩, rfl⟩, e2⟩, e3⟩ := e
      obtain ⟨g1, g2⟩ := h.gl e1
      obtain ⟨g3, g4⟩ := h.gl e2
      exact ⟨i_rvr g1 (h.blt "reversed" (by decide +kernel)) g3 (h.blt "range" (by decide +kernel)) (ck_main G mg e' c false X W _ h ht e3).1 (okX_star (ck_ok0 c false e' _ e3) _ _), rfl⟩
    · cases e
  | .zip _ _, c, X, W, x, tg, h, ht, e => by simp [ckI] at e
  | .rev _, c, X, W, x, tg, h, ht, e => by simp [ckI] at e
end
end Mi
set_option Elab.async false
set_option linter.all false
set_option maxRecDepth 100000
set_option maxHeartbeats 1000000
/-! MiV: statements, one rule for each form. -/
namespace Mi
open PySem L2
/-- what is asked behind a statement -/
def AskS (K : PySem.W.Frag) (mg : Mg) (W : WX) (D : Ends) (ρ : Ow) (H : Hp) : SR → Prop
  | none => False
  | some (.nx, δ', A') => ∀ ρ' H' σ', Step ρ ρ' H H' → RepH ρ' K mg H' A' → RepE ρ' K mg H' δ' σ' → D.nx σ' H'
  | some (.rt r, _, A') => ∀ ρ' H' v, Step ρ ρ' H H' → RepH ρ' K mg H' A' → RepR ρ H ρ' K mg A' H' r v → D.rt v H'
  | some (.bk, δ', A') => ∀ ρ' H' σ', Step ρ ρ' H H' → RepH ρ' K mg H' A' → RepE ρ' K mg H' δ' σ' → D.bk σ' H'
  | some (.ct, δ', A') => ∀ ρ' H' σ', Step ρ ρ' H H' → RepH ρ' K mg H' A' → RepE ρ' K mg H' δ' σ' → D.ct σ' H'
  | some (.ex c fs, δ', A') => ∀ ρ' H' σ' C d, Step ρ ρ' H H' → RepH ρ' K mg H' A' → RepE ρ' K mg H' δ' σ' → mg c = some (.ref C) → XAt ρ' K H' fs d → W (.ref C) d σ' H'
abbrev FS := Fr → Hs → SR
def tS (K : PySem.W.Frag) (mg : Mg) (W : WX) (m : FS) : TS := fun D σ H => ∃ ρ A δ, RepE ρ K mg H δ σ ∧ RepH ρ K mg H A ∧ AskS K mg W D ρ H (m δ A)
section
variable {X : Cx} {K : PySem.W.Frag} {mg : Mg} {W : WX} {D D' : Ends} {ρ ρ1 : Ow} {H H1 : Hp} {A A1 : Hs} {δ : Fr} {σ : L2.St}
theorem AskS.later {r : SR} (h : AskS K mg W D ρ H r) (s : Step ρ ρ1 H H1) : AskS K mg W D ρ1 H1 r := by
  cases r with
  | none => exact h
  | some z =>
    obtain ⟨o, δ', A'⟩ := z
    cases o with
    | nx => exact fun ρ' H' σ' t => h ρ' H' σ' (s.trans t)
    | rt r => exact fun ρ' H' v t q rr => h ρ' H' v (s.trans t) q (rr.back s)
    | bk => exact fun ρ' H' σ' t => h ρ' H' σ' (s.trans t)
    | ct => exact fun ρ' H' σ' t => h ρ' H' σ' (s.trans t)
    | ex c fs => exact fun ρ' H' σ' C d t => h ρ' H' σ' C d (s.trans t)
/-- an expression ahead -/
theorem AskS.ask {α : Type} {m : M α} {k : α → Hs → SR} (h : AskS K mg W D ρ H (exE m δ k A)) (hE : RepE ρ K mg H δ σ) : Ask K mg W σ ρ H m A fun a ρ1 H1 A1 => m A = some (.ok a, A1) ∧ AskS K mg W D ρ1 H1 (k a A1) := by
  unfold exE at h
  unfold Ask
  split
  · rename_i e; rw [e] at h; exact h
  · rename_i e; rw [e] at h
    exact fun ρ' H' C d s r ec x => h ρ' H' σ C d s r (hE.mono s) ec x
  · rename_i a A1 e; rw [e] at h
    exact fun ρ' H' s r => ⟨e, h.later s⟩
theorem AskS.go {α : Type} {m : M α} {k : α → Hs → SR} {a : α} (h : AskS K mg W D ρ H (exE m δ k A)) (e : m A = some (.ok a, A1)) : AskS K mg W D ρ H (k a A1) := by
  unfold exE at h
  rw [e] at h
  exact h
theorem ps_imp {st : Stmt} {t t' : TS} (h : PS X st t) (k : ∀ D σ H, t' D σ H → t D σ H) : PS X st t' := ⟨fun pins s σ H D I q => h.run pins s σ H D I (k D σ H q)⟩
theorem pss_imp {st : List Stmt} {t t' : TS} (h : PSs X st t) (k : ∀ D σ H, t' D σ H → t D σ H) : PSs X st t' := ⟨fun pins s σ H D I q => h.run pins s σ H D I (k D σ H q)⟩
/-- a value ahead: for readings of expressions -/
theorem tR.ofS {m : FM} {k : R → Hs → SR} {Q : VK} (hE : RepE ρ X.K mg H δ σ) (hH : RepH ρ X.K mg H A) (h : AskS X.K mg W D ρ H (exE (m δ) δ k A))
    (f : ∀ r v ρ1 H1 A1, m δ A = some (.ok r, A1) → Step ρ ρ1 H H1 → RepE ρ1 X.K mg H1 δ σ → RepH ρ1 X.K mg H1 A1 → RepR ρ H ρ1 X.K mg A1 H1 r v → AskS X.K mg W D ρ H (k r A1) → Q v H1) : tR X.K mg W m σ H Q := by
  refine ⟨ρ, A, δ, hE, hH, (h.ask hE).mono fun r ρ1 H1 A1 s1 hH1 a1 v rv => ?_⟩
  exact f r v ρ1 H1 A1 a1.1 s1 (hE.mono s1) hH1 rv (h.go a1.1)
theorem valM_inv {m : M R} {u : U} (e : valM m A = some (.ok u, A1)) : ∃ r, m A = some (.ok r, A1) ∧ toVal r = some u := by
  unfold valM bnd at e
  cases em : m A with
  | none => rw [em] at e; cases e
  | some z =>
    obtain ⟨z, A'⟩ := z
    rw [em] at e
    cases z with
    | er c fs => cases e
    | ok r =>
      unfold lft at e
      cases et : toVal r with
      | none => simp [et] at e
      | some u' =>
        simp [et] at e
        obtain ⟨rfl, rfl⟩ := e
        exact ⟨r, rfl, et⟩
theorem tR.ofV {m : FM} {k : U → Hs → SR} {Q : VK} (hE : RepE ρ X.K mg H δ σ) (hH : RepH ρ X.K mg H A) (h : AskS X.K mg W D ρ H (exE (valM (m δ)) δ k A))
    (f : ∀ u v ρ1 H1 A1, Step ρ ρ1 H H1 → RepE ρ1 X.K mg H1 δ σ → RepH ρ1 X.K mg H1 A1 → RepU ρ1 X.K mg H1 u v → AskS X.K mg W D ρ1 H1 (k u A1) → Q v H1) : tR X.K mg W m σ H Q := by
  have h1 := h.ask hE
  refine tR.of (g := ret) hE hH (by rw [bnd_retR]; exact h1) fun u v ρ1 H1 A1 s1 E1 hH1 r1 a1 => ?_
  exact f u v ρ1 H1 A1 s1 E1 hH1 r1 (a1.ret hH1).2
theorem tT.ofB {m : FM} {k : Bool → Hs → SR} {Q : Bool → Hp → Prop} (hE : RepE ρ X.K mg H δ σ) (hH : RepH ρ X.K mg H A) (h : AskS X.K mg W D ρ H (exE (boolM (m δ)) δ k A))
    (f : ∀ t ρ1 H1 A1, Step ρ ρ1 H H1 → RepE ρ1 X.K mg H1 δ σ → RepH ρ1 X.K mg H1 A1 → AskS X.K mg W D ρ1 H1 (k t A1) → Q t H1) : tT X.K mg W m σ H Q :=
  ⟨ρ, A, δ, hE, hH, (h.ask hE).mono fun t ρ1 H1 A1 s1 hH1 a1 => f t ρ1 H1 A1 s1 (hE.mono s1) hH1 a1.2⟩
end
section
variable {X : Cx} {mg : Mg} {W : WX} {e c : Expr} {pos : Pos} {m mc : FM} {st : Stmt} {rest : List Stmt}
/-! ### assignments -/
def mAsg (i : Nat) (al : Bool) (m : FM) : FS := fun δ => exE (m δ) δ fun r A => (match r with
    | .val u => some (.nx, δ.set i (some u), A)
    | .new o => (match al with
      | true => some (.nx, δ.set i (some (.obj A.length)), A ++ [o])
      | false => (obVal o).map fun u => (.nx, δ.set i (some u), A)))
theorem asg_read {i : Nat} {al : Bool} {D : Ends} {σ : L2.St} {H : Hp} (h : tS X.K mg W (mAsg i al m) D σ H) : tAsg (tR X.K mg W m) (gName i) D σ H := by
  obtain ⟨ρ, A, δ, hE, hH, h⟩ := h
  refine tR.ofS hE hH h fun r v ρ1 H1 A1 em s1 E1 hH1 rr a1 => ?_
  show D.nx (σ.set i (some v)) H1
  cases rr with
  | val ru => exact a1 ρ1 H1 _ s1 hH1 (E1.set i ru)
  | new h0 h1 h2 h3 h4 =>
    rename_i o p ho H0
    subst h2
    cases al with
    | true =>
      obtain ⟨g1, g2⟩ := h3.own h1 h4
      refine a1 _ _ _ (h0.trans g2) g1 ((hE.mono (h0.trans g2)).set i (.obj (by rw [← h3.len]; simp [Ow.add])))
    | false =>
      simp only at a1
      cases ev : obVal o with
      | none => rw [ev] at a1; exact a1.elim
      | some u =>
        rw [ev] at a1
        exact a1 ρ1 _ _ s1 hH1 (E1.set i ((h4.mono (h3.stp h1)).val ev upd_same (h3.notin (Fre.of h1))))
theorem s_set {i : Nat} {al : Bool} {x : Str} {pos' : Pos} (hN : X.N.Nodup) (hi : X.N[i]? = some x) (hx : Loc X.env.scope x) (he : PE X e (tR X.K mg W m)) (hs : swapsWith e (some (.Name x pos')) pos.line X.env = pure false) (hf : X.fn x = true ∨ X.env.scope.names.lookup x = some .local) :
    PS X (.Assign [.Name x pos'] e pos) (tS X.K mg W (mAsg i al m)) := ps_imp (ps_set hN hi hx he hs hf) fun D σ H h => asg_read h
theorem s_asgT {t : Tg} {tg : Expr} (he : PE X e (tR X.K mg W m)) (hg : PG X tg (gT X.K mg t)) (hs : swapsWithSole [tg] e pos.line X.env = pure false) (hw : swappedStores [tg] e X.env = pure none) (h1 : (assignEach [tg] X.env).map (·.2) = [assign tg X.env]) :
    PS X (.Assign [tg] e pos) (tS X.K mg W fun δ => exE (valM (m δ)) δ fun u A => (match u with
    | .d p => (tgO t p δ).map fun δ' => (.nx, δ', A)
    | _ => none)) := by
  refine ps_imp (ps_asg he hg hs hw h1) fun D σ H h => ?_
  obtain ⟨ρ, A, δ, hE, hH, h⟩ := h
  refine tR.ofV hE hH h fun u v ρ1 H1 A1 s1 E1 hH1 ru a1 => ?_
  cases ru with
  | d rp =>
    rename_i p
    simp only at a1
    cases et : tgO t p δ with
    | none => rw [et] at a1; exact a1.elim
    | some δ' =>
      rw [et] at a1
      exact ⟨ρ1, δ, p, δ', rp, E1, et, fun σ' r' _ => a1 ρ1 H1 σ' Step.refl hH1 r'⟩
  | _ => exact a1.elim
def mPar (i j : Nat) (ma mb : FM) : FS := fun δ => exE (valM (ma δ)) δ fun u => exE (valM (mb δ)) δ fun v A => some (.nx, (δ.set i (some u)).set j (some v), A)
theorem s_par {i j : Nat} {x y : Str} {a b : Expr} {ma mb : FM} {px py pt : Pos} {kt k2 pt2} (hc : X.calm = true) (hN : X.N.Nodup) (hi : X.N[i]? = some x) (hj : X.N[j]? = some y) (hij : i ≠ j)
    (hx : X.env.scope.names.lookup x = some .local) (hy : X.env.scope.names.lookup y = some .local) (ha : PE X a (tR X.K mg W ma)) (hb : PE X b (tR X.K mg W mb)) (h1 : okX a = true) (h2 : okX b = true)
    (hw : swappedStores [.Tuple [.Name x px, .Name y py] kt pt] (.Tuple [a, b] k2 pt2) X.env = pure (some [x, y])) :
    PS X (.Assign [.Tuple [.Name x px, .Name y py] kt pt] (.Tuple [a, b] k2 pt2) pos) (tS X.K mg W (mPar i j ma mb)) := by
  refine ps_imp (ps_par hc hN hi hj hij hx hy (pa_cons ha (pa_cons hb pa_nil (okX_star h2 _ _)) (okX_star h1 _ _)) hw rfl) fun D σ H h => ?_
  obtain ⟨ρ, A, δ, hE, hH, h⟩ := h
  refine tR.ofV hE hH h fun u v ρ1 H1 A1 s1 E1 hH1 ru a1 => ?_
  refine tR.ofV E1 hH1 a1 fun u' v' ρ2 H2 A2 s2 E2 hH2 ru' a2 => ?_
  exact ⟨v, v', rfl, a2 ρ2 H2 _ Step.refl hH2 ((E2.set i (ru.mono s2)).set j ru')⟩
def mPar3 (i j l : Nat) (ma mb mc : FM) : FS := fun δ => exE (valM (ma δ)) δ fun u => exE (valM (mb δ)) δ fun v => exE (valM (mc δ)) δ fun w A => some (.nx, ((δ.set i (some u)).set j (some v)).set l (some w), A)
theorem s_par3 {i j l : Nat} {x y z : Str} {a b d : Expr} {ma mb md : FM} {px py pz pt : Pos} {kt k2 pt2} (hc : X.calm = true) (hN : X.N.Nodup) (hi : X.N[i]? = some x) (hj : X.N[j]? = some y) (hl : X.N[l]? = some z) (hij : i ≠ j) (hil : i ≠ l) (hjl : j ≠ l)
    (hx : X.env.scope.names.lookup x = some .local) (hy : X.env.scope.names.lookup y = some .local) (hz : X.env.scope.names.lookup z = some .local) (ha : PE X a (tR X.K mg W ma)) (hb : PE X b (tR X.K mg W mb)) (hd : PE X d (tR X.K mg W md)) (h1 : okX a = true) (h2 : okX b = true) (h3 : okX d = true)
    (hw : swappedStores [.Tuple [.Name x px, .Name y py, .Name z pz] kt pt] (.Tuple [a, b, d] k2 pt2) X.env = pure (some [x, y, z])) :
    PS X (.Assign [.Tuple [.Name x px, .Name y py, .Name z pz] kt pt] (.Tuple [a, b, d] k2 pt2) pos) (tS X.K mg W (mPar3 i j l ma mb md)) := by
  refine ps_imp (ps_par3 hc hN hi hj hl hij hil hjl hx hy hz (pa_cons ha (pa_cons hb (pa_cons hd pa_nil (okX_star h3 _ _)) (okX_star h2 _ _)) (okX_star h1 _ _)) hw rfl) fun D σ H h => ?_
  obtain ⟨ρ, A, δ, hE, hH, h⟩ := h
  refine tR.ofV hE hH h fun u v ρ1 H1 A1 s1 E1 hH1 ru a1 => ?_
  refine tR.ofV E1 hH1 a1 fun u' v' ρ2 H2 A2 s2 E2 hH2 ru' a2 => ?_
  refine tR.ofV E2 hH2 a2 fun u'' v'' ρ3 H3 A3 s3 E3 hH3 ru'' a3 => ?_
  exact ⟨v, v', v'', rfl, a3 ρ3 H3 _ Step.refl hH3 (((E3.set i ((ru.mono s2).mono s3)).set j (ru'.mono s3)).set l ru'')⟩
/-! ### o[i] = e -/
def rSet (K : PySem.W.Frag) (mg : Mg) : TSet := fun o i v H Q => ∃ ρ A uo ui uv A', RepH ρ K mg H A ∧ RepU ρ K mg H uo o ∧ RepU ρ K mg H ui i ∧ RepU ρ K mg H uv v ∧ setIx A uo ui uv = some A' ∧ ∀ ρ' H', Step ρ ρ' H H' → RepH ρ' K mg H' A' → Q H'
theorem RepPs.set {ρ : Ow} {K : PySem.W.Frag} {H : Hp} {ps : List PyData} {xs : List V} {p : PyData} {v : V} (h : RepPs ρ K H ps xs) (j : Nat) (r : RepP ρ K H p v) : RepPs ρ K H (ps.set j p) (xs.set j v) := by
  induction j generalizing ps xs with
  | zero =>
    cases h with
    | nil => exact .nil
    | cons a b => exact .cons r b
  | succ j ih =>
    cases h with
    | nil => exact .nil
    | cons a b => exact .cons a (ih b)
theorem RepA.len {κ : Type} {ρ : Ow} {K : PySem.W.Frag} {H : Hp} {us : List (κ × U)} {vs : List (κ × V)} (h : RepA ρ K mg H us vs) : us.length = vs.length := by
  induction h with
  | nil => rfl
  | cons a b c ih => simp [ih]
theorem set_ix (hu : X.A.units + 1 < cLine) : PSet X (rSet X.K mg) := by
  intro pins s σ H o i v ov iv u Q I ro ri rv h
  obtain ⟨ρ, A, uo, ui, uv, A', hH, r1, r2, r3, e, k⟩ := h
  unfold setIx at e
  split at e
  · rename_i n p
    cases r1 with
    | obj hn =>
      cases r2 with
      | d r2 =>
        split at e
        · rename_i ps ea
          split at e
          · rename_i kk q
            obtain ⟨j, ej, rfl⟩ := Option.map_eq_some_iff.mp e
            obtain ⟨ho, h1, h2⟩ := hH.at_ _ _ _ ea hn
            cases h2 with
            | lst h2 =>
              cases r2
              cases r3 with
              | d r3 =>
                obtain ⟨g1, g2⟩ := hH.set hn (RepO.lst (h2.set j r3))
                exact set_list pins s σ H _ _ v ov iv u Q I ro ri rv ⟨_, _, _, j, rfl, rfl, h1, by rw [← h2.length]; exact ej, k ρ _ g2 g1⟩
          · cases e
        · rename_i kvs ea
          obtain ⟨kk, ek, e⟩ := Option.bind_eq_some_iff.mp e
          split at e
          · rename_i hl
            cases e
            obtain ⟨ho, h1, h2⟩ := hH.at_ _ _ _ ea hn
            cases h2 with
            | dK h2 =>
              rename_i kws
              obtain ⟨g1, g2⟩ := hH.set hn (RepO.dK (putU_rep (k := kk) h2 r3 hl.2))
              have hlen : kws.length = kvs.length := h2.len.symm
              exact set_dict hu pins s σ H _ _ v ov iv u Q I ro ri rv ⟨_, _, rfl, .inl ⟨kws, kk, h1, asKey_rep r2 ek, by rw [hlen]; exact hl.1, rfl⟩, k ρ _ g2 g1⟩
          · cases e
        · cases e
        · cases e
  · cases e
theorem s_six {o i : Expr} {mo mi me : FM} {sp : Pos} (hu : X.A.units + 1 < cLine) (he : PE X e (tR X.K mg W me)) (ho : PE X o (tR X.K mg W mo)) (hi : PE X i (tR X.K mg W mi)) (hk : okX i = true) (hs : swapsWithSole [.Subscript o i sp] e pos.line X.env = pure false) :
    PS X (.Assign [.Subscript o i sp] e pos) (tS X.K mg W fun δ => exE (valM (me δ)) δ fun v => exE (valM (mo δ)) δ fun u => exE (valM (mi δ)) δ fun k A => (setIx A u k v).map fun A' => (.nx, δ, A')) := by
  refine ps_imp (ps_asg he (pg_sub ho hi (set_ix (mg := mg) hu) (by intro v; cases i <;> first | rfl | cases hk)) hs (by cases e <;> rfl) rfl) fun D σ H h => ?_
  obtain ⟨ρ, A, δ, hE, hH, h⟩ := h
  refine tR.ofV hE hH h fun u v ρ1 H1 A1 s1 E1 hH1 ru a1 => ?_
  refine tR.ofV E1 hH1 a1 fun u' v' ρ2 H2 A2 s2 E2 hH2 ru' a2 => ?_
  refine tR.ofV E2 hH2 a2 fun u'' v'' ρ3 H3 A3 s3 E3 hH3 ru'' a3 => ?_
  cases es : setIx A3 u' u'' u with
  | none => rw [es] at a3; exact a3.elim
  | some A' =>
    rw [es] at a3
    exact ⟨ρ3, A3, u', u'', u, A', hH3, ru'.mono s3, ru'', (ru.mono s2).mono s3, es, fun ρ' H' st hh => a3 ρ' H' σ st hh (E3.mono st)⟩
end
end Mi
set_option Elab.async false
set_option linter.all false
set_option maxRecDepth 100000
set_option maxHeartbeats 1000000
/-! MiW: flow: if, loops, return, blocks. -/
namespace Mi
open PySem L2
section
variable {X : Cx} {mg : Mg} {W : WX} {e c : Expr} {pos : Pos} {m mc : FM} {st : Stmt} {rest : List Stmt}
theorem s_aug {i : Nat} {x : Str} {op : Operator} {pos' : Pos} (hN : X.N.Nodup) (hi : X.N[i]? = some x) (hx : Loc X.env.scope x) (he : PE X e (tR X.K mg W m)) (hf : X.fn x = true ∨ X.env.scope.names.lookup x = some .local) (ho : op = .Add ∨ op = .Sub) :
    PS X (.AugAssign (.Name x pos') op e pos) (tS X.K mg W fun δ => (match δ[i]? with
    | some (some u) => exE (valM (m δ)) δ fun v A => (iopO op u v).map fun z => (.nx, δ.set i (some z), A)
    | _ => fun _ => none)) := by
  have key : ∀ {ti : TIp}, PIp X op ti → (∀ u v z x y H Q, iopO op (.d (.int u)) (.d (.int v)) = some (.d (.int z)) → x = .int u → y = .int v → Q (.int z) H → ti x y H Q) → PS X (.AugAssign (.Name x pos') op e pos) (tS X.K mg W fun δ => (match δ[i]? with
    | some (some u) => exE (valM (m δ)) δ fun v A => (iopO op u v).map fun z => (.nx, δ.set i (some z), A)
    | _ => fun _ => none)) := fun {ti} hp hq => by
    refine ps_imp (ps_aug hN hi hx he hp hf) fun D σ H h => ?_
    obtain ⟨ρ, A, δ, hE, hH, h⟩ := h
    cases ed : δ[i]? with
    | none => simp only [ed] at h; exact h.elim
    | some o =>
      cases o with
      | none => simp only [ed] at h; exact h.elim
      | some u =>
        simp only [ed] at h
        obtain ⟨v0, e0, r0⟩ := hE.at_ i u ed
        refine ⟨v0, e0, ?_⟩
        refine tR.ofV hE hH h fun u' v' ρ1 H1 A1 s1 E1 hH1 ru a1 => ?_
        cases ez : iopO op u u' with
        | none => rw [ez] at a1; exact a1.elim
        | some z =>
          rw [ez] at a1
          have ez' := ez
          unfold iopO at ez
          split at ez
          · cases ez
            cases r0.int_inv
            cases ru.int_inv
            exact hq _ _ _ _ _ _ _ ez' rfl rfl (a1 ρ1 H1 _ Step.refl hH1 (E1.set i (.d (.int _))))
          · cases ez
            cases r0.int_inv
            cases ru.int_inv
            exact hq _ _ _ _ _ _ _ ez' rfl rfl (a1 ρ1 H1 _ Step.refl hH1 (E1.set i (.d (.int _))))
          · cases ez
  rcases ho with rfl | rfl
  · refine key ip_add fun u v z x y H Q e1 e2 e3 q => ⟨u, v, e2, e3, ?_⟩
    cases e1
    exact q
  · refine key ip_sub fun u v z x y H Q e1 e2 e3 q => ⟨u, v, e2, e3, ?_⟩
    cases e1
    exact q
theorem s_exp (he : PE X e (tR X.K mg W m)) (hs : swapsWith e none pos.line X.env = pure false) : PS X (.Expr e pos) (tS X.K mg W fun δ => exE (m δ) δ fun _ => nxS δ) := by
  refine ps_imp (ps_expr he hs) fun D σ H h => ?_
  obtain ⟨ρ, A, δ, hE, hH, h⟩ := h
  exact tR.ofS hE hH h fun r v ρ1 H1 A1 em s1 E1 hH1 rr a1 => a1 ρ1 H1 σ s1 hH1 E1
theorem s_ret (he : PE X e (tR X.K mg W m)) : PS X (.Return (some e) pos) (tS X.K mg W fun δ => exE (m δ) δ fun r A => some (.rt r, δ, A)) := by
  refine ps_imp (ps_ret he) fun D σ H h => ?_
  obtain ⟨ρ, A, δ, hE, hH, h⟩ := h
  exact tR.ofS hE hH h fun r v ρ1 H1 A1 em s1 E1 hH1 rr a1 => a1 ρ1 H1 v s1 hH1 rr
theorem s_retN : PS X (.Return none pos) (tS X.K mg W fun δ => fun A => some (.rt (.val (.d .none)), δ, A)) := by
  refine ps_imp ps_retN fun D σ H h => ?_
  obtain ⟨ρ, A, δ, hE, hH, h⟩ := h
  exact h ρ H _ Step.refl hH (.val (.d .non))
theorem s_pas : PS X (.Pass pos) (tS X.K mg W nxS) := by
  refine ps_imp ps_pass fun D σ H h => ?_
  obtain ⟨ρ, A, δ, hE, hH, h⟩ := h
  exact h ρ H _ Step.refl hH hE
theorem s_brk : PS X (.Break pos) (tS X.K mg W fun δ => fun A => some (.bk, δ, A)) := by
  refine ps_imp ps_break fun D σ H h => ?_
  obtain ⟨ρ, A, δ, hE, hH, h⟩ := h
  exact h ρ H _ Step.refl hH hE
theorem s_cnt : PS X (.Continue pos) (tS X.K mg W fun δ => fun A => some (.ct, δ, A)) := by
  refine ps_imp ps_continue fun D σ H h => ?_
  obtain ⟨ρ, A, δ, hE, hH, h⟩ := h
  exact h ρ H _ Step.refl hH hE
theorem s_if {a b : List Stmt} {fa fb : FS} (hc : PT X c (tT X.K mg W mc)) (ha : PSs X a (tS X.K mg W fa)) (hb : PSs X b (tS X.K mg W fb)) : PS X (.If c a b pos) (tS X.K mg W fun δ => exE (boolM (mc δ)) δ fun t => (match t with
    | true => fa δ
    | false => fb δ)) := by
  refine ps_imp (ps_if hc ha hb) fun D σ H h => ?_
  obtain ⟨ρ, A, δ, hE, hH, h⟩ := h
  refine tT.ofB hE hH h fun t ρ1 H1 A1 s1 E1 hH1 a1 => ?_
  cases t with
  | true => exact ⟨ρ1, A1, δ, E1, hH1, a1⟩
  | false => exact ⟨ρ1, A1, δ, E1, hH1, a1⟩
theorem ss_nil : PSs X [] (tS X.K mg W nxS) := by
  refine pss_imp pss_nil fun D σ H h => ?_
  obtain ⟨ρ, A, δ, hE, hH, h⟩ := h
  exact h ρ H _ Step.refl hH hE
theorem ss_cons {f g : FS} (h1 : PS X st (tS X.K mg W f)) (h2 : PSs X rest (tS X.K mg W g)) : PSs X (st :: rest) (tS X.K mg W (seqS f g)) := by
  refine pss_imp (pss_cons h1 h2) fun D σ H h => ?_
  obtain ⟨ρ, A, δ, hE, hH, h⟩ := h
  refine ⟨ρ, A, δ, hE, hH, ?_⟩
  unfold seqS at h
  cases ef : f δ A with
  | none => rw [ef] at h; exact h
  | some z =>
    obtain ⟨o, δ', A'⟩ := z
    rw [ef] at h
    cases o with
    | nx => exact fun ρ' H' σ' s r rE => ⟨ρ', A', δ', rE, r, h.later s⟩
    | rt r => exact h
    | bk => exact h
    | ct => exact h
    | ex c fs => exact h
/-! ### loops -/
theorem s_whl {body : List Stmt} {fb : FS} {lim : Nat} (hp : PassesOwn (model X.prog X.w) X.A X.env X.xe) (hc : PT X c (tT X.K mg W mc)) (hb : PSs X body (tS X.K mg W fb)) :
    PS X (.While c body [] pos) (tS X.K mg W fun δ => whlGo (fun δ => boolM (mc δ)) fb lim δ) := by
  refine ps_imp (ps_while hp hc hb) fun D σ H h => ?_
  obtain ⟨ρ0, A0, δ0, hE0, hH0, h0⟩ := h
  refine ⟨fun n σ H => ∃ ρ A δ, RepE ρ X.K mg H δ σ ∧ RepH ρ X.K mg H A ∧ AskS X.K mg W D ρ H (whlGo (fun δ => boolM (mc δ)) fb n δ A), ⟨lim, ρ0, A0, δ0, hE0, hH0, h0⟩, ?_⟩
  rintro n σ H ⟨ρ, A, δ, hE, hH, h⟩
  cases n with
  | zero => exact h.elim
  | succ n =>
    have h : AskS X.K mg W D ρ H (exE (boolM (mc δ)) δ (fun t A => match t with
      | true => (match fb δ A with
        | some (.nx, δ', A') => whlGo (fun δ => boolM (mc δ)) fb n δ' A'
        | some (.ct, δ', A') => whlGo (fun δ => boolM (mc δ)) fb n δ' A'
        | some (.bk, δ', A') => some (.nx, δ', A')
        | r => r)
      | false => some (.nx, δ, A)) A) := h
    refine tT.ofB hE hH h fun t ρ1 H1 A1 s1 E1 hH1 a1 => ?_
    cases t with
    | false =>
      simp only [Bool.false_eq_true, if_false]
      exact a1 ρ1 H1 σ Step.refl hH1 E1
    | true =>
      simp only [if_true]
      refine ⟨_, fun σ' H' q => ⟨n, Nat.lt_succ_self n, q⟩, ρ1, A1, δ, E1, hH1, ?_⟩
      simp only at a1
      cases ef : fb δ A1 with
      | none => rw [ef] at a1; exact a1
      | some z =>
        obtain ⟨o, δ', A'⟩ := z
        rw [ef] at a1
        cases o with
        | nx => exact fun ρ' H' σ' s r rE => ⟨ρ', A', δ', rE, r, AskS.later a1 s⟩
        | ct => exact fun ρ' H' σ' s r rE => ⟨ρ', A', δ', rE, r, AskS.later a1 s⟩
        | bk => exact a1
        | rt r => exact a1
        | ex c fs => exact a1
theorem s_for {iter tg : Expr} {body : List Stmt} {fb : FS} {t : Tg} {mi : Fr → M Wk} (hp : PassesOwn (model X.prog X.w) X.A X.env X.xe) (hc : X.calm = true) (hi : PI X tg iter (tI X.K mg W mi)) (hg : PG X tg (gT X.K mg t)) (hb : PSs X body (tS X.K mg W fb)) (hs : ∀ x, foldedSetIterable iter X.env x = pure x) :
    PS X (.For tg iter body [] pos) (tS X.K mg W fun δ => exE (mi δ) δ fun w => frGo w.watch t fb w.items δ) := by
  refine ps_imp (ps_for hp hc hi hg hb hs) fun D σ0 H0 h => ?_
  obtain ⟨ρ0, A0, δ0, hE0, hH0, h⟩ := h
  refine ⟨ρ0, A0, δ0, hE0, hH0, (h.ask hE0).mono fun w ρ1 H1 A1 s1 hH1 a1 J hJ => ?_⟩
  obtain ⟨_, a1⟩ := a1
  refine ⟨fun i n σ H => n = w.items.length - i ∧ i ≤ w.items.length ∧ ∃ ρ A δ, Step ρ1 ρ H1 H ∧ RepE ρ X.K mg H δ σ ∧ RepH ρ X.K mg H A ∧ AskS X.K mg W D ρ H (frGo w.watch t fb (w.items.drop i) δ A), ⟨_, rfl, Nat.zero_le _, ρ1, A1, δ0, Step.refl, hE0.mono s1, hH1, a1⟩, ?_⟩
  rintro i n σ H ⟨rfl, hi', ρ, A, δ, st, hE, hH, h⟩
  by_cases hlt : i < w.items.length
  · right
    rw [List.drop_eq_getElem_cons hlt] at h
    unfold frGo at h
    cases es : still A w.watch with
    | false => rw [es] at h; exact h.elim
    | true =>
      rw [es] at h
      simp only at h
      obtain ⟨hgo, hyl⟩ := (hJ ρ H A st hH es i).2 w.items[i] (by simp [hlt])
      cases et : tgO t w.items[i] δ with
      | none => rw [et] at h; exact h.elim
      | some δ1 =>
        rw [et] at h
        simp only at h
        refine ⟨hgo, fun σ' H' => ∃ ρ A δ, Step ρ1 ρ H1 H' ∧ RepE ρ X.K mg H' δ σ' ∧ RepH ρ X.K mg H' A ∧ AskS X.K mg W D ρ H' (frGo w.watch t fb (w.items.drop (i + 1)) δ A), fun σ' H' q => ⟨w.items.length - (i + 1), by omega, rfl, hlt, q⟩, fun x H' hy => ?_⟩
        obtain ⟨sy, hHy, rx⟩ := hyl x H' hy
        refine ⟨ρ, δ, w.items[i], δ1, rx, hE.mono sy, et, fun σ2 rE2 _ => ⟨ρ, A, δ1, rE2, hHy, ?_⟩⟩
        have h := AskS.later h sy
        cases ef : fb δ1 A with
        | none => rw [ef] at h; exact h
        | some z =>
          obtain ⟨o, δ', A'⟩ := z
          rw [ef] at h
          cases o with
          | nx => exact fun ρ' H' σ' s r rE => ⟨ρ', A', δ', (st.trans sy).trans s, rE, r, AskS.later h s⟩
          | ct => exact fun ρ' H' σ' s r rE => ⟨ρ', A', δ', (st.trans sy).trans s, rE, r, AskS.later h s⟩
          | bk => exact h
          | rt r => exact h
          | ex c fs => exact h
  · left
    have hi2 : i = w.items.length := by omega
    subst hi2
    rw [List.drop_length] at h
    unfold frGo at h
    cases es : still A w.watch with
    | false => rw [es] at h; exact h.elim
    | true =>
      rw [es] at h
      exact ⟨(hJ ρ H A st hH es _).1 (Nat.le_refl _), h ρ H σ Step.refl hH hE⟩
end
end Mi
set_option Elab.async false
set_option linter.all false
set_option maxRecDepth 100000
set_option maxHeartbeats 1000000
/-! MiX: which clause takes an exception: a tuple of classes. -/
namespace Mi
open PySem L2
section
variable {M : Model} {K : PySem.W.Frag} {A : Around} {E : Value → Shared → Prop} {s : Shared}
def stepE : Value → PUnit → Sem (ForInStep PUnit) := fun c _ => do
  let t ← isExcClass c
  if (!t) = true then do
    rule "try.except-non-exception-class"
    raiseError "TypeError" "catching classes that do not inherit from BaseException is not allowed"
    pure (ForInStep.yield PUnit.unit)
  else pure (ForInStep.yield PUnit.unit)
def stepS (te : Value) : Value → Option Bool × PUnit → Sem (ForInStep (Option Bool × PUnit)) := fun c _ => do
  let t ← isSubtype te c
  if t = true then pure (ForInStep.done (some true, PUnit.unit)) else pure (ForInStep.yield (none, PUnit.unit))
theorem loop_exc {hh : Heap} (hs : ∀ b o, hh.get? b = some o → s.heap.get? b = some o) {Q : PUnit → Shared → Prop} (h : Q PUnit.unit s) : ∀ cs : List Value, (∀ c ∈ cs, PySem.W.Looks M hh (isExcClass c) true) →
    wpAny M A (forIn cs PUnit.unit stepE) Q E s
  | [], _ => by
    simp only [List.forIn_nil]
    exact wpAny_pure h
  | c :: cs, hc => by
    have ih := loop_exc hs h cs fun d hd => hc d (by simp [hd])
    simp only [List.forIn_cons]
    refine wpAny_bind (wpAny_bind (((hc c (by simp)).keeps hs).here ?_))
    simp only [Bool.not_true, Bool.false_eq_true, if_false]
    exact wpAny_pure ih
theorem loop_sub {hh : Heap} (hs : ∀ b o, hh.get? b = some o → s.heap.get? b = some o) {te : Value} {Q : Option Bool × PUnit → Shared → Prop} : ∀ (cs : List Value) (bs : List Bool), Paired (fun c b => PySem.W.Looks M hh (isSubtype te c) b) cs bs → Q ((if bs.any id then some true else none), PUnit.unit) s →
    wpAny M A (forIn cs (none, PUnit.unit) (stepS te)) Q E s
  | [], bs, hp, q => by
    cases hp
    simp only [List.forIn_nil]
    exact wpAny_pure q
  | c :: cs, bs, hp, q => by
    cases hp with
    | cons h1 hr =>
      rename_i b1 bs
      simp only [List.forIn_cons]
      refine wpAny_bind (wpAny_bind ((h1.keeps hs).here ?_))
      cases b1 with
      | true =>
        simp only [if_true]
        exact wpAny_pure (wpAny_pure (by simpa using q))
      | false =>
        simp only [Bool.false_eq_true, if_false]
        exact wpAny_pure (loop_sub hs cs bs hr (by simpa using q))
theorem exm_all {hh : Heap} {cls : Value} (X : K.In hh) : ∀ {cs : List Value} {b : Bool}, PySem.W.exmAny K cls cs = some b → (∀ c ∈ cs, PySem.W.Looks M hh (isExcClass c) true) ∧ ∃ bs : List Bool, Paired (fun c b => PySem.W.Looks M hh (isSubtype cls c) b) cs bs ∧ bs.any id = b
  | [], b, e => by
    cases e
    exact ⟨(fun c hc => by cases hc), [], .nil, rfl⟩
  | c :: cs, b, e => by
    obtain ⟨b1, d1, x1, y1, z1⟩ := PySem.W.exmAny_cons e
    obtain ⟨e1, S1⟩ := PySem.W.exm_cls (M := M) X x1
    obtain ⟨h1, bs, h2, h3⟩ := exm_all X y1
    refine ⟨fun d hd => ?_, b1 :: bs, .cons S1 h2, by simp [h3, z1]⟩
    rcases List.mem_cons.mp hd with q | q
    · rw [q]; exact e1
    · exact h1 d q
theorem exm_tupN {cls : Value} {cs : List Value} {tp e : Addr} {b : Bool} {h : Heap} (X : K.In h) (LT : PySem.W.Looks M h (typeOf (.ref e)) cls) (hp : h.get? tp = some { cls := .type "tuple", data := .seq cs.toArray }) (hx : PySem.W.exmAny K cls cs = some b) :
    PySem.W.Looks M h (excMatches (.ref e) (.ref tp)) b := by
  intro A Q E s k q
  have LT0 : PySem.W.Looks M h (isInstance (.ref tp) (.type "tuple")) true := ((PySem.W.Looks.ld hp).andThen .now).andThen (PySem.W.Looks.of_pure isSubtype_tuple_tuple)
  obtain ⟨h1, bs, h2, h3⟩ := exm_all (M := M) X hx
  have hp' := k _ _ hp
  unfold excMatches
  refine wpAny_bind ((LT0.keeps k).here ?_)
  dsimp only
  rw [if_pos rfl]
  refine wpAny_bind (wpAny_seqItems hp' rfl (wpAny_bind (wpAny_pure ?_)))
  dsimp only [Option.getD_some, Option.getD]
  refine wpAny_bind (loop_exc (hh := h) k ?_ cs h1)
  refine wpAny_bind ((LT.keeps k).here ?_)
  refine wpAny_bind (loop_sub (hh := h) k cs bs h2 ?_)
  rw [h3]
  cases b with
  | true => exact wpAny_pure q
  | false => exact wpAny_pure q
end
end Mi
set_option Elab.async false
set_option linter.all false
set_option maxRecDepth 100000
set_option maxHeartbeats 1000000
/-! MiY: an exception that is held from now on; raise; try. -/
namespace Mi
open PySem L2
section
variable {X : Cx} {pins : List (Addr × Obj)} {σ : L2.St} {H : Hp} {s : Shared}
/-- what is pinned is known from now on as an exception -/
theorem Inv.track {a : Addr} {oe : Obj} {vs : Array Value} {cls : Value} {d : Option Addr} (I : L2.Inv X ((a, oe) :: pins) σ H s) (hz : Zc cls d oe) (hd : oe.data = .fields vs) (h0 : X.s_0.heap.get? a = none) (hp : ∀ p ∈ X.pn ++ pins, p.1 ≠ a) : L2.Inv X pins σ (upd H a (ExcO cls d a)) s := by
  obtain ⟨ha, na, nL, nF, nc⟩ := I.pin (a, oe) (List.mem_append_right _ List.mem_cons_self)
  have up : ∀ b, H b = none → b ≠ a → upd H a (ExcO cls d a) b = none := fun b e n => by rw [upd_ne n]; exact e
  have us : ∀ b u, H b = some u → upd H a (ExcO cls d a) b = some u := fun b u e => by rw [upd_ne (ne_of_none e na)]; exact e
  have ncell : ∀ x c, X.env.cells.lookup x = some c → c ≠ a := fun x c e z => by
    obtain ⟨v, o, ho, hv⟩ := I.cell x c e
    rw [z, ha] at ho
    cases ho
    exact nc v hv
  have ns0 : ∀ b o, X.s_0.heap.get? b = some o → b ≠ a := fun b o e z => by
    rw [z, h0] at e
    cases e
  refine ⟨I.ok, I.os, I.bare, ⟨I.base.keep, I.base.slot, fun b o e n hx => up b (I.base.free b o e n hx) (ns0 b o e), I.base.there, fun b xs e => us b _ (I.base.tups b xs e), fun b o u e => us b _ (I.base.frzs b o u e), fun b ps e => ?_⟩, I.loc, I.cell, up _ I.free (Ne.symm nL), fun x c e => up c (I.freeC x c e) (ncell x c e),
    fun p hm => ?_, fun b u e => ?_, I.len⟩
  · obtain ⟨m, q⟩ := I.base.tbls b ps e
    exact ⟨m, us b _ q⟩
  · have hm' : p ∈ X.pn ++ (a, oe) :: pins := by
      rcases List.mem_append.mp hm with z | z
      · exact List.mem_append_left _ z
      · exact List.mem_append_right _ (List.mem_cons_of_mem _ z)
    obtain ⟨q1, q2, q3, q4, q5⟩ := I.pin p hm'
    exact ⟨q1, up _ q2 (hp p hm), q3, q4, q5⟩
  · by_cases z : b = a
    · rw [z, upd_same] at e
      cases e
      rw [z]
      exact ⟨⟨oe, vs, ha, hz, hd⟩, ⟨oe, ha⟩, fun h1 h2 ⟨o, w, g1, g2, g3⟩ st => ⟨o, w, st _ g1, g2, g3⟩⟩
    · rw [upd_ne z] at e
      exact (I.hok b u e).stay (fun _ _ _ q => q) (fun c q => us c _ q) fun c xs q => us c _ q
end
/-! ### raise -/
def tMk (K : PySem.W.Frag) (mg : Mg) (W : WX) (flds : Str → Option (List Str)) (c : Str) (ms : Fr → M (List U)) : L2.St → Hp → XK → Prop := fun σ H Q => ∃ ρ A δ, RepE ρ K mg H δ σ ∧ RepH ρ K mg H A ∧ Ask K mg W σ ρ H (ms δ) A fun us ρ1 H1 A1 => ∃ fs, excF flds c us = some fs ∧
  ∀ ρ' H' C d, Step ρ1 ρ' H1 H' → RepH ρ' K mg H' A1 → mg c = some (.ref C) → XAt ρ' K H' fs d → Q (.ref C) d H'
section
variable {X : Cx} {mg : Mg} {W : WX} {e : Expr} {pos : Pos}
theorem s_rais {flds : Str → Option (List Str)} {c : Str} {ms : Fr → M (List U)} (hc : X.calm = true) (tk : Takes X W) (he : PMk X e (tMk X.K mg W flds c ms)) :
    PS X (.Raise (some e) none pos) (tS X.K mg W fun δ => exE (ms δ) δ fun us A => (excF flds c us).map fun fs => (.ex c fs, δ, A)) := by
  refine ps_imp (ps_raise hc tk he) fun D σ H h => ?_
  obtain ⟨ρ, A, δ, hE, hH, h⟩ := h
  refine ⟨ρ, A, δ, hE, hH, (h.ask hE).mono fun us ρ1 H1 A1 s1 hH1 a1 => ?_⟩
  obtain ⟨_, a1⟩ := a1
  cases ef : excF flds c us with
  | none => rw [ef] at a1; exact a1.elim
  | some fs =>
    rw [ef] at a1
    exact ⟨fs, rfl, fun ρ' H' C d s r ec x => a1 ρ' H' σ C d s r ((hE.mono s1).mono s) ec x⟩
/-! ### try: .. / except k: h -/
theorem s_tryO {x : Str} {Ck : Addr} {body suite : List Stmt} {b₀ : Stmt} {np pos pos' : Pos} {fb fh : FS} {sb : Sub} (S : SubOk sb X.K mg) (hs : X.stack = X.env :: X.outer) (hf : X.env.frame = some X.env.locals) (hc : Names X x (.ref Ck)) (hm : mg x = some (.ref Ck)) (tk : Takes X W)
    (hb : ∀ (W : WX) (pn : List (Addr × Obj)) (xe : Value → Shared → Prop), Takes (X.tr pn xe) W → PassesOwn (model X.prog X.w) X.A X.env xe → PSs (X.tr pn xe) body (tS X.K mg W fb))
    (hsu : ∀ (a : Addr) (oe : Obj) (pn : List (Addr × Obj)), PSs (X.suite a ((a, oe) :: pn)) (b₀ :: suite) (tS X.K mg W fh)) :
    PS X (.Try body [.ExceptHandler (some (.Name x np)) none (b₀ :: suite) pos'] [] [] pos) (tS X.K mg W fun δ => fun A => (match fb δ A with
    | some (.ex c fs, δ', A') => (match sb c (.inr x) with
      | some true => fh δ' A'
      | some false => some (.ex c fs, δ', A')
      | none => none)
    | r => r)) := by
  refine ps_imp (ps_try_only (ts := fun _ _ _ => tS X.K mg W fh) hs hf hc tk hb (fun a oe cls d pn _ _ => hsu a oe pn)) fun D σ H h => ?_
  obtain ⟨ρ, A, δ, hE, hH, h⟩ := h
  refine ⟨ρ, A, δ, hE, hH, ?_⟩
  cases ef : fb δ A with
  | none => simp only [ef] at h; exact h
  | some z =>
    obtain ⟨o, δ', A'⟩ := z
    simp only [ef] at h
    cases o with
    | nx => exact h
    | rt r => exact h
    | bk => exact h
    | ct => exact h
    | ex c fs =>
      intro ρ' H' σ' C d s r rE ec x'
      simp only at h
      cases es : sb c (.inr x) with
      | none => simp only [es] at h; exact h.elim
      | some b =>
        refine ⟨b, S.exm c x b C Ck es ec hm, fun hb => ?_, fun hb => ?_⟩
        · subst hb
          simp only [es] at h
          exact fun _ _ => ⟨ρ', A', δ', rE, r, AskS.later h s⟩
        · subst hb
          simp only [es] at h
          exact h ρ' H' σ' C d s r rE ec x'
end
end Mi
set_option Elab.async false
set_option linter.all false
set_option maxRecDepth 100000
set_option maxHeartbeats 1000000
/-! MiZ: try: .. / except (C, ..) as n: x = n. -/
namespace Mi
open PySem L2
/-- names of classes, with what they stand for -/
inductive NamesAre (X : Cx) : List Expr → List Value → Prop
  | nil : NamesAre X [] []
  | cons {x : Str} {p : Pos} {c : Value} {es : List Expr} {cs : List Value} : Names X x c → NamesAre X es cs → NamesAre X (.Name x p :: es) (c :: cs)
section
variable {X : Cx} {pins : List (Addr × Obj)} {σ : L2.St} {H : Hp} {s : Shared}
theorem names_spliced {E : Value → Shared → Prop} {pos : Pos} (I : L2.Inv X pins σ H s) : ∀ {es : List Expr} {cs : List Value} {Q : List Value → Shared → Prop}, NamesAre X es cs → Q cs s → wpAny (model X.prog X.w) X.A (spliced (backTo pos (starEach es X.env))) Q E s
  | _, _, Q, .nil, q => Calls.spliced_nil q
  | _, _, Q, .cons (es := es) hn r, q => by
    show wpAny _ _ (spliced ((false, eval (.Name _ _) X.env) :: backTo pos (starEach es X.env))) _ _ _
    refine Calls.spliced_cons ?_
    obtain ⟨hg, hdb, hm | ⟨hm, hv, hnn⟩⟩ := hn
    · exact ld_glob I hg hm (names_spliced I r q) hdb
    · exact ld_blt I hg hm hv (names_spliced I r q) hnn hdb
theorem NamesAre.suite {a : Addr} {pn : List (Addr × Obj)} : ∀ {es : List Expr} {cs : List Value}, NamesAre X es cs → NamesAre (X.suite a pn) es cs
  | _, _, .nil => .nil
  | _, _, .cons hn r => .cons hn (NamesAre.suite r)
theorem flying_push {B h : Heap} {l : List Env} {a : Addr} {Z : Obj → Prop} {o : Obj} (f : HandSPX.FlyingZ B l a Z h) : HandSPX.FlyingZ B l a Z (h.push o) := by
  obtain ⟨f1, f2, f3, oe, vs, T, oT, ts, g1, g2, g3, g4, g5, g6, g7, g8, g9⟩ := f
  have k : ∀ b u, h.get? b = some u → (h.push o).get? b = some u := fun b u e => Heap.get?_push_of_some _ e
  exact ⟨fun b u e => k b u (f1 b u e), f2, Heap.FunFrames.of_keeps (fun b u e _ => ⟨u, k b u e, rfl⟩) f3, oe, vs, T, oT, ts, k _ _ g1, g2, g3, g4, g5, g6, k _ _ g7, g8, g9⟩
end
/-- what the clause wishes: i: the clause's name, j: the name that keeps it -/
def wHeld (K : PySem.W.Frag) (cs : List Value) (i j : Nat) (D : Ends) : WX := fun cls d σ H => PySem.W.exmAny K cls cs = some true ∧ ∀ a, H a = none → D.nx (((σ.set i (some (.ref a))).set j (some (.ref a))).set i none) (upd H a (ExcO cls d a))
section
variable {X : Cx} {n x : Str} {i j : Nat} {cs : List Value} {es : List Expr} {body : List Stmt} {k0 : Nat} {tp px pn' pa pos pos' : Pos} {tb : WX → TS} {Wout : WX}
theorem ps_try_held (hs : X.stack = X.env :: X.outer) (hf : X.env.frame = some X.env.locals) (hex : X.ex = []) (hN : X.N.Nodup) (hi : X.N[i]? = some n) (hln : X.env.kindOf n = some .local) (hj : X.N[j]? = some x) (hlx : X.env.kindOf x = some .local) (hn1 : (n == ("__debug__" : Str)) = false) (hn2 : (n == ("__classdict__" : Str)) = false) (hij : i < X.N.length)
    (hc : NamesAre X es cs) (hcl : cs.length ≤ sizeLine)
    (hb : ∀ (W : WX) (pn : List (Addr × Obj)) (xe : Value → Shared → Prop), Takes (X.tr pn xe) W → PassesOwn (model X.prog X.w) X.A X.env xe → PSs (X.tr pn xe) body (tb W)) :
    PS X (.Try body [.ExceptHandler (some (.Tuple es k0 tp)) (some n) [.Assign [.Name x px] (.Name n pn') pa] pos'] [] [] pos) (fun D σ H => tb (wHeld X.K cs i j D) D σ H) := by
  refine ⟨fun pins s σ H D I h => ?_⟩
  have ok := I.ok
  have hfr : X.A.frames = some (X.env :: X.outer) := by rw [ok.frames, hs]
  refine wpAny_Try_except ?_
  refine wpAny_mono ((hb (wHeld X.K cs i j D) (X.pn ++ pins) (fun e s₁ => wpAny (model X.prog X.w) X.A (noteFrame e X.env) (fun _ s₂ => wpAny (model X.prog X.w) X.A (setFlight e none) (fun _ s₃ =>
    wpAny (model X.prog X.w) X.A (handleBy e X.env [.ExceptHandler (some (.Tuple es k0 tp)) (some n) [.Assign [.Name x px] (.Name n pn') pa] pos']) (SP X pins D) X.xe s₃) X.xe s₂) X.xe s₁) (fun u s' xx => ?_) PassesOwn.looking).run [] s σ H D (I.toTry _) h) (fun f s1 hsp => ?_) (fun e s1 he => he)
  · obtain ⟨a, B, sI, pins', σ', H', cls, d, rfl, J', nb, up, sky, na, os, ag, hm, hq⟩ := xx
    have J : L2.Inv X pins σ' H' sI := J'.ofTry ok
    have sky' : Sky B (X.env :: X.outer) a (Zc cls d) X.env.locals s'.heap := by rw [← hs]; exact sky
    show wpAny (model X.prog X.w) X.A (noteFrame (.ref a) X.env) _ _ _
    refine Sky.land Zc.steady hfr hf sky' fun h3 fl3 up3 => ?_
    have J3 : L2.Inv X pins σ' H' { s' with heap := h3 } := J.landed nb fl3.1 (up.trans up3) os ag
    obtain ⟨oe3, vs3, he3, hz3, hd3⟩ := fl3.there
    have nBa : B.get? a = none := fl3.2.1
    have nfr : a ∉ frs (X.env :: X.outer) := fun hm => by
      obtain ⟨_, o', e', hnf⟩ := fl3.2.2.1.mem hm
      rw [he3] at e'; cases e'
      exact hnf _ hd3
    have nL : a ≠ X.env.locals := fun z => nfr (List.mem_filterMap.mpr ⟨X.env, List.mem_cons_self, by rw [hf, z]⟩)
    have nF : a ∉ X.fs := fun hm => by
      obtain ⟨e, he, q⟩ := List.mem_filterMap.mp hm
      exact nfr (List.mem_filterMap.mpr ⟨e, List.mem_cons_of_mem _ he, q⟩)
    have nI : sI.heap.get? a = none := by
      cases q : sI.heap.get? a with
      | none => rfl
      | some o =>
        have z := nb a o q (by rw [hs]; exact nfr)
        rw [nBa] at z; cases z
    have n0 : X.s_0.heap.get? a = none := by
      cases q : X.s_0.heap.get? a with
      | none => rfl
      | some o =>
        obtain ⟨o', z⟩ := J.base.there a o q (by rw [hex]; simp)
        rw [nI] at z; cases z
    have npin : ∀ p ∈ X.pn ++ pins, p.1 ≠ a := fun p hp z => by
      have := (J.pin p hp).1
      rw [z, nI] at this; cases this
    have S3 := J3.suite he3 hd3 na nL nF
    refine wpAny_handleBy_cons (codeAny_handlers_test ?_) (by intro q; cases q)
    refine wpAny_Tuple_spliced (names_spliced (X := X.suite a ((a, oe3) :: (X.pn ++ pins))) S3 hc.suite ⟨hcl, ?_⟩)
    have kp : ∀ b o, h3.get? b = some o → (h3.push { cls := .type "tuple", data := .seq cs.toArray }).get? b = some o := fun b o e => Heap.get?_push_of_some _ e
    have fl4 := flying_push (o := { cls := .type "tuple", data := .seq cs.toArray }) fl3
    have LT : PySem.W.Looks (model X.prog X.w) (h3.push { cls := .type "tuple", data := .seq cs.toArray }) (typeOf (.ref a)) cls := fun A Q E s k q => wpAny_typeOf_ref (k _ _ (kp _ _ he3)) (by rw [hz3.1]; exact q)
    have LM := exm_tupN (M := model X.prog X.w) (J3.kIn.keeps kp) LT (Heap.get?_push_size h3 rfl) hm
    refine LM.here (s := { s' with heap := h3.push { cls := .type "tuple", data := .seq cs.toArray } }) ?_
    show codeAny _ _ _ _ _
    refine codeAny_handlers_suite_as ?_
    refine HandSPX.lands_againZ fl4 fun h5 fl5 up5 => ?_
    have J5 : L2.Inv X pins σ' H' { s' with heap := h5 } := J.landed nb fl5.1 (((up.trans up3).trans (Heap.UpToSlots.of_keeps kp)).trans up5) os ag
    obtain ⟨oe5, vs5, he5, hz5, hd5⟩ := fl5.there
    have S5 := J5.suite he5 hd5 na nL nF
    refine store_ok (X := X.suite a ((a, oe5) :: (X.pn ++ pins))) (v := .ref a) S5 hN hi (.inl hln) rfl (fun s6 S6 => ?_) (.inr hln)
    have hlen : i < (σ'.set i (some (V.ref a))).length := by
      rw [List.length_set, J.len]; exact hij
    have hset : (σ'.set i (some (V.ref a)))[i]? = some (some (.ref a)) := List.getElem?_set_self (by simpa using hlen)
    have run := (pss_one (ps_set (X := X.suite a ((a, oe5) :: (X.pn ++ pins))) (pos := pa) (pos' := px) hN hj (.inl hlx) (pe_var (i := i) (pos := pn') hi (.inl hln) hn1 hn2) rfl (.inr hlx))).run [] s6 _ H' { nx := fun σ7 H7 => σ7 = (σ'.set i (some (.ref a))).set j (some (.ref a)) ∧ H7 = H', rt := fun _ _ => False } S6 ⟨_, hset, rfl, rfl⟩
    refine wpAny_mono run (fun f s7 hsp => ?_) (fun _ _ z => False.elim z)
    cases f with
    | next =>
      obtain ⟨σ7, H7, S7, e7, e8⟩ := hsp
      rw [e7, e8] at S7
      have I7 : L2.Inv X ((a, oe5) :: pins) ((σ'.set i (some (.ref a))).set j (some (.ref a))) H' s7 := by
        refine ⟨ok, S7.os, S7.bare, S7.base, S7.loc, S7.cell, S7.free, S7.freeC, fun p hp => S7.pin p ?_, S7.hok, S7.len⟩
        show p ∈ ((a, oe5) :: (X.pn ++ pins)) ++ []
        rw [List.append_nil]
        rcases List.mem_append.mp hp with z | z
        · exact List.mem_cons_of_mem _ (List.mem_append_left _ z)
        · rcases List.mem_cons.mp z with z | z
          · rw [z]; exact List.mem_cons_self
          · exact List.mem_cons_of_mem _ (List.mem_append_right _ z)
      exact gone_ok I7 hN hi hln fun s8 J8 => ⟨_, _, Inv.track J8 hz5 hd5 n0 npin, hq a na⟩
    | brk => exact False.elim (by obtain ⟨_, _, _, z⟩ := hsp; exact z)
    | cont => exact False.elim (by obtain ⟨_, _, _, z⟩ := hsp; exact z)
    | ret u => exact False.elim (by obtain ⟨_, _, _, _, _, z⟩ := hsp; exact z)
  · cases f with
    | next =>
      obtain ⟨σ', H', J', q⟩ := hsp
      exact wpAny_execs_nil ⟨σ', H', J'.ofTry ok, q⟩
    | brk =>
      obtain ⟨σ', H', J', q⟩ := hsp
      exact ⟨σ', H', J'.ofTry ok, q⟩
    | cont =>
      obtain ⟨σ', H', J', q⟩ := hsp
      exact ⟨σ', H', J'.ofTry ok, q⟩
    | ret u =>
      obtain ⟨v, σ', H', J', r, q⟩ := hsp
      exact ⟨v, σ', H', J'.ofTry ok, r, q⟩
end
end Mi
set_option Elab.async false
set_option linter.all false
set_option maxRecDepth 100000
set_option maxHeartbeats 1000000
/-! MjA: the check of statements. -/
namespace Mi
open PySem L2
theorem caught_exm {sb : Sub} {K : PySem.W.Frag} {mg : Mg} (S : SubOk sb K mg) {c : Str} {C : Addr} (hc : mg c = some (.ref C)) : ∀ {ks : List Str} {cs : List Value} {b : Bool}, Paired (fun k v => ∃ D, v = .ref D ∧ mg k = some (.ref D)) ks cs → caught sb c ks = some b → PySem.W.exmAny K (.ref C) cs = some b
  | [], _, b, .nil, e => e
  | k :: ks, _, b, .cons h r, e => by
    obtain ⟨D, rfl, hD⟩ := h
    unfold caught at e
    cases e1 : sb c (.inr k) with
    | none => simp [e1] at e
    | some b1 =>
      cases e2 : caught sb c ks with
      | none => simp [e1, e2] at e
      | some b2 =>
        simp only [e1, e2] at e
        cases e
        unfold PySem.W.exmAny
        rw [S.exm c k b1 C D e1 hc hD, caught_exm S hc r e2]
theorem set3 {α : Type} (l : List α) (i j : Nat) (x y z : α) : ((l.set i x).set j y).set i z = (l.set j y).set i z := by
  by_cases h : i = j
  · subst h; simp [List.set_set]
  · rw [List.set_comm _ _ h, List.set_set]
section
variable {X : Cx} {mg : Mg} {W : WX}
theorem s_tryC {n x : Str} {i j : Nat} {ks : List Str} {cs : List Value} {es : List Expr} {body : List Stmt} {k0 : Nat} {tp px pn' pa pos pos' : Pos} {fb : FS} {sb : Sub} (S : SubOk sb X.K mg) (hs : X.stack = X.env :: X.outer) (hf : X.env.frame = some X.env.locals) (hex : X.ex = []) (hN : X.N.Nodup) (hi : X.N[i]? = some n) (hln : X.env.kindOf n = some .local) (hj : X.N[j]? = some x) (hlx : X.env.kindOf x = some .local) (hn1 : (n == ("__debug__" : Str)) = false) (hn2 : (n == ("__classdict__" : Str)) = false)
    (hc : NamesAre X es cs) (hcl : cs.length ≤ sizeLine) (hp : Paired (fun k v => ∃ D, v = .ref D ∧ mg k = some (.ref D)) ks cs)
    (hb : ∀ (W : WX) (pn : List (Addr × Obj)) (xe : Value → Shared → Prop), Takes (X.tr pn xe) W → PassesOwn (model X.prog X.w) X.A X.env xe → PSs (X.tr pn xe) body (tS X.K mg W fb)) :
    PS X (.Try body [.ExceptHandler (some (.Tuple es k0 tp)) (some n) [.Assign [.Name x px] (.Name n pn') pa] pos'] [] [] pos) (tS X.K mg W fun δ => fun A => (match fb δ A with
    | some (.ex c fs, δ', A') => (match caught sb c ks with
      | some true => some (.nx, (δ'.set j (some (.exc c fs))).set i none, A')
      | _ => none)
    | r => r)) := by
  refine ps_imp (ps_try_held hs hf hex hN hi hln hj hlx hn1 hn2 (List.getElem?_eq_some_iff.mp hi).1 hc hcl hb) fun D σ H h => ?_
  obtain ⟨ρ, A, δ, hE, hH, h⟩ := h
  refine ⟨ρ, A, δ, hE, hH, ?_⟩
  cases ef : fb δ A with
  | none => simp only [ef] at h; exact h
  | some z =>
    obtain ⟨o, δ', A'⟩ := z
    simp only [ef] at h
    cases o with
    | nx => exact h
    | rt r => exact h
    | bk => exact h
    | ct => exact h
    | ex c fs =>
      intro ρ' H' σ' C d s r rE ec x'
      simp only at h
      cases es : caught sb c ks with
      | none => simp only [es] at h; exact h.elim
      | some b =>
        cases b with
        | false => simp only [es] at h; exact h.elim
        | true =>
          simp only [es] at h
          refine ⟨caught_exm S ec hp es, fun a ha => ?_⟩
          have st := r.stp (o := ExcO (.ref C) d a) ha
          refine h ρ' _ _ (s.trans st) (r.new ha) ?_
          have ru : RepU ρ' X.K mg (upd H' a (ExcO (.ref C) d a)) (.exc c fs) (.ref a) := .exc ec (r.notin (Fre.of ha)) upd_same (x'.mono st)
          have q := (((rE.mono st).set i ru).set j ru).unset i
          rw [set3] at q
          exact q
end
/-! ### the check -/
def notComp : Expr → Bool
  | .ListComp _ _ _ _ => false
  | .SetComp _ _ _ _ => false
  | .DictComp _ _ _ _ _ => false
  | _ => true
theorem notComp_sw {v : Expr} (h : notComp v = true) (t : Option Expr) (l : Nat) (env : Env) : swapsWith v t l env = pure false := by
  cases v <;> first | rfl | cases h
/-- what two or three names at once want -/
def parB (sc : Scope) (xs : List (Str × Pos)) (vs : List Expr) : Bool :=
  decide (sc.kind = .function) && (xs.all fun p => decide (sc.names.lookup p.1 = some .local)) && (match xs with
    | [] => false
    | q :: _ => xs.all fun p => p.2.line == q.2.line) && !(vs.all (foldedForSure 8)) && !(vs.all (constantsAlone 8)) && vs.all okX
def isLc : E → Bool
  | .lc _ _ _ _ _ => true
  | _ => false
def ckAsg (c : Ck) (e : E) (x : Str) (px : Pos) (v : Expr) : Bool := match v with
  | .ListComp _ _ scope vp => isLc e && decide (c.sc.kind = .function) && decide (c.sc.names.lookup x = some .local) && (px.line == vp.line) && !(scope.names.any fun (n, k) => n == x && (k == .local || k == .cell)) && ck c false e v
  | _ => notComp v && ck c false e v
def ckNs (c : Ck) : List Str → List Expr → Bool
  | [], [] => true
  | k :: ks, .Name y _ :: es => decide (k = y) && c.cls.contains y && glB c.sc y && ckNs c ks es
  | _, _ => false
def ckH (c : Ck) : List S → List Stmt → Bool
  | [.ret (some (.k p))], [.Return (some v) _] => ck c false (.k p) v
  | _, _ => false
def locN (c : Ck) (i : Nat) (x : Str) : Bool := decide (c.N[i]? = some x) && locB c.sc x && (c.fn x || decide (c.sc.names.lookup x = some .local))
mutual
def ckS (c : Ck) (exs : List Str) : S → Stmt → Bool
  | .asg i e al, st => (match st with
    | .Assign [.Name x px] v _ => locN c i x && ckAsg c e x px v
    | _ => false)
  | .asgT t e, st => (match st with
    | .Assign [tg] v _ => ckT c.N c.sc c.fn t tg && ck c false e v && notComp v && (match v with
      | .Tuple vs _ _ => vs.all (foldedForSure 8)
      | _ => true)
    | _ => false)
  | .par i j a b, st => (match st with
    | .Assign [.Tuple [.Name x px, .Name y py] _ _] (.Tuple [u, v] _ _) _ => decide (c.N[i]? = some x) && decide (c.N[j]? = some y) && decide (i ≠ j) && decide (x ≠ y) && parB c.sc [(x, px), (y, py)] [u, v] && ck c false a u && ck c false b v
    | _ => false)
  | .par3 i j l a b d, st => (match st with
    | .Assign [.Tuple [.Name x px, .Name y py, .Name z pz] _ _] (.Tuple [u, v, w] _ _) _ => decide (c.N[i]? = some x) && decide (c.N[j]? = some y) && decide (c.N[l]? = some z) && decide (i ≠ j) && decide (i ≠ l) && decide (j ≠ l) && decide (x ≠ y) && decide (x ≠ z) && decide (y ≠ z) &&
        parB c.sc [(x, px), (y, py), (z, pz)] [u, v, w] && ck c false a u && ck c false b v && ck c false d w
    | _ => false)
  | .six o i e, st => (match st with
    | .Assign [.Subscript y z _] v _ => ck c false o y && ck c false i z && ck c false e v && notComp v
    | _ => false)
  | .aug i op e, st => (match st with
    | .AugAssign (.Name x _) o v _ => decide (op = o) && (decide (op = .Add) || decide (op = .Sub)) && locN c i x && ck c false e v
    | _ => false)
  | .exp e, st => (match st with
    | .Expr v _ => notComp v && ck c false e v
    | _ => false)
  | .ret oe, st => (match st, oe with
    | .Return none _, none => true
    | .Return (some v) _, some e => ck c false e v
    | _, _ => false)
  | .iff q a b, st => (match st with
    | .If z x y _ => ck c true q z && ckSs c exs a x && ckSs c exs b y
    | _ => false)
  | .whl q b, st => (match st with
    | .While z x [] _ => ck c true q z && ckSs c exs b x
    | _ => false)
  | .fr t it b, st => (match st with
    | .For tg iter x [] _ => ckI c it iter tg && ckT c.N c.sc c.fn t tg && ckSs c exs b x
    | _ => false)
  | .rais k es, st => (match st with
    | .Raise (some (.Call (.Name y _) (z :: zs) [] _)) none _ => decide (k = y) && exs.contains y && glB c.sc y && cks c es (z :: zs)
    | _ => false)
  | .tryC b ks ie ix, st => (match st with
    | .Try x [.ExceptHandler (some (.Tuple es _ _)) (some n) [.Assign [.Name y _] (.Name n' _) _] _] [] [] _ => decide (n = n') && decide (c.N[ie]? = some n) && decide (c.sc.names.lookup n = some .local) && decide (c.N[ix]? = some y) && decide (c.sc.names.lookup y = some .local) &&
        !(n == ("__debug__" : Str)) && !(n == ("__classdict__" : Str)) && ckNs c ks es && decide (ks.length ≤ 1000) && ckSs c exs b x
    | _ => false)
  | .tryO b k h, st => (match st with
    | .Try x [.ExceptHandler (some (.Name y _)) none (b0 :: bs) _] [] [] _ => decide (k = y) && c.cls.contains y && glB c.sc y && ckH c h (b0 :: bs) && ckSs c exs b x
    | _ => false)
  | .pas, st => (match st with
    | .Pass _ => true
    | _ => false)
  | .brk, st => (match st with
    | .Break _ => true
    | _ => false)
  | .cnt, st => (match st with
    | .Continue _ => true
    | _ => false)
def ckSs (c : Ck) (exs : List Str) : List S → List Stmt → Bool
  | [], [] => true
  | s :: ss, x :: xs => ckS c exs s x && ckSs c exs ss xs
  | _, _ => false
end
/-! ### the context of statements -/
/-- exceptions are made -/
def RaisOk (X : Cx) (mg : Mg) (G : Ge) (W : WX) (exs : List Str) : Prop := ∀ y ∈ exs, ∀ (p pos : Pos) (z : Expr) (zs : List Expr) (ms : Fr → M (List U)), Gl X y → (y == ("__debug__" : Str)) = false → PA X (z :: zs) (tRs X.K mg W ms) → NS (z :: zs) → PMk X (.Call (.Name y p) (z :: zs) [] pos) (tMk X.K mg W G.o.flds y ms)
structure Sok (X : Cx) (mg : Mg) (G : Ge) (c : Ck) (exs : List Str) : Prop where
  stk : X.stack = X.env :: X.outer
  frm : X.env.frame = some X.env.locals
  exz : X.ex = []
  at_ : ∀ pn xe W, Takes (X.tr pn xe) W → Cok0 (X.tr pn xe) mg G W c
  top : ∀ pn xe W, Takes (X.tr pn xe) W → TopOk (X.tr pn xe) mg G W c
  rais : ∀ pn xe W, Takes (X.tr pn xe) W → RaisOk (X.tr pn xe) mg G W exs
theorem swapped_none {ts : Expr} {vs : List Expr} {k : Nat} {p : Pos} {env : Env} (h : vs.all (foldedForSure 8) = true) : swappedStores [ts] (.Tuple vs k p) env = pure none := by
  unfold swappedStores
  cases ts <;> try rfl
  all_goals
    simp only [h, if_true]
    repeat (first | rfl | split)
theorem swapped2 {x y : Str} {px py pt : Pos} {u v : Expr} {kt k2 : Nat} {pt2 : Pos} {env : Env} (hxy : x ≠ y) (h : parB env.scope [(x, px), (y, py)] [u, v] = true) : swappedStores [.Tuple [.Name x px, .Name y py] kt pt] (.Tuple [u, v] k2 pt2) env = pure (some [x, y]) := by
  unfold parB at h
  simp only [Bool.and_eq_true, decide_eq_true_eq, Bool.not_eq_true', List.all_cons, List.all_nil, Bool.and_true, beq_iff_eq] at h
  obtain ⟨⟨⟨⟨⟨h1, h2⟩, h3⟩, h4⟩, h5⟩, h6⟩ := h
  have hb : env.blockKind = .function := by unfold Env.blockKind; rw [h1]; rfl
  have kx : env.kindOf x = some .local := h2.1
  have ky : env.kindOf y = some .local := h2.2
  have hy : (y == x) = false := by simpa using Ne.symm hxy
  unfold swappedStores
  simp only [hb, List.length_cons, List.length_nil, List.any_cons, List.any_nil, List.head?_cons, Option.map_some, Option.getD_some, List.filterMap_cons, List.filterMap_nil, kx, ky, Expr.pos, h3.2, List.all_cons, List.all_nil, h4, h5, Bool.and_true]
  simp [List.eraseDups_cons, List.filter, hy]
  intro hh
  exfalso
  rcases hh with hh | hh
  · cases u <;> first | (simp at hh; done) | (cases h6.1)
  · cases v <;> first | (simp at hh; done) | (cases h6.2)
theorem swapped3 {x y z : Str} {px py pz pt : Pos} {u v w : Expr} {kt k2 : Nat} {pt2 : Pos} {env : Env} (hxy : x ≠ y) (hxz : x ≠ z) (hyz : y ≠ z) (h : parB env.scope [(x, px), (y, py), (z, pz)] [u, v, w] = true) : swappedStores [.Tuple [.Name x px, .Name y py, .Name z pz] kt pt] (.Tuple [u, v, w] k2 pt2) env = pure (some [x, y, z]) := by
  unfold parB at h
  simp only [Bool.and_eq_true, decide_eq_true_eq, Bool.not_eq_true', List.all_cons, List.all_nil, Bool.and_true, beq_iff_eq] at h
  obtain ⟨⟨⟨⟨⟨h1, h2⟩, h3⟩, h4⟩, h5⟩, h6⟩ := h
  have hb : env.blockKind = .function := by unfold Env.blockKind; rw [h1]; rfl
  have kx : env.kindOf x = some .local := h2.1
  have ky : env.kindOf y = some .local := h2.2.1
  have kz : env.kindOf z = some .local := h2.2.2
  have hy : (y == x) = false := by simpa using Ne.symm hxy
  have hz : (z == x) = false := by simpa using Ne.symm hxz
  have hz' : (z == y) = false := by simpa using Ne.symm hyz
  unfold swappedStores
  simp only [hb, List.length_cons, List.length_nil, List.any_cons, List.any_nil, List.head?_cons, Option.map_some, Option.getD_some, List.filterMap_cons, List.filterMap_nil, kx, ky, kz, Expr.pos, h3.2.1, h3.2.2, List.all_cons, List.all_nil, h4, h5, Bool.and_true]
  simp [List.eraseDups_cons, List.filter, hy, hz, hz']
  intro hh
  exfalso
  rcases hh with hh | hh | hh
  · cases u <;> first | (simp at hh; done) | (cases h6.1)
  · cases v <;> first | (simp at hh; done) | (cases h6.2.1)
  · cases w <;> first | (simp at hh; done) | (cases h6.2.2)
end Mi
set_option Elab.async false
set_option linter.all false
set_option maxRecDepth 100000
set_option maxHeartbeats 8000000
/-! MjB: what is checked runs as it is read: statements. -/
namespace Mi
open PySem L2
section
variable {X : Cx} {mg : Mg} {G : Ge} {W : WX} {c : Ck}
theorem Cok0.loc (h : Cok0 X mg G W c) {i : Nat} {x : Str} (e : locN c i x = true) : X.N[i]? = some x ∧ Loc X.env.scope x ∧ (X.fn x = true ∨ X.env.scope.names.lookup x = some .local) := by
  unfold locN at e
  simp only [Bool.and_eq_true, Bool.or_eq_true, decide_eq_true_eq] at e
  obtain ⟨⟨h1, h2⟩, h3⟩ := e
  refine ⟨by rw [h.hN]; exact h1, by rw [h.hsc]; exact locB_ok h2, ?_⟩
  rw [h.hfn, h.hsc]
  exact h3
/-- name = value -/
theorem ckAsg_main (h : Cok0 X mg G W c) (ht : c.top = true → TopOk X mg G W c) {i : Nat} {al : Bool} {e : E} {x : Str} {px pos : Pos} {v : Expr} (hl : locN c i x = true) (hc : ckAsg c e x px v = true) : PS X (.Assign [.Name x px] v pos) (tS X.K mg W (mAsg i al (ev G e))) := by
  obtain ⟨l1, l2, l3⟩ := h.loc hl
  by_cases hv : ∃ a b s p, v = .ListComp a b s p
  · obtain ⟨y, gens, scope, vp, rfl⟩ := hv
    unfold ckAsg at hc
    simp only [Bool.and_eq_true, decide_eq_true_eq, Bool.not_eq_true'] at hc
    obtain ⟨⟨⟨⟨⟨k0, k1⟩, k2⟩, k3⟩, k4⟩, k5⟩ := hc
    have hloc : X.env.scope.names.lookup x = some .local := by rw [h.hsc]; exact k2
    cases e with
    | lc elt tg it cs own =>
      unfold ck at k5
      split at k5
      · rename_i y' z w ifs as scope' vp' e2
        cases e2
        simp only [Bool.and_eq_true, decide_eq_true_eq] at k5
        obtain ⟨⟨⟨⟨⟨⟨rfl, e1⟩, e2⟩, e3⟩, e4⟩, e5⟩, e6⟩ := k5
        have hi := ckI_main G mg it c X W w z h ht e1
        have ho : (own.map fun i => (c.N.getD i default, i)).map (·.2) = own := by simp [Function.comp_def]
        have hb : BlkOk X.N X.env.scope scope (own.map fun i => (c.N.getD i default, i)) := blkOk_by (by rw [h.hN, h.hsc]; exact e2)
        have q := ps_setLc (g := gT X.K mg tg) (tt := tB X.K mg WF (evC G cs)) (elt := y) (te := tR X.K mg WF (ev G elt)) (i := i) (y := x) (py := px) (spos := pos) (pos := vp) h.calm h.nd l1 hloc (sw_true (by rw [h.hsc]; exact k1) hloc k3 k4) hi.1 hb
          (fun s H C cl fp => ckT_ok (mg := mg) (h.blk s H scope cl C fp).calm (h.blk s H scope cl C fp).nd tg z (by
            have q := h.blk s H scope cl C fp
            rw [q.hN, q.hsc, q.hfn]; exact e4))
          (fun s H C cl fp => ckc_main G mg cs _ _ _ ifs rfl (h.blk s H scope cl C fp) e5)
          (fun s H C cl fp => (ck_main G mg elt _ false _ _ y (h.blk s H scope cl C fp) (fun z => by cases z) e6).1) (okX_fold hi.2 _)
        refine ps_imp q fun D σ H hq => ?_
        have hr := asg_read hq
        rw [ho]
        exact lc_read (wi := tI X.K mg W (evI G it)) e3 hr
      · cases k5
    | _ => cases k0
  · have hcv : notComp v = true ∧ ck c false e v = true := by
      unfold ckAsg at hc
      split at hc
      · exact (hv ⟨_, _, _, _, rfl⟩).elim
      · simpa using hc
    exact s_set h.nd l1 l2 (ck_main G mg e c false X W v h ht hcv.2).1 (notComp_sw hcv.1 _ _ _) l3
theorem ckNs_main (h : Cok0 X mg G W c) : ∀ (ks : List Str) (es : List Expr), ckNs c ks es = true → ∃ cs, NamesAre X es cs ∧ Paired (fun k v => ∃ D, v = .ref D ∧ mg k = some (.ref D)) ks cs ∧ cs.length = ks.length
  | [], [], _ => ⟨[], .nil, .nil, rfl⟩
  | k :: ks, e :: es, q => by
    cases e <;> simp only [ckNs] at q <;> try cases q
    rename_i y p
    simp only [Bool.and_eq_true, decide_eq_true_eq] at q
    obtain ⟨⟨⟨rfl, q1⟩, q2⟩, q3⟩ := q
    obtain ⟨g1, g2⟩ := h.gl q2
    obtain ⟨C, hC⟩ := h.cls _ (by simpa using q1)
    obtain ⟨cs, r1, r2, r3⟩ := ckNs_main h ks es q3
    exact ⟨.ref C :: cs, .cons ⟨g1, g2, .inl hC⟩ r1, .cons ⟨C, rfl, by rw [h.mgE]; exact hC⟩ r2, by simp [r3]⟩
  | [], _ :: _, q => by simp [ckNs] at q
  | _ :: _, [], q => by simp [ckNs] at q
end
theorem con_main {X : Cx} {mg : Mg} {G : Ge} {W : WX} {c : Ck} {p : PyData} {v : Expr} (e : ck c false (.k p) v = true) : PE X v (tR X.K mg W (ev G (.k p))) := by
  unfold ck at e
  split at e
  · split at e
    · exact x_con pe_non fun _ _ => .non
    · cases (show _ = _ by simpa using e); exact x_con pe_bl fun _ _ => .bl _
    · cases of_decide_eq_true e; exact x_con pe_int fun _ _ => .int _
    · cases of_decide_eq_true e; exact x_con pe_str fun _ _ => .str _
    · cases e
  · cases e
theorem swapped_no {tg v : Expr} {env : Env} (hv : ∀ vs k p, v = .Tuple vs k p → False) : swappedStores [tg] v env = pure none := by
  cases v with
  | Tuple vs k p => exact (hv _ _ _ rfl).elim
  | _ => cases tg <;> rfl
mutual
theorem ckS_main (G : Ge) (mg : Mg) (c : Ck) (exs : List Str) (X : Cx) (K : Sok X mg G c exs) : ∀ (s : S) (st : Stmt) (pn : List (Addr × Obj)) (xe : Value → Shared → Prop) (W : WX), Takes (X.tr pn xe) W → PassesOwn (model X.prog X.w) X.A X.env xe → ckS c exs s st = true → PS (X.tr pn xe) st (tS X.K mg W (ex G s))
  | .asg i e al, st, pn, xe, W, tk, hp, q => by
    have h := K.at_ pn xe W tk
    have ht := K.top pn xe W tk
    unfold ckS at q
    split at q
    · simp only [Bool.and_eq_true] at q
      exact ckAsg_main h (fun _ => ht) q.1 q.2
    · cases q
  | .asgT t e, st, pn, xe, W, tk, hp, q => by
    have h := K.at_ pn xe W tk
    have ht := K.top pn xe W tk
    unfold ckS at q
    split at q
    · rename_i tg v p
      simp only [Bool.and_eq_true] at q
      obtain ⟨⟨⟨q1, q2⟩, q3⟩, q4⟩ := q
      have hT : PG (X.tr pn xe) tg (gT X.K mg t) := ckT_ok (X := X.tr pn xe) (mg := mg) h.calm h.nd t tg (by rw [h.hN, h.hsc, h.hfn]; exact q1)
      refine s_asgT (ck_main G mg e c false _ W v h (fun _ => ht) q2).1 hT (notComp_sw q3 _ _ _) ?_ (by rw [ckT_each q1]; rfl)
      split at q4
      · exact swapped_none q4
      · rename_i hv
        exact swapped_no hv
    · cases q
  | .par i j a b, st, pn, xe, W, tk, hp, q => by
    have h := K.at_ pn xe W tk
    have ht := K.top pn xe W tk
    unfold ckS at q
    split at q
    · simp only [Bool.and_eq_true, decide_eq_true_eq] at q
      obtain ⟨⟨⟨⟨⟨⟨q1, q2⟩, q3⟩, q4⟩, q5⟩, q6⟩, q7⟩ := q
      have q5' := q5
      unfold parB at q5
      simp only [Bool.and_eq_true, decide_eq_true_eq, List.all_cons, List.all_nil, Bool.and_true] at q5
      obtain ⟨⟨⟨⟨⟨z1, z2⟩, z3⟩, z4⟩, z5⟩, z6⟩ := q5
      exact s_par (X := X.tr pn xe) h.calm h.nd (by rw [h.hN]; exact q1) (by rw [h.hN]; exact q2) q3 (by rw [h.hsc]; exact z2.1) (by rw [h.hsc]; exact z2.2) (ck_main G mg a c false _ W _ h (fun _ => ht) q6).1 (ck_main G mg b c false _ W _ h (fun _ => ht) q7).1 z6.1 z6.2 (swapped2 q4 (by rw [h.hsc]; exact q5'))
    · cases q
  | .par3 i j l a b d, st, pn, xe, W, tk, hp, q => by
    have h := K.at_ pn xe W tk
    have ht := K.top pn xe W tk
    unfold ckS at q
    split at q
    · simp only [Bool.and_eq_true, decide_eq_true_eq] at q
      obtain ⟨⟨⟨⟨⟨⟨⟨⟨⟨⟨⟨⟨q1, q2⟩, q3⟩, q4⟩, q5⟩, q6⟩, q7⟩, q8⟩, q9⟩, q10⟩, q11⟩, q12⟩, q13⟩ := q
      have q10' := q10
      unfold parB at q10
      simp only [Bool.and_eq_true, decide_eq_true_eq, List.all_cons, List.all_nil, Bool.and_true] at q10
      obtain ⟨⟨⟨⟨⟨z1, z2⟩, z3⟩, z4⟩, z5⟩, z6⟩ := q10
      exact s_par3 (X := X.tr pn xe) h.calm h.nd (by rw [h.hN]; exact q1) (by rw [h.hN]; exact q2) (by rw [h.hN]; exact q3) q4 q5 q6 (by rw [h.hsc]; exact z2.1) (by rw [h.hsc]; exact z2.2.1) (by rw [h.hsc]; exact z2.2.2) (ck_main G mg a c false _ W _ h (fun _ => ht) q11).1 (ck_main G mg b c false _ W _ h (fun _ => ht) q12).1 (ck_main G mg d c false _ W _ h (fun _ => ht) q13).1 z6.1 z6.2.1 z6.2.2
        (swapped3 q7 q8 q9 (by rw [h.hsc]; exact q10'))
    · cases q
  | .six o i e, st, pn, xe, W, tk, hp, q => by
    have h := K.at_ pn xe W tk
    have ht := K.top pn xe W tk
    have hu := h.un
    unfold ckS at q
    split at q
    · simp only [Bool.and_eq_true] at q
      obtain ⟨⟨⟨q1, q2⟩, q3⟩, q4⟩ := q
      exact s_six (X := X.tr pn xe) (by omega) (ck_main G mg e c false _ W _ h (fun _ => ht) q3).1 (ck_main G mg o c false _ W _ h (fun _ => ht) q1).1 (ck_main G mg i c false _ W _ h (fun _ => ht) q2).1 (ck_ok0 c false i _ q2) (by unfold swapsWithSole; exact notComp_sw q4 _ _ _)
    · cases q
  | .aug i op e, st, pn, xe, W, tk, hp, q => by
    have h := K.at_ pn xe W tk
    have ht := K.top pn xe W tk
    unfold ckS at q
    split at q
    · simp only [Bool.and_eq_true, Bool.or_eq_true, decide_eq_true_eq] at q
      obtain ⟨⟨⟨rfl, q1⟩, q2⟩, q3⟩ := q
      obtain ⟨l1, l2, l3⟩ := h.loc q2
      exact s_aug (X := X.tr pn xe) h.nd l1 l2 (ck_main G mg e c false _ W _ h (fun _ => ht) q3).1 l3 q1
    · cases q
  | .exp e, st, pn, xe, W, tk, hp, q => by
    have h := K.at_ pn xe W tk
    have ht := K.top pn xe W tk
    unfold ckS at q
    split at q
    · simp only [Bool.and_eq_true] at q
      exact s_exp (X := X.tr pn xe) (ck_main G mg e c false _ W _ h (fun _ => ht) q.2).1 (notComp_sw q.1 _ _ _)
    · cases q
  | .ret oe, st, pn, xe, W, tk, hp, q => by
    have h := K.at_ pn xe W tk
    have ht := K.top pn xe W tk
    unfold ckS at q
    split at q
    · exact s_retN
    · exact s_ret (X := X.tr pn xe) (ck_main G mg _ c false _ W _ h (fun _ => ht) q).1
    · cases q
  | .iff z a b, st, pn, xe, W, tk, hp, q => by
    have h := K.at_ pn xe W tk
    have ht := K.top pn xe W tk
    unfold ckS at q
    split at q
    · simp only [Bool.and_eq_true] at q
      obtain ⟨⟨q1, q2⟩, q3⟩ := q
      exact s_if (X := X.tr pn xe) ((ck_main G mg z c true _ W _ h (fun _ => ht) q1).2 rfl) (ckSs_main G mg c exs X K a _ pn xe W tk hp q2) (ckSs_main G mg c exs X K b _ pn xe W tk hp q3)
    · cases q
  | .whl z b, st, pn, xe, W, tk, hp, q => by
    have h := K.at_ pn xe W tk
    have ht := K.top pn xe W tk
    unfold ckS at q
    split at q
    · simp only [Bool.and_eq_true] at q
      exact s_whl (X := X.tr pn xe) hp ((ck_main G mg z c true _ W _ h (fun _ => ht) q.1).2 rfl) (ckSs_main G mg c exs X K b _ pn xe W tk hp q.2)
    · cases q
  | .fr t it b, st, pn, xe, W, tk, hp, q => by
    have h := K.at_ pn xe W tk
    have ht := K.top pn xe W tk
    unfold ckS at q
    split at q
    · rename_i tg iter x p
      simp only [Bool.and_eq_true] at q
      obtain ⟨⟨q1, q2⟩, q3⟩ := q
      have hi := ckI_main G mg it c (X.tr pn xe) W iter tg h (fun _ => ht) q1
      exact s_for (X := X.tr pn xe) hp h.calm hi.1 (ckT_ok (X := X.tr pn xe) (mg := mg) h.calm h.nd t tg (by rw [h.hN, h.hsc, h.hfn]; exact q2)) (ckSs_main G mg c exs X K b _ pn xe W tk hp q3) (okX_fold hi.2 _)
    · cases q
  | .rais k es, st, pn, xe, W, tk, hp, q => by
    have h := K.at_ pn xe W tk
    have ht := K.top pn xe W tk
    unfold ckS at q
    split at q
    · simp only [Bool.and_eq_true, decide_eq_true_eq] at q
      obtain ⟨⟨⟨rfl, q1⟩, q2⟩, q3⟩ := q
      obtain ⟨g1, g2⟩ := h.gl q2
      exact s_rais (X := X.tr pn xe) h.calm tk (K.rais pn xe W tk k (by simpa using q1) _ _ _ _ (evs G es) g1 g2 (cks_main G mg es c _ W _ h (fun _ => ht) q3) (cks_ns c es _ q3))
    · cases q
  | .tryC b ks ie ix, st, pn, xe, W, tk, hp, q => by
    have h := K.at_ pn xe W tk
    unfold ckS at q
    split at q
    · simp only [Bool.and_eq_true, decide_eq_true_eq, Bool.not_eq_true'] at q
      obtain ⟨⟨⟨⟨⟨⟨⟨⟨⟨rfl, q1⟩, q2⟩, q3⟩, q4⟩, q5⟩, q6⟩, q7⟩, q8⟩, q9⟩ := q
      obtain ⟨cs, r1, r2, r3⟩ := ckNs_main h ks _ q7
      have hk : ∀ {n : Str}, c.sc.names.lookup n = some .local → (X.tr pn xe).env.kindOf n = some .local := fun {n} e => by
        show (X.tr pn xe).env.scope.names.lookup n = _
        rw [h.hsc]; exact e
      exact s_tryC (X := X.tr pn xe) h.sub K.stk K.frm K.exz h.nd (by rw [h.hN]; exact q1) (hk q2) (by rw [h.hN]; exact q3) (hk q4) q5 q6 r1 (by rw [r3, sizeLine_eq]; omega) r2
        (fun W' pn' xe' tk' hp' => ckSs_main G mg c exs X K b _ pn' xe' W' tk' hp' q9)
    · cases q
  | .tryO b k hh, st, pn, xe, W, tk, hp, q => by
    have h := K.at_ pn xe W tk
    unfold ckS at q
    split at q
    · simp only [Bool.and_eq_true, decide_eq_true_eq] at q
      obtain ⟨⟨⟨⟨rfl, q1⟩, q2⟩, q3⟩, q4⟩ := q
      obtain ⟨g1, g2⟩ := h.gl q2
      obtain ⟨C, hC⟩ := h.cls _ (by simpa using q1)
      refine s_tryO (X := X.tr pn xe) (fh := Mi.exs G hh) h.sub K.stk K.frm ⟨g1, g2, .inl hC⟩ (by rw [h.mgE]; exact hC) tk (fun W' pn' xe' tk' hp' => ckSs_main G mg c exs X K b _ pn' xe' W' tk' hp' q4) fun a oe pn2 => ?_
      unfold ckH at q3
      split at q3
      · rename_i heq
        cases heq
        exact ss_cons (X := (X.tr pn xe).suite a ((a, oe) :: pn2)) (s_ret (con_main (G := G) q3)) ss_nil
      · cases q3
    · cases q
  | .pas, st, pn, xe, W, tk, hp, q => by
    unfold ckS at q
    split at q
    · exact s_pas
    · cases q
  | .brk, st, pn, xe, W, tk, hp, q => by
    unfold ckS at q
    split at q
    · exact s_brk
    · cases q
  | .cnt, st, pn, xe, W, tk, hp, q => by
    unfold ckS at q
    split at q
    · exact s_cnt
    · cases q
theorem ckSs_main (G : Ge) (mg : Mg) (c : Ck) (exs : List Str) (X : Cx) (K : Sok X mg G c exs) : ∀ (ss : List S) (sts : List Stmt) (pn : List (Addr × Obj)) (xe : Value → Shared → Prop) (W : WX), Takes (X.tr pn xe) W → PassesOwn (model X.prog X.w) X.A X.env xe → ckSs c exs ss sts = true → PSs (X.tr pn xe) sts (tS X.K mg W (Mi.exs G ss))
  | [], [], pn, xe, W, tk, hp, q => ss_nil
  | s :: ss, st :: sts, pn, xe, W, tk, hp, q => by
    unfold ckSs at q
    simp only [Bool.and_eq_true] at q
    exact ss_cons (X := X.tr pn xe) (ckS_main G mg c exs X K s st pn xe W tk hp q.1) (ckSs_main G mg c exs X K ss sts pn xe W tk hp q.2)
  | [], _ :: _, pn, xe, W, tk, hp, q => by simp [ckSs] at q
  | _ :: _, [], pn, xe, W, tk, hp, q => by simp [ckSs] at q
end
end Mi
set_option Elab.async false
set_option linter.all false
set_option maxRecDepth 100000
set_option maxHeartbeats 2000000
/-! MjC: what is left behind a call. -/
namespace Mi
open PySem L2
def Ow.cut (ρ : Ow) (k : Nat) : Ow := ⟨ρ.ix.take k, ρ.hid⟩
theorem Ow.mem_cut {ρ : Ow} {k : Nat} {a : Addr} (h : a ∈ ρ.cut k) : a ∈ ρ := by
  rcases h with h | h
  · exact .inl (List.mem_of_mem_take h)
  · exact .inr h
def bel (k : Nat) : U → Bool
  | .obj n => decide (n < k)
  | _ => true
section
variable {K : PySem.W.Frag} {mg : Mg} {ρ ρ' : Ow} {H H' H2 : Hp} {A A' : Hs} {k : Nat}
theorem RepU.cut {u : U} {v : V} (m : Mv0 ρ' (ρ'.cut k) H' H2) (r : RepU ρ' K mg H' u v) (hc : bel k u = true) : RepU (ρ'.cut k) K mg H2 u v := by
  cases r with
  | d r => exact .d (r.mv m)
  | obj h =>
    rename_i n a
    have hn : n < k := by simpa [bel] using hc
    exact .obj (by show (ρ'.ix.take k)[n]? = _; rw [List.getElem?_take_of_lt hn]; exact h)
  | ty n => exact .ty n
  | glo h => exact .glo h
  | exc h1 n h2 h3 => exact .exc h1 (m.keep _ _ h2 n (fun _ z => by unfold ExcO at z; cases z)).2 (m.keep _ _ h2 n (fun _ z => by unfold ExcO at z; cases z)).1 (h3.mv m)
  | lam h => exact .lam h
theorem RepA.cut {κ : Type} (m : Mv0 ρ' (ρ'.cut k) H' H2) : ∀ {us : List (κ × U)} {vs : List (κ × V)}, RepA ρ' K mg H' us vs → (us.all fun p => bel k p.2) = true → RepA (ρ'.cut k) K mg H2 us vs
  | _, _, .nil, _ => .nil
  | _, _, .cons h r n, c => by
    simp only [List.all_cons, Bool.and_eq_true] at c
    exact .cons (h.cut m c.1) (RepA.cut m r c.2) n
theorem RepO.cut {o : Ob} {ho : HO} (m : Mv0 ρ' (ρ'.cut k) H' H2) (r : RepO ρ' K mg H' o ho) (c : clean k o = true) : RepO (ρ'.cut k) K mg H2 o ho := by
  cases r with
  | lst r => exact .lst (r.mv m)
  | dK r => exact .dK (r.cut m c)
  | dT r => exact .dT (r.cut m c)
theorem Mv0.cut : Mv0 ρ' (ρ'.cut k) H' H' := ⟨fun _ _ h n _ => ⟨h, fun z => n (Ow.mem_cut z)⟩, fun _ _ h => h, fun _ _ _ h => h⟩
theorem Step.cut (hk : ρ.ix.length = k) (s : Step ρ ρ' H H') : Step ρ (ρ'.cut k) H H' := by
  obtain ⟨m, e⟩ := s.pre
  refine ⟨⟨⟨fun a o h n t => ⟨(s.keep a o h n t).1, fun z => (s.keep a o h n t).2 (Ow.mem_cut z)⟩, s.tups, s.frzs⟩, ⟨[], ?_⟩⟩, s.free, s.hid⟩
  show ρ'.ix.take k = _
  rw [e, ← hk]
  simp
theorem RepH.cut {A0 : Hs} (h0 : RepH ρ K mg H A0) (hk : ρ.ix.length = k) (s : Step ρ ρ' H H') (h : RepH ρ' K mg H' A') (c : (A'.take k).all (clean k) = true) : RepH (ρ'.cut k) K mg H' (A'.take k) := by
  refine ⟨?_, ?_, fun n o a e1 e2 => ?_, h.tabs, mg.mono (s.cut hk) h0.inv, h.hid⟩
  · show (ρ'.ix.take k).length = _
    rw [List.length_take, List.length_take, h.len]
  · exact h.nd.sublist (List.Sublist.append (List.take_sublist _ _) (List.Sublist.refl _))
  · have hn : n < k := by
      have := (List.getElem?_eq_some_iff.mp e1).1
      rw [List.length_take] at this
      omega
    have e1' := e1
    rw [List.getElem?_take_of_lt hn] at e1
    have e2 : (ρ'.ix.take k)[n]? = some a := e2
    rw [List.getElem?_take_of_lt hn] at e2
    obtain ⟨ho, q, r⟩ := h.at_ n o a e1 e2
    exact ⟨ho, q, r.cut Mv0.cut (List.all_eq_true.mp c o (List.mem_of_getElem? e1'))⟩
/-- what leaves a call -/
theorem leave_main {keep : Bool} {r r' : R} {A'' : Hs} {v : V} (hH : RepH ρ K mg H A) (e : leave keep A.length r A' = some (r', A'')) (s : Step ρ ρ' H H') (h : RepH ρ' K mg H' A') (rv : RepR ρ H ρ' K mg A' H' r v) :
    ∃ ρ'', Step ρ ρ'' H H' ∧ RepH ρ'' K mg H' A'' ∧ RepR ρ H ρ'' K mg A'' H' r' v ∧ nlR r' = true ∧ ∀ fs d, XAt ρ' K H' fs d → XAt ρ'' K H' fs d := by
  unfold leave at e
  split at e
  · split at e
    · cases e
    · rename_i hr
      cases e
      refine ⟨ρ', s, h, rv, ?_, fun _ _ x => x⟩
      cases r with
      | val u =>
        cases u with
        | lam => exact (hr rfl).elim
        | _ => rfl
      | new o => rfl
  · split at e
    · rename_i hc
      have hk := hH.len
      have g1 := s.cut hk
      have g2 := RepH.cut hH hk s h hc
      have gx : ∀ fs d, XAt ρ' K H' fs d → XAt (ρ'.cut A.length) K H' fs d := fun fs d x => x.mv Mv0.cut
      split at e
      · cases e
      · rename_i n
        cases rv with
        | val ru =>
          split at e
          · rename_i hn
            cases e
            exact ⟨_, g1, g2, .val (ru.cut Mv0.cut hn), rfl, gx⟩
          · rename_i hn
            split at e
            · rename_i o ea
              split at e
              · rename_i co
                cases e
                cases ru with
                | obj hp =>
                  rename_i p
                  obtain ⟨ho, q, ro⟩ := h.at_ _ _ _ ea hp
                  obtain ⟨t1, t2, t3, t4⟩ := ro.notbl
                  have hn' : ¬ n < A.length := by simpa using hn
                  have pix : p ∈ ρ'.ix := List.mem_of_getElem? hp
                  obtain ⟨more, em⟩ := s.pre
                  have nix : p ∉ ρ.ix := fun z => by
                    obtain ⟨j, hj, ej⟩ := List.mem_iff_getElem.mp z
                    have e1 : ρ'.ix[j]? = some p := by
                      rw [em, List.getElem?_append_left hj, List.getElem?_eq_getElem hj, ej]
                    obtain ⟨l1, w1⟩ := List.getElem?_eq_some_iff.mp e1
                    obtain ⟨l2, w2⟩ := List.getElem?_eq_some_iff.mp hp
                    have := (List.getElem_inj (List.nodup_append.mp h.nd).1).mp (w1.trans w2.symm)
                    omega
                  have nρ : p ∉ ρ := fun z => by
                    rcases z with z | z
                    · exact nix z
                    · exact h.ixhid pix (s.hid p z).1
                  have ne : ∀ a u, H' a = some u → u ≠ ho → a ≠ p := fun a u e2 q2 z => by
                    rw [z, q] at e2
                    exact q2 (Option.some.inj e2).symm
                  have mv : Mv0 ρ' (ρ'.cut A.length) H' (cutH H' p) := ⟨fun a u e2 n2 _ => ⟨by rw [cutH_ne (fun z => n2 (by rw [z]; exact .inl pix))]; exact e2, fun z => n2 (Ow.mem_cut z)⟩, fun a xs e2 => by rw [cutH_ne (ne a _ e2 (fun z => t3 xs z.symm))]; exact e2, fun a z x e2 => by rw [cutH_ne (ne a _ e2 (fun w => t4 z x w.symm))]; exact e2⟩
                  have st : Step ρ (ρ'.cut A.length) H (cutH H' p) := by
                    refine ⟨⟨⟨fun a u e2 n2 t => ?_, fun a xs e2 => ?_, fun a z x e2 => ?_⟩, g1.pre⟩, fun a w => ?_, fun a ha => ?_⟩
                    · obtain ⟨w1, w2⟩ := s.keep a u e2 n2 t
                      exact mv.keep a u w1 w2 t
                    · exact mv.tups a xs (s.tups a xs e2)
                    · exact mv.frzs a z x (s.frzs a z x e2)
                    · by_cases z : a = p
                      · rw [z]
                        intro u hu
                        by_cases ht : ∃ ps, u = .tbl ps
                        · exact ht
                        · exact ((s.keep p u hu nρ (fun ps z => ht ⟨ps, z⟩)).2 (.inl pix)).elim
                      · exact s.free a (fun u hu => w u (by rw [cutH_ne z]; exact hu))
                    · obtain ⟨w1, w2⟩ := s.hid a ha
                      exact ⟨w1, by rw [cutH_ne (fun z => nρ (.inr (by rw [← z]; exact ha)))]; exact w2⟩
                  have hcut : RepH (ρ'.cut A.length) K mg (cutH H' p) (A'.take A.length) := by
                    refine ⟨g2.len, g2.nd, fun m o' a e1 e2 => ?_, fun tq htq => ?_, mg.mono st hH.inv, fun b hb => ?_⟩
                    · have hm : m < A.length := by
                        have := (List.getElem?_eq_some_iff.mp e1).1
                        rw [List.length_take] at this
                        omega
                      have e1' := e1
                      rw [List.getElem?_take_of_lt hm] at e1
                      have e2 : (ρ'.ix.take A.length)[m]? = some a := e2
                      rw [List.getElem?_take_of_lt hm] at e2
                      obtain ⟨ho', q', r'⟩ := h.at_ m o' a e1 e2
                      have ap : a ≠ p := fun z => by
                        subst z
                        obtain ⟨l1, w1⟩ := List.getElem?_eq_some_iff.mp e2
                        obtain ⟨l2, w2⟩ := List.getElem?_eq_some_iff.mp hp
                        have := (List.getElem_inj (List.nodup_append.mp h.nd).1).mp (w1.trans w2.symm)
                        omega
                      exact ⟨ho', by rw [cutH_ne ap]; exact q', r'.cut mv (List.all_eq_true.mp hc o' (List.mem_of_getElem? e1'))⟩
                    · obtain ⟨ps, w1, w2, w3⟩ := h.tabs tq htq
                      refine ⟨ps, by rw [cutH_ne (ne _ _ w1 (fun z => t1 ps z.symm))]; exact w1, w2, fun pos cv hcv => ?_⟩
                      obtain ⟨cc, x1, x2⟩ := w3 pos cv hcv
                      exact ⟨cc, x1, by rw [cutH_ne (ne _ _ x2 (fun z => by unfold LamX.CodeO at z; exact t2 _ z.symm))]; exact x2⟩
                    · have bp : b ≠ p := fun z2 => h.ixhid pix (z2 ▸ hb)
                      obtain ⟨w1, w2⟩ := h.hid b hb
                      exact ⟨fun z => w1 (fun u hu => z u (by rw [cutH_ne bp]; exact hu)), fun φ z => w2 φ (by rw [← cutH_ne (H := H') bp]; exact z)⟩
                  have eH : H' = upd (cutH H' p) p ho := upd_back q
                  exact ⟨_, g1, g2, .new st cutH_same eH hcut (ro.cut mv co), rfl, gx⟩
              · cases e
            · cases e
      · rename_i u hu1 hu2
        cases e
        cases rv with
        | val ru =>
          refine ⟨_, g1, g2, .val (ru.cut Mv0.cut ?_), ?_, gx⟩
          · cases u with
            | obj n => exact (hu2 n rfl).elim
            | _ => rfl
          · cases u with
            | lam => exact (hu1 rfl).elim
            | _ => rfl
      · rename_i o
        split at e
        · rename_i co
          cases e
          cases rv with
          | new h0 h1 h2 h3 h4 =>
            exact ⟨_, g1, g2, .new (h0.cut hk) h1 h2 (RepH.cut hH hk h0 h3 hc) (h4.cut Mv0.cut co), rfl, gx⟩
        · cases e
    · cases e
end
end Mi
set_option Elab.async false
set_option linter.all false
set_option maxRecDepth 100000
set_option maxHeartbeats 2000000
/-! MjD: a def by its body. -/
namespace Mi
open PySem PySem.Spec PyProof.Rows L2
theorem RepUs.len {ρ : Ow} {K : PySem.W.Frag} {mg : Mg} {H : Hp} {us : List U} {vs : List V} (h : RepUs ρ K mg H us vs) : us.length = vs.length := by
  induction us generalizing vs with
  | nil => cases h; rfl
  | cons u us ih => cases h with | cons a b => simp [ih b]
theorem RepUs.get {ρ : Ow} {K : PySem.W.Frag} {mg : Mg} {H : Hp} {us : List U} {vs : List V} (h : RepUs ρ K mg H us vs) {i : Nat} {u : U} (e : us[i]? = some u) : ∃ v, vs[i]? = some v ∧ RepU ρ K mg H u v := by
  induction us generalizing vs i with
  | nil => simp at e
  | cons q us ih =>
    cases h with
    | cons a b =>
      cases i with
      | zero =>
        simp at e; subst e
        exact ⟨_, rfl, a⟩
      | succ i =>
        obtain ⟨v, e1, r⟩ := ih b (i := i) (by simpa using e)
        exact ⟨v, by simpa using e1, r⟩
/-- the names at the entry -/
theorem start_rep {ρ : Ow} {K : PySem.W.Frag} {mg : Mg} {H : Hp} {us : List U} {vs : List V} {N : List Str} {np ns : Nat} (h : RepUs ρ K mg H us vs) (h1 : us.length = np) (h2 : ns = N.length) (h3 : np ≤ ns) : RepE ρ K mg H (us.map some ++ List.replicate (ns - np) none) (L2.start N vs) := by
  have hl := h.len
  refine ⟨?_, fun i u e => ?_⟩
  · unfold L2.start
    simp only [List.length_append, List.length_map, List.length_replicate]
    omega
  · by_cases hi : i < us.length
    · rw [List.getElem?_append_left (by simpa using hi), List.getElem?_map] at e
      cases eu : us[i]? with
      | none => rw [eu] at e; cases e
      | some u' =>
        rw [eu] at e
        cases e
        obtain ⟨v, ev, rv⟩ := h.get eu
        refine ⟨v, ?_, rv⟩
        unfold L2.start
        rw [List.getElem?_append_left (by rw [List.length_map, ← hl]; exact hi), List.getElem?_map, ev]
        rfl
    · rw [List.getElem?_append_right (by simpa using hi), List.getElem?_replicate] at e
      split at e <;> cases e
section
variable {K : PySem.W.Frag} {mg : Mg} {G : Ge} {d : Fn} {ρ : Ow} {H : Hp} {A : Hs} {us : List U} {Q : VK} {E : XK}
theorem runFn_len {r : Rs R × Hs} (h : runFn G d us A = some r) : us.length = d.np := by
  unfold runFn at h
  split at h
  · rename_i e; exact of_decide_eq_true e
  · cases h
/-- what a call asks is what its body is asked -/
theorem runFn_ask (hH : RepH ρ K mg H A) (h : Ask K mg (fun cls d _ H => E cls d H) [] ρ H (runFn G d us) A fun r ρ' H' A' => nlR r = true ∧ ∀ v, RepR ρ H ρ' K mg A' H' r v → Q v H') :
    us.length = d.np ∧ AskS K mg (fun cls d _ H => E cls d H) { nx := fun _ H' => Q .non H', rt := Q } ρ H (exs G d.body (us.map some ++ List.replicate (d.ns - d.np) none) A) := by
  cases er : runFn G d us A with
  | none =>
    unfold Ask at h
    rw [er] at h
    exact h.elim
  | some z =>
    have hl := runFn_len er
    refine ⟨hl, ?_⟩
    unfold Ask at h
    rw [er] at h
    have er' := er
    unfold runFn at er
    rw [decide_eq_true hl] at er
    simp only at er
    cases ex : exs G d.body (us.map some ++ List.replicate (d.ns - d.np) none) A with
    | none => rw [ex] at er; cases er
    | some y =>
      obtain ⟨o, δ', A'⟩ := y
      rw [ex] at er
      cases o with
      | nx =>
        obtain ⟨w, ew, rfl⟩ := Option.map_eq_some_iff.mp er
        intro ρ' H' σ' s r rE
        obtain ⟨ρ2, g1, g2, g3, g4, _⟩ := leave_main hH ew s r (v := .non) (.val (.d .non))
        exact (h ρ2 H' g1 g2).2 _ g3
      | rt rr =>
        obtain ⟨w, ew, rfl⟩ := Option.map_eq_some_iff.mp er
        intro ρ' H' v s r rv
        obtain ⟨ρ2, g1, g2, g3, g4, _⟩ := leave_main hH ew s r rv
        exact (h ρ2 H' g1 g2).2 _ g3
      | ex c fs =>
        obtain ⟨w, ew, rfl⟩ := Option.map_eq_some_iff.mp er
        intro ρ' H' σ' C dd s r rE ec x
        obtain ⟨ρ2, g1, g2, g3, g4, gx⟩ := leave_main hH ew s r (v := .non) (.val (.d .non))
        exact h ρ2 H' C dd g1 g2 ec (gx _ _ x)
      | bk => cases er
      | ct => cases er
end
/-- a def of the text -/
structure Df where
  fn : Fn
  N : List Str
  ps : List Str
  scope : Scope
  body : List Stmt
structure DfAt (K : PySem.W.Frag) (D : Df) (a : Addr) (qual : Str) (cdv : Value) (fd : FuncData) : Prop where
  lk : ∃ (name : Str) (params : Arguments) (dV kV doc pm ct oc : Value) (an od : Option Addr) (osl : Array (Option Value)), K.lookup a = some ⟨oc, od, .func fd, osl⟩ ∧ fd = PySem.W.fnOf name qual params D.body D.scope dV kV doc pm an cdv ct
  cd : PySem.W.codeIn K cdv qual = true
  sc : FnScope D.N D.ps D.scope
  np : D.fn.np = D.ps.length
  ns : D.fn.ns = D.N.length
theorem DfAt.le {K : PySem.W.Frag} {D : Df} {a : Addr} {qual : Str} {cdv : Value} {fd : FuncData} (h : DfAt K D a qual cdv fd) : D.fn.np ≤ D.fn.ns := by
  rw [h.np, h.ns]
  have := congrArg List.length h.sc.pre
  rw [List.length_take] at this
  omega
theorem fn_main {P : Program} {w : World} {K : PySem.W.Frag} {mg : Str → Option Value} {base : Heap} {k : Nat} {a : Addr} {fd : FuncData} {qual : Str} {cdv : Value} {D : Df} {m : Mg} {G : Ge} {c : Ck} {exs : List Str} (h : DfAt K D a qual cdv fd)
    (hS : ∀ (A : Around) (outer : List Env) (s : Shared) (H : Hp) (E : XK), Room k (A.deeper (envOfC qual D.scope s.heap.objs.size a cdv)) → A.guards = some [] → Sok (cxOf (L2.CX P w) P w K mg base D.N qual D.scope a cdv A outer s H E) m G c exs)
    (hck : ckSs c exs D.fn.body D.body = true) : FnG P w K mg base (k + 1) a fd D.ps (spF K m (runFn G D.fn)) := by
  have len : ∀ vs H Q E, spF K m (runFn G D.fn) vs H Q E → vs.length = D.ps.length := fun vs H Q E hsp => by
    obtain ⟨ρ, A, us, r1, r2, r3⟩ := hsp
    rw [← r1.len, (runFn_ask r2 r3).1, h.np]
  refine ⟨len, fun A outer s H args us vs Q E hr hg e0 hb r hsp => ?_⟩
  obtain ⟨name, params, dV, kV, doc, pm, ct, oc, an, od, osl, lk, rfl⟩ := h.lk
  refine LamX.run_ofS (N := D.N) (ps := D.ps) lk h.cd h.sc hr e0 hb r (len _ _ _ _ hsp) fun hr' => ?_
  obtain ⟨ρ, A0, us0, r1, r2, r3⟩ := hsp
  obtain ⟨hl, hA⟩ := runFn_ask r2 r3
  have S := hS A outer s H E hr' hg
  have tk : Takes (cxOf (L2.CX P w) P w K mg base D.N qual D.scope a cdv A outer s H E) (fun cls d _ H => E cls d H) := takes_of (X := cxOf (L2.CX P w) P w K mg base D.N qual D.scope a cdv A outer s H E) (E := E) rfl rfl rfl rfl
  have po : PassesOwn (model P w) (A.deeper (envOfC qual D.scope s.heap.objs.size a cdv)) (envOfC qual D.scope s.heap.objs.size a cdv) (cxOf (L2.CX P w) P w K mg base D.N qual D.scope a cdv A outer s H E).xe := passes_of (X := cxOf (L2.CX P w) P w K mg base D.N qual D.scope a cdv A outer s H E) (K := fun e s'' => L2.CX P w outer H s E e s'') rfl
  exact ⟨_, ckSs_main G m c exs (cxOf (L2.CX P w) P w K mg base D.N qual D.scope a cdv A outer s H E) S D.fn.body D.body [] _ _ tk po hck, ρ, A0, _, start_rep r1 hl h.ns h.le, r2, hA⟩
end Mi
set_option Elab.async false
set_option linter.all false
set_option maxRecDepth 100000
set_option maxHeartbeats 2000000
/-! MjE: a lambda that is held is called. -/
namespace Mi
open PySem PySem.Spec PyProof.Rows L2
theorem Ask.sw {α : Type} {K : PySem.W.Frag} {m1 m2 : Mg} {W W' : WX} {σ σ' : L2.St} {ρ : Ow} {H : Hp} {A : Hs} {m : M α} {Φ : α → Ow → Hp → Hs → Prop} (hg : m1.g = m2.g) (hT : m1.T = m2.T) (hW : ∀ cls d H, W cls d σ H → W' cls d σ' H) (h : Ask K m1 W σ ρ H m A Φ) (hi : m1.inv ρ H) : Ask K m2 W' σ' ρ H m A Φ := by
  unfold Ask at h ⊢
  split
  · rename_i e; rw [e] at h; exact h
  · rename_i e; rw [e] at h
    exact fun ρ' H' C d s r e x => hW _ _ _ (h ρ' H' C d s (r.sw hg.symm hT.symm (m1.mono s hi)) (by rw [hg]; exact e) x)
  · rename_i e; rw [e] at h
    exact fun ρ' H' s r => h ρ' H' s (r.sw hg.symm hT.symm (m1.mono s hi))
section
variable {X : Cx} {pins : List (Addr × Obj)} {σ : L2.St} {H : Hp} {s : Shared}
/-- what stays true while a lambda is held: c' its code object, δ the maker's frame -/
def lamInv (K : PySem.W.Frag) (mg : Mg) (δ : Fr) (σ : L2.St) (c' : Addr) (q : Str) : Ow → Hp → Prop := fun ρ H => H c' = some (LamX.CodeO c' q) ∧ c' ∉ ρ ∧ RepE ρ K mg H δ σ ∧ mg.inv ρ H
theorem lamInv_mono {K : PySem.W.Frag} {mg : Mg} {δ : Fr} {σ : L2.St} {c' : Addr} {q : Str} {ρ ρ' : Ow} {H H' : Hp} (st : Step ρ ρ' H H') (h : lamInv K mg δ σ c' q ρ H) : lamInv K mg δ σ c' q ρ' H' := by
  obtain ⟨h1, h2, h3, h4⟩ := h
  obtain ⟨w1, w2⟩ := st.keep _ _ h1 h2 LamX.codeO_ne
  exact ⟨w1, w2, h3.mono st, mg.mono st h4⟩
def Mg.held (mg : Mg) (f : Addr) (J : Ow → Hp → Prop) (hJ : ∀ {ρ ρ' : Ow} {H H' : Hp}, Step ρ ρ' H H' → J ρ H → J ρ' H') : Mg := ⟨mg.g, mg.T, some f, J, hJ⟩
/-- x(), in the def that got the lambda -/
theorem act_main {mg : Mg} {Eg : XK} {Ng : List Str} {qg : Str} {sg : Scope} {g f c' : Addr} {cdg pm ctv : Value} {params : Arguments} {body : Expr} {scope : Scope} {k i : Nat} {a : Str} {pn : List (Addr × Obj)} {xe : Value → Shared → Prop} {W : WX} {m : FM} {δ : Fr} {p1 p2 : Pos}
    (hact : mg.act = none) (I : L2.Inv X pins σ H s) (L : LamX.LamS X.env.scope scope) (hf : s.heap.get? f = some (PySem.W.kla_obj "<lambda>" (X.env.qual ++ "<lambda>") params body scope (cloFrom X.env.cells scope.names []) pm c' ctv)) (hfn : H f = none) (hfr : f ∉ frs X.stack)
    (hbind : bindArgs (PySem.W.kla_fn "<lambda>" (X.env.qual ++ "<lambda>") params body scope (cloFrom X.env.cells scope.names []) pm (.ref c') ctv) ⟨[], []⟩ = pure [])
    (tk : Takes ((cxOf (L2.CX X.prog X.w) X.prog X.w X.K X.mg X.base Ng qg sg g cdg X.A X.stack s H Eg).tr pn xe) W) (hr : Room (k + 1) (X.A.deeper (envOfC qg sg s.heap.objs.size g cdg)))
    (hbody : ∀ (A : Around) (outer : List Env) (s : Shared) (H : Hp) (E : XK), Room k (A.deeper (LamX.lamEnv X scope s.heap.objs.size f c')) → A.guards = X.A.guards → PE (LamX.lamCx X A outer s H E scope f c') body (tR X.K mg (fun cls d _ H => E cls d H) m))
    (hN : Ng[i]? = some a) (hv : Vis sg a) (hd : (a == ("__debug__" : Str)) = false) (hcd : (a == ("__classdict__" : Str)) = false) :
    PE ((cxOf (L2.CX X.prog X.w) X.prog X.w X.K X.mg X.base Ng qg sg g cdg X.A X.stack s H Eg).tr pn xe) (.Call (.Name a p1) [] [] p2)
      (tR X.K (mg.held f (lamInv X.K mg δ σ c' (X.env.qual ++ "<lambda>")) lamInv_mono) W fun δZ => match δZ[i]? with | some (some .lam) => m δ | _ => bad) := by
  refine ⟨fun pinsZ sZ σZ HZ Q IZ h => ?_⟩
  obtain ⟨ρZ, AZ, δZ, hEZ, hHZ, hA⟩ := h
  have hlam : δZ[i]? = some (some .lam) ∧ Ask X.K (mg.held f (lamInv X.K mg δ σ c' (X.env.qual ++ "<lambda>")) lamInv_mono) W σZ ρZ HZ (m δ) AZ (fun r ρ' H' A' => ∀ v, RepR ρZ HZ ρ' X.K (mg.held f (lamInv X.K mg δ σ c' (X.env.qual ++ "<lambda>")) lamInv_mono) A' H' r v → Q v H') := by
    simp only at hA
    split at hA
    · rename_i e; exact ⟨e, hA⟩
    · exact hA.elim
  obtain ⟨eδ, hA⟩ := hlam
  obtain ⟨v0, ev0, rv0⟩ := hEZ.at_ i _ eδ
  have e0 : v0 = .ref f := by
    cases rv0 with
    | lam hl => cases hl; rfl
  subst e0
  obtain ⟨j1, j2, j3, j4⟩ := hHZ.inv
  have hHm : RepH ρZ X.K mg HZ AZ := RepH.sw (m := mg.held f (lamInv X.K mg δ σ c' (X.env.qual ++ "<lambda>")) lamInv_mono) (m' := mg) rfl rfl hHZ j4
  refine wpAny_Call_Name_kw (thn ((pe_var (pos := p1) (i := i) hN hv hd hcd).run pinsZ sZ σZ HZ (fun v H1 => v = .ref f ∧ H1 = HZ) IZ ⟨.ref f, ev0, rfl, rfl⟩) fun u s1 ⟨v, H1, I1, r1, q1⟩ => ?_)
  obtain ⟨ev, eH⟩ := q1
  subst ev
  rw [eH] at I1
  obtain rfl : u = Value.ref f := r1
  have of1 : s1.heap.get? f = some (PySem.W.kla_obj "<lambda>" (X.env.qual ++ "<lambda>") params body scope (cloFrom X.env.cells scope.names []) pm c' ctv) := I1.base.keep f _ hf hfn hfr (fun z => nomatch (show f ∈ ([] : List Addr) from z))
  refine PySem.W.callWith_F0 ⟨_, _, _, _, of1⟩ ?_
  have un : Un (frs X.stack) [] H HZ s.heap s1.heap := I1.base
  obtain ⟨⟨oc, vs, t, hoc, hdc, hvc⟩, _, _⟩ := I1.hok c' _ j1
  have ht : tR X.K mg (fun cls d _ H => W cls d σZ H) m σ HZ Q := by
    refine ⟨ρZ, AZ, δ, j3, hHm, ?_⟩
    refine (Ask.sw (m1 := mg.held f (lamInv X.K mg δ σ c' (X.env.qual ++ "<lambda>")) lamInv_mono) (m2 := mg) (W' := fun cls d _ H => W cls d σZ H) (σ' := σ) rfl rfl (fun _ _ _ z => z) hA hHZ.inv).mono fun r ρ' H' A' s' hh' k v rv => k v ?_
    by_cases hn : nlR r = true
    · exact RepR.sw (m := mg) (m' := mg.held f (lamInv X.K mg δ σ c' (X.env.qual ++ "<lambda>")) lamInv_mono) rfl rfl rv hn fun ρ2 H2 s2 => lamInv_mono s2 hHZ.inv
    · cases rv with
      | val ru =>
        cases ru with
        | lam hl => rw [hact] at hl; cases hl
        | _ => exact (hn rfl).elim
      | new _ _ _ _ _ => exact (hn rfl).elim
  have rc : codeAny (model X.prog X.w) (X.A.deeper (envOfC qg sg s.heap.objs.size g cdg)) (.call (.ref f) ⟨[], []⟩) (CR (L2.CX X.prog X.w) (envOfC qg sg s.heap.objs.size g cdg :: X.stack) X.prog X.w HZ s1 Q (WE W σZ)) s1 := by
    refine PySem.W.kla_callFunE hr.depth of1 rfl L.co L.gen rfl ⟨c', oc, vs, t, rfl, hoc, hdc, hvc⟩ ?_
    rw [hbind]
    refine wpAny_pure (wpAny_newFunctionEnv (fun y hy => (L.own y hy).2) (fun y hy => absurd hy (by simp)) (fun h₁ hns hsb => ⟨I1.nolimit.fresh _ hsb, ?_⟩) L.kind)
    show codeAny _ _ (.expr body (LamX.lamEnv X scope s1.heap.objs.size f c')) _ _
    have kp : ∀ b o, s1.heap.get? b = some o → h₁.get? b = some o := fun b o e => hsb.extBut b o (Nat.ne_of_lt (Heap.lt_size e)) (Heap.get?_push_of_some _ e)
    have J : L2.Inv (LamX.lamCx X (X.A.deeper (envOfC qg sg s.heap.objs.size g cdg)) (envOfC qg sg s.heap.objs.size g cdg :: X.stack) s1 HZ (WE W σZ) scope f c') [] σ HZ { s1 with heap := h₁, toks := s1.toks + ([] : List (Str × Value)).length } :=
      LamX.lam_start2 I L I1.env0 hr.hd un hns kp
    refine PySem.W.kla_codeExpr (wpAny_mono ((hbody _ _ s1 HZ (WE W σZ) (hr.deeper _) rfl).run [] _ _ HZ Q J ht) (fun v s' hq => ?_) fun e s' hq => hq)
    obtain ⟨w', H', J', rv, q⟩ := hq
    exact ⟨w', H', J'.os, J'.bare, J'.base, J'.hok, rv, q⟩
  refine wpAny_call (codeAny_mono rc fun r s' hq => ?_)
  cases r with
  | error e => exact passAt tk σZ pinsZ HZ s1 e s' I1 hq
  | ok fl =>
    cases fl with
    | ret u => exact I1.after hq
    | next => exact False.elim hq
    | brk => exact False.elim hq
    | cont => exact False.elim hq
end
end Mi
set_option Elab.async false
set_option linter.all false
set_option maxRecDepth 100000
set_option maxHeartbeats 2000000
/-! MjF: a lambda is made and handed on. -/
namespace Mi
open PySem PySem.Spec PyProof.Rows L2
theorem leave_nl {keep : Bool} {k : Nat} {r r' : R} {A A' : Hs} (e : leave keep k r A = some (r', A')) : nlR r' = true := by
  unfold leave at e
  split at e
  · split at e
    · cases e
    · rename_i hr
      cases e
      cases r with
      | val u =>
        cases u with
        | lam => exact (hr rfl).elim
        | _ => rfl
      | new o => rfl
  · split at e
    · split at e
      · cases e
      · split at e
        · cases e; rfl
        · split at e
          · split at e
            · cases e; rfl
            · cases e
          · cases e
      · rename_i u hu1 hu2
        cases e
        cases u with
        | lam => exact (hu1 rfl).elim
        | _ => rfl
      · split at e
        · cases e; rfl
        · cases e
    · cases e
theorem runFn_nl {G : Ge} {d : Fn} {us : List U} {A A' : Hs} {r : R} (h : runFn G d us A = some (.ok r, A')) : nlR r = true := by
  unfold runFn at h
  split at h
  · split at h
    · obtain ⟨w, ew, e⟩ := Option.map_eq_some_iff.mp h
      cases e
      exact leave_nl ew
    · obtain ⟨w, ew, e⟩ := Option.map_eq_some_iff.mp h
      cases e
      exact leave_nl ew
    · obtain ⟨w, ew, e⟩ := Option.map_eq_some_iff.mp h
      cases e
    · cases h
  · cases h
/-- the heap grows by a lambda's code object -/
theorem step_ext {ρ : Ow} {K : PySem.W.Frag} {mg : Mg} {H H1 : Hp} {A : Hs} (hH : RepH ρ K mg H A) (e : LamX.ExtN H H1) (t : LamX.Tabs mg.T H1) : Step ρ ρ H H1 ∧ RepH ρ K mg H1 A := by
  have st : Step ρ ρ H H1 := by
    refine ⟨⟨⟨fun a o h n nt => ⟨e a o h nt, n⟩, fun a xs h => e a _ h (fun _ z => by cases z), fun a o u h => e a _ h (fun _ z => by cases z)⟩, ⟨[], by simp⟩⟩, fun a z o h => ?_, fun a ha => ⟨ha, ?_⟩⟩
    · by_cases ht : ∃ ps, o = .tbl ps
      · exact ht
      · exact z o (e a o h (fun ps q => ht ⟨ps, q⟩))
    · obtain ⟨w1, _⟩ := hH.hid a ha
      cases q : H a with
      | none => exact (w1 (Fre.of q)).elim
      | some o =>
        refine e a o q fun ps z => w1 fun o' q' => ?_
        rw [q] at q'
        cases q'
        exact ⟨ps, z⟩
  refine ⟨st, hH.len, hH.nd, fun n o a e1 e2 => ?_, t, mg.mono st hH.inv, hH.hids st fun _ h => h⟩
  obtain ⟨ho, q, r⟩ := hH.at_ n o a e1 e2
  exact ⟨ho, e a ho q r.notbl.1, r.mono st⟩
theorem lam_main {X : Cx} {mg : Mg} {W : WX} {m : FM} {G' : M R → Ge} {D : Df} {cg : Ck} {exs : List Str} {x a : Str} {g c P : Addr} {k : Nat} {cdv : Value} {fd : FuncData} {params : Arguments} {body : Expr} {scope : Scope} {p lpos pos : Pos} (hact : mg.act = none) (hmg : mg.g = X.mg) (hg : Gl X x) (hdb : (x == ("__debug__" : Str)) = false) (hm : X.mg x = some (.ref g)) (hk : PySem.W.keepIn X.K (.ref g) = true)
    (hD : DfAt X.K D g x cdv fd) (hps : D.ps = [a]) (hb : L2.Binds X.K fd D.ps []) (hck : ckSs cg exs D.fn.body D.body = true) (hlams : cg.lams = []) (hcN : cg.N = D.N)
    (hdeed : ∀ d, (G' d).deed = d)
    (TB : LamX.TabB X.base X.mg c P) (hcode : X.env.code = .ref c) (hmT : (P, X.env.qual ++ "<lambda>") ∈ mg.T) (hu : ∀ p ∈ mg.T, p.1 = P → p.2 = X.env.qual ++ "<lambda>") (hgd : X.A.guards = some []) (hr : Room (k + 2) X.A) (L : LamX.LamS X.env.scope scope) (hdef : defaultsOf params X.env = ([], [])) (tk : Takes X W)
    (hbind : ∀ (q : Str) (cl : List (Str × Addr)) (pm cv ctv : Value), bindArgs (PySem.W.kla_fn "<lambda>" q params body scope cl pm cv ctv) ⟨[], []⟩ = pure [])
    (hbody : ∀ (f c' : Addr) (A : Around) (outer : List Env) (s : Shared) (H : Hp) (E : XK), Room k (A.deeper (LamX.lamEnv X scope s.heap.objs.size f c')) → A.guards = X.A.guards → PE (LamX.lamCx X A outer s H E scope f c') body (tR X.K mg (fun cls d _ H => E cls d H) m))
    (hC : ∀ (s : Shared) (H : Hp) (E : XK) (m' : Mg) (dd : M R) (pn : List (Addr × Obj)) (xe : Value → Shared → Prop) (W' : WX), m'.g = mg.g → m'.T = mg.T → Takes ((cxOf (L2.CX X.prog X.w) X.prog X.w X.K X.mg X.base D.N x D.scope g cdv X.A X.stack s H E).tr pn xe) W' →
      Cok0 ((cxOf (L2.CX X.prog X.w) X.prog X.w X.K X.mg X.base D.N x D.scope g cdv X.A X.stack s H E).tr pn xe) m' (G' dd) W' cg ∧ RaisOk ((cxOf (L2.CX X.prog X.w) X.prog X.w X.K X.mg X.base D.N x D.scope g cdv X.A X.stack s H E).tr pn xe) m' (G' dd) W' exs) :
    PE X (.Call (.Name x p) [.Lambda params body scope lpos] [] pos) (tR X.K mg W fun δ => runFn (G' (m δ)) D.fn [.lam]) := by
  refine ⟨fun pins s σ H Q I h => ?_⟩
  obtain ⟨ρ, A, δ, hE, hH, h⟩ := h
  refine wpAny_Call_Name_kw (ld_glob I hg hm ?_ hdb)
  refine PySem.W.callWith_K (h₀ := X.base) I.ok.mod.kin hk ?_ (by rfl) (by rfl)
  show wpAny _ _ (spliced ((false, eval (.Lambda params body scope lpos) X.env) :: backTo pos (starEach [] X.env))) _ _ s
  refine Calls.spliced_cons (LamX.lam_make2 I TB hcode hmT hu hH.tabs hdef (L.has I.ok) fun f c' pm' ctv H1 s' I1 eN T1 hf hfn hfr hco => ?_)
  refine Calls.spliced_nil ⟨I1.kIn, ?_⟩
  obtain ⟨st, hH1⟩ := step_ext hH eN T1
  have ncρ : c' ∉ ρ := fun z => by
    rcases z with z | z
    · obtain ⟨n, hn, e⟩ := List.mem_iff_getElem.mp z
      obtain ⟨_, ho, _, q, r⟩ := hH1.ob (n := n) (a := c') (by rw [List.getElem?_eq_getElem hn, e])
      rw [hco] at q
      exact r.notbl.2.1 _ (Option.some.inj q).symm
    · exact (hH1.hid c' z).2 _ hco
  have hinv : lamInv X.K mg δ σ c' (X.env.qual ++ "<lambda>") ρ H1 := ⟨hco, ncρ, hE.mono st, mg.mono st hH.inv⟩
  have hH2 : RepH ρ X.K (mg.held f (lamInv X.K mg δ σ c' (X.env.qual ++ "<lambda>")) lamInv_mono) H1 A := RepH.sw (m := mg) rfl rfl hH1 hinv
  have h2 : Ask X.K (mg.held f (lamInv X.K mg δ σ c' (X.env.qual ++ "<lambda>")) lamInv_mono) (fun cls d _ H => WE W σ cls d H) [] ρ H1 (runFn (G' (m δ)) D.fn [.lam]) A fun r ρ' H' A' => nlR r = true ∧ ∀ v, RepR ρ H1 ρ' X.K (mg.held f (lamInv X.K mg δ σ c' (X.env.qual ++ "<lambda>")) lamInv_mono) A' H' r v → Q v H' := by
    have a1 := Ask.sw (m1 := mg) (m2 := mg.held f (lamInv X.K mg δ σ c' (X.env.qual ++ "<lambda>")) lamInv_mono) (W' := fun cls d _ H => WE W σ cls d H) (σ' := []) rfl rfl (fun _ _ _ z => z) (Ask.later h st) hH1.inv
    refine (a1.and (P := fun r => nlR r = true) (fun r A' e => runFn_nl e)).mono fun r ρ' H' A' s' hh' q => ⟨q.1, fun v rv => q.2 v ?_⟩
    exact (RepR.sw (m := mg.held f (lamInv X.K mg δ σ c' (X.env.qual ++ "<lambda>")) lamInv_mono) (m' := mg) rfl rfl rv q.1 fun ρ2 H2 s2 => mg.mono s2 hH1.inv).back st
  obtain ⟨hl, hA⟩ := runFn_ask hH2 h2
  have rc : codeAny (model X.prog X.w) X.A (.call (.ref g) ⟨[.ref f], []⟩) (CR (L2.CX X.prog X.w) X.stack X.prog X.w H1 s' Q (WE W σ)) s' := by
    obtain ⟨name, params', dV, kV, doc, pm, ct, oc, an, od, osl, lk, rfl⟩ := hD.lk
    refine LamX.run_ofS (N := D.N) (ps := D.ps) (us := [.ref f]) (vs := [.ref f]) (k := k + 1) lk hD.cd hD.sc hr I1.env0 (by
      have b := hb s' [.ref f] I1.kIn (by rw [hps]; rfl)
      simpa using b) (.cons rfl .nil) (by rw [hps]; rfl) fun hr' => ?_
    have S : Sok (cxOf (L2.CX X.prog X.w) X.prog X.w X.K X.mg X.base D.N x D.scope g cdv X.A X.stack s' H1 (WE W σ)) (mg.held f (lamInv X.K mg δ σ c' (X.env.qual ++ "<lambda>")) lamInv_mono) (G' (m δ)) cg exs := by
      refine ⟨rfl, rfl, rfl, fun pn xe W' tk' => (hC s' H1 (WE W σ) (mg.held f (lamInv X.K mg δ σ c' (X.env.qual ++ "<lambda>")) lamInv_mono) (m δ) pn xe W' rfl rfl tk').1, fun pn xe W' tk' => ⟨fun i y p1 p2 q1 q2 q3 q4 => ?_, fun f' hf' => ?_⟩, fun pn xe W' tk' => (hC s' H1 (WE W σ) (mg.held f (lamInv X.K mg δ σ c' (X.env.qual ++ "<lambda>")) lamInv_mono) (m δ) pn xe W' rfl rfl tk').2⟩
      · rw [hdeed]
        exact act_main (k := k) hact I1 L hf hfn hfr (hbind _ _ _ _ _) tk' hr' (fun A outer s H E hr2 hg2 => hbody f c' A outer s H E hr2 hg2) q1 q2 q3 q4
      · rw [hlams] at hf'; cases hf'
    have tkZ : Takes (cxOf (L2.CX X.prog X.w) X.prog X.w X.K X.mg X.base D.N x D.scope g cdv X.A X.stack s' H1 (WE W σ)) (fun cls d _ H => WE W σ cls d H) := takes_of (X := cxOf (L2.CX X.prog X.w) X.prog X.w X.K X.mg X.base D.N x D.scope g cdv X.A X.stack s' H1 (WE W σ)) (E := WE W σ) rfl rfl rfl rfl
    have po : PassesOwn (model X.prog X.w) (X.A.deeper (envOfC x D.scope s'.heap.objs.size g cdv)) (envOfC x D.scope s'.heap.objs.size g cdv) (cxOf (L2.CX X.prog X.w) X.prog X.w X.K X.mg X.base D.N x D.scope g cdv X.A X.stack s' H1 (WE W σ)).xe := passes_of (X := cxOf (L2.CX X.prog X.w) X.prog X.w X.K X.mg X.base D.N x D.scope g cdv X.A X.stack s' H1 (WE W σ)) (K := fun e s'' => L2.CX X.prog X.w X.stack H1 s' (WE W σ) e s'') rfl
    exact ⟨_, ckSs_main (G' (m δ)) _ cg exs (cxOf (L2.CX X.prog X.w) X.prog X.w X.K X.mg X.base D.N x D.scope g cdv X.A X.stack s' H1 (WE W σ)) S D.fn.body D.body [] _ _ tkZ po hck, ρ, A, _, start_rep (us := [.lam]) (.cons (.lam rfl) .nil) hl hD.ns hD.le, hH2, hA⟩
  refine wpAny_call (codeAny_mono rc fun r s2 hq => ?_)
  cases r with
  | error e => exact passAt tk σ pins H1 s' e s2 I1 hq
  | ok fl =>
    cases fl with
    | ret u => exact I1.after hq
    | next => exact False.elim hq
    | brk => exact False.elim hq
    | cont => exact False.elim hq
end Mi
set_option Elab.async false
set_option linter.all false
set_option maxRecDepth 100000
set_option maxHeartbeats 2000000
/-! MjG: own exceptions are made. -/
namespace Mi
open PySem PySem.Spec PyProof.Rows L2
/-- what __init__(self, y) of an own exception class does: the field f is set -/
def spInit (C : Addr) (f : Str) : Sp := fun vs H Q _ => ∃ (a : Addr) (y : V), vs = [.ref a, y] ∧ H a = some (exo a C none) ∧ ∀ dx, H dx = none → dx ≠ a → Q .non (upd (upd H dx (exd dx [(f, y)])) a (exo a C (some dx)))
theorem init_ok {CX : CXT} {P : Program} {w : World} {K : PySem.W.Frag} {mg : Str → Option Value} {base : Heap} {k : Nat} {fI C : Addr} {name qual : Str} {params : Arguments} {scope : Scope} {dV kV doc pm cdv ct oc : Value} {an od : Option Addr} {osl : Array (Option Value)} {self prm f txt : Str} {j : Nat} {p1 p2 p3 p4 p5 p6 p7 p8 p9 p10 : Pos} {pl : Env → Sem Bool}
    (hc : ∀ env, eval (.Call (.Attribute (.Name "ValueError" p1) "__init__" p2) [.Name self p3, .Constant (.str txt) j p4] [] p5) env = (do
      let ov ← eval (.Name "ValueError" p1) env
      standAt p2.atName
      let (f, first) ← holding [ov] (getMethod ov "__init__" (pl env))
      callWith p5 f first (backTo p5 (starEach [.Name self p3, .Constant (.str txt) j p4] env)) (backToKw p5 (keywordEach [] env))))
    (lk : K.lookup fI = some ⟨oc, od, .func (PySem.W.fnOf name qual params [.Expr (.Call (.Attribute (.Name "ValueError" p1) "__init__" p2) [.Name self p3, .Constant (.str txt) j p4] [] p5) p6, .Assign [.Attribute (.Name self p7) f p8] (.Name prm p9) p10] scope dV kV doc pm an cdv ct), osl⟩)
    (hcd : PySem.W.codeIn K cdv qual = true) (S : FnScope [self, prm] [self, prm] scope) (hge : scope.names.lookup ("ValueError" : Str) = some .globalImplicit) (hm : mg "ValueError" = none) (vV : PySem.W.findCls K (.type "ValueError") (.type "type") "__init__" = some (.val (.builtin "ValueError.__init__"))) (T : OexC K C) (hno : PySem.W.findIn K (.ref C) f = some none)
    (hv1 : Vis scope self) (hv2 : Vis scope prm) (d1 : (self == ("__debug__" : Str)) = false) (d2 : (self == ("__classdict__" : Str)) = false) (d3 : (prm == ("__debug__" : Str)) = false) (d4 : (prm == ("__classdict__" : Str)) = false) :
    FnOk P w K mg base CX (k + 1) fI (PySem.W.fnOf name qual params [.Expr (.Call (.Attribute (.Name "ValueError" p1) "__init__" p2) [.Name self p3, .Constant (.str txt) j p4] [] p5) p6, .Assign [.Attribute (.Name self p7) f p8] (.Name prm p9) p10] scope dV kV doc pm an cdv ct) [self, prm] (spInit C f) := by
  refine fn_of lk hcd S (fun vs H Q E h => ?_) fun A outer s H vs Q E hr h => ?_
  · obtain ⟨a, y, rfl, _⟩ := h
    rfl
  · obtain ⟨a, y, rfl, ha, q⟩ := h
    refine ⟨_, pss_cons (ps_expr (pe_veinit (pl := pl _) hge hm vV (pa_cons (pe_var (i := 0) rfl hv1 d1 d2) (pa_cons pe_str pa_nil)) (hc _))) (pss_one (ps_ost (pe_var (i := 0) rfl hv1 d1 d2) (pe_var (i := 1) rfl hv2 d3 d4))), ?_⟩
    refine ⟨.ref a, rfl, a, C, [.str txt], rfl, by simp, T, ha, ?_⟩
    exact ⟨y, rfl, .ref a, rfl, a, C, rfl, T, hno, .inl ⟨ha, fun dx h1 h2 => q dx h1 h2⟩⟩
theorem pmk_imp {X : Cx} {e : Expr} {t t' : L2.St → Hp → XK → Prop} (h : PMk X e t) (k : ∀ σ H Q, t' σ H Q → t σ H Q) : PMk X e t' := fun pins s σ H Q I q => h pins s σ H Q I (k σ H Q q)
theorem rais_oex {X : Cx} {mg : Mg} {W : WX} {flds : Str → Option (List Str)} {c f : Str} {C fI : Addr} {k : Nat} {fd : FuncData} {ps : List Str} {p pos : Pos} {z : Expr} {zs : List Expr} {ms : Fr → M (List U)} (hfl : flds c = some [f]) (T : OexC X.K C) (iC : PySem.W.findIn X.K (.ref C) "__init__" = some (some (.ref fI))) (tI : PySem.W.typeIn X.K (.ref fI) = some (.type "function"))
    (F1 : FnOk X.prog X.w X.K X.mg X.base (L2.CX X.prog X.w) k fI fd ps (spInit C f)) (hr : Room (k + 1) X.A) (hb : L2.Binds X.K fd ps []) (tk : Takes X W) (hg : Gl X c) (hm : X.mg c = some (.ref C)) (hmc : mg c = some (.ref C)) (hdb : (c == ("__debug__" : Str)) = false) (ha : PA X (z :: zs) (tRs X.K mg W ms)) (ns : NS (z :: zs)) :
    PMk X (.Call (.Name c p) (z :: zs) [] pos) (tMk X.K mg W flds c ms) := by
  refine pmk_imp (pmk_oex T iC tI F1 hr hb .nil (passes_call tk fun _ _ _ _ z => z.elim) hg hm ha hdb (okX_star (ns z (by simp)) _ _) (NS.any (fun w hw => ns w (by simp [hw])) _ _)) fun σ H Q h => ?_
  obtain ⟨ρ, A, δ, hE, hH, h⟩ := h
  refine ⟨ρ, A, δ, hE, hH, h.mono fun us ρ1 H1 A1 s1 hH1 hq vs rv => ?_⟩
  obtain ⟨fs, ef, q⟩ := hq
  unfold excF at ef
  rw [hfl] at ef
  simp only at ef
  obtain ⟨qs, eq, ef⟩ := Option.bind_eq_some_iff.mp ef
  split at ef
  · rename_i hl
    cases ef
    have rp := rv.data eq
    match qs, vs, hl, rp with
    | [p0], [y], _, .cons r0 .nil =>
      refine ⟨by simp, fun a hna => ⟨a, y, rfl, upd_same, fun dx hd ne => ⟨rfl, dx, [(f, y)], upd_same, by rw [upd_ne ne, upd_same], by rw [upd_ne ne] at hd; exact hd, ?_⟩⟩⟩
      have hd1 : H1 dx = none := by rw [upd_ne ne] at hd; exact hd
      have eH : upd (del (upd (upd (upd H1 a (exo a C none)) dx (exd dx [(f, y)])) a (exo a C (some dx))) a) dx (.xd [(f, y)]) = upd H1 dx (.xd [(f, y)]) := by
        funext b
        by_cases b1 : b = dx
        · rw [b1, upd_same, upd_same]
        · rw [upd_ne b1, upd_ne b1]
          by_cases b2 : b = a
          · rw [b2, del_same, hna]
          · rw [del_ne b2, upd_ne b2, upd_ne b1, upd_ne b2]
      rw [eH]
      have st := hH1.stp (o := .xd [(f, y)]) hd1
      exact q ρ1 _ C (some dx) st (hH1.new hd1) hmc (.inr ⟨dx, [(f, y)], rfl, hH1.notin (Fre.of hd1), upd_same, .cons (r0.mono st) .nil⟩)
  · cases ef
end Mi
set_option Elab.async false
set_option linter.all false
set_option maxRecDepth 100000
set_option maxHeartbeats 2000000
/-! MjH: what the module holds; contexts from it. -/
namespace Mi
open PySem PySem.Spec PyProof.Rows L2
def mg0 (g : Str → Option Value) (T : List (Addr × Str)) : Mg := ⟨g, T, none, fun _ _ => True, fun _ h => h⟩
theorem ClsAt.sw {m m' : Mg} (hg : m.g = m'.g) {t : String ⊕ Str} {v : V} {u : Value} (h : ClsAt m t v u) : ClsAt m' t v u := by
  cases h with
  | ty n => exact .ty n
  | own h => exact .own (by rw [← hg]; exact h)
theorem SubOk.sw {sb : Sub} {K : PySem.W.Frag} {m m' : Mg} (hg : m.g = m'.g) (h : SubOk sb K m) : SubOk sb K m' :=
  ⟨fun c t b C e hc => h.exc c t b C e (by rw [hg]; exact hc), fun c t b C v u e hc ha => h.kit c t b C v u e (by rw [hg]; exact hc) (ha.sw hg.symm), fun c k b C D e hc hk => h.exm c k b C D e (by rw [hg]; exact hc) (by rw [hg]; exact hk)⟩
/-- the lists of names -/
structure Nms where
  cls : List Str
  fns : List Str
  kds : List Str
  exs : List Str
def KdAt (K : PySem.W.Frag) (w : World) (g : Str → Option Value) (x : Str) (kvs : List (Str × PyData)) : Prop := ∃ (d : Addr) (es : Array DictEntry) (n : Nat), g x = some (.ref d) ∧ KDict K w d es n ∧ ∀ z, (kvs.lookup z = none ∧ PySem.W.nsIn K d z = some none) ∨ ∃ q u0 v0, kvs.lookup z = some q ∧ PySem.W.nsIn K d z = some (some u0) ∧ RelV v0 u0 ∧ ∀ ρ H, RepP ρ K H q v0
structure Sta (P : Program) (w : World) (K : PySem.W.Frag) (g : Str → Option Value) (base : Heap) (go : Go) (n : Nms) : Prop where
  sub : SubOk go.sub K (mg0 g [])
  fld : ∀ c f C, ((go.flds c).getD []).contains f = true → g c = some (.ref C) → XfC K C ∧ PySem.W.findIn K (.ref C) f = some none
  blt : ∀ x ∈ bltN, g x = none
  cls : ∀ x ∈ n.cls, ∃ C, g x = some (.ref C)
  gcs : ∀ x u, go.gcs x = some u → nl u = true ∧ ∃ val v, g x = some val ∧ RelV v val ∧ ∀ ρ H, RepU ρ K (mg0 g []) H u v
  kds : ∀ x ∈ n.kds, ∃ kvs, go.kds x = some kvs ∧ KdAt K w g x kvs
  exs : ∀ y ∈ n.exs, ∃ (C fI : Addr) (fd : FuncData) (ps : List Str) (f : Str), go.flds y = some [f] ∧ g y = some (.ref C) ∧ OexC K C ∧ PySem.W.findIn K (.ref C) "__init__" = some (some (.ref fI)) ∧ PySem.W.typeIn K (.ref fI) = some (.type "function") ∧ FnOk P w K g base (L2.CX P w) 1 fI fd ps (spInit C f) ∧ L2.Binds K fd ps []
theorem cok_of {P : Program} {w : World} {K : PySem.W.Frag} {g : Str → Option Value} {base : Heap} {go : Go} {n : Nms} (S : Sta P w K g base go n) {X : Cx} {mg : Mg} {G : Ge} {W : WX} {c : Ck} {k : Nat} (hP : X.prog = P) (hw : X.w = w) (hK : X.K = K) (hmv : X.mg = g) (hba : X.base = base) (hgo : G.o = go) (hmg : mg.g = g)
    (h1 : c.cls = n.cls) (h2 : c.fns = n.fns) (h3 : c.kds = n.kds) (hN : X.N = c.N) (hsc : X.env.scope = c.sc) (hfn : X.fn = c.fn) (nd : X.N.Nodup) (calm : X.calm = true) (hr : Room k X.A) (gd : X.A.guards = some []) (tk : Takes X W) (hc : ∀ f ∈ n.fns, CallOk X mg f (G.call f)) : Cok0 X mg G W c := by
  subst hP hw hK hmv hba hgo
  have hg0 : (mg0 X.mg []).g = mg.g := hmg.symm
  refine ⟨hN, hsc, hfn, nd, calm, hmg, by have := hr.un; omega, gd, tk, S.sub.sw hg0, ⟨fun c f C e hc => S.fld c f C e (by rw [← hmg]; exact hc)⟩, S.blt, by rw [h1]; exact S.cls, fun x u e => ?_, ?_, by rw [h2]; exact hc⟩
  · obtain ⟨z, val, v, e1, e2, e3⟩ := S.gcs x u e
    exact ⟨val, v, e1, e2, fun ρ H => (e3 ρ H).sw hg0 z⟩
  · rw [h3]
    intro x hx
    obtain ⟨kvs, e1, e2⟩ := S.kds x hx
    exact ⟨kvs, e1, ⟨e2⟩⟩
theorem rais_of {P : Program} {w : World} {K : PySem.W.Frag} {g : Str → Option Value} {base : Heap} {go : Go} {n : Nms} (S : Sta P w K g base go n) {X : Cx} {mg : Mg} {G : Ge} {W : WX} (hP : X.prog = P) (hw : X.w = w) (hK : X.K = K) (hmv : X.mg = g) (hba : X.base = base) (hgo : G.o = go) (hmg : mg.g = g) (hr : Room 2 X.A) (tk : Takes X W) : RaisOk X mg G W n.exs := by
  subst hP hw hK hmv hba hgo
  intro y hy p pos z zs ms hgl hdb ha ns
  obtain ⟨C, fI, fd, ps, f, e1, e2, e3, e4, e5, e6, e7⟩ := S.exs y hy
  exact rais_oex e1 e3 e4 e5 e6 hr e7 tk hgl e2 (by rw [hmg]; exact e2) hdb ha ns
end Mi
set_option Elab.async false
set_option linter.all false
set_option maxRecDepth 100000
set_option maxHeartbeats 2000000
/-! MjI: all defs, level by level. -/
namespace Mi
open PySem PySem.Spec PyProof.Rows L2
/-- a def, and the defs to which it hands lambdas -/
structure Ent where
  f : Str
  D : Df
  lams : List Str
def ckOf (n : Nms) (e : Ent) : Ck := ⟨e.D.N, e.D.scope, fun _ => true, n.cls, n.fns, n.kds, e.lams, true⟩
structure EntOk (K : PySem.W.Frag) (g : Str → Option Value) (base : Heap) (T : List (Addr × Str)) (n : Nms) (tab : Tab) (e : Ent) (a : Addr) (cdv : Value) (fd : FuncData) : Prop where
  gm : g e.f = some (.ref a)
  kp : PySem.W.keepIn K (.ref a) = true
  bd : L2.Binds K fd e.D.ps []
  df : DfAt K e.D a e.f cdv fd
  ck : ckSs (ckOf n e) n.exs e.D.fn.body e.D.body = true
  tb : fnd tab e.f = some e.D.fn
  lm : e.lams ≠ [] → ∃ (c P : Addr), cdv = .ref c ∧ LamX.TabB base g c P ∧ (P, (e.f ++ ".<locals>.") ++ "<lambda>") ∈ T ∧ ∀ p ∈ T, p.1 = P → p.2 = (e.f ++ ".<locals>.") ++ "<lambda>"
structure AllOk (P : Program) (w : World) (K : PySem.W.Frag) (g : Str → Option Value) (base : Heap) (T : List (Addr × Str)) (n : Nms) (Pr : Pr) (es : List Ent) : Prop where
  sta : Sta P w K g base Pr.o n
  ent : ∀ e ∈ es, ∃ a cdv fd, EntOk K g base T n Pr.tab e a cdv fd
  fns : ∀ f ∈ n.fns, ∃ e ∈ es, e.f = f
  lms : ∀ e ∈ es, ∀ f ∈ e.lams, ∃ e' ∈ es, e'.f = f ∧ e'.lams = [] ∧ ∃ x, e'.D.ps = [x]
def lev (n : Nat) : Nat := 3 * n + 3
/-- the promise of the level -/
def LevOk (P : Program) (w : World) (K : PySem.W.Frag) (g : Str → Option Value) (base : Heap) (T : List (Addr × Str)) (n : Nms) (Pr : Pr) (es : List Ent) (l : Nat) : Prop :=
  ∀ e ∈ es, ∀ a cdv fd, EntOk K g base T n Pr.tab e a cdv fd → FnG P w K g base (lev l) a fd e.D.ps (spF K (mg0 g T) (callN Pr l e.f))
theorem callN_nl {Pr : Pr} {l : Nat} {f : Str} {us : List U} {A A' : Hs} {r : R} (h : callN Pr l f us A = some (.ok r, A')) : nlR r = true := by
  cases l with
  | zero => simp only [callN, bad] at h; cases h
  | succ l =>
    simp only [callN] at h
    cases ef : fnd Pr.tab f with
    | none => rw [ef] at h; cases h
    | some d => rw [ef] at h; exact runFn_nl h
section
variable {P : Program} {w : World} {K : PySem.W.Frag} {g : Str → Option Value} {base : Heap} {T : List (Addr × Str)} {n : Nms} {Pr : Pr} {es : List Ent} {l : Nat}
theorem LevOk.call (hA : AllOk P w K g base T n Pr es) (hL : LevOk P w K g base T n Pr es l) {X : Cx} {mg : Mg} (hP : X.prog = P) (hw : X.w = w) (hK : X.K = K) (hmv : X.mg = g) (hba : X.base = base) (hmg : mg.g = g) (hT : mg.T = T) (hr : Room (lev l) X.A) : ∀ f ∈ n.fns, CallOk X mg f (callN Pr l f) := by
  subst hP hw hK hmv hba hT
  intro f hf
  obtain ⟨e, he, rfl⟩ := hA.fns f hf
  obtain ⟨a, cdv, fd, E⟩ := hA.ent e he
  refine ⟨⟨a, fd, e.D.ps, lev l, E.gm, E.kp, E.bd, hr, ?_⟩, fun us A r A' h => callN_nl h⟩
  have h := hL e he a cdv fd E
  have em : mg.off = mg0 X.mg mg.T := by
    unfold Mg.off mg0
    rw [hmg]
  rw [em]
  exact h
end
end Mi
set_option Elab.async false
set_option linter.all false
set_option maxRecDepth 100000
set_option maxHeartbeats 2000000
/-! MjJ: the level theorem. -/
namespace Mi
open PySem PySem.Spec PyProof.Rows L2
theorem pe_bad {X : Cx} {mg : Mg} {W : WX} {e : Expr} {m : FM} (h : ∀ δ, m δ = bad) : PE X e (tR X.K mg W m) := ⟨fun pins s σ H Q I q => by
  obtain ⟨ρ, A, δ, hE, hH, q⟩ := q
  rw [h δ] at q
  exact q.elim⟩
theorem noArgs_def {pr : Arguments} (h : noArgs pr = true) (env : Env) : defaultsOf pr env = ([], []) := by
  unfold noArgs at h
  split at h
  · rfl
  · cases h
theorem noArgs_bind {pr : Arguments} (h : noArgs pr = true) (q : Str) (body : Expr) (scope : Scope) (cl : List (Str × Addr)) (pm cv ctv : Value) : bindArgs (PySem.W.kla_fn "<lambda>" q pr body scope cl pm cv ctv) ⟨[], []⟩ = pure [] := by
  unfold noArgs at h
  split at h
  · rfl
  · cases h
section
variable {P : Program} {w : World} {K : PySem.W.Frag} {g : Str → Option Value} {base : Heap} {T : List (Addr × Str)} {n : Nms} {Pr : Pr} {es : List Ent} {l : Nat}
theorem lev_zero : LevOk P w K g base T n Pr es 0 := fun e he a cdv fd E => by
  have no : ∀ vs H Q X, ¬ spF K (mg0 g T) (callN Pr 0 e.f) vs H Q X := fun vs H Q X h => by
    obtain ⟨ρ, A, us, _, _, h⟩ := h
    simp only [callN] at h
    exact h.elim
  exact ⟨fun vs H Q X h => (no vs H Q X h).elim, fun A outer s H args us vs Q X _ _ _ _ _ h => (no vs H Q X h).elim⟩
theorem ctx_of (hA : AllOk P w K g base T n Pr es) (hL : LevOk P w K g base T n Pr es l) {e : Ent} {a : Addr} {cdv : Value} {fd : FuncData} (E : EntOk K g base T n Pr.tab e a cdv fd) {k : Nat} (hk : lev l ≤ k) (hk2 : 2 ≤ k) {A : Around} {outer : List Env} {s : Shared} {H : Hp} {X : XK} (hr : Room k (A.deeper (envOfC e.f e.D.scope s.heap.objs.size a cdv))) (hg : A.guards = some [])
    {mg : Mg} {d : M R} (hmg : mg.g = g) (hT : mg.T = T) (pn : List (Addr × Obj)) (xe : Value → Shared → Prop) (W : WX) (tk : Takes ((cxOf (L2.CX P w) P w K g base e.D.N e.f e.D.scope a cdv A outer s H X).tr pn xe) W) (ck : Ck) (hck : ck = ckOf n e) :
    Cok0 ((cxOf (L2.CX P w) P w K g base e.D.N e.f e.D.scope a cdv A outer s H X).tr pn xe) mg (geN Pr l d) W ck ∧ RaisOk ((cxOf (L2.CX P w) P w K g base e.D.N e.f e.D.scope a cdv A outer s H X).tr pn xe) mg (geN Pr l d) W n.exs := by
  subst hck
  exact ⟨cok_of (k := k) hA.sta rfl rfl rfl rfl rfl rfl hmg rfl rfl rfl rfl rfl rfl E.df.sc.nd rfl hr hg tk (LevOk.call hA hL rfl rfl rfl rfl rfl hmg hT (hr.mono hk)), rais_of hA.sta rfl rfl rfl rfl rfl rfl hmg (hr.mono hk2) tk⟩
theorem lev_succ (hA : AllOk P w K g base T n Pr es) (hL : ∀ j, j ≤ l → LevOk P w K g base T n Pr es j) : LevOk P w K g base T n Pr es (l + 1) := fun e he a cdv fd E => by
  have hc : callN Pr (l + 1) e.f = runFn (geN Pr l bad) e.D.fn := by
    funext us
    simp only [callN]
    rw [E.tb]
  rw [hc]
  have hlev : lev (l + 1) = (lev l + 2) + 1 := by unfold lev; omega
  have h2 : 2 ≤ lev l + 2 := by omega
  rw [hlev]
  refine fn_main (c := ckOf n e) (exs := n.exs) E.df (fun A outer s H X hr hg => ?_) E.ck
  refine ⟨rfl, rfl, rfl, fun pn xe W tk => (ctx_of hA (hL l (Nat.le_refl _)) E (k := lev l + 2) (by omega) h2 hr hg rfl rfl pn xe W tk _ rfl).1, fun pn xe W tk => ⟨fun i x p1 p2 _ _ _ _ => pe_bad fun δ => ?_, fun f hf p lpos pos pr body scope m hgl hdb hna hls hbody => ?_⟩, fun pn xe W tk => (ctx_of hA (hL l (Nat.le_refl _)) E (k := lev l + 2) (by omega) h2 hr hg (mg := mg0 g T) (d := bad) rfl rfl pn xe W tk _ rfl).2⟩
  · split <;> rfl
  · cases l with
    | zero => exact pe_bad fun δ => by show callD Pr 0 f (m δ) = bad; simp only [callD]
    | succ l' =>
      obtain ⟨e', he', rfl, hl', x', hx'⟩ := hA.lms e he f hf
      obtain ⟨a', cdv', fd', E'⟩ := hA.ent e' he'
      obtain ⟨c, P', hcd, TB, hmT, hu⟩ := E.lm (by intro z; rw [show (ckOf n e).lams = e.lams from rfl, z] at hf; cases hf)
      have hd : ∀ δ, callD Pr (l' + 1) e'.f (m δ) = runFn (geN Pr l' (m δ)) e'.D.fn [.lam] := fun δ => by
        simp only [callD]
        rw [E'.tb]
      have L := LamX.lamS_by hls
      have key := lam_main (X := (cxOf (L2.CX P w) P w K g base e.D.N e.f e.D.scope a cdv A outer s H X).tr pn xe) (mg := mg0 g T) (W := W) (m := m) (G' := fun d => geN Pr l' d) (D := e'.D) (cg := ckOf n e') (exs := n.exs) (k := lev (l' + 1)) (p := p) (lpos := lpos) (pos := pos) (body := body) rfl rfl hgl hdb E'.gm E'.kp E'.df hx' E'.bd E'.ck hl' rfl (fun _ => rfl) TB hcd hmT hu hg hr L (noArgs_def hna _) tk (fun q cl pm cv ctv => noArgs_bind hna q body scope cl pm cv ctv)
        (fun f' c' A2 outer2 s2 H2 E2 hr2 hg2 => ?_) (fun s2 H2 E2 m' dd pn2 xe2 W2 hm2 hT2 tk2 => ?_)
      · have hfe : (fun δ => (geN Pr (l' + 1) bad).callL e'.f (m δ)) = fun δ => runFn (geN Pr l' (m δ)) e'.D.fn [.lam] := funext hd
        rw [hfe]
        exact key
      · exact hbody _ _ (cok_of (k := lev (l' + 1)) hA.sta rfl rfl rfl rfl rfl rfl rfl rfl rfl rfl rfl rfl rfl E.df.sc.nd rfl hr2 (hg2.trans hg) (takes_of rfl rfl rfl rfl) (LevOk.call hA (hL (l' + 1) (Nat.le_refl _)) rfl rfl rfl rfl rfl rfl rfl hr2))
      · have hll : lev l' ≤ lev (l' + 1) + 1 := by unfold lev; omega
        have h3 : 2 ≤ lev (l' + 1) + 1 := by unfold lev; omega
        exact ctx_of hA (hL l' (by omega)) E' (k := lev (l' + 1) + 1) hll h3 (hr.deeper _) hg hm2 hT2 pn2 xe2 W2 tk2 _ rfl
theorem lev_all (hA : AllOk P w K g base T n Pr es) : ∀ l, ∀ j, j ≤ l → LevOk P w K g base T n Pr es j
  | 0, j, h => by
    have : j = 0 := by omega
    subst this
    exact lev_zero
  | l + 1, j, h => by
    by_cases z : j ≤ l
    · exact lev_all hA l j z
    · have : j = l + 1 := by omega
      subst this
      exact lev_succ hA (lev_all hA l)
end
end Mi
set_option Elab.async false
set_option linter.all false
set_option maxRecDepth 100000
set_option maxHeartbeats 2000000
/-! MjK: what the head shows, as facts. -/
namespace Mi
open PySem PySem.Spec PyProof.Rows L2
/-! ### parameters without defaults -/
theorem fm_congr {α β : Type} {f g : α → Option β} : ∀ {l : List α}, (∀ a ∈ l, f a = g a) → l.filterMap f = l.filterMap g
  | [], _ => rfl
  | a :: l, h => by
    rw [List.filterMap_cons, List.filterMap_cons, h a (by simp), fm_congr (l := l) fun b hb => h b (by simp [hb])]
theorem zip_look {ps : List Str} {us : List Value} (nd : ps.Nodup) (hl : us.length = ps.length) : (∀ p ∈ ps, ((ps.zip us).lookup p).isSome = true) ∧ ps.filterMap (fun n => ((ps.zip us).lookup n).map (n, ·)) = ps.zip us := by
  induction ps generalizing us with
  | nil => simp
  | cons p ps ih =>
    cases us with
    | nil => simp at hl
    | cons u us =>
      obtain ⟨h1, h2⟩ := List.nodup_cons.mp nd
      obtain ⟨a, b⟩ := ih h2 (by simpa using hl) (us := us)
      have ne : ∀ q ∈ ps, (q == p) = false := fun q hq => by
        simp only [beq_eq_false_iff_ne, ne_eq]
        rintro rfl
        exact h1 hq
      refine ⟨fun q hq => ?_, ?_⟩
      · rw [List.zip_cons_cons, List.lookup_cons]
        split
        · rfl
        · rename_i z
          rcases List.mem_cons.mp hq with y | y
          · rw [y] at z; simp at z
          · exact a q y
      · rw [List.zip_cons_cons, List.filterMap_cons, List.lookup_cons]
        simp only [beq_self_eq_true, Option.map_some]
        congr 1
        refine Eq.trans ?_ b
        refine fm_congr fun q hq => ?_
        rw [List.lookup_cons, ne q hq]
theorem bind_plain {as : List Arg} {x qual : Str} {body : List Stmt} {scope : Scope} {kV doc pm : Value} {an : Option Addr} {cdv ct : Value} {us : List Value} (nd : (as.map (·.arg)).Nodup) (hl : us.length = as.length) : bindArgs (PySem.W.fnOf x qual ⟨[], as, none, [], [], none, []⟩ body scope .none kV doc pm an cdv ct) ⟨us, []⟩ = pure ((as.map (·.arg)).zip us) := by
  obtain ⟨h1, h2⟩ := zip_look (us := us) nd (by simpa using hl)
  have h3 : (as.map (·.arg)).filter (fun n => (((as.map (·.arg)).zip us).lookup n).isNone) = [] := by
    rw [List.filter_eq_nil_iff]
    intro p hp
    have := h1 p hp
    revert this
    cases ((as.map (·.arg)).zip us).lookup p <;> simp
  have e0 : seqItems? Value.none = pure none := rfl
  unfold bindArgs
  simp only [PySem.W.fnOf, e0, pure_bind, List.map_nil, List.nil_append, List.forIn_nil, Option.getD_none, hl, List.length_map, Nat.lt_irrefl, gt_iff_lt, decide_false, Bool.false_and, if_false, List.append_nil, h3, h2]
  have e1 : List.take (as.length - (List.drop (([] : List Value).length - as.length) ([] : List Value)).length) (as.map (·.arg)) = as.map (·.arg) := by
    refine List.take_of_length_le ?_
    simp
  have e2 : (List.drop (as.length - (List.drop (([] : List Value).length - as.length) ([] : List Value)).length) (as.map (·.arg))).zip (List.drop (([] : List Value).length - as.length) ([] : List Value)) = [] := by
    simp
  simp only [e1, e2, h3, h2, List.isEmpty_nil, Bool.not_true, Bool.false_eq_true, if_false, List.forIn_nil, pure_bind]
def plainA (pr : Arguments) (ps : List Str) : Bool := match pr with
  | ⟨[], as, none, [], [], none, []⟩ => decide (as.map (·.arg) = ps) && decide (ps.Nodup)
  | _ => false
theorem plainA_bind {pr : Arguments} {ps : List Str} (h : plainA pr ps = true) {x qual : Str} {body : List Stmt} {scope : Scope} {kV doc pm : Value} {an : Option Addr} {cdv ct : Value} {us : List Value} (hl : us.length = ps.length) : bindArgs (PySem.W.fnOf x qual pr body scope .none kV doc pm an cdv ct) ⟨us, []⟩ = pure (ps.zip us) := by
  unfold plainA at h
  split at h
  · simp only [Bool.and_eq_true, decide_eq_true_eq] at h
    obtain ⟨rfl, h2⟩ := h
    exact bind_plain h2 (by simpa using hl)
  · cases h
def fnScB (N ps : List Str) (sc : Scope) : Bool := decide (sc.kind = .function) && !sc.isCoroutine && !sc.isGenerator && decide (N.Nodup) && decide (N.take ps.length = ps) && (ps.all fun x => decide (sc.names.lookup x = some .local) || decide (sc.names.lookup x = some .cell)) && sc.names.all fun y => !decide (y.2 = .free)
theorem fnScB_ok {N ps : List Str} {sc : Scope} (h : fnScB N ps sc = true) : FnScope N ps sc := by
  unfold fnScB at h
  simp only [Bool.and_eq_true, decide_eq_true_eq, List.all_eq_true, Bool.or_eq_true, Bool.not_eq_true', decide_eq_false_iff_not] at h
  obtain ⟨⟨⟨⟨⟨⟨h1, h2⟩, h3⟩, h4⟩, h5⟩, h6⟩, h7⟩ := h
  exact ⟨h1, h2, h3, h4, h5, h6, h7⟩
/-! ### classes -/
def excB (K : PySem.W.Frag) (D : Addr) : Bool := decide (PySem.W.findIn K (.ref D) "__getattribute__" = some (some (.builtin "BaseException.__getattribute__"))) && decide (PySem.W.findIn K (.ref D) "__getattr__" = some none) && decide (PySem.W.subIn K (.ref D) (.type "BaseException") = some true) && PySem.W.hasDictIn K D &&
  decide (PySem.W.findIn K (.ref D) "__class__" = some (some (.builtin "object.__class__"))) && decide (PySem.W.specialIn K (.builtin "object.__class__") "__get__" = some (some (.builtin "getset_descriptor.__get__"))) && decide (PySem.W.takesIn K (.builtin "object.__class__") = some true) && decide (PySem.W.mroIn K D (.type "object") = some true)
theorem excB_ok {K : PySem.W.Frag} {D : Addr} (h : excB K D = true) : ExcC K D := by
  unfold excB at h
  simp only [Bool.and_eq_true, decide_eq_true_eq] at h
  obtain ⟨⟨⟨⟨⟨⟨⟨h1, h2⟩, h3⟩, h4⟩, h5⟩, h6⟩, h7⟩, h8⟩ := h
  exact ⟨h1, h2, h3, h4, h5, h6, h7, h8⟩
abbrev SubT := List (Str × (String ⊕ Str) × Bool)
def subOf (t : SubT) : Sub := fun c x => (t.find? fun e => decide (e.1 = c) && decide (e.2.1 = x)).map (·.2.2)
def subB (K : PySem.W.Frag) (e : Str × (String ⊕ Str) × Bool) : Bool := excB K (He.ga K e.1) && (match e.2.1 with
  | .inl n => decide (PySem.W.kitOne K (.ref (He.ga K e.1)) (.type n) = some e.2.2)
  | .inr x => decide (PySem.W.kitOne K (.ref (He.ga K e.1)) (.ref (He.ga K x)) = some e.2.2) && decide (PySem.W.exmOne K (.ref (He.ga K e.1)) (.ref (He.ga K x)) = some e.2.2))
theorem subOf_mem {t : SubT} {c : Str} {x : String ⊕ Str} {b : Bool} (h : subOf t c x = some b) : (c, x, b) ∈ t := by
  unfold subOf at h
  obtain ⟨e, he, rfl⟩ := Option.map_eq_some_iff.mp h
  have h1 := List.find?_some he
  simp only [Bool.and_eq_true, decide_eq_true_eq] at h1
  have h2 := List.mem_of_find?_eq_some he
  obtain ⟨rfl, rfl⟩ := h1
  exact h2
/-! ### constants of the module -/
mutual
def repB (K : PySem.W.Frag) : PyData → Value → Bool
  | .none, .none => true
  | .bool a, .bool b => a == b
  | .int a, .int b _ => decide (a = b)
  | .str a, .str b _ => decide (a = b)
  | .tuple ps, .ref a => (match K.lookup a with
    | some ⟨.type c, _, .seq its _, _⟩ => decide (c = "tuple") && (decide (its.size ≤ sizeLine) && repBs K ps its.toList)
    | _ => false)
  | _, _ => false
def repBs (K : PySem.W.Frag) : List PyData → List Value → Bool
  | [], [] => true
  | p :: ps, v :: vs => repB K p v && repBs K ps vs
  | _, _ => false
end
mutual
theorem repB_ok {K : PySem.W.Frag} : ∀ (p : PyData) (u : Value), repB K p u = true → ∃ v, RelV v u ∧ ∀ ρ H, RepP ρ K H p v
  | .none, u, h => by
    cases u <;> simp only [repB] at h <;> try cases h
    exact ⟨.non, rfl, fun _ _ => .non⟩
  | .bool a, u, h => by
    cases u <;> simp only [repB] at h <;> try cases h
    rename_i b
    have e : a = b := eq_of_beq h
    subst e
    exact ⟨.bl a, rfl, fun _ _ => .bl a⟩
  | .int a, u, h => by
    cases u <;> simp only [repB] at h <;> try cases h
    rename_i b t
    have e : a = b := of_decide_eq_true h
    subst e
    exact ⟨.int a, ⟨t, rfl⟩, fun _ _ => .int a⟩
  | .str a, u, h => by
    cases u <;> simp only [repB] at h <;> try cases h
    rename_i b t
    have e : a = b := of_decide_eq_true h
    subst e
    exact ⟨.str a, ⟨t, rfl⟩, fun _ _ => .str a⟩
  | .tuple ps, u, h => by
    cases u <;> simp only [repB] at h <;> try cases h
    rename_i a
    split at h
    · rename_i c od its n sl q
      simp only [Bool.and_eq_true, decide_eq_true_eq] at h
      obtain ⟨rfl, h2, h3⟩ := h
      obtain ⟨vs, r1, r2⟩ := repBs_ok ps its.toList h3
      exact ⟨.ref a, rfl, fun ρ H => .tup (.inr ⟨_, its, n, q, rfl, rfl, h2, r1⟩) (r2 ρ H)⟩
    · cases h
  | .list _, u, h => by simp only [repB] at h; cases h
  | .dict _, u, h => by simp only [repB] at h; cases h
theorem repBs_ok {K : PySem.W.Frag} : ∀ (ps : List PyData) (us : List Value), repBs K ps us = true → ∃ vs, Vals vs us ∧ ∀ ρ H, RepPs ρ K H ps vs
  | [], us, h => by
    cases us <;> simp only [repBs] at h <;> try cases h
    exact ⟨[], .nil, fun _ _ => .nil⟩
  | p :: ps, us, h => by
    cases us <;> simp only [repBs] at h <;> try cases h
    rename_i u us
    simp only [Bool.and_eq_true] at h
    obtain ⟨v, a1, a2⟩ := repB_ok p u h.1
    obtain ⟨vs, b1, b2⟩ := repBs_ok ps us h.2
    exact ⟨v :: vs, .cons a1 b1, fun ρ H => .cons (a2 ρ H) (b2 ρ H)⟩
end
def gcB (K : PySem.W.Frag) (e : Str × PyData) : Bool := match PySem.W.nsIn K mainGlobals e.1 with
  | some (some u) => repB K e.2 u
  | _ => false
/-! ### tables of the module -/
def entsB (K : PySem.W.Frag) : List (Str × PyData) → List DictEntry → Bool
  | [], [] => true
  | (k, p) :: r, e :: es => (match e.key with
    | .str x _ => decide (x = k)
    | _ => false) && repB K p e.val && entsB K r es
  | _, _ => false
def kdB (K : PySem.W.Frag) (e : Str × List (Str × PyData)) : Bool := match K.lookup (He.ga K e.1) with
  | some ⟨_, _, .dict es _, _⟩ => entsB K e.2 es.toList
  | _ => false
theorem ents_find {K : PySem.W.Frag} : ∀ {kvs : List (Str × PyData)} {es : List DictEntry}, entsB K kvs es = true → (es.any (·.refKey)) = false ∧ ∀ z, (kvs.lookup z = none ∧ es.find? (·.key.isStr z) = none) ∨ ∃ q e v0, kvs.lookup z = some q ∧ es.find? (·.key.isStr z) = some e ∧ RelV v0 e.val ∧ ∀ ρ H, RepP ρ K H q v0
  | [], [], _ => ⟨rfl, fun z => .inl ⟨rfl, rfl⟩⟩
  | (k, p) :: r, e :: es, h => by
    simp only [entsB, Bool.and_eq_true] at h
    obtain ⟨⟨h1, h2⟩, h3⟩ := h
    obtain ⟨i1, i2⟩ := ents_find h3
    split at h1
    · rename_i x t ek
      have ex : x = k := of_decide_eq_true h1
      subst ex
      refine ⟨?_, fun z => ?_⟩
      · rw [List.any_cons, i1]
        simp [DictEntry.refKey, ek]
      · by_cases hz : z = x
        · subst hz
          obtain ⟨v, r1, r2⟩ := repB_ok p e.val h2
          exact .inr ⟨p, e, v, by simp, by simp [List.find?_cons, ek, Value.isStr], r1, r2⟩
        · have hz1 : (z == x) = false := by simpa using hz
          have hz2 : (x == z) = false := by simpa using Ne.symm hz
          rw [List.lookup_cons, hz1, List.find?_cons]
          simp only [ek, Value.isStr, hz2]
          exact i2 z
    · cases h1
  | [], _ :: _, h => by simp [entsB] at h
  | _ :: _, [], h => by simp [entsB] at h
/-! ### own exceptions with a field -/
def oexB (K : PySem.W.Frag) (C : Addr) : Bool := (match K.lookup C with
  | some ⟨.type t, _, .cls cd, sl⟩ => decide (t = "type") && cd.hasDict && !cd.hasDel && (match cd.mro with
    | .ref D :: bm => decide (D = C) && PySem.HandSPX.refsVE bm
    | _ => false) && (match sl.toList with
    | [_, _, _, _, some (.builtin n), _] => decide (n = "ValueError.__new__")
    | _ => false)
  | _ => false) && decide (PySem.W.findIn K (.ref C) "__setattr__" = some (some (.builtin "object.__setattr__"))) && decide (PySem.W.subIn K (.ref C) (.type "BaseException") = some true) && decide (PySem.W.typeIn K (.ref C) = some (.type "type")) && PySem.W.keepIn K (.ref C)
theorem oexB_ok {K : PySem.W.Frag} {C : Addr} (h : oexB K C = true) : OexC K C := by
  unfold oexB at h
  simp only [Bool.and_eq_true, decide_eq_true_eq] at h
  obtain ⟨⟨⟨⟨h1, h2⟩, h3⟩, h4⟩, h5⟩ := h
  refine ⟨?_, h2, h3, h4, h5⟩
  split at h1
  · rename_i t dd cd sl q
    simp only [Bool.and_eq_true, decide_eq_true_eq, Bool.not_eq_true'] at h1
    obtain ⟨⟨⟨⟨rfl, a1⟩, a2⟩, a3⟩, a4⟩ := h1
    split at a3
    · rename_i D bm em
      simp only [Bool.and_eq_true, decide_eq_true_eq] at a3
      obtain ⟨rfl, a3⟩ := a3
      split at a4
      · rename_i k0 k1 k2 k3 n k5 es
        have en : n = "ValueError.__new__" := of_decide_eq_true a4
        subst en
        have es' : sl = #[k0, k1, k2, k3, some (.builtin "ValueError.__new__"), k5] := by
          rw [← Array.toArray_toList (xs := sl), es]
        obtain ⟨nm, bs, mro, ns, qn, hd, sn, sub, ab, col, hdel⟩ := cd
        simp only at a1 a2 em
        subst a1 a2 em es'
        exact ⟨nm, qn, ns, bs, bm, sn, sub, ab, col, dd, k0, k1, k2, k3, k5, q, a3⟩
      · cases a4
    · cases a3
  · cases h1
/-- one exception class: its name, its field -/
def xcB (K : PySem.W.Frag) (e : Str × Str) : Bool := oexB K (He.ga K e.1) && decide (PySem.W.findIn K (.ref (He.ga K e.1)) "__init__" = some (some (.ref (He.ma K (He.ga K e.1) "__init__")))) && decide (PySem.W.typeIn K (.ref (He.ma K (He.ga K e.1) "__init__")) = some (.type "function")) && decide (PySem.W.findIn K (.ref (He.ga K e.1)) e.2 = some none)
def fldB (K : PySem.W.Frag) (e : Str × List Str) : Bool := xfB K (He.ga K e.1) && e.2.all fun f => decide (PySem.W.findIn K (.ref (He.ga K e.1)) f = some none)
/-! ### what a law's text holds -/
structure Ds where
  sub : SubT
  fld : List (Str × List Str)
  cls : List Str
  gc : List (Str × PyData)
  kd : List (Str × List (Str × PyData))
  xc : List (Str × Str)
  lim : Nat
def Ds.go (d : Ds) : Go := ⟨subOf d.sub, fun c => d.fld.lookup c, fun x => (d.gc.lookup x).map .d, fun x => d.kd.lookup x, d.lim⟩
/-- all of it at once, for the head -/
def Ds.B (d : Ds) (K : PySem.W.Frag) : Bool := d.sub.all (subB K) && d.fld.all (fldB K) && d.gc.all (gcB K) && d.kd.all (kdB K) && d.xc.all (xcB K)
/-- every class that is told is in cls -/
def Ds.nmsB (d : Ds) : Bool := (d.sub.all fun e => d.cls.contains e.1 && (match e.2.1 with
  | .inl _ => true
  | .inr x => d.cls.contains x)) && (d.fld.all fun e => d.cls.contains e.1) && d.xc.all fun e => d.cls.contains e.1 && decide (d.fld.lookup e.1 = some [e.2])
theorem look_mem {α β : Type} [BEq α] [LawfulBEq α] : ∀ {l : List (α × β)} {a : α} {b : β}, l.lookup a = some b → (a, b) ∈ l
  | [], _, _, h => by cases h
  | (x, y) :: l, a, b, h => by
    rw [List.lookup_cons] at h
    split at h
    · rename_i e
      cases h
      rw [eq_of_beq e]
      exact List.mem_cons_self
    · exact List.mem_cons_of_mem _ (look_mem h)
theorem sta_of {P : Program} {w : World} {K : PySem.W.Frag} {g : Str → Option Value} {base : Heap} {d : Ds} {n : Nms} (hn : n.cls = d.cls) (hkn : n.kds = d.kd.map (·.1)) (hxn : n.exs = d.xc.map (·.1)) (hB : d.B K = true) (hN : d.nmsB = true)
    (X : K.In base) (G : base.Ns mainGlobals g) (hc : ∀ x ∈ d.cls, g x = some (.ref (He.ga K x))) (hb : ∀ x ∈ bltN, g x = none) (hk : ∀ e ∈ d.kd, g e.1 = some (.ref (He.ga K e.1)) ∧ ∃ es m, KDict K w (He.ga K e.1) es m)
    (hx : ∀ e ∈ d.xc, ∃ (fd : FuncData) (ps : List Str), FnOk P w K g base (L2.CX P w) 1 (He.ma K (He.ga K e.1) "__init__") fd ps (spInit (He.ga K e.1) e.2) ∧ L2.Binds K fd ps []) : Sta P w K g base d.go n := by
  unfold Ds.B at hB
  simp only [Bool.and_eq_true, List.all_eq_true] at hB
  obtain ⟨⟨⟨⟨b1, b2⟩, b3⟩, b4⟩, b5⟩ := hB
  unfold Ds.nmsB at hN
  simp only [Bool.and_eq_true, List.all_eq_true] at hN
  obtain ⟨⟨n1, n2⟩, n3⟩ := hN
  have cl : ∀ {x : Str} {C : Addr}, d.cls.contains x = true → g x = some (.ref C) → C = He.ga K x := fun {x C} h1 h2 => by
    rw [hc x (by simpa using h1)] at h2
    cases h2; rfl
  have subI : ∀ c t b C, subOf d.sub c t = some b → g c = some (.ref C) → C = He.ga K c ∧ excB K C = true ∧ (match t with
      | .inl n => PySem.W.kitOne K (.ref C) (.type n) = some b
      | .inr x => PySem.W.kitOne K (.ref C) (.ref (He.ga K x)) = some b ∧ PySem.W.exmOne K (.ref C) (.ref (He.ga K x)) = some b ∧ d.cls.contains x = true) := fun c t b C h1 h2 => by
    have hm := subOf_mem h1
    have c1 := n1 _ hm
    have c2 := b1 _ hm
    obtain rfl := cl c1.1 h2
    unfold subB at c2
    simp only [Bool.and_eq_true] at c2
    refine ⟨rfl, c2.1, ?_⟩
    cases t with
    | inl m => simpa using c2.2
    | inr x =>
      have c3 := c2.2
      simp only [Bool.and_eq_true, decide_eq_true_eq] at c3
      exact ⟨c3.1, c3.2, c1.2⟩
  refine ⟨⟨fun c t b C h1 h2 => excB_ok (subI c t b C h1 h2).2.1, fun c t b C v u h1 h2 ha => ?_, fun c k b C D h1 h2 h3 => ?_⟩, fun c f C h1 h2 => ?_, hb, fun x hx => ⟨_, hc x (by rw [← hn]; exact hx)⟩, fun x u h1 => ?_, fun x hx => ?_, fun y hy => ?_⟩
  · obtain ⟨_, _, q⟩ := subI c t b C h1 h2
    cases ha with
    | ty m => exact q
    | own h =>
      rename_i x C2
      obtain ⟨q1, _, q3⟩ := q
      rw [cl q3 h]
      exact q1
  · obtain ⟨_, _, q1, q2, q3⟩ := subI c (.inr k) b C h1 h2
    rw [cl q3 h3]
    exact q2
  · have h1' : ((d.fld.lookup c).getD []).contains f = true := h1
    cases e : d.fld.lookup c with
    | none => rw [e] at h1'; simp at h1'
    | some fs =>
      rw [e] at h1'
      have hm := look_mem e
      have c2 := b2 _ hm
      unfold fldB at c2
      simp only [Bool.and_eq_true, List.all_eq_true, decide_eq_true_eq] at c2
      rw [cl (n2 _ hm) h2]
      exact ⟨xfB_ok c2.1, c2.2 f (by simpa using h1')⟩
  · obtain ⟨p, h2, rfl⟩ := Option.map_eq_some_iff.mp (show (d.gc.lookup x).map U.d = some u from h1)
    have c := b3 _ (look_mem h2)
    unfold gcB at c
    split at c
    · rename_i val ev
      obtain ⟨v, r1, r2⟩ := repB_ok p val c
      exact ⟨rfl, val, v, PySem.W.mg_of X G ev, r1, fun ρ H => .d (r2 ρ H)⟩
    · cases c
  · rw [hkn] at hx
    obtain ⟨e0, he0, rfl⟩ := List.mem_map.mp hx
    cases e : d.kd.lookup e0.1 with
    | none =>
      have : ¬ (d.kd.lookup e0.1).isSome := by rw [e]; simp
      rw [List.lookup_isSome_iff] at this
      exact (this ⟨e0, he0, by simp⟩).elim
    | some kvs =>
      have hm := look_mem e
      have c := b4 _ hm
      obtain ⟨gk, es, m, D⟩ := hk _ hm
      refine ⟨kvs, e, He.ga K e0.1, es, m, gk, D, fun z => ?_⟩
      unfold kdB at c
      have at_ : K.lookup (He.ga K e0.1) = some ⟨.type "dict", none, .dict es m, #[]⟩ := D.at_
      simp only [at_] at c
      obtain ⟨i1, i2⟩ := ents_find c
      rcases i2 z with ⟨j1, j2⟩ | ⟨q, e2, v0, j1, j2, j3, j4⟩
      · refine .inl ⟨j1, ?_⟩
        unfold PySem.W.nsIn
        simp only [at_, j2, i1]
        rfl
      · refine .inr ⟨q, e2.val, v0, j1, ?_, j3, j4⟩
        unfold PySem.W.nsIn
        simp only [at_, j2]
  · rw [hxn] at hy
    obtain ⟨e0, he0, rfl⟩ := List.mem_map.mp hy
    have c := b5 _ he0
    have c2 := n3 _ he0
    unfold xcB at c
    simp only [Bool.and_eq_true, decide_eq_true_eq] at c c2
    obtain ⟨⟨⟨c1, c3⟩, c4⟩, c5⟩ := c
    obtain ⟨fd, ps, F, B⟩ := hx _ he0
    exact ⟨_, _, fd, ps, e0.2, c2.2, hc _ (by simpa using c2.1), oexB_ok c1, c3, c4, F, B⟩
end Mi
set_option Elab.async false
set_option linter.all false
set_option maxRecDepth 100000
set_option maxHeartbeats 2000000
/-! MjL: the law's call; all defs of a text. -/
namespace Mi
open PySem PySem.Spec PyProof.Rows L2
/-- what is tracked as the law is called: the script, the tables -/
def hp0 (ts : List Addr) (a : Addr) (o : Obj) (xs : List V) : Hp := fun b => if b = a then some (.frz o (.lst xs)) else if b ∈ ts then some (.tbl #[]) else none
section
variable {ts : List Addr} {a b : Addr} {o : Obj} {xs : List V}
theorem hp0_a : hp0 ts a o xs a = some (.frz o (.lst xs)) := if_pos rfl
theorem hp0_t (h : b ∈ ts) (n : b ≠ a) : hp0 ts a o xs b = some (.tbl #[]) := (if_neg n).trans (if_pos h)
theorem hp0_n (h : b ∉ ts) (n : b ≠ a) : hp0 ts a o xs b = none := (if_neg n).trans (if_neg h)
end
theorem law_g {P : Program} {w : World} {K : PySem.W.Frag} {mg mb : Str → Option Value} {k : Nat} {fa a : Addr} {cs : List (Addr × Addr)} {fd : FuncData} {x : Str} {sp : Sp} {s : Shared} {vs : List Value} {ns : List Int} (kin : K.In s.heap) (nsg : s.heap.Ns mainGlobals mg) (nsb : s.heap.Ns builtinsNs mb) (blt : ∀ x : Str, x ≠ "__name__" → mb x = bootBuiltins x) (lim : s.heap.NoLimit) (gen : s.gens = #[])
    (tE : ∀ p ∈ cs, s.heap.get? p.2 = some { cls := .none, data := .fields #[] }) (tK : ∀ p ∈ cs, K.lookup p.2 = none) (tC : ∀ p ∈ cs, PySem.W.CodeHd s.heap p.1 p.2)
    (bma : ∃ (bm : Addr) (ob : Obj), mg "__builtins__" = some (.ref bm) ∧ bm ≠ builtinsNs ∧ s.heap.get? bm = some ob ∧ ob.cls = .type "module" ∧ ob.dict = some builtinsNs ∧ ob.data = .plain)
    (ha : s.heap.get? a = some { cls := .type "list", data := .seq vs.toArray }) (hak : K.lookup a = none) (hi : IntsAre vs ns) (hl : ns.length ≤ sizeLine) (room : Room k callerA)
    (F : ∀ base : Heap, K.In base → base.Ns mainGlobals mg → (∀ p ∈ cs, LamX.TabB base mg p.1 p.2) → FnG P w K mg base k fa fd [x] sp) (bnds : ∀ (s : Shared) (u : Value), BindsTo s fd ⟨[u], []⟩ [(x, u)])
    (hsp : ∀ H : Hp, (∀ p ∈ cs, H p.2 = some (.tbl #[])) → Rd H a (.lst (ns.map V.int)) → sp [.ref a] H (fun v _ => v = .bl true) fun _ _ _ => False) :
    codeAny (model P w) callerA (.call (.ref fa) ⟨[.ref a], []⟩) (fun r s' => r = .ok (.ret (.bool true)) ∧ OldK s.heap s'.heap ∧ s'.os = s.os ∧ AllBare s'.gens) s := by
  generalize eo : ({ cls := .type "list", data := .seq vs.toArray } : Obj) = o at ha
  generalize et : cs.map (·.2) = ts
  have tin : ∀ b ∈ ts, ∃ p ∈ cs, p.2 = b := fun b hb => by rw [← et] at hb; exact List.mem_map.mp hb
  have tmem : ∀ p ∈ cs, p.2 ∈ ts := fun p hp => by rw [← et]; exact List.mem_map.mpr ⟨p, hp, rfl⟩
  have tget : ∀ b ∈ ts, s.heap.get? b = some { cls := .none, data := .fields #[] } := fun b hb => by
    obtain ⟨p, hp, rfl⟩ := tin b hb
    exact tE p hp
  have tna : ∀ b ∈ ts, b ≠ a := fun b hb z => by
    have h1 := tget b hb
    rw [z, ha, ← eo] at h1
    cases h1
  generalize eH : hp0 ts a o (ns.map V.int) = H
  have Ha : H a = some (.frz o (.lst (ns.map V.int))) := by rw [← eH]; exact hp0_a
  have Ht : ∀ b ∈ ts, H b = some (.tbl #[]) := fun b hb => by rw [← eH]; exact hp0_t hb (tna b hb)
  have Hn : ∀ b, b ∉ ts → b ≠ a → H b = none := fun b h1 h2 => by rw [← eH]; exact hp0_n h1 h2
  -- an object that is neither a list of the script's sort nor an empty table is untracked
  have un0 : ∀ b ob, s.heap.get? b = some ob → ob ≠ o → ob.data ≠ .fields #[] → H b = none := fun b ob e1 e2 e3 => by
    refine Hn b (fun z => ?_) fun z => ?_
    · rw [tget b z] at e1
      cases e1
      exact e3 rfl
    · rw [z, ha] at e1
      cases e1
      exact e2 rfl
  have od : o.data = .seq vs.toArray := by rw [← eo]
  have unD : ∀ b ob, s.heap.get? b = some ob → (∀ its n, ob.data ≠ .seq its n) → ob.data ≠ .fields #[] → H b = none := fun b ob e1 e2 e3 => un0 b ob e1 (fun z => e2 vs.toArray 0 (by rw [z, od])) e3
  have nsB : ∀ b m, s.heap.Ns b m → (hidT s.heap H).Ns b m := fun b m q => by
    obtain ⟨ob, es, ep, e1, e2, e3⟩ := q
    exact ⟨ob, es, ep, hidT_get e1 (unD b ob e1 (fun its n z => by rw [e2] at z; cases z) (fun z => by rw [e2] at z; cases z)), e2, e3⟩
  have kB : K.In (hidT s.heap H) := fun b ob e => hidT_get (kin b ob e) (Hn b (fun z => by
    obtain ⟨p, hp, rfl⟩ := tin b z
    rw [tK p hp] at e
    cases e) (fun z => by rw [z, hak] at e; cases e))
  have gB := nsB _ _ nsg
  have mB : L2.Mod K mg (hidT s.heap H) := ⟨kB, gB, ⟨mb, nsB _ _ nsb, blt⟩, by
    obtain ⟨mc, z1, z2⟩ := lim
    exact ⟨mc, nsB _ _ z1, z2⟩⟩
  have tB : ∀ p ∈ cs, LamX.TabB (hidT s.heap H) mg p.1 p.2 := fun p hp => by
    have hg : mainGlobals ≠ p.2 := fun z => by
      obtain ⟨ob, es, ep, e1, e2, _⟩ := nsg
      rw [z, tE p hp] at e1
      cases e1
      cases e2
    refine ⟨?_, ?_, hg⟩
    · obtain ⟨ob, us, file, tf, flags, tg, inF, text, tt, e1, r1, r2, r3, rest⟩ := tC p hp
      refine ⟨ob, us, file, tf, flags, tg, inF, text, tt, hidT_get e1 (unD _ ob e1 (fun its n z => by rw [r2] at z; cases z) (fun z => ?_)), r1, r2, r3, rest⟩
      rw [r2] at z
      cases z
      simp at r3
    · obtain ⟨bm, ob, b1, b2, b3, b4, b5, b6⟩ := bma
      refine ⟨bm, ob, b1, b2, fun z => ?_, fun z => ?_, hidT_get b3 (unD bm ob b3 (fun its n z => by rw [b6] at z; cases z) (fun z => by rw [b6] at z; cases z)), b4, b5, b6⟩
      · obtain ⟨og, es, ep, e1, e2, _⟩ := nsg
        rw [z, e1] at b3
        cases b3
        rw [e2] at b6
        cases b6
      · rw [z, tE p hp] at b3
        cases b3
        cases b6
  have rv := vals_ints hi
  have hok : HOk P w H s.heap := fun b u e => by
    by_cases h1 : b = a
    · subst h1
      rw [Ha] at e
      cases e
      refine ⟨ha, ?_⟩
      refine ⟨by rw [List.length_map]; exact hl, vs, 0, rv, ?_⟩
      rw [ha, ← eo]
    · by_cases h2 : b ∈ ts
      · rw [Ht b h2] at e
        cases e
        exact tget b h2
      · rw [Hn b h2 h1] at e
        cases e
  have e0 : Env0 P w K mg (hidT s.heap H) callerA [] s H := ⟨rfl, mB, fun b ob e => of_hidT e, Nat.le_of_eq (hidT_size _ _), trivial, fun b hb => (List.not_mem_nil hb).elim, hok, .of_eq gen⟩
  have run := (F _ kB gB tB).run callerA [] s H ⟨[.ref a], []⟩ [.ref a] [.ref a] (fun v _ => v = .bl true) (fun _ _ _ => False) room rfl e0 (bnds s (.ref a)) (.cons rfl .nil) (hsp H (fun p hp => Ht _ (tmem p hp)) (.inr ⟨o, Ha⟩))
  refine codeAny_mono run fun r s' q => ?_
  match r, q with
  | .error e, q =>
    obtain ⟨_, _, _, _, _, _, _, _, _, _, _, _, no⟩ := q
    exact no.elim
  | .ok (.ret u), ⟨v, H', os, bare, un, hok', rel, qv⟩ =>
    have qv : v = .bl true := qv
    subst qv
    have eu : u = .bool true := rel
    subst eu
    have stay : ∀ b ob, b ∉ ts → s.heap.get? b = some ob → s'.heap.get? b = some ob := fun b ob nb e => by
      by_cases h1 : b = a
      · subst h1
        have z := hok' b _ (un.frzs b _ _ Ha)
        rw [ha] at e
        cases e
        exact z.1
      · exact un.keep b ob e (Hn b nb h1) (List.not_mem_nil) (List.not_mem_nil)
    have grow : ∀ b ∈ ts, ∃ more : Array Value, s'.heap.get? b = some { cls := .none, data := .fields more } := fun b hb => by
      obtain ⟨more, z⟩ := un.tbls b #[] (Ht b hb)
      exact ⟨_, hok' b _ z⟩
    refine ⟨rfl, ⟨fun b ob e => ?_, fun b ob e => ?_⟩, os, bare⟩
    · by_cases hb : b ∈ ts
      · obtain ⟨p, hp, rfl⟩ := tin b hb
        obtain ⟨more, hm⟩ := grow _ hb
        rw [tE p hp] at e
        cases e
        exact .inr (.inl ⟨((tC p hp).tab (tE p hp)).isCodeTable, rfl, #[], more, rfl, by simpa using hm⟩)
      · exact .inl (stay b ob hb e)
    · by_cases hb : b ∈ ts
      · obtain ⟨more, hm⟩ := grow b hb
        exact ⟨_, hm⟩
      · exact ⟨ob, stay b ob hb e⟩
end Mi
set_option Elab.async false
set_option linter.all false
set_option maxRecDepth 100000
set_option maxHeartbeats 2000000
/-! MjM: all defs of a text; the inits of exceptions. -/
namespace Mi
open PySem PySem.Spec PyProof.Rows L2
structure Tx where
  f : Str
  st : Stmt
  ps : List Str
  N : List Str
  body : List S
  keep : Bool
  lams : List Str
def Tx.fn (t : Tx) : Fn := ⟨t.f, t.ps.length, t.N.length, t.body, t.keep⟩
def Tx.ent (t : Tx) : Ent := ⟨t.f, ⟨t.fn, t.N, t.ps, defScope t.st, defBody t.st⟩, t.lams⟩
def Tx.dd (t : Tx) : He.DefD := ⟨(t.f, none), t.f, t.f, defArgs t.st, defBody t.st, defScope t.st, [], []⟩
def Tx.B (n : Nms) (t : Tx) : Bool := plainA (defArgs t.st) t.ps && fnScB t.N t.ps (defScope t.st) && ckSs (ckOf n t.ent) n.exs t.body (defBody t.st)
def mkrs (ts : List Tx) : List Tx := ts.filter fun t => !t.lams.isEmpty
def mkrD (ts : List Tx) : List He.Defn := (mkrs ts).map fun t => (t.f, none)
def tabT (K : PySem.W.Frag) (ts : List Tx) : List (Addr × Str) := (mkrs ts).map fun t => ((He.cT K (t.f, none)).2, (t.f ++ ".<locals>.") ++ "<lambda>")
def uniqB (K : PySem.W.Frag) (ts : List Tx) : Bool := decide (((mkrs ts).map fun t => (He.cT K (t.f, none)).2).Nodup)
def txB (n : Nms) (ts : List Tx) : Bool := decide ((ts.map (·.f)).Nodup) && (n.fns.all fun f => (ts.map (·.f)).contains f) && ts.all fun t => t.lams.all fun f => ts.any fun t' => decide (t'.f = f) && t'.lams.isEmpty && decide (t'.ps.length = 1)
theorem fnd_of : ∀ {ts : List Tx} {t : Tx}, (ts.map (·.f)).Nodup → t ∈ ts → fnd (ts.map Tx.fn) t.f = some t.fn
  | [], _, _, h => by cases h
  | u :: ts, t, nd, h => by
    obtain ⟨n1, n2⟩ := List.nodup_cons.mp nd
    unfold fnd
    rw [List.map_cons, List.find?_cons]
    rcases List.mem_cons.mp h with rfl | h
    · have : decide (t.fn.name = t.f) = true := decide_eq_true rfl
      rw [this]
    · have ne : u.f ≠ t.f := fun z => n1 (List.mem_map.mpr ⟨t, h, z.symm⟩)
      have : decide (u.fn.name = t.f) = false := decide_eq_false ne
      rw [this]
      exact fnd_of n2 h
theorem nodup_at {α β : Type} {f : α → β} : ∀ {l : List α} {a b : α}, (l.map f).Nodup → a ∈ l → b ∈ l → f a = f b → a = b
  | [], _, _, _, h, _, _ => by cases h
  | x :: l, a, b, nd, ha, hb, e => by
    obtain ⟨n1, n2⟩ := List.nodup_cons.mp nd
    rcases List.mem_cons.mp ha with q | q
    · rcases List.mem_cons.mp hb with r | r
      · rw [q, r]
      · exact (n1 (by rw [← q]; exact List.mem_map.mpr ⟨b, r, e.symm⟩)).elim
    · rcases List.mem_cons.mp hb with r | r
      · exact (n1 (by rw [← r]; exact List.mem_map.mpr ⟨a, q, e⟩)).elim
      · exact nodup_at n2 q r e
theorem all_of {P : Program} {w : World} {K : PySem.W.Frag} {g : Str → Option Value} {base : Heap} {go : Go} {n : Nms} {ts : List Tx} (hS : Sta P w K g base go n) (hB : ∀ t ∈ ts, Tx.B n t = true) (hts : txB n ts = true) (hu : uniqB K ts = true) (hg : ∀ t ∈ ts, g t.f = some (.ref (He.ga K t.f)))
    (hf : ∀ t ∈ ts, ∃ fd, FunD K t.f t.f (defArgs t.st) (defBody t.st) (defScope t.st) [] [] (He.ga K t.f) fd) (hT : ∀ t ∈ mkrs ts, LamX.TabB base g (He.cT K (t.f, none)).1 (He.cT K (t.f, none)).2) : AllOk P w K g base (tabT K ts) n ⟨go, ts.map Tx.fn⟩ (ts.map Tx.ent) := by
  unfold txB at hts
  simp only [Bool.and_eq_true, List.all_eq_true, decide_eq_true_eq] at hts
  obtain ⟨⟨t1, t2⟩, t3⟩ := hts
  refine ⟨hS, fun e he => ?_, fun f hf => ?_, fun e he f hf => ?_⟩
  · obtain ⟨t, ht, rfl⟩ := List.mem_map.mp he
    obtain ⟨fd, F⟩ := hf t ht
    have b := hB t ht
    unfold Tx.B at b
    simp only [Bool.and_eq_true] at b
    obtain ⟨⟨b1, b2⟩, b3⟩ := b
    have bd : L2.Binds K fd t.ps [] := F.bindsN fun kV doc pm an cdv ct us hl => plainA_bind b1 hl
    obtain ⟨oc, od, dV, kV, doc, pm, an, cdv, ct, osl, e1, lk, hcd, hD, hK⟩ := F.ex
    refine ⟨He.ga K t.f, cdv, fd, hg t ht, F.kp, bd, ⟨⟨t.f, defArgs t.st, dV, kV, doc, pm, ct, oc, an, od, osl, lk, e1⟩, hcd, fnScB_ok b2, rfl, rfl⟩, b3, fnd_of t1 ht, fun hl => ?_⟩
    have hm : t ∈ mkrs ts := List.mem_filter.mpr ⟨ht, by
      have : t.lams ≠ [] := hl
      simpa using this⟩
    obtain ⟨c, hc⟩ := He.codeIn_ref hcd
    have ec : (He.cT K (t.f, none)).1 = c := He.codeOf_eq (p := (t.f, none)) lk (by rw [e1]; exact hc)
    refine ⟨c, (He.cT K (t.f, none)).2, hc, by rw [← ec]; exact hT t hm, List.mem_map.mpr ⟨t, hm, rfl⟩, fun p hp e => ?_⟩
    obtain ⟨u, hu1, rfl⟩ := List.mem_map.mp hp
    have := nodup_at (f := fun t : Tx => (He.cT K (t.f, none)).2) (of_decide_eq_true hu) hu1 hm e
    rw [this]
    rfl
  · obtain ⟨t, ht, e⟩ := List.mem_map.mp (show f ∈ ts.map (·.f) by simpa using t2 f hf)
    exact ⟨_, List.mem_map.mpr ⟨t, ht, rfl⟩, e⟩
  · obtain ⟨t, ht, rfl⟩ := List.mem_map.mp he
    obtain ⟨u, hu1, hu2⟩ := List.any_eq_true.mp (t3 t ht f hf)
    simp only [Bool.and_eq_true, decide_eq_true_eq] at hu2
    obtain ⟨⟨u1, u2⟩, u3⟩ := hu2
    refine ⟨_, List.mem_map.mpr ⟨u, hu1, rfl⟩, u1, by
      have z : u.lams = [] := by simpa using u2
      exact z, ?_⟩
    match h : u.ps, u3 with
    | [x], _ => exact ⟨x, h⟩
/-! ### the inits of exceptions -/
/-- ValueError.__init__(self, '..'); self.f = y -/
def initB (f : Str) (ps : List Str) (sc : Scope) : List Stmt → Bool
  | [.Expr (.Call (.Attribute (.Name v p1) i p2) [.Name s p3, .Constant (.str txt) j p4] [] p5) p6, .Assign [.Attribute (.Name s2 p7) f2 p8] (.Name q p9) p10] => decide (v = ("ValueError" : Str)) && decide (i = ("__init__" : Str)) && decide (s = s2) && decide (f2 = f) && decide (ps = [s, q]) && fnScB [s, q] [s, q] sc && glB sc ("ValueError" : Str) && visB sc s && visB sc q && !(s == ("__debug__" : Str)) && !(s == ("__classdict__" : Str)) && !(q == ("__debug__" : Str)) && !(q == ("__classdict__" : Str)) && (p2.endLine == p5.line)
  | _ => false
theorem init_of {P : Program} {w : World} {K : PySem.W.Frag} {mg : Str → Option Value} {base : Heap} {fI C : Addr} {name qual : Str} {params : Arguments} {body : List Stmt} {scope : Scope} {ps : List Str} {f : Str} {fd : FuncData} (hB : initB f ps scope body = true) (hP : plainA params ps = true) (F : FunD K name qual params body scope [] [] fI fd) (hm : mg "ValueError" = none) (T : OexC K C) (hno : PySem.W.findIn K (.ref C) f = some none)
    (vV : PySem.W.findCls K (.type "ValueError") (.type "type") "__init__" = some (.val (.builtin "ValueError.__init__"))) :
    FnOk P w K mg base (L2.CX P w) 1 fI fd ps (spInit C f) ∧ L2.Binds K fd ps [] := by
  have bd : L2.Binds K fd ps [] := F.bindsN fun kV doc pm an cdv ct us hl => plainA_bind hP hl
  refine ⟨?_, bd⟩
  unfold initB at hB
  split at hB
  · rename_i v p1 i p2 s p3 txt j p4 p5 p6 s2 p7 f2 p8 q p9 p10
    simp only [Bool.and_eq_true, decide_eq_true_eq, Bool.not_eq_true'] at hB
    obtain ⟨⟨⟨⟨⟨⟨⟨⟨⟨⟨⟨⟨⟨rfl, rfl⟩, rfl⟩, rfl⟩, rfl⟩, h6⟩, h7⟩, h8⟩, h9⟩, d1⟩, d2⟩, d3⟩, d4⟩, hl⟩ := hB
    obtain ⟨oc, od, dV, kV, doc, pm, an, cdv, ct, osl, rfl, lk, hcd, hD, hK⟩ := F.ex
    unfold glB at h7
    simp only [Bool.and_eq_true, decide_eq_true_eq] at h7
    exact init_ok (k := 0) (pl := fun env => plainOf (.Name "ValueError" p1) env) (fun env => mcall_of rfl fun ov => mcall_line rfl hl) lk hcd (fnScB_ok h6) h7.1 hm vV T hno (visB_ok h8) (visB_ok h9) d1 d2 d3 d4
  · cases hB
end Mi
set_option Elab.async false
set_option linter.all false
set_option maxRecDepth 100000
set_option maxHeartbeats 2000000
/-! MjN: a law by its reading. -/
namespace Mi
open PySem PySem.Spec PyProof.Rows L2
/-- classes with their bases, none under another -/
def mkSub (bs : List (Str × String)) : SubT := bs.flatMap fun c => (.mk c.1 (.inl "ValueError", decide (c.2 = "ValueError"))) :: (.mk c.1 (.inl "LookupError", decide (c.2 = "LookupError"))) :: bs.map fun k => (.mk c.1 (.inr k.1, decide (c.1 = k.1)))
structure Xi where
  c : Str
  f : Str
  st : Stmt
  ps : List Str
def Xi.dd (x : Xi) : He.DefD := ⟨(x.c, some "__init__"), "__init__", x.c ++ ".__init__", defArgs x.st, defBody x.st, defScope x.st, [], []⟩
structure Lw where
  d : Ds
  ts : List Tx
  xi : List Xi
def Lw.n (L : Lw) : Nms := ⟨L.d.cls, L.ts.map (·.f), L.d.kd.map (·.1), L.d.xc.map (·.1)⟩
def Lw.pr (L : Lw) : Pr := ⟨L.d.go, L.ts.map Tx.fn⟩
def Lw.glo (L : Lw) : List Str := L.d.cls ++ (L.ts.map (·.f) ++ L.d.kd.map (·.1))
def Lw.fa (L : Lw) : List He.Fa := L.glo.map .glo ++ bltN.map .free
def Lw.fn (L : Lw) : List He.DefD := L.ts.map Tx.dd ++ L.xi.map Xi.dd
def Lw.tb (L : Lw) : List He.Tab := L.d.kd.map fun e => (fun K => He.ga K e.1, e.2.map (·.1))
def noLst (K : PySem.W.Frag) : Bool := K.all fun q => match q.2.cls with
  | .type t => !decide (t = "list")
  | _ => true
def veB (K : PySem.W.Frag) : Bool := match PySem.W.findCls K (.type "ValueError") (.type "type") "__init__" with
  | some (.val (.builtin s)) => decide (s = "ValueError.__init__")
  | _ => false
def Lw.ex (L : Lw) (K : PySem.W.Frag) : Bool := L.d.B K && uniqB K L.ts && noLst K && veB K
def Lw.hk (L : Lw) (m : Nat) : PySem.W.Hook := He.hookX m L.fa L.fn L.tb (mkrD L.ts) L.ex
def Lw.stat (L : Lw) (x : Str) : Bool := txB L.n L.ts && L.d.nmsB && decide (L.d.xc = L.xi.map fun x => (x.c, x.f)) && (L.xi.all fun x => initB x.f x.ps (defScope x.st) (defBody x.st) && plainA (defArgs x.st) x.ps) && L.ts.any fun t => decide (t.f = ("law" : Str)) && decide (t.ps = [x])
theorem noLst_ok {K : PySem.W.Frag} {h : Heap} {a : Addr} {vs : Array Value} (n : noLst K = true) (kin : K.In h) (ha : h.get? a = some { cls := .type "list", data := .seq vs }) : K.lookup a = none := by
  cases e : K.lookup a with
  | none => rfl
  | some o =>
    have h1 := kin a o e
    rw [ha] at h1
    cases h1
    have h2 := List.all_eq_true.mp n _ (He.lookup_mem e)
    simp at h2
theorem RepPs.ints {ρ : Ow} {K : PySem.W.Frag} {H : Hp} : ∀ ns : List Int, RepPs ρ K H (ns.map .int) (ns.map V.int)
  | [] => .nil
  | n :: ns => .cons (.int n) (RepPs.ints ns)
theorem Lw.walk {L : Lw} {l : PySem.W.OpenLaw} {q : Program} {loose : List Str} {XP : (Str → Option Value) → Heap → Prop} {dR : DefRec} {m lv : Nat} {x : Str} (hn : l.most = some 63) (hdf : dR.params.defaults = []) (hnm : dR.name = ("law" : Str)) (hr : Room (lev lv) callerA) (hst : L.stat x = true) (hB : ∀ t ∈ L.ts, Tx.B L.n t = true)
    (key : ∀ ns : List Int, ns.length ≤ 63 → (∀ z ∈ ns, Builtin.Int.intBits z ≤ 1048576) → ∃ A', callN L.pr lv "law" [.d (.list (ns.map .int))] [] = some (.ok (.val (.d (.bool true))), A')) :
    PySem.W.WalkO q loose XP (L.hk m).says l.row.toRowW dR [] (fun f vs => PySem.call f vs) := by
  refine Att.attach_callB hn hdf fun w s₀ s₁ mg mb fa o pm cd doc a vs ns G Y ho hd hcd hmg hobj hints hlen hbits hg => ?_
  obtain ⟨K, kin, S⟩ := Y
  unfold Lw.stat at hst
  simp only [Bool.and_eq_true, decide_eq_true_eq, List.all_eq_true] at hst
  obtain ⟨⟨⟨⟨z1, z2⟩, z3⟩, z4⟩, z5⟩ := hst
  have glo : ∀ y ∈ L.glo, ∀ {h : Heap}, K.In h → h.Ns mainGlobals mg → mg y = some (.ref (He.ga K y)) := fun y hy h k1 k2 => He.glo_ok k1 k2 (S.t.d.facts (List.mem_append_left _ (List.mem_map.mpr ⟨y, hy, rfl⟩)))
  have fre : ∀ y ∈ bltN, mg y = none := fun y hy => He.free_ok kin G.T.g (S.t.d.facts (List.mem_append_right _ (List.mem_map.mpr ⟨y, hy, rfl⟩)))
  have gcls : ∀ y ∈ L.d.cls, y ∈ L.glo := fun y hy => List.mem_append_left _ hy
  have gdef : ∀ t ∈ L.ts, t.f ∈ L.glo := fun t ht => List.mem_append_right _ (List.mem_append_left _ (List.mem_map.mpr ⟨t, ht, rfl⟩))
  have gkd : ∀ e ∈ L.d.kd, e.1 ∈ L.glo := fun e he => List.mem_append_right _ (List.mem_append_right _ (List.mem_map.mpr ⟨e, he, rfl⟩))
  have more := S.more
  unfold Lw.ex at more
  simp only [Bool.and_eq_true] at more
  obtain ⟨⟨⟨m1, m2⟩, m3⟩, m4⟩ := more
  have vV : PySem.W.findCls K (.type "ValueError") (.type "type") "__init__" = some (.val (.builtin "ValueError.__init__")) := by
    unfold veB at m4
    split at m4
    · rename_i s e
      rw [e, of_decide_eq_true m4]
    · cases m4
  obtain ⟨tl, htl, hl2⟩ := List.any_eq_true.mp z5
  simp only [Bool.and_eq_true, decide_eq_true_eq] at hl2
  obtain ⟨hl2, hl3⟩ := hl2
  have hfun : ∀ t ∈ L.ts, ∃ fd, FunD K t.f t.f (defArgs t.st) (defBody t.st) (defScope t.st) [] [] (He.ga K t.f) fd := fun t ht => S.t.d.defs (d := t.dd) (List.mem_append_left _ (List.mem_map.mpr ⟨t, ht, rfl⟩))
  obtain ⟨fd, FL⟩ := hfun tl htl
  have efa : fa = He.ga K tl.f := by
    have h1 := glo _ (gdef tl htl) kin G.T.g
    rw [hl2, ← hnm, hmg] at h1
    cases h1
    rw [hl2, hnm]
  have hbl : plainA (defArgs tl.st) tl.ps = true := by
    have b := hB tl htl
    unfold Tx.B at b
    simp only [Bool.and_eq_true] at b
    exact b.1.1
  have hbA := FunD.bindsA (ps := tl.ps) FL fun kV doc pm an cdv ct us hl => plainA_bind hbl hl
  have all : ∀ base : Heap, K.In base → base.Ns mainGlobals mg → (∀ p ∈ (mkrD L.ts).map (He.cT K), LamX.TabB base mg p.1 p.2) → AllOk l.prog w K mg base (tabT K L.ts) L.n L.pr (L.ts.map Tx.ent) := fun base k1 k2 k3 => by
    refine all_of ?_ hB z1 m2 (fun t ht => glo _ (gdef t ht) k1 k2) hfun fun t ht => k3 _ (List.mem_map.mpr ⟨(t.f, none), List.mem_map.mpr ⟨t, ht, rfl⟩, rfl⟩)
    refine sta_of rfl rfl rfl m1 z2 k1 k2 (fun y hy => glo y (gcls y hy) k1 k2) fre (fun e he => ⟨glo _ (gkd e he) k1 k2, ?_⟩) fun e he => ?_
    · obtain ⟨i, hi, ei⟩ := List.mem_iff_getElem.mp he
      have := S.t.tab i (t := (fun K => He.ga K e.1, e.2.map (·.1))) (by
        unfold Lw.tb
        rw [List.getElem?_map, List.getElem?_eq_getElem hi, ei]
        rfl)
      exact this
    · rw [z3] at he
      obtain ⟨y, hy, rfl⟩ := List.mem_map.mp he
      have b := z4 y hy
      obtain ⟨fdI, FI⟩ := S.t.d.defs (d := y.dd) (List.mem_append_right _ (List.mem_map.mpr ⟨y, hy, rfl⟩))
      have mB := m1
      unfold Ds.B at mB
      simp only [Bool.and_eq_true, List.all_eq_true] at mB
      have xb := mB.2 (y.c, y.f) (by rw [z3]; exact List.mem_map.mpr ⟨y, hy, rfl⟩)
      unfold xcB at xb
      simp only [Bool.and_eq_true, decide_eq_true_eq] at xb
      obtain ⟨⟨⟨x1, x2⟩, x3⟩, x4⟩ := xb
      exact ⟨fdI, y.ps, init_of b.1 b.2 FI (fre _ (by decide +kernel)) (oexB_ok x1) x4 vV⟩
  rw [efa]
  refine law_g (cs := (mkrD L.ts).map (He.cT K)) (fd := fd) (x := x) (sp := spF K (mg0 mg (tabT K L.ts)) (callN L.pr lv "law")) kin G.T.g G.T.b G.T.builtins G.T.nolimit hg (fun p hp => ?_) (fun p hp => ?_) (fun p hp => ?_) G.T.bmain hobj (noLst_ok m3 kin hobj) hints (Nat.le_trans hlen (by decide)) hr (fun base k1 k2 k3 => ?_) (fun s u => ?_) (fun H hT hR => ?_)
  · obtain ⟨y, hy, rfl⟩ := List.mem_map.mp hp
    exact S.empty y hy
  · obtain ⟨y, hy, rfl⟩ := List.mem_map.mp hp
    exact S.out y hy
  · obtain ⟨y, hy, rfl⟩ := List.mem_map.mp hp
    exact PySem.W.codeHd_of_K kin (S.hd y hy)
  · have A := all base k1 k2 k3
    obtain ⟨a', cdv', fd', E⟩ := A.ent tl.ent (List.mem_map.mpr ⟨tl, htl, rfl⟩)
    have ea : a' = He.ga K tl.f := by
      have h1 : mg tl.f = some (.ref a') := E.gm
      rw [glo _ (gdef tl htl) k1 k2] at h1
      cases h1; rfl
    subst ea
    obtain ⟨oc, od, dV, kV, doc, pm, an, cdv, ct, osl, e1, lk, _⟩ := FL.ex
    obtain ⟨_, _, _, _, _, _, _, _, _, _, _, lk', _⟩ := E.df.lk
    have ef : fd' = fd := by
      rw [lk] at lk'
      cases lk'
      rfl
    subst ef
    have R := lev_all A lv lv (Nat.le_refl _) tl.ent (List.mem_map.mpr ⟨tl, htl, rfl⟩) _ _ _ E
    have eps : tl.ent.D.ps = [x] := hl3
    have efn : tl.ent.f = ("law" : Str) := hl2
    rw [eps, efn] at R
    exact R
  · have b := hbA s [u] (by rw [hl3]; rfl)
    rw [hl3] at b
    exact b
  · obtain ⟨A', hk⟩ := key ns hlen hbits
    refine ⟨⟨[], []⟩, [], [.d (.list (ns.map .int))], .cons (.d (.lst ⟨hR, ?_⟩ (RepPs.ints ns))) .nil, ⟨rfl, by simp, fun n o a e => by simp at e, fun p hp => ?_, trivial, fun b hb => ?_⟩, ?_⟩
    · rintro (z | z) <;> cases z
    · obtain ⟨t, ht, rfl⟩ := List.mem_map.mp hp
      refine ⟨#[], hT _ (List.mem_map.mpr ⟨(t.f, none), List.mem_map.mpr ⟨t, ht, rfl⟩, rfl⟩), trivial, fun pos cv e => ?_⟩
      have e : codeAmong pos [] = some cv := e
      cases e
    · cases hb
    · unfold Ask
      rw [hk]
      intro ρ' H' st rr
      refine ⟨rfl, fun v rv => ?_⟩
      cases rv with
      | val ru =>
        cases ru with
        | d rp =>
          cases rp
          rfl
end Mi
set_option Elab.async false
set_option linter.all false
set_option maxRecDepth 100000
set_option maxHeartbeats 1000000
/-! MkA: what a reading comes to, by what is wanted behind it. -/
namespace Mi
open PySem L2
/-- it comes to a value of which Φ holds, or it raises and E holds -/
def wq {α : Type} (m : M α) (A : Hs) (Φ : α → Hs → Prop) (E : Str → List (Str × PyData) → Hs → Prop) : Prop := match m A with
  | some (.ok a, A') => Φ a A'
  | some (.er c fs, A') => E c fs A'
  | none => False
def ow {α : Type} (o : Option α) (Φ : α → Prop) : Prop := match o with
  | some a => Φ a
  | none => False
def wS (x : SR) (Ψ : Out → Fr → Hs → Prop) : Prop := match x with
  | some (o, δ, A) => Ψ o δ A
  | none => False
abbrev NoE : Str → List (Str × PyData) → Hs → Prop := fun _ _ _ => False
/-- it comes to a value of which Φ holds -/
def Ret {α : Type} (m : M α) (A : Hs) (Φ : α → Hs → Prop) : Prop := ∃ a A', m A = some (.ok a, A') ∧ Φ a A'
section
variable {α β : Type} {m : M α} {f : α → M β} {A : Hs} {Φ : α → Hs → Prop} {Θ : β → Hs → Prop} {E : Str → List (Str × PyData) → Hs → Prop} {Ψ : Out → Fr → Hs → Prop} {δ : Fr}
theorem ow_some {a : α} {Φ : α → Prop} : ow (some a) Φ = Φ a := (rfl)
theorem ow_none {Φ : α → Prop} : ow none Φ = False := (rfl)
theorem ow_map {g : β → α} {o : Option β} {Φ : α → Prop} : ow (o.map g) Φ = ow o fun b => Φ (g b) := by cases o <;> rfl
theorem ow_bind {g : β → Option α} {o : Option β} {Φ : α → Prop} : ow (o.bind g) Φ = ow o fun b => ow (g b) Φ := by cases o <;> rfl
theorem ow_ite {c : Prop} [Decidable c] {x y : Option α} {Φ : α → Prop} : ow (if c then x else y) Φ = if c then ow x Φ else ow y Φ := by split <;> rfl
theorem wq_ret {a : α} : wq (ret a) A Φ E = Φ a A := (rfl)
theorem wq_bad : wq (bad : M α) A Φ E = False := (rfl)
theorem wq_lft {o : Option α} : wq (lft o) A Φ E = ow o fun a => Φ a A := by cases o <;> rfl
theorem wq_lftA {g : Hs → Option α} : wq (fun A => lft (g A) A) A Φ E = ow (g A) fun a => Φ a A := by
  show wq (lft (g A)) A Φ E = _
  exact wq_lft
theorem wq_bnd : wq (bnd m f) A Θ E = wq m A (fun a A' => wq (f a) A' Θ E) E := by
  unfold wq bnd
  cases m A with
  | none => rfl
  | some z =>
    obtain ⟨z, A'⟩ := z
    cases z <;> rfl
theorem wq_val {m : M R} {Φ : U → Hs → Prop} : wq (valM m) A Φ E = wq m A (fun r A' => ow (toVal r) fun u => Φ u A') E := by
  unfold valM
  rw [wq_bnd]
  simp only [wq_lft]
theorem wq_bool {m : M R} {Φ : Bool → Hs → Prop} : wq (boolM m) A Φ E = wq m A (fun r A' => ow (toVal r) fun u => ow (asBool u) fun b => Φ b A') E := by
  unfold boolM
  rw [wq_bnd, wq_val]
  simp only [wq_lft]
theorem wq_match {b : Bool} {m n : M α} : wq (match b with | true => m | false => n) A Φ E = if b = true then wq m A Φ E else wq n A Φ E := by cases b <;> rfl
theorem wS_match {b : Bool} {m n : Fr → Hs → SR} : wS ((match b with | true => m | false => n) δ A) Ψ = if b = true then wS (m δ A) Ψ else wS (n δ A) Ψ := by cases b <;> rfl
theorem wS_match' {b : Bool} {m n : Hs → SR} : wS ((match b with | true => m | false => n) A) Ψ = if b = true then wS (m A) Ψ else wS (n A) Ψ := by cases b <;> rfl
theorem wS_matchv {b : Bool} {m n : SR} : wS (match b with | true => m | false => n) Ψ = if b = true then wS m Ψ else wS n Ψ := by cases b <;> rfl
theorem wS_exE {k : α → Hs → SR} : wS (exE m δ k A) Ψ = wq m A (fun a A' => wS (k a A') Ψ) fun c fs A' => Ψ (.ex c fs) δ A' := by
  unfold exE wq
  cases m A with
  | none => rfl
  | some z =>
    obtain ⟨z, A'⟩ := z
    cases z <;> rfl
theorem wS_seq {x y : Fr → Hs → SR} : wS (seqS x y δ A) Ψ = wS (x δ A) fun o δ' A' => (match o with
    | .nx => wS (y δ' A') Ψ
    | o => Ψ o δ' A') := by
  unfold seqS
  cases x δ A with
  | none => rfl
  | some z =>
    obtain ⟨o, δ', A'⟩ := z
    cases o <;> rfl
theorem wS_nx : wS (nxS δ A) Ψ = Ψ .nx δ A := (rfl)
theorem wS_some {o : Out} : wS (some (o, δ, A)) Ψ = Ψ o δ A := (rfl)
theorem wS_none : wS none Ψ = False := (rfl)
theorem wS_map {o : Option β} {g : β → Out × Fr × Hs} : wS (o.map g) Ψ = ow o fun b => Ψ (g b).1 (g b).2.1 (g b).2.2 := by cases o <;> rfl
theorem Ret.wq (h : Ret m A Φ) {Φ' : α → Hs → Prop} (k : ∀ a A', Φ a A' → Φ' a A') : Mi.wq m A Φ' E := by
  obtain ⟨a, A', e, h⟩ := h
  unfold Mi.wq
  rw [e]
  exact k a A' h
theorem wq.ret (h : wq m A Φ NoE) : Ret m A Φ := by
  unfold wq at h
  split at h
  · exact ⟨_, _, ‹_›, h⟩
  · exact h.elim
  · exact h.elim
theorem Ret.mono (h : Ret m A Φ) {Φ' : α → Hs → Prop} (k : ∀ a A', Φ a A' → Φ' a A') : Ret m A Φ' := by
  obtain ⟨a, A', e, h⟩ := h
  exact ⟨a, A', e, k a A' h⟩
theorem Ret.of {a : α} {A' : Hs} (e : m A = some (.ok a, A')) (h : Φ a A') : Ret m A Φ := ⟨a, A', e, h⟩
theorem wq_of {a : α} {A' : Hs} (e : m A = some (.ok a, A')) : Mi.wq m A Φ E = Φ a A' := by unfold Mi.wq; rw [e]
theorem wq_er {c : Str} {fs : List (Str × PyData)} {A' : Hs} (e : m A = some (.er c fs, A')) : Mi.wq m A Φ E = E c fs A' := by unfold Mi.wq; rw [e]
end
/-! ### defs -/
/-- what is wanted behind a body -/
def pst (keep : Bool) (k : Nat) (Φ : R → Hs → Prop) (E : Str → List (Str × PyData) → Hs → Prop) : Out → Fr → Hs → Prop
  | .nx, _, A' => ow (leave keep k (.val (.d .none)) A') fun z => Φ z.1 z.2
  | .rt r, _, A' => ow (leave keep k r A') fun z => Φ z.1 z.2
  | .ex c fs, _, A' => ow (leave keep k (.val (.d .none)) A') fun z => E c fs z.2
  | .bk, _, _ => False
  | .ct, _, _ => False
section
variable {keep : Bool} {k : Nat} {Φ : R → Hs → Prop} {E : Str → List (Str × PyData) → Hs → Prop} {δ : Fr} {A : Hs}
theorem pst_nx : pst keep k Φ E .nx δ A = ow (leave keep k (.val (.d .none)) A) fun z => Φ z.1 z.2 := (rfl)
theorem pst_rt {r : R} : pst keep k Φ E (.rt r) δ A = ow (leave keep k r A) fun z => Φ z.1 z.2 := (rfl)
theorem pst_ex {c : Str} {fs : List (Str × PyData)} : pst keep k Φ E (.ex c fs) δ A = ow (leave keep k (.val (.d .none)) A) fun z => E c fs z.2 := (rfl)
end
theorem wq_run {G : Ge} {d : Fn} {us : List U} {A : Hs} {Φ : R → Hs → Prop} {E : Str → List (Str × PyData) → Hs → Prop} (hl : us.length = d.np) : wq (runFn G d us) A Φ E = wS (exs G d.body (us.map some ++ List.replicate (d.ns - d.np) none) A) (pst d.keep A.length Φ E) := by
  unfold wq runFn
  rw [decide_eq_true hl]
  simp only
  cases exs G d.body (us.map some ++ List.replicate (d.ns - d.np) none) A with
  | none => rfl
  | some z =>
    obtain ⟨o, δ', A'⟩ := z
    cases o with
    | nx => simp only [wS, pst]; cases leave d.keep A.length (.val (.d .none)) A' <;> rfl
    | rt r => simp only [wS, pst]; cases leave d.keep A.length r A' <;> rfl
    | ex c fs => simp only [wS, pst]; cases leave d.keep A.length (.val (.d .none)) A' <;> rfl
    | bk => rfl
    | ct => rfl
theorem wq_call {P : Pr} {n : Nat} {f : Str} {d : Fn} {us : List U} {A : Hs} {Φ : R → Hs → Prop} {E : Str → List (Str × PyData) → Hs → Prop} (h : fnd P.tab f = some d) (hl : us.length = d.np) : wq (callN P (n + 1) f us) A Φ E = wS (exs (geN P n bad) d.body (us.map some ++ List.replicate (d.ns - d.np) none) A) (pst d.keep A.length Φ E) := by
  have e : callN P (n + 1) f us = runFn (geN P n bad) d us := by
    simp only [callN]
    rw [h]
  rw [e]
  exact wq_run hl
/-- a value leaves a call that made no objects -/
theorem leave_val {k : Nat} {u : U} {A' : Hs} (hu : nl u = true) (ho : ∀ n, u ≠ .obj n) (hc : (A'.take k).all (clean k) = true) : leave false k (.val u) A' = some (.val u, A'.take k) := by
  unfold leave
  simp only [hc]
  cases u with
  | lam => cases hu
  | obj n => exact (ho n rfl).elim
  | _ => rfl
theorem leave_d {k : Nat} {p : PyData} {A' : Hs} (hc : (A'.take k).all (clean k) = true) : leave false k (.val (.d p)) A' = some (.val (.d p), A'.take k) := leave_val rfl (fun _ => by simp) hc
theorem leave_newl {k : Nat} {ps : List PyData} {A' : Hs} (hc : (A'.take k).all (clean k) = true) : leave false k (.new (.lst ps)) A' = some (.new (.lst ps), A'.take k) := by
  unfold leave
  simp only [hc]
  rfl
end Mi
set_option Elab.async false
set_option linter.all false
set_option maxRecDepth 100000
set_option maxHeartbeats 1000000
/-! MkB: one rule for each form of the compact syntax. -/
namespace Mi
open PySem L2
section
variable {G : Ge} {δ : Fr} {A : Hs} {Φ : R → Hs → Prop} {Ψ : Out → Fr → Hs → Prop} {E : Str → List (Str × PyData) → Hs → Prop} {a b c : Mi.E} {es : List Mi.E}
theorem wq_F {α : Type} {g : Hs → M α} {A : Hs} {Φ : α → Hs → Prop} : wq (fun A => g A A) A Φ E = wq (g A) A Φ E := rfl
theorem q_k {p : PyData} : wq (ev G (.k p) δ) A Φ E = Φ (.val (.d p)) A := by simp only [ev, wq_ret]
theorem q_v {i : Nat} : wq (ev G (.v i) δ) A Φ E = ow δ[i]? fun o => ow o fun u => Φ (.val u) A := by
  simp only [ev]
  cases δ[i]? with
  | none => rfl
  | some o => cases o <;> rfl
theorem q_gc {x : Str} : wq (ev G (.gc x) δ) A Φ E = ow (G.o.gcs x) fun u => Φ (.val u) A := by simp only [ev, wq_lft, ow_map]
theorem q_nil {Φ : List U → Hs → Prop} : wq (evs G [] δ) A Φ E = Φ [] A := by simp only [evs, wq_ret]
theorem q_cons {Φ : List U → Hs → Prop} : wq (evs G (a :: es) δ) A Φ E = wq (ev G a δ) A (fun r A1 => ow (toVal r) fun u => wq (evs G es δ) A1 (fun us A2 => Φ (u :: us) A2) E) E := by
  simp only [evs, wq_bnd, wq_val, wq_ret]
theorem q_tup : wq (ev G (.tup es) δ) A Φ E = wq (evs G es δ) A (fun us A1 => ow (asPs us) fun ps => ps.length ≤ sizeLine ∧ Φ (.val (.d (.tuple ps))) A1) E := by
  simp only [ev, wq_bnd, wq_lft, ow_bind, ow_ite, ow_some, ow_none, dT]
  congr
  funext us A1
  congr
  funext ps
  by_cases h : ps.length ≤ sizeLine <;> simp [h]
theorem q_lst : wq (ev G (.lst es) δ) A Φ E = wq (evs G es δ) A (fun us A1 => ow (asPs us) fun ps => ps.length ≤ sizeLine ∧ Φ (.new (.lst ps)) A1) E := by
  simp only [ev, wq_bnd, wq_lft, ow_bind, ow_ite, ow_some, ow_none]
  congr
  funext us A1
  congr
  funext ps
  by_cases h : ps.length ≤ sizeLine <;> simp [h]
theorem q_dic {ks : List Key} : wq (ev G (.dic ks es) δ) A Φ E = wq (evs G es δ) A (fun us A1 => us.all nl = true ∧ Φ (.new (.dK (putAllU [] (ks.zip us)))) A1) E := by
  simp only [ev, wq_bnd, wq_lft, ow_ite, ow_some, ow_none]
  congr
  funext us A1
  by_cases h : us.all nl = true <;> simp [h]
theorem q_alc : wq (ev G (.alc a) δ) A Φ E = wq (ev G a δ) A (fun r A1 => match r with
    | .new o => Φ (.val (.obj A1.length)) (A1 ++ [o])
    | .val _ => False) E := by
  simp only [ev, wq_bnd]
  congr
  funext r A1
  cases r <;> rfl
theorem q_bin {op : Operator} : wq (ev G (.bin op a b) δ) A Φ E = wq (ev G a δ) A (fun r A1 => ow (toVal r) fun u => wq (ev G b δ) A1 (fun r A2 => ow (toVal r) fun v => ow (binO A2 op u v) fun z => Φ z A2) E) E := by
  simp only [ev, wq_bnd, wq_val, wq_lftA]
theorem q_neg : wq (ev G (.neg a) δ) A Φ E = wq (ev G a δ) A (fun r A1 => ow (toVal r) fun u => ow (negO u) fun z => Φ z A1) E := by
  simp only [ev, wq_bnd, wq_val, wq_lft]
theorem q_cmp {op : CmpOp} : wq (ev G (.cmp op a b) δ) A Φ E = wq (ev G a δ) A (fun r A1 => ow (toVal r) fun u => wq (ev G b δ) A1 (fun r A2 => ow (toVal r) fun v => ow (cmpO A2 op u v) fun z => Φ (.val (.d (.bool z))) A2) E) E := by
  simp only [ev, wq_bnd, wq_val, wq_lftA, ow_map, dB]
theorem q_chn {o1 o2 : CmpOp} : wq (ev G (.chn o1 o2 a b c) δ) A Φ E = wq (ev G a δ) A (fun r A1 => ow (toVal r) fun u => wq (ev G b δ) A1 (fun r A2 => ow (toVal r) fun v => ow (cmpO A2 o1 u v) fun t => if t = true then wq (ev G c δ) A2 (fun r A3 => ow (toVal r) fun w => ow (cmpO A3 o2 v w) fun z => Φ (.val (.d (.bool z))) A3) E else Φ (.val (.d (.bool false))) A2) E) E := by
  simp only [ev, wq_bnd, wq_val]
  congr
  funext r A1
  congr
  funext u
  congr
  funext r A2
  congr
  funext v
  cases e : cmpO A2 o1 u v with
  | none => simp only [wq, e, ow]
  | some t =>
    cases t with
    | true =>
      refine Eq.trans (b := wq (bnd (valM (ev G c δ)) (fun w => fun A => lft ((cmpO A o2 v w).map dB) A)) A2 Φ E) ?_ ?_
      · simp only [wq, e]
      · simp only [wq_bnd, wq_val, wq_lftA, ow_map, ow_some, if_true, dB]
    | false => simp only [wq, e, ow, ret, dB]; rfl
theorem q_and : wq (ev G (.and es) δ) A Φ E = wq (evAnd G es δ) A Φ E := by simp only [ev]
theorem q_or : wq (ev G (.or es) δ) A Φ E = wq (evOr G es δ) A Φ E := by simp only [ev]
theorem q_and1 : wq (evAnd G [a] δ) A Φ E = wq (ev G a δ) A Φ E := by simp only [evAnd]
theorem q_or1 : wq (evOr G [a] δ) A Φ E = wq (ev G a δ) A Φ E := by simp only [evOr]
theorem q_and2 : wq (evAnd G (a :: b :: es) δ) A Φ E = wq (ev G a δ) A (fun r A1 => ow (toVal r) fun u => ow (asBool u) fun t => if t = true then wq (evAnd G (b :: es) δ) A1 Φ E else Φ (.val (.d (.bool false))) A1) E := by
  rw [evAnd.eq_3 _ _ _ _ (by simp)]
  simp only [wq_bnd, wq_bool]
  congr
  funext r A1
  congr
  funext u
  congr
  funext k
  cases k <;> rfl
theorem q_or2 : wq (evOr G (a :: b :: es) δ) A Φ E = wq (ev G a δ) A (fun r A1 => ow (toVal r) fun u => ow (asBool u) fun t => if t = true then Φ (.val (.d (.bool true))) A1 else wq (evOr G (b :: es) δ) A1 Φ E) E := by
  rw [evOr.eq_3 _ _ _ _ (by simp)]
  simp only [wq_bnd, wq_bool]
  congr
  funext r A1
  congr
  funext u
  congr
  funext k
  cases k <;> rfl
theorem q_not : wq (ev G (.not a) δ) A Φ E = wq (ev G a δ) A (fun r A1 => ow (toVal r) fun u => ow (asBool u) fun t => Φ (.val (.d (.bool (!t)))) A1) E := by
  simp only [ev, wq_bnd, wq_bool, wq_ret, dB]
theorem q_ife : wq (ev G (.ife c a b) δ) A Φ E = wq (ev G c δ) A (fun r A1 => ow (toVal r) fun u => ow (asBool u) fun t => if t = true then wq (ev G a δ) A1 Φ E else wq (ev G b δ) A1 Φ E) E := by
  simp only [ev, wq_bnd, wq_bool]
  congr
  funext r A1
  congr
  funext u
  congr
  funext k
  cases k <;> rfl
theorem q_ix : wq (ev G (.ix a b) δ) A Φ E = wq (ev G a δ) A (fun r A1 => ow (toVal r) fun u => wq (ev G b δ) A1 (fun r A2 => ow (toVal r) fun v => ow (ixO A2 u v) fun z => Φ (.val z) A2) E) E := by
  simp only [ev, wq_bnd, wq_val, wq_lftA, ow_map]
theorem q_oN {Φ : Option Int → Hs → Prop} : wq (evO G none δ) A Φ E = Φ none A := by simp only [evO, wq_ret]
theorem q_oS {Φ : Option Int → Hs → Prop} : wq (evO G (some a) δ) A Φ E = wq (ev G a δ) A (fun r A1 => ow (toVal r) fun u => ow (asInt u) fun i => Φ (some i) A1) E := by
  simp only [evO, wq_bnd, wq_val, wq_lft, ow_map]
theorem q_sl {lo hi : Option Mi.E} : wq (ev G (.sl a lo hi) δ) A Φ E = wq (ev G a δ) A (fun r A1 => ow (toVal r) fun u => wq (evO G lo δ) A1 (fun l A2 => wq (evO G hi δ) A2 (fun h A3 => ow (slO A3 u l h) fun z => Φ z A3) E) E) E := by
  simp only [ev, wq_bnd, wq_val, wq_lftA]
theorem q_call {f : Str} : wq (ev G (.call f es) δ) A Φ E = wq (evs G es δ) A (fun us A1 => us.all nl = true ∧ wq (G.call f us) A1 Φ E) E := by
  simp only [ev, wq_bnd]
  congr
  funext us A1
  cases h : us.all nl
  · simp only [wq_bad]
    simp
  · simp
theorem q_act {i : Nat} : wq (ev G (.act i) δ) A Φ E = ow δ[i]? fun o => ow o fun u => (match u with
    | .lam => wq G.deed A Φ E
    | _ => False) := by
  simp only [ev]
  cases δ[i]? with
  | none => rfl
  | some o =>
    cases o with
    | none => rfl
    | some u => cases u <;> rfl
theorem q_lamc {f : Str} : wq (ev G (.lamc f a) δ) A Φ E = wq (G.callL f (ev G a δ)) A Φ E := by simp only [ev]
theorem q_bi {f : String} : wq (ev G (.bi f es) δ) A Φ E = wq (evs G es δ) A (fun us A1 => ow (biO A1 f us) fun z => Φ z A1) E := by
  simp only [ev, wq_bnd, wq_lftA]
theorem q_kget {x : Str} : wq (ev G (.kget x a b) δ) A Φ E = wq (ev G a δ) A (fun r A1 => ow (toVal r) fun u => wq (ev G b δ) A1 (fun r A2 => ow (toVal r) fun v => ow (match u, G.o.kds x with
    | .d (.str x), some kvs => some (.val (((kvs.lookup x).map U.d).getD v))
    | _, _ => none) fun z => Φ z A2) E) E := by
  simp only [ev, wq_bnd, wq_val, wq_lft]
  try rfl
theorem q_meth {m : String} : wq (ev G (.meth m a es) δ) A Φ E = wq (ev G a δ) A (fun r A1 => ow (toVal r) fun u => tyN A1 u = some (mTy m) ∧ wq (evs G es δ) A1 (fun us A2 => ow (metO A2 m u us) fun z => Φ z.1 z.2) E) E := by
  simp only [ev, wq_bnd, wq_val]
  congr
  funext r A1
  congr
  funext u
  by_cases h : tyN A1 u = some (mTy m)
  · refine Eq.trans (b := wq (bnd (evs G es δ) (fun us => fun A => (match metO A m u us with
        | some (r, A') => some (.ok r, A')
        | none => none))) A1 Φ E) ?_ ?_
    · simp only [wq, decide_eq_true h]
      try rfl
    · rw [wq_bnd]
      simp only [h, true_and]
      congr
      funext us A2
      unfold wq
      simp only
      cases metO A2 m u us <;> rfl
  · refine Eq.trans (b := False) ?_ ?_
    · simp only [wq, decide_eq_false h]
    · simp [h]
theorem q_isi {ts : List (String ⊕ Str)} {t : Bool} : wq (ev G (.isi a ts t) δ) A Φ E = wq (ev G a δ) A (fun r A1 => ow (toVal r) fun u => ow (isiOs G.o.sub A1 u ts) fun z => Φ (.val (.d (.bool z))) A1) E := by
  simp only [ev, wq_bnd, wq_val, wq_lftA, ow_map, dB]
theorem q_fld {f : Str} : wq (ev G (.fld a f) δ) A Φ E = wq (ev G a δ) A (fun r A1 => ow (toVal r) fun u => ow (match u with
    | .exc c fs => if ((G.o.flds c).getD []).contains f then (fs.lookup f).map fun p => .val (.d p) else none
    | _ => none) fun z => Φ z A1) E := by
  simp only [ev, wq_bnd, wq_val, wq_lft]
  try rfl
/-! ### statements -/
theorem z_asg0 {i : Nat} : wS (ex G (.asg i a false) δ A) Ψ = wq (ev G a δ) A (fun r A1 => ow (toVal r) fun u => Ψ .nx (δ.set i (some u)) A1) fun c fs A1 => Ψ (.ex c fs) δ A1 := by
  simp only [ex, wS_exE]
  congr
  funext r A1
  cases r with
  | val u => rfl
  | new o =>
    simp only [toVal]
    cases obVal o <;> rfl
theorem z_asg1 {i : Nat} : wS (ex G (.asg i a true) δ A) Ψ = wq (ev G a δ) A (fun r A1 => match r with
    | .val u => Ψ .nx (δ.set i (some u)) A1
    | .new o => Ψ .nx (δ.set i (some (.obj A1.length))) (A1 ++ [o])) fun c fs A1 => Ψ (.ex c fs) δ A1 := by
  simp only [ex, wS_exE]
  congr
  funext r A1
  cases r <;> rfl
theorem z_asgT {t : Tg} : wS (ex G (.asgT t a) δ A) Ψ = wq (ev G a δ) A (fun r A1 => ow (toVal r) fun u => ow (asP u) fun p => ow (tgO t p δ) fun δ' => Ψ .nx δ' A1) fun c fs A1 => Ψ (.ex c fs) δ A1 := by
  simp only [ex, wS_exE, wq_val]
  congr
  funext r A1
  congr
  funext u
  cases u with
  | d p => simp only [asP, ow_some]; cases tgO t p δ <;> rfl
  | _ => rfl
theorem z_par {i j : Nat} : wS (ex G (.par i j a b) δ A) Ψ = wq (ev G a δ) A (fun r A1 => ow (toVal r) fun u => wq (ev G b δ) A1 (fun r A2 => ow (toVal r) fun v => Ψ .nx ((δ.set i (some u)).set j (some v)) A2) fun c fs A2 => Ψ (.ex c fs) δ A2) fun c fs A1 => Ψ (.ex c fs) δ A1 := by
  simp only [ex, wS_exE, wq_val, wS_some]
theorem z_par3 {i j l : Nat} : wS (ex G (.par3 i j l a b c) δ A) Ψ = wq (ev G a δ) A (fun r A1 => ow (toVal r) fun u => wq (ev G b δ) A1 (fun r A2 => ow (toVal r) fun v => wq (ev G c δ) A2 (fun r A3 => ow (toVal r) fun w => Ψ .nx (((δ.set i (some u)).set j (some v)).set l (some w)) A3) fun c fs A3 => Ψ (.ex c fs) δ A3) fun c fs A2 => Ψ (.ex c fs) δ A2) fun c fs A1 => Ψ (.ex c fs) δ A1 := by
  simp only [ex, wS_exE, wq_val, wS_some]
theorem z_six : wS (ex G (.six a b c) δ A) Ψ = wq (ev G c δ) A (fun r A1 => ow (toVal r) fun v => wq (ev G a δ) A1 (fun r A2 => ow (toVal r) fun u => wq (ev G b δ) A2 (fun r A3 => ow (toVal r) fun k => ow (setIx A3 u k v) fun A4 => Ψ .nx δ A4) fun c fs A3 => Ψ (.ex c fs) δ A3) fun c fs A2 => Ψ (.ex c fs) δ A2) fun c fs A1 => Ψ (.ex c fs) δ A1 := by
  simp only [ex, wS_exE, wq_val, wS_map]
theorem z_aug {i : Nat} {op : Operator} : wS (ex G (.aug i op a) δ A) Ψ = ow δ[i]? fun o => ow o fun u => wq (ev G a δ) A (fun r A1 => ow (toVal r) fun v => ow (iopO op u v) fun z => Ψ .nx (δ.set i (some z)) A1) fun c fs A1 => Ψ (.ex c fs) δ A1 := by
  simp only [ex]
  cases δ[i]? with
  | none => rfl
  | some o =>
    cases o with
    | none => rfl
    | some u => simp only [wS_exE, wq_val, wS_map, ow_some]
theorem z_exp : wS (ex G (.exp a) δ A) Ψ = wq (ev G a δ) A (fun _ A1 => Ψ .nx δ A1) fun c fs A1 => Ψ (.ex c fs) δ A1 := by
  simp only [ex, wS_exE, wS_nx]
theorem z_retN : wS (ex G (.ret none) δ A) Ψ = Ψ (.rt (.val (.d .none))) δ A := by simp only [ex, wS_some]
theorem z_ret : wS (ex G (.ret (some a)) δ A) Ψ = wq (ev G a δ) A (fun r A1 => Ψ (.rt r) δ A1) fun c fs A1 => Ψ (.ex c fs) δ A1 := by
  simp only [ex, wS_exE, wS_some]
theorem z_iff {s t : List S} : wS (ex G (.iff a s t) δ A) Ψ = wq (ev G a δ) A (fun r A1 => ow (toVal r) fun u => ow (asBool u) fun k => if k = true then wS (exs G s δ A1) Ψ else wS (exs G t δ A1) Ψ) fun c fs A1 => Ψ (.ex c fs) δ A1 := by
  simp only [ex, wS_exE, wq_bool]
  congr
  funext r A1
  congr
  funext u
  congr
  funext k
  cases k <;> rfl
theorem z_rais {k : Str} : wS (ex G (.rais k es) δ A) Ψ = wq (evs G es δ) A (fun us A1 => ow (excF G.o.flds k us) fun fs => Ψ (.ex k fs) δ A1) fun c fs A1 => Ψ (.ex c fs) δ A1 := by
  simp only [ex, wS_exE, wS_map]
theorem z_pas : wS (ex G .pas δ A) Ψ = Ψ .nx δ A := by simp only [ex, wS_nx]
theorem z_brk : wS (ex G .brk δ A) Ψ = Ψ .bk δ A := by simp only [ex, wS_some]
theorem z_cnt : wS (ex G .cnt δ A) Ψ = Ψ .ct δ A := by simp only [ex, wS_some]
/-- what is wanted behind a statement of a block -/
def sqK (G : Ge) (ss : List S) (Ψ : Out → Fr → Hs → Prop) : Out → Fr → Hs → Prop
  | .nx, δ', A' => wS (exs G ss δ' A') Ψ
  | .rt r, δ', A' => Ψ (.rt r) δ' A'
  | .bk, δ', A' => Ψ .bk δ' A'
  | .ct, δ', A' => Ψ .ct δ' A'
  | .ex c fs, δ', A' => Ψ (.ex c fs) δ' A'
theorem sq_nx {ss : List S} : sqK G ss Ψ .nx δ A = wS (exs G ss δ A) Ψ := (rfl)
theorem sq_rt {ss : List S} {r : R} : sqK G ss Ψ (.rt r) δ A = Ψ (.rt r) δ A := (rfl)
theorem sq_bk {ss : List S} : sqK G ss Ψ .bk δ A = Ψ .bk δ A := (rfl)
theorem sq_ct {ss : List S} : sqK G ss Ψ .ct δ A = Ψ .ct δ A := (rfl)
theorem sq_ex {ss : List S} {c : Str} {fs : List (Str × PyData)} : sqK G ss Ψ (.ex c fs) δ A = Ψ (.ex c fs) δ A := (rfl)
theorem z_cons {s : S} {ss : List S} : wS (exs G (s :: ss) δ A) Ψ = wS (ex G s δ A) (sqK G ss Ψ) := by
  simp only [exs]
  rw [wS_seq]
  congr
  funext o δ' A'
  cases o <;> rfl
theorem z_nil : wS (exs G [] δ A) Ψ = Ψ .nx δ A := by
  simp only [exs]
  rfl
theorem z_fr {t : Tg} {it : It} {s : List S} : wS (ex G (.fr t it s) δ A) Ψ = wq (evI G it δ) A (fun w A1 => wS (frGo w.watch t (exs G s) w.items δ A1) Ψ) fun c fs A1 => Ψ (.ex c fs) δ A1 := by
  simp only [ex, wS_exE]
theorem z_whl {s : List S} : wS (ex G (.whl a s) δ A) Ψ = wS (whlGo (fun δ => boolM (ev G a δ)) (exs G s) G.o.lim δ A) Ψ := by
  simp only [ex]
/-- what is wanted behind a try -/
def tcK (sb : Sub) (cs : List Str) (ie ix : Nat) (Ψ : Out → Fr → Hs → Prop) : Out → Fr → Hs → Prop
  | .ex c fs, δ', A' => ow (caught sb c cs) fun t => t = true ∧ Ψ .nx ((δ'.set ix (some (.exc c fs))).set ie none) A'
  | .nx, δ', A' => Ψ .nx δ' A'
  | .rt r, δ', A' => Ψ (.rt r) δ' A'
  | .bk, δ', A' => Ψ .bk δ' A'
  | .ct, δ', A' => Ψ .ct δ' A'
def toK (sb : Sub) (k : Str) (G : Ge) (h : List S) (Ψ : Out → Fr → Hs → Prop) : Out → Fr → Hs → Prop
  | .ex c fs, δ', A' => ow (sb c (.inr k)) fun t => if t = true then wS (exs G h δ' A') Ψ else Ψ (.ex c fs) δ' A'
  | .nx, δ', A' => Ψ .nx δ' A'
  | .rt r, δ', A' => Ψ (.rt r) δ' A'
  | .bk, δ', A' => Ψ .bk δ' A'
  | .ct, δ', A' => Ψ .ct δ' A'
theorem z_tryC {b : List S} {cs : List Str} {ie ix : Nat} : wS (ex G (.tryC b cs ie ix) δ A) Ψ = wS (exs G b δ A) (tcK G.o.sub cs ie ix Ψ) := by
  simp only [ex]
  cases exs G b δ A with
  | none => rfl
  | some z =>
    obtain ⟨o, δ', A'⟩ := z
    cases o with
    | ex c fs =>
      simp only [wS, tcK]
      cases caught G.o.sub c cs with
      | none => rfl
      | some t => cases t <;> simp [ow]
    | _ => rfl
theorem z_tryO {b h : List S} {k : Str} : wS (ex G (.tryO b k h) δ A) Ψ = wS (exs G b δ A) (toK G.o.sub k G h Ψ) := by
  simp only [ex]
  cases exs G b δ A with
  | none => rfl
  | some z =>
    obtain ⟨o, δ', A'⟩ := z
    cases o with
    | ex c fs =>
      simp only [wS, toK]
      cases G.o.sub c (.inr k) with
      | none => rfl
      | some t => cases t <;> simp [ow]
    | _ => rfl
theorem tc_ex {sb : Sub} {cs : List Str} {ie ix : Nat} {c : Str} {fs : List (Str × PyData)} : tcK sb cs ie ix Ψ (.ex c fs) δ A = ow (caught sb c cs) fun t => t = true ∧ Ψ .nx ((δ.set ix (some (.exc c fs))).set ie none) A := (rfl)
theorem tc_nx {sb : Sub} {cs : List Str} {ie ix : Nat} : tcK sb cs ie ix Ψ .nx δ A = Ψ .nx δ A := (rfl)
theorem tc_rt {sb : Sub} {cs : List Str} {ie ix : Nat} {r : R} : tcK sb cs ie ix Ψ (.rt r) δ A = Ψ (.rt r) δ A := (rfl)
theorem to_ex {sb : Sub} {k : Str} {h : List S} {c : Str} {fs : List (Str × PyData)} : toK sb k G h Ψ (.ex c fs) δ A = ow (sb c (.inr k)) fun t => if t = true then wS (exs G h δ A) Ψ else Ψ (.ex c fs) δ A := (rfl)
theorem to_nx {sb : Sub} {k : Str} {h : List S} : toK sb k G h Ψ .nx δ A = Ψ .nx δ A := (rfl)
theorem to_rt {sb : Sub} {k : Str} {h : List S} {r : R} : toK sb k G h Ψ (.rt r) δ A = Ψ (.rt r) δ A := (rfl)
theorem ite_F {c p : Prop} [Decidable c] : (if c then p else False) = (c ∧ p) := by
  by_cases h : c <;> simp [h]
theorem ite_T {c p : Prop} [Decidable c] : (if c then False else p) = (¬ c ∧ p) := by
  by_cases h : c <;> simp [h]
end
/-! ### operators, by values -/
section
variable {A : Hs}
theorem o_add {i j : Int} : binO A .Add (.d (.int i)) (.d (.int j)) = some (.val (.d (.int (i + j)))) := rfl
theorem o_addS {x y : Str} : binO A .Add (.d (.str x)) (.d (.str y)) = if x.length + y.length ≤ sizeLine then some (.val (.d (.str (x ++ y)))) else none := (rfl)
theorem o_addT {x y : List PyData} : binO A .Add (.d (.tuple x)) (.d (.tuple y)) = if x.length + y.length ≤ sizeLine then some (.val (.d (.tuple (x ++ y)))) else none := (rfl)
theorem o_addL {x y : List PyData} : binO A .Add (.d (.list x)) (.d (.list y)) = if x.length + y.length ≤ sizeLine then some (.new (.lst (x ++ y))) else none := (rfl)
theorem o_addOL {n : Nat} {x y : List PyData} (h : A[n]? = some (.lst x)) : binO A .Add (.obj n) (.d (.list y)) = if x.length + y.length ≤ sizeLine then some (.new (.lst (x ++ y))) else none := by
  simp only [binO, addO, lstOf, h]
theorem o_sub {i j : Int} : binO A .Sub (.d (.int i)) (.d (.int j)) = some (.val (.d (.int (i - j)))) := rfl
theorem o_mul {i j : Int} : binO A .Mult (.d (.int i)) (.d (.int j)) = if i.natAbs.log2 + j.natAbs.log2 < 1000000 then some (.val (.d (.int (i * j)))) else none := (rfl)
theorem o_div {i j : Int} : binO A .FloorDiv (.d (.int i)) (.d (.int j)) = if 0 < j ∧ j.natAbs.log2 < 9000 then some (.val (.d (.int (i / j)))) else none := (rfl)
theorem o_mod {i j : Int} : binO A .Mod (.d (.int i)) (.d (.int j)) = if 0 < j then some (.val (.d (.int (i % j)))) else none := (rfl)
theorem o_pow {i j : Int} : binO A .Pow (.d (.int i)) (.d (.int j)) = if 0 ≤ j ∧ j ≤ 1000000 ∧ i.natAbs < 18446744073709551616 then some (.val (.d (.int (i ^ j.toNat)))) else none := (rfl)
theorem o_pow6 : binO A .Pow (.d (.int 10)) (.d (.int 6)) = some (.val (.d (.int 1000000))) := rfl
theorem o_pow12 : binO A .Pow (.d (.int 10)) (.d (.int 12)) = some (.val (.d (.int 1000000000000))) := rfl
theorem o_pow18 : binO A .Pow (.d (.int 10)) (.d (.int 18)) = some (.val (.d (.int 1000000000000000000))) := rfl
theorem o_pow24 : binO A .Pow (.d (.int 10)) (.d (.int 24)) = some (.val (.d (.int 1000000000000000000000000))) := rfl
theorem o_pow30 : binO A .Pow (.d (.int 10)) (.d (.int 30)) = some (.val (.d (.int 1000000000000000000000000000000))) := rfl
theorem o_neg {i : Int} : negO (.d (.int i)) = some (.val (.d (.int (-i)))) := rfl
theorem o_eq {u v : U} : cmpO A .Eq u v = eqO A u v := rfl
theorem o_ne {u v : U} : cmpO A .NotEq u v = (eqO A u v).map (!·) := rfl
theorem o_eqD {p q : PyData} : eqO A (.d p) (.d q) = eqP p q := rfl
theorem o_eqO {n : Nat} {ps : List PyData} {q : PyData} (h : A[n]? = some (.lst ps)) : eqO A (.obj n) (.d q) = eqP (.list ps) q := by
  simp only [eqO, datOf, h]
theorem o_lt {i j : Int} : cmpO A .Lt (.d (.int i)) (.d (.int j)) = some (decide (i < j)) := rfl
theorem o_le {i j : Int} : cmpO A .LtE (.d (.int i)) (.d (.int j)) = some (decide (i ≤ j)) := rfl
theorem o_gt {i j : Int} : cmpO A .Gt (.d (.int i)) (.d (.int j)) = some (decide (j < i)) := rfl
theorem o_ge {i j : Int} : cmpO A .GtE (.d (.int i)) (.d (.int j)) = some (decide (j ≤ i)) := rfl
theorem o_leS {x y : Str} : cmpO A .LtE (.d (.str x)) (.d (.str y)) = some (!decide (y.cps.toList < x.cps.toList)) := rfl
theorem o_in {u v : U} : cmpO A .In u v = inO A u v := rfl
theorem o_nin {u v : U} : cmpO A .NotIn u v = (inO A u v).map (!·) := rfl
theorem o_is {u v : U} : cmpO A .Is u v = isNO u v := rfl
theorem o_isn {u v : U} : cmpO A .IsNot u v = (isNO u v).map (!·) := rfl
theorem o_eqI {i j : Int} : eqP (.int i) (.int j) = some (decide (i = j)) := rfl
theorem o_eqS {i j : Str} : eqP (.str i) (.str j) = some (decide (i = j)) := rfl
theorem o_eqL {xs : List PyData} : eqP (.list xs) (.list []) = some xs.isEmpty := rfl
theorem o_eqT {xs : List PyData} : eqP (.tuple xs) (.tuple []) = some xs.isEmpty := rfl
theorem o_ixT {ps : List PyData} {i : Int} : ixO A (.d (.tuple ps)) (.d (.int i)) = (atI ps i).map U.d := rfl
theorem o_ixL {ps : List PyData} {i : Int} : ixO A (.d (.list ps)) (.d (.int i)) = (atI ps i).map U.d := rfl
theorem o_ixS {x : Str} {i : Int} : ixO A (.d (.str x)) (.d (.int i)) = if x.length ≤ sizeLine then (atI x.cps.toList i).map fun c => .d (.str ⟨#[c]⟩) else none := (rfl)
theorem o_ixO {n : Nat} {ps : List PyData} {i : Int} (h : A[n]? = some (.lst ps)) : ixO A (.obj n) (.d (.int i)) = (atI ps i).map U.d := by
  simp only [ixO, h]
theorem o_ixD {n : Nat} {kvs : List (Key × U)} {p : PyData} {k : Key} (h : A[n]? = some (.dK kvs)) (hk : asKey p = some k) : ixO A (.obj n) (.d p) = valK kvs k := by
  simp only [ixO, dkAt, h, hk, Option.map_some, Option.bind_some, id]
theorem o_len {us : List U} : biO A "len" us = biLen A us := rfl
theorem o_lenS {x : Str} : biLen A [.d (.str x)] = if x.length ≤ sizeLine then some (.val (.d (.int x.length))) else none := by
  simp only [biLen, lenO, dI]
  split <;> rfl
theorem o_lenT {ps : List PyData} : biLen A [.d (.tuple ps)] = some (.val (.d (.int ps.length))) := rfl
theorem o_lenL {ps : List PyData} : biLen A [.d (.list ps)] = some (.val (.d (.int ps.length))) := rfl
theorem o_lenO {n : Nat} {ps : List PyData} (h : A[n]? = some (.lst ps)) : biLen A [.obj n] = some (.val (.d (.int ps.length))) := by
  simp only [biLen, lenO, lstOf, h, Option.map_some, dI]
theorem o_min {us : List U} : biO A "min" us = biMin A us := rfl
theorem o_max {us : List U} : biO A "max" us = biMax A us := rfl
theorem o_min2 {i j : Int} : biMin A [.d (.int i), .d (.int j)] = some (.val (.d (.int (if j < i then j else i)))) := rfl
theorem o_max2 {i j : Int} : biMax A [.d (.int i), .d (.int j)] = some (.val (.d (.int (if j > i then j else i)))) := rfl
theorem o_int {us : List U} : biO A "int" us = biInt us := rfl
theorem o_intB {b : Bool} : biInt [.d (.bool b)] = some (.val (.d (.int (if b then 1 else 0)))) := rfl
theorem o_abs {us : List U} : biO A "abs" us = biAbs us := rfl
theorem o_absI {i : Int} : biAbs [.d (.int i)] = some (.val (.d (.int (if i < 0 then -i else i)))) := rfl
theorem o_repr {us : List U} : biO A "repr" us = biRepr A us := rfl
theorem o_reprD {p : PyData} : biRepr A [.d p] = (reprP p).map fun x => .val (.d (.str x)) := rfl
theorem o_all {us : List U} : biO A "all" us = biAll A us := rfl
theorem o_allL {ps : List PyData} : biAll A [.d (.list ps)] = (boolsP ps).map fun bs => .val (.d (.bool (bs.all id))) := rfl
theorem o_list {us : List U} : biO A "list" us = biList A us := rfl
theorem o_listT {ps : List PyData} : biList A [.d (.tuple ps)] = some (.new (.lst ps)) := rfl
theorem o_tuple {us : List U} : biO A "tuple" us = biTuple A us := rfl
theorem o_tupleL {ps : List PyData} : biTuple A [.d (.list ps)] = some (.val (.d (.tuple ps))) := rfl
theorem o_dict {us : List U} : biO A "dict" us = biDict A us := rfl
theorem o_sorted {us : List U} : biO A "sorted" us = biSorted A us := rfl
theorem v_val {u : U} : toVal (.val u) = some u := rfl
theorem v_newl {ps : List PyData} : toVal (.new (.lst ps)) = some (.d (.list ps)) := rfl
theorem b_bool {b : Bool} : asBool (.d (.bool b)) = some b := rfl
theorem i_int {i : Int} : asInt (.d (.int i)) = some i := rfl
theorem p_d {p : PyData} : asP (.d p) = some p := rfl
theorem p_nil : asPs [] = some [] := rfl
theorem p_cons {p : PyData} {us : List U} : asPs (.d p :: us) = (asPs us).map (p :: ·) := rfl
theorem n_d {p : PyData} : nl (.d p) = true := rfl
theorem n_o {n : Nat} : nl (.obj n) = true := rfl
theorem k_str {x : Str} : asKey (.str x) = some (.inr x) := rfl
theorem a_ii {i j : Int} : iopO .Add (.d (.int i)) (.d (.int j)) = some (.d (.int (i + j))) := rfl
end
end Mi
set_option Elab.async false
set_option linter.all false
set_option maxRecDepth 100000
set_option maxHeartbeats 1000000
/-! MkC: comprehensions and loops. -/
namespace Mi
open PySem L2
section
variable {G : Ge} {δ : Fr} {A : Hs} {Φ : R → Hs → Prop} {Ψ : Out → Fr → Hs → Prop} {E : Str → List (Str × PyData) → Hs → Prop} {a b c : Mi.E} {es : List Mi.E}
/-- one turn of a comprehension -/
def lcB (G : Ge) (elt : Mi.E) (t : Tg) (cs : List Mi.E) (own : List Nat) (δ : Fr) (p : PyData) : M (Option PyData) := bnd (lft (tgO t p (wipeF δ own))) fun δ' => bnd (evC G cs δ') fun b => (match b with
    | true => bnd (valM (ev G elt δ')) fun u => lft ((asP u).map some)
    | false => ret none)
theorem q_lc {elt : Mi.E} {t : Tg} {it : It} {cs : List Mi.E} {own : List Nat} : wq (ev G (.lc elt t it cs own) δ) A Φ E = wq (evI G it δ) A (fun w A1 => wq (lcGo w.watch (lcB G elt t cs own δ) w.items) A1 (fun ps A2 => ps.length ≤ sizeLine ∧ Φ (.new (.lst ps)) A2) E) E := by
  simp only [ev, wq_bnd, wq_lft, ow_ite, ow_some, ow_none, ite_F]
  try rfl
theorem wq_lcB0 {elt : Mi.E} {t : Tg} {own : List Nat} {p : PyData} {Φ : Option PyData → Hs → Prop} : wq (lcB G elt t [] own δ p) A Φ E = ow (tgO t p (wipeF δ own)) fun δ' => wq (ev G elt δ') A (fun r A1 => ow (toVal r) fun u => ow (asP u) fun z => Φ (some z) A1) E := by
  simp only [lcB, wq_bnd, wq_lft, evC, wq_ret, wq_val, ow_map]
theorem wq_lcB1 {elt : Mi.E} {t : Tg} {own : List Nat} {p : PyData} {Φ : Option PyData → Hs → Prop} : wq (lcB G elt t [c] own δ p) A Φ E = ow (tgO t p (wipeF δ own)) fun δ' => wq (ev G c δ') A (fun r A1 => ow (toVal r) fun u => ow (asBool u) fun k => if k = true then wq (ev G elt δ') A1 (fun r A1 => ow (toVal r) fun u => ow (asP u) fun z => Φ (some z) A1) E else Φ none A1) E := by
  simp only [lcB, wq_bnd, wq_lft, evC, wq_bool]
  congr
  funext δ'
  congr
  funext r A1
  congr
  funext u
  congr
  funext k
  cases k
  · simp only [wq_ret]; rfl
  · simp only [wq_bnd, wq_val, wq_lft, ow_map, if_true]
theorem e_seq {Φ : Wk → Hs → Prop} : wq (evI G (.seq a) δ) A Φ E = wq (ev G a δ) A (fun r A1 => ow (toVal r) fun u => ow (wkOf A1 u) fun w => Φ w A1) E := by
  simp only [evI, wq_bnd, wq_val, wq_lftA]
theorem e_enm {Φ : Wk → Hs → Prop} : wq (evI G (.enm a) δ) A Φ E = wq (ev G a δ) A (fun r A1 => ow (toVal r) fun u => ow (wkLs A1 u) fun w => Φ ⟨enumP w.items, w.watch⟩ A1) E := by
  simp only [evI, wq_bnd, wq_val, wq_lftA, ow_map]
theorem e_rng1 {Φ : Wk → Hs → Prop} : wq (evI G (.rng [a]) δ) A Φ E = wq (ev G a δ) A (fun r A1 => ow (toVal r) fun u => ow (asInt u) fun j => (-(2 ^ 62) ≤ j ∧ j < 2 ^ 62) ∧ Φ ⟨rangeP 0 j.toNat, none⟩ A1) E := by
  simp only [evI, wq_bnd, q_cons, q_nil, wq_lft]
  congr
  funext r A1
  congr
  funext u
  cases u with
  | d p =>
    cases p with
    | int j => simp only [asInt, ow_some, ow_ite, ow_none, ite_F]
    | _ => rfl
  | _ => rfl
theorem e_rvr {Φ : Wk → Hs → Prop} : wq (evI G (.rvr a) δ) A Φ E = wq (ev G a δ) A (fun r A1 => ow (toVal r) fun u => ow (asInt u) fun j => (-(2 ^ 62) ≤ j ∧ j < 2 ^ 62) ∧ Φ ⟨(rangeP 0 j.toNat).reverse, none⟩ A1) E := by
  simp only [evI, wq_bnd, wq_val, wq_lft]
  congr
  funext r A1
  congr
  funext u
  cases u with
  | d p =>
    cases p with
    | int j => simp only [asInt, ow_some, ow_ite, ow_none, ite_F]
    | _ => rfl
  | _ => rfl
theorem w_tup {ps : List PyData} : wkOf A (.d (.tuple ps)) = some ⟨ps, none⟩ := (rfl)
theorem w_lst {ps : List PyData} : wkOf A (.d (.list ps)) = some ⟨ps, none⟩ := (rfl)
theorem w_str {x : Str} : wkOf A (.d (.str x)) = some ⟨signs x, none⟩ := (rfl)
theorem w_ls {ps : List PyData} : wkLs A (.d (.list ps)) = some ⟨ps, none⟩ := (rfl)
theorem w_obj {n : Nat} {ps : List PyData} (h : A[n]? = some (.lst ps)) : wkOf A (.obj n) = some ⟨ps, some (n, ps)⟩ := by simp only [wkOf, h]
theorem t_nm {i : Nat} {p : PyData} : tgO (.nm i) p δ = some (δ.set i (some (.d p))) := by simp only [tgO]
theorem t_tp {ts : List Tg} {ps : List PyData} : tgO (.tp ts) (.tuple ps) δ = tgOs ts ps δ := by simp only [tgO]
theorem t_nil : tgOs [] [] δ = some δ := by simp only [tgOs]
theorem t_cons {t : Tg} {ts : List Tg} {p : PyData} {ps : List PyData} : tgOs (t :: ts) (p :: ps) δ = (tgO t p δ).bind fun δ' => tgOs ts ps δ' := by
  simp only [tgOs]
  cases tgO t p δ <;> rfl
theorem wi_nil : wipeF δ [] = δ := (rfl)
theorem wi_cons {v : Nat} {vs : List Nat} : wipeF δ (v :: vs) = (wipeF δ vs).set v none := (rfl)
end
theorem szl : sizeLine = 16777216 := by decide
theorem y_join {A : Hs} {x : Str} {ps : List PyData} : metO A "str.join" (.d (.str x)) [.d (.list ps)] = (joinO x ps).map fun r => (r, A) := (rfl)
/-! ### comprehensions -/
section
variable {A : Hs} {w : Option (Nat × List PyData)} {f : PyData → M (Option PyData)}
/-- nothing is changed -/
theorem lc_pure {g : PyData → Option PyData} (hs : still A w = true) : ∀ {ps : List PyData}, (∀ p ∈ ps, f p A = some (.ok (g p), A)) → lcGo w f ps A = some (.ok (ps.filterMap g), A)
  | [], _ => by simp only [lcGo, hs, List.filterMap_nil]
  | p :: ps, h => by
    have i := lc_pure hs (ps := ps) fun q hq => h q (by simp [hq])
    simp only [lcGo, hs, h p (by simp), i, List.filterMap_cons]
    cases g p <;> rfl
theorem lc_mapQ {α : Type} {h : α → PyData} {g : α → Option PyData} (hs : still A w = true) {xs : List α} (st : ∀ a ∈ xs, ∀ Φ : Option PyData → Hs → Prop, wq (f (h a)) A Φ NoE = Φ (g a) A) {Φ : List PyData → Hs → Prop} {E : Str → List (Str × PyData) → Hs → Prop} : wq (lcGo w f (xs.map h)) A Φ E = Φ (xs.filterMap g) A := by
  refine wq_of ?_
  induction xs with
  | nil => simp only [List.map_nil, lcGo, hs, List.filterMap_nil]
  | cons a xs ih =>
    have e : f (h a) A = some (.ok (g a), A) := by
      have q := st a (by simp) (fun r A' => r = g a ∧ A' = A)
      obtain ⟨r, A', e, rfl, rfl⟩ := wq.ret (show wq (f (h a)) A (fun r A' => r = g a ∧ A' = A) NoE by rw [q]; exact ⟨rfl, rfl⟩)
      exact e
    have i := ih fun b hb => st b (by simp [hb])
    simp only [List.map_cons, lcGo, hs, e, i, List.filterMap_cons]
    cases g a <;> rfl
theorem lc_mapS {α : Type} {h g : α → PyData} (hs : still A w = true) {xs : List α} (st : ∀ a ∈ xs, ∀ Φ : Option PyData → Hs → Prop, wq (f (h a)) A Φ NoE = Φ (some (g a)) A) {Φ : List PyData → Hs → Prop} {E : Str → List (Str × PyData) → Hs → Prop} : wq (lcGo w f (xs.map h)) A Φ E = Φ (xs.map g) A := by
  rw [lc_mapQ (g := fun a => some (g a)) hs st]
  congr
  induction xs with
  | nil => rfl
  | cons a xs ih => simp
theorem lc_S {g : PyData → PyData} (hs : still A w = true) {xs : List PyData} (st : ∀ a ∈ xs, ∀ Φ : Option PyData → Hs → Prop, wq (f a) A Φ NoE = Φ (some (g a)) A) {Φ : List PyData → Hs → Prop} {E : Str → List (Str × PyData) → Hs → Prop} : wq (lcGo w f xs) A Φ E = Φ (xs.map g) A := by
  have := lc_mapS (h := fun a => a) (g := g) hs st (Φ := Φ) (E := E)
  rw [List.map_id'] at this
  exact this
theorem lc_Q {g : PyData → Option PyData} (hs : still A w = true) {xs : List PyData} (st : ∀ a ∈ xs, ∀ Φ : Option PyData → Hs → Prop, wq (f a) A Φ NoE = Φ (g a) A) {Φ : List PyData → Hs → Prop} {E : Str → List (Str × PyData) → Hs → Prop} : wq (lcGo w f xs) A Φ E = Φ (xs.filterMap g) A := by
  have := lc_mapQ (h := fun a => a) (g := g) hs st (Φ := Φ) (E := E)
  rw [List.map_id'] at this
  exact this
/-- each turn keeps what stands, and makes one thing -/
theorem lc_inv {I : Nat → Hs → Prop} {Q : PyData → Prop} : ∀ {ps : List PyData} {i : Nat} {A : Hs}, I i A → (∀ j A, I j A → still A w = true) → (∀ j p A, p ∈ ps → i ≤ j → j < i + ps.length → I j A → Ret (f p) A fun z A' => I (j + 1) A' ∧ ∃ q, z = some q ∧ Q q) → Ret (lcGo w f ps) A fun rs A' => I (i + ps.length) A' ∧ rs.length = ps.length ∧ ∀ q ∈ rs, Q q
  | [], i, A, h0, hs, _ => ⟨[], A, by simp only [lcGo, hs i A h0], h0, rfl, fun q hq => by cases hq⟩
  | p :: ps, i, A, h0, hs, st => by
    obtain ⟨z, A1, e1, h1, q, rfl, hq⟩ := st i p A (by simp) (Nat.le_refl _) (by simp) h0
    obtain ⟨rs, A2, e2, h2, h3, h4⟩ := lc_inv (ps := ps) (i := i + 1) h1 hs fun j p' A hp l1 l2 => st j p' A (by simp [hp]) (by omega) (by simp only [List.length_cons]; omega)
    refine ⟨q :: rs, A2, by simp only [lcGo, hs i A h0, e1, e2], ?_, by simp [h3], fun y hy => ?_⟩
    · have : i + (p :: ps).length = i + 1 + ps.length := by simp only [List.length_cons]; omega
      rw [this]; exact h2
    · rcases List.mem_cons.mp hy with rfl | hy
      · exact hq
      · exact h4 y hy
end
/-! ### loops -/
/-- what is wanted of a turn -/
def frK (I : Fr → Hs → Prop) (Ψ : Out → Fr → Hs → Prop) : Out → Fr → Hs → Prop
  | .nx, δ, A => I δ A
  | .ct, δ, A => I δ A
  | .bk, δ, A => Ψ .nx δ A
  | .rt r, δ, A => Ψ (.rt r) δ A
  | .ex c fs, δ, A => Ψ (.ex c fs) δ A
section
variable {I : Fr → Hs → Prop} {Ψ : Out → Fr → Hs → Prop} {δ : Fr} {A : Hs} {w : Option (Nat × List PyData)} {t : Tg} {b : Fr → Hs → SR}
theorem fk_nx : frK I Ψ .nx δ A = I δ A := (rfl)
theorem fk_ct : frK I Ψ .ct δ A = I δ A := (rfl)
theorem fk_bk : frK I Ψ .bk δ A = Ψ .nx δ A := (rfl)
theorem fk_rt {r : R} : frK I Ψ (.rt r) δ A = Ψ (.rt r) δ A := (rfl)
theorem fk_ex {c : Str} {fs : List (Str × PyData)} : frK I Ψ (.ex c fs) δ A = Ψ (.ex c fs) δ A := (rfl)
theorem fr_cons {p : PyData} {ps : List PyData} (hs : still A w = true) : wS (frGo w t b (p :: ps) δ A) Ψ = ow (tgO t p δ) fun δ1 => wS (b δ1 A) (frK (fun δ' A' => wS (frGo w t b ps δ' A') Ψ) Ψ) := by
  simp only [frGo, hs]
  cases tgO t p δ with
  | none => rfl
  | some δ1 =>
    simp only [ow_some]
    cases b δ1 A with
    | none => rfl
    | some z =>
      obtain ⟨o, δ', A'⟩ := z
      cases o <;> rfl
theorem fr_nil (hs : still A w = true) : wS (frGo w t b [] δ A) Ψ = Ψ .nx δ A := by simp only [frGo, hs]; rfl
theorem wS_mono {x : SR} {Ψ Ψ' : Out → Fr → Hs → Prop} (h : wS x Ψ) (k : ∀ o δ A, Ψ o δ A → Ψ' o δ A) : wS x Ψ' := by
  cases x with
  | none => exact h
  | some z => exact k _ _ _ h
theorem ow_mono {α : Type} {x : Option α} {Φ Φ' : α → Prop} (h : ow x Φ) (k : ∀ a, Φ a → Φ' a) : ow x Φ' := by
  cases x with
  | none => exact h
  | some z => exact k _ h
theorem frK_mono {I I' : Fr → Hs → Prop} {o : Out} (h : frK I Ψ o δ A) (k : ∀ δ A, I δ A → I' δ A) : frK I' Ψ o δ A := by
  cases o with
  | nx => exact k _ _ h
  | ct => exact k _ _ h
  | bk => exact h
  | rt r => exact h
  | ex c fs => exact h
theorem fr_inv {I : Nat → Fr → Hs → Prop} : ∀ {ps : List PyData} {i : Nat} {δ : Fr} {A : Hs}, I i δ A → (∀ j δ A, I j δ A → still A w = true) → (∀ j p δ A, ps[j]? = some p → I (i + j) δ A → ow (tgO t p δ) fun δ1 => wS (b δ1 A) (frK (I (i + j + 1)) Ψ)) → (∀ δ A, I (i + ps.length) δ A → Ψ .nx δ A) → wS (frGo w t b ps δ A) Ψ
  | [], i, δ, A, h0, hs, _, en => by
    rw [fr_nil (hs i δ A h0)]
    exact en δ A h0
  | p :: ps, i, δ, A, h0, hs, st, en => by
    rw [fr_cons (hs i δ A h0)]
    refine ow_mono (st 0 p δ A rfl h0) fun δ1 h => wS_mono h fun o δ' A' h => frK_mono h fun δ2 A2 h2 => ?_
    refine fr_inv (I := I) (i := i + 1) h2 hs (fun j q δ A e h => ?_) fun δ A h => en δ A ?_
    · have := st (j + 1) q δ A (by simpa using e) (by rw [show i + (j + 1) = i + 1 + j by omega]; exact h)
      rw [show i + (j + 1) + 1 = i + 1 + j + 1 by omega] at this
      exact this
    · have : i + (p :: ps).length = i + 1 + ps.length := by simp only [List.length_cons]; omega
      rw [this]; exact h
theorem whl_step {c : Fr → M Bool} {n : Nat} : wS (whlGo c b (n + 1) δ A) Ψ = wq (c δ) A (fun t A1 => if t = true then wS (b δ A1) (frK (fun δ' A' => wS (whlGo c b n δ' A') Ψ) Ψ) else Ψ .nx δ A1) fun c fs A1 => Ψ (.ex c fs) δ A1 := by
  simp only [whlGo, wS_exE]
  congr
  funext t A1
  cases t with
  | false => rfl
  | true =>
    simp only [if_true]
    cases b δ A1 with
    | none => rfl
    | some z =>
      obtain ⟨o, δ', A'⟩ := z
      cases o <;> rfl
theorem wq_mono {α : Type} {m : M α} {Φ Φ' : α → Hs → Prop} {E : Str → List (Str × PyData) → Hs → Prop} (h : wq m A Φ E) (k : ∀ a A, Φ a A → Φ' a A) : wq m A Φ' E := by
  unfold wq at h ⊢
  split
  · rename_i e; rw [e] at h; exact k _ _ h
  · rename_i e; rw [e] at h; exact h
  · rename_i e; rw [e] at h; exact h
/-- m: a measure -/
theorem whl_inv {c : Fr → M Bool} {I : Nat → Fr → Hs → Prop} : ∀ {n m : Nat} {δ : Fr} {A : Hs}, m < n → I m δ A → (∀ m δ A, I m δ A → wq (c δ) A (fun t A1 => if t = true then wS (b δ A1) (frK (fun δ' A' => ∃ m', m' < m ∧ I m' δ' A') Ψ) else Ψ .nx δ A1) fun c fs A1 => Ψ (.ex c fs) δ A1) → wS (whlGo c b n δ A) Ψ
  | 0, m, δ, A, hn, _, _ => by omega
  | n + 1, m, δ, A, hn, h0, st => by
    rw [whl_step]
    refine wq_mono (st m δ A h0) fun t A1 h => ?_
    cases t with
    | false => exact h
    | true =>
      simp only [if_true] at h ⊢
      refine wS_mono h fun o δ' A' h => frK_mono h fun δ2 A2 h2 => ?_
      obtain ⟨m', l, h3⟩ := h2
      exact whl_inv (m := m') (by omega) h3 st
end
end Mi
set_option Elab.async false
set_option linter.all false
set_option maxRecDepth 100000
set_option maxHeartbeats 1000000
/-! MkD: the rules in bundles. -/
namespace Mi
open PySem L2
theorem BQ : (type_of% @q_k) ∧ (type_of% @q_v) ∧ (type_of% @q_gc) ∧ (type_of% @q_nil) ∧ (type_of% @q_cons) ∧ (type_of% @q_tup) ∧ (type_of% @q_lst) ∧ (type_of% @q_dic) ∧ (type_of% @q_alc) ∧ (type_of% @q_bin) ∧ (type_of% @q_neg) ∧ (type_of% @q_cmp) ∧ (type_of% @q_chn) ∧ (type_of% @q_and) ∧ (type_of% @q_or) ∧ (type_of% @q_and1) ∧ (type_of% @q_or1) ∧ (type_of% @q_and2) ∧ (type_of% @q_or2) ∧ (type_of% @q_not) ∧ (type_of% @q_ix) ∧ (type_of% @q_oN) ∧ (type_of% @q_oS) ∧ (type_of% @q_sl) ∧ (type_of% @q_call) ∧ (type_of% @q_act) ∧ (type_of% @q_lamc) ∧ (type_of% @q_bi) ∧ (type_of% @q_kget) ∧ (type_of% @q_meth) ∧ (type_of% @q_isi) ∧ (type_of% @q_fld) ∧ (type_of% @q_lc) ∧ (type_of% @wq_lcB0) ∧ (type_of% @wq_lcB1) ∧ (type_of% @e_seq) ∧ (type_of% @e_enm) ∧ (type_of% @e_rng1) ∧ (type_of% @e_rvr) ∧ (type_of% @w_tup) ∧ (type_of% @w_lst) ∧ (type_of% @w_str) ∧ (type_of% @w_ls) ∧ (type_of% @t_nm) ∧ (type_of% @t_tp) ∧ (type_of% @t_nil) ∧ (type_of% @t_cons) ∧ (type_of% @wi_nil) ∧ (type_of% @wi_cons) := ⟨@q_k, @q_v, @q_gc, @q_nil, @q_cons, @q_tup, @q_lst, @q_dic, @q_alc, @q_bin, @q_neg, @q_cmp, @q_chn, @q_and, @q_or, @q_and1, @q_or1, @q_and2, @q_or2, @q_not, @q_ix, @q_oN, @q_oS, @q_sl, @q_call, @q_act, @q_lamc, @q_bi, @q_kget, @q_meth, @q_isi, @q_fld, @q_lc, @wq_lcB0, @wq_lcB1, @e_seq, @e_enm, @e_rng1, @e_rvr, @w_tup, @w_lst, @w_str, @w_ls, @t_nm, @t_tp, @t_nil, @t_cons, @wi_nil, @wi_cons⟩
theorem BZ : (type_of% @z_asg0) ∧ (type_of% @z_asg1) ∧ (type_of% @z_asgT) ∧ (type_of% @z_par) ∧ (type_of% @z_par3) ∧ (type_of% @z_six) ∧ (type_of% @z_aug) ∧ (type_of% @z_exp) ∧ (type_of% @z_retN) ∧ (type_of% @z_ret) ∧ (type_of% @z_iff) ∧ (type_of% @z_rais) ∧ (type_of% @z_pas) ∧ (type_of% @z_brk) ∧ (type_of% @z_cnt) ∧ (type_of% @z_nil) ∧ (type_of% @z_fr) ∧ (type_of% @z_whl) ∧ (type_of% @z_tryC) ∧ (type_of% @z_tryO) ∧ (type_of% @tc_ex) ∧ (type_of% @tc_nx) ∧ (type_of% @tc_rt) ∧ (type_of% @to_ex) ∧ (type_of% @to_nx) ∧ (type_of% @to_rt) ∧ (type_of% @sq_nx) ∧ (type_of% @sq_rt) ∧ (type_of% @sq_bk) ∧ (type_of% @sq_ct) ∧ (type_of% @sq_ex) ∧ (type_of% @pst_nx) ∧ (type_of% @pst_rt) ∧ (type_of% @pst_ex) ∧ (type_of% @fk_nx) ∧ (type_of% @fk_ct) ∧ (type_of% @fk_bk) ∧ (type_of% @fk_rt) ∧ (type_of% @fk_ex) := ⟨@z_asg0, @z_asg1, @z_asgT, @z_par, @z_par3, @z_six, @z_aug, @z_exp, @z_retN, @z_ret, @z_iff, @z_rais, @z_pas, @z_brk, @z_cnt, @z_nil, @z_fr, @z_whl, @z_tryC, @z_tryO, @tc_ex, @tc_nx, @tc_rt, @to_ex, @to_nx, @to_rt, @sq_nx, @sq_rt, @sq_bk, @sq_ct, @sq_ex, @pst_nx, @pst_rt, @pst_ex, @fk_nx, @fk_ct, @fk_bk, @fk_rt, @fk_ex⟩
theorem BO : (type_of% @o_add) ∧ (type_of% @o_addS) ∧ (type_of% @o_addT) ∧ (type_of% @o_addL) ∧ (type_of% @o_sub) ∧ (type_of% @o_mul) ∧ (type_of% @o_div) ∧ (type_of% @o_mod) ∧ (type_of% @o_pow6) ∧ (type_of% @o_pow12) ∧ (type_of% @o_pow18) ∧ (type_of% @o_pow24) ∧ (type_of% @o_pow30) ∧ (type_of% @o_neg) ∧ (type_of% @o_eq) ∧ (type_of% @o_ne) ∧ (type_of% @o_eqD) ∧ (type_of% @o_lt) ∧ (type_of% @o_le) ∧ (type_of% @o_gt) ∧ (type_of% @o_ge) ∧ (type_of% @o_leS) ∧ (type_of% @o_in) ∧ (type_of% @o_nin) ∧ (type_of% @o_is) ∧ (type_of% @o_isn) ∧ (type_of% @o_eqI) ∧ (type_of% @o_eqS) ∧ (type_of% @o_eqL) ∧ (type_of% @o_eqT) ∧ (type_of% @o_ixT) ∧ (type_of% @o_ixL) ∧ (type_of% @o_ixS) ∧ (type_of% @o_len) ∧ (type_of% @o_lenS) ∧ (type_of% @o_lenT) ∧ (type_of% @o_lenL) ∧ (type_of% @o_min) ∧ (type_of% @o_max) ∧ (type_of% @o_min2) ∧ (type_of% @o_max2) ∧ (type_of% @o_int) ∧ (type_of% @o_intB) ∧ (type_of% @o_abs) ∧ (type_of% @o_absI) ∧ (type_of% @o_repr) ∧ (type_of% @o_reprD) ∧ (type_of% @o_all) ∧ (type_of% @o_allL) ∧ (type_of% @o_list) ∧ (type_of% @o_listT) ∧ (type_of% @o_tuple) ∧ (type_of% @o_tupleL) ∧ (type_of% @o_dict) ∧ (type_of% @o_sorted) := ⟨@o_add, @o_addS, @o_addT, @o_addL, @o_sub, @o_mul, @o_div, @o_mod, @o_pow6, @o_pow12, @o_pow18, @o_pow24, @o_pow30, @o_neg, @o_eq, @o_ne, @o_eqD, @o_lt, @o_le, @o_gt, @o_ge, @o_leS, @o_in, @o_nin, @o_is, @o_isn, @o_eqI, @o_eqS, @o_eqL, @o_eqT, @o_ixT, @o_ixL, @o_ixS, @o_len, @o_lenS, @o_lenT, @o_lenL, @o_min, @o_max, @o_min2, @o_max2, @o_int, @o_intB, @o_abs, @o_absI, @o_repr, @o_reprD, @o_all, @o_allL, @o_list, @o_listT, @o_tuple, @o_tupleL, @o_dict, @o_sorted⟩
theorem BV : (type_of% @v_val) ∧ (type_of% @v_newl) ∧ (type_of% @b_bool) ∧ (type_of% @i_int) ∧ (type_of% @p_d) ∧ (type_of% @p_nil) ∧ (type_of% @p_cons) ∧ (type_of% @n_d) ∧ (type_of% @n_o) ∧ (type_of% @k_str) ∧ (type_of% @a_ii) ∧ (type_of% @ow_some) ∧ (type_of% @ow_none) ∧ (type_of% @ow_map) ∧ (type_of% @ow_bind) ∧ (type_of% @ow_ite) ∧ (type_of% @ite_F) ∧ (type_of% @ite_T) := ⟨@v_val, @v_newl, @b_bool, @i_int, @p_d, @p_nil, @p_cons, @n_d, @n_o, @k_str, @a_ii, @ow_some, @ow_none, @ow_map, @ow_bind, @ow_ite, @ite_F, @ite_T⟩
theorem BL : (type_of% @Bool.true_eq_false) ∧ (type_of% @Bool.false_eq_true) ∧ (type_of% @Bool.not_true) ∧ (type_of% @Bool.not_false) ∧ (type_of% @Bool.and_true) ∧ (type_of% @Bool.true_and) ∧ (type_of% @Bool.and_false) ∧ (type_of% @Bool.false_and) ∧ (type_of% @Bool.and_self) ∧ (type_of% @and_true) ∧ (type_of% @true_and) ∧ (type_of% @decide_eq_true_eq) ∧ (type_of% @decide_true) ∧ (type_of% @decide_false) ∧ (type_of% @szl) ∧ (type_of% @Nat.zero_add) ∧ (type_of% @Int.cast_ofNat_Int) ∧ (type_of% @y_join) := ⟨@Bool.true_eq_false, @Bool.false_eq_true, @Bool.not_true, @Bool.not_false, @Bool.and_true, @Bool.true_and, @Bool.and_false, @Bool.false_and, @Bool.and_self, @and_true, @true_and, @decide_eq_true_eq, @decide_true, @decide_false, @szl, @Nat.zero_add, @Int.cast_ofNat_Int, @y_join⟩
end Mi
set_option Elab.async false
set_option linter.all false
set_option maxRecDepth 100000
set_option maxHeartbeats 4000000
/-! Kg: bodies as compact terms (printed by mip.py). -/
namespace Kg
open PySem L2 Mi
def b_is_number : List S := [
  .ret (some (.and [(.isi (.v 0) [(.inl "int")] false), (.not (.isi (.v 0) [(.inl "bool")] false))]))]
def b_is_name : List S := [
  .iff (.or [(.not (.isi (.v 0) [(.inl "str")] false)), (.not (.chn .LtE .LtE (.k (.int 1)) (.bi "len" [(.v 0)]) (.gc "MOST_LETTERS")))]) [.ret (some (.k (.bool false)))] [],
  .ret (some (.bi "all" [(.lc (.cmp .In (.v 1) (.gc "SMALL")) (.nm 1) (.seq (.v 0)) [] [1])]))]
def b_is_bound : List S := [
  .ret (some (.or [(.cmp .Is (.v 0) (.k .none)), (.and [(.call "is_number" [(.v 0)]), (.cmp .Lt (.bi "abs" [(.v 0)]) (.bin .Pow (.k (.int 10)) (.k (.int 30))))])]))]
def b_are_bounds : List S := [
  .ret (some (.and [(.call "is_bound" [(.v 0)]), (.call "is_bound" [(.v 1)]), (.or [(.cmp .Is (.v 0) (.k .none)), (.cmp .Is (.v 1) (.k .none)), (.cmp .LtE (.v 0) (.v 1))])]))]
def b_are_fields : List S := [
  .iff (.not (.isi (.v 0) [(.inl "tuple")] false)) [.ret (some (.k (.bool false)))] [],
  .asg 1 (.k (.str "")) false,
  .fr (.nm 2) (.seq (.v 0)) [.iff (.or [(.not (.isi (.v 2) [(.inl "tuple")] false)), (.cmp .NotEq (.bi "len" [(.v 2)]) (.k (.int 2))), (.not (.call "is_name" [(.ix (.v 2) (.k (.int 0)))])), (.cmp .LtE (.ix (.v 2) (.k (.int 0))) (.v 1))]) [.ret (some (.k (.bool false)))] [], .asg 1 (.ix (.v 2) (.k (.int 0))) false],
  .ret (some (.k (.bool true)))]
def b_has_form : List S := [
  .iff (.or [(.not (.isi (.v 0) [(.inl "tuple")] false)), (.cmp .Eq (.bi "len" [(.v 0)]) (.k (.int 0))), (.not (.isi (.ix (.v 0) (.k (.int 0))) [(.inl "str")] false))]) [.ret (some (.k (.bool false)))] [],
  .iff (.cmp .NotEq (.bi "len" [(.v 0)]) (.kget "LENGTHS" (.ix (.v 0) (.k (.int 0))) (.k (.int 0)))) [.ret (some (.k (.bool false)))] [],
  .iff (.cmp .Eq (.ix (.v 0) (.k (.int 0))) (.k (.str "num"))) [.ret (some (.call "are_bounds" [(.ix (.v 0) (.k (.int 1))), (.ix (.v 0) (.k (.int 2)))]))] [],
  .iff (.cmp .Eq (.ix (.v 0) (.k (.int 0))) (.k (.str "name"))) [.ret (some (.call "is_name" [(.ix (.v 0) (.k (.int 1)))]))] [],
  .ret (some (.or [(.cmp .NotEq (.ix (.v 0) (.k (.int 0))) (.k (.str "rec"))), (.call "are_fields" [(.ix (.v 0) (.k (.int 1)))])]))]
def b_own_parts : List S := [
  .iff (.cmp .Eq (.ix (.v 0) (.k (.int 0))) (.k (.str "rec"))) [.ret (some (.lc (.v 2) (.tp [(.nm 1), (.nm 2)]) (.seq (.ix (.v 0) (.k (.int 1)))) [] [1, 2]))] [],
  .ret (some (.ife (.cmp .In (.ix (.v 0) (.k (.int 0))) (.tup [(.k (.str "fun")), (.k (.str "and")), (.k (.str "or")), (.k (.str "not"))])) (.bi "list" [(.sl (.v 0) (some (.k (.int 1))) none)]) (.lst [])))]
def b_walked : List S := [
  .asg 1 (.lst []) true,
  .asg 2 (.k (.int 0)) false,
  .asg 3 (.lst [(.tup [(.tup []), (.v 0)])]) true,
  .whl (.cmp .NotEq (.v 3) (.lst [])) [.asgT (.tp [(.nm 5), (.nm 6)]) (.meth "list.pop" (.v 3) []), .iff (.or [(.cmp .Eq (.bi "len" [(.v 1)]) (.gc "MOST_PARTS")), (.cmp .Gt (.bi "len" [(.v 5)]) (.gc "MOST_WITHIN")), (.not (.call "has_form" [(.v 6)]))]) [.rais "BadKind" [(.v 5)]] [], .aug 2 .Add (.bi "int" [(.cmp .Eq (.ix (.v 6) (.k (.int 0))) (.k (.str "fun")))]), .iff (.cmp .Gt (.v 2) (.gc "MOST_FUNS")) [.rais "BadKind" [(.v 5)]] [], .exp (.meth "list.append" (.v 1) [(.tup [(.v 5), (.v 6)])]), .asg 4 (.call "own_parts" [(.v 6)]) false, .exp (.meth "list.extend" (.v 3) [(.lc (.tup [(.bin .Add (.v 5) (.tup [(.v 7)])), (.ix (.v 4) (.v 7))]) (.nm 7) (.rvr (.bi "len" [(.v 4)])) [] [7])])],
  .ret (some (.v 1))]
def b_need_kind : List S := [
  .exp (.call "walked" [(.v 0)]),
  .ret (some (.v 0))]
def b_is_kind : List S := [
  .tryO [.exp (.call "need_kind" [(.v 0)])] "BadKind" [.ret (some (.k (.bool false)))],
  .ret (some (.k (.bool true)))]
def b__law_mixed : List S := [
  .asg 2 (.bin .Add (.bin .Add (.bin .Mult (.bin .Mod (.v 0) (.k (.int 2147483647))) (.bin .Add (.k (.int 48271)) (.bin .Mult (.bin .Mult (.k (.int 2)) (.v 1)) (.v 1)))) (.bin .Mult (.k (.int 69621)) (.v 1))) (.k (.int 11))) false,
  .ret (some (.bin .Mod (.bin .Mult (.bin .Mod (.v 2) (.k (.int 2147483647))) (.k (.int 69621))) (.k (.int 2147483629))))]
def b__law_begun : List S := [
  .ret (some (.dic [(.inr "cells"), (.inr "left"), (.inr "at")] [(.v 0), (.alc (.lc (.ife (.cmp .GtE (.v 1) (.bin .Pow (.k (.int 10)) (.k (.int 18)))) (.v 1) (.k (.int 0))) (.nm 1) (.seq (.v 0)) [] [1])), (.k (.int 0))]))]
def b__law_draw : List S := [
  .six (.v 0) (.k (.str "at")) (.bin .Add (.ix (.v 0) (.k (.str "at"))) (.k (.int 1))),
  .asg 2 (.ix (.v 0) (.k (.str "at"))) false,
  .iff (.cmp .Eq (.ix (.v 0) (.k (.str "cells"))) (.lst [])) [.ret (some (.bin .Mod (.bin .FloorDiv (.call "_law_mixed" [(.call "_law_mixed" [(.bin .Mult (.k (.int 7919)) (.v 2)), (.bin .Mod (.v 2) (.k (.int 1000)))]), (.k (.int 7))]) (.k (.int 64))) (.v 1)))] [],
  .asg 3 (.bin .Mod (.v 2) (.bi "len" [(.ix (.v 0) (.k (.str "cells")))])) false,
  .iff (.cmp .Gt (.ix (.ix (.v 0) (.k (.str "left"))) (.v 3)) (.k (.int 0))) [.asg 4 (.bin .Mod (.ix (.ix (.v 0) (.k (.str "left"))) (.v 3)) (.v 1)) false, .six (.ix (.v 0) (.k (.str "left"))) (.v 3) (.bin .FloorDiv (.ix (.ix (.v 0) (.k (.str "left"))) (.v 3)) (.v 1)), .ret (some (.v 4))] [],
  .ret (some (.bin .Mod (.bin .FloorDiv (.call "_law_mixed" [(.call "_law_mixed" [(.bin .Add (.ix (.ix (.v 0) (.k (.str "cells"))) (.v 3)) (.bin .Mult (.k (.int 7919)) (.v 2))), (.bin .Mod (.v 2) (.k (.int 1000)))]), (.bin .Mod (.v 2) (.k (.int 50)))]) (.k (.int 64))) (.v 1)))]
def b__law_one : List S := [
  .ret (some (.ix (.v 1) (.call "_law_draw" [(.v 0), (.bi "len" [(.v 1)])])))]
def b__law_word : List S := [
  .iff (.cmp .Eq (.call "_law_draw" [(.v 0), (.k (.int 5))]) (.k (.int 0))) [.ret (some (.call "_law_one" [(.v 0), (.lst [(.k (.str "any")), (.k (.str "none")), (.k (.str "num")), (.k (.str "name")), (.k (.str "names")), (.k (.str "rec")), (.k (.str "fun")), (.k (.str "and")), (.k (.str "or")), (.k (.str "not")), (.k (.str "a"))])]))] [],
  .asg 1 (.k (.str "abcdefghijklmnopqrstuvwxyz")) false,
  .ret (some (.meth "str.join" (.k (.str "")) [(.lc (.call "_law_one" [(.v 0), (.v 1)]) (.nm 2) (.rng [(.bin .Add (.k (.int 1)) (.call "_law_draw" [(.v 0), (.k (.int 8))]))]) [] [2])]))]
def b__law_number : List S := [
  .asg 1 (.bin .Add (.bin .Add (.bin .Mult (.call "_law_draw" [(.v 0), (.bin .Pow (.k (.int 10)) (.k (.int 6)))]) (.bin .Pow (.k (.int 10)) (.k (.int 24)))) (.bin .Mult (.call "_law_draw" [(.v 0), (.bin .Pow (.k (.int 10)) (.k (.int 6)))]) (.bin .Pow (.k (.int 10)) (.k (.int 12))))) (.call "_law_draw" [(.v 0), (.bin .Pow (.k (.int 10)) (.k (.int 6)))])) false,
  .asg 2 (.call "_law_one" [(.v 0), (.lst [(.call "_law_draw" [(.v 0), (.k (.int 10))]), (.call "_law_draw" [(.v 0), (.k (.int 1000))]), (.v 1), (.bin .Sub (.bin .Sub (.bin .Pow (.k (.int 10)) (.k (.int 30))) (.k (.int 1))) (.call "_law_draw" [(.v 0), (.k (.int 2))]))])]) false,
  .ret (some (.bin .Mult (.v 2) (.call "_law_one" [(.v 0), (.lst [(.k (.int 1)), (.k (.int 1)), (.neg (.k (.int 1)))])])))]
def b__law_stretch : List S := [
  .par 2 3 (.call "_law_number" [(.v 0)]) (.call "_law_number" [(.v 0)]),
  .par 4 5 (.bi "min" [(.v 2), (.v 3)]) (.bi "max" [(.v 2), (.v 3)]),
  .asg 1 (.tup [(.v 2), (.bi "min" [(.bin .Add (.v 2) (.call "_law_draw" [(.v 0), (.k (.int 4))])), (.bin .Sub (.bin .Pow (.k (.int 10)) (.k (.int 30))) (.k (.int 1)))])]) false,
  .ret (some (.bin .Add (.tup [(.k (.str "num"))]) (.call "_law_one" [(.v 0), (.lst [(.tup [(.v 4), (.v 5)]), (.tup [(.v 2), (.v 2)]), (.tup [(.v 4), (.k .none)]), (.tup [(.k .none), (.v 5)]), (.v 1)])])))]
def b__law_own : List S := [
  .iff (.cmp .Eq (.ix (.v 0) (.k (.int 0))) (.k (.str "rec"))) [.ret (some (.lc (.v 2) (.tp [(.nm 1), (.nm 2)]) (.seq (.ix (.v 0) (.k (.int 1)))) [] [1, 2]))] [],
  .ret (some (.ife (.cmp .In (.ix (.v 0) (.k (.int 0))) (.tup [(.k (.str "fun")), (.k (.str "and")), (.k (.str "or")), (.k (.str "not"))])) (.bi "list" [(.sl (.v 0) (some (.k (.int 1))) none)]) (.lst [])))]
def b__law_walk : List S := [
  .asg 1 (.lst [(.tup [(.tup []), (.v 0)])]) false,
  .fr (.tp [(.nm 2), (.nm 3)]) (.enm (.call "_law_own" [(.v 0)])) [.asg 1 (.bin .Add (.v 1) (.lc (.tup [(.bin .Add (.tup [(.v 2)]) (.v 4)), (.v 5)]) (.tp [(.nm 4), (.nm 5)]) (.seq (.call "_law_walk" [(.v 3)])) [] [4, 5])) false],
  .ret (some (.v 1))]
def b__law_fits : List S := [
  .asg 1 (.call "_law_walk" [(.v 0)]) false,
  .asg 2 (.lc (.v 3) (.tp [(.nm 3), (.nm 4)]) (.seq (.v 1)) [(.cmp .Eq (.ix (.v 4) (.k (.int 0))) (.k (.str "fun")))] [3, 4]) false,
  .ret (some (.and [(.cmp .Lt (.bi "len" [(.v 1)]) (.k (.int 25))), (.cmp .Lt (.bi "len" [(.v 2)]) (.k (.int 5))), (.cmp .Lt (.bi "max" [(.lc (.bi "len" [(.v 3)]) (.tp [(.nm 3), (.nm 4)]) (.seq (.v 1)) [] [3, 4])]) (.k (.int 6)))]))]
def b__law_fields : List S := [
  .asg 3 (.dic [] []) true,
  .fr (.nm 4) (.rng [(.v 2)]) [.six (.v 3) (.call "_law_word" [(.v 0)]) (.call "_law_built" [(.v 0), (.v 1)])],
  .ret (some (.bi "tuple" [(.lc (.tup [(.v 5), (.ix (.v 3) (.v 5))]) (.nm 5) (.seq (.bi "sorted" [(.v 3)])) [] [5])]))]
def b__law_built : List S := [
  .asg 2 (.call "_law_draw" [(.v 0), (.k (.int 8))]) false,
  .iff (.or [(.cmp .Eq (.v 1) (.k (.int 0))), (.cmp .Eq (.v 2) (.k (.int 0)))]) [.asg 3 (.lst [(.call "_law_stretch" [(.v 0)]), (.tup [(.k (.str "name")), (.call "_law_word" [(.v 0)])]), (.tup [(.k (.str "any"))]), (.tup [(.k (.str "none"))]), (.tup [(.k (.str "names"))]), (.tup [(.k (.str "num")), (.k .none), (.k .none)])]) false, .ret (some (.ix (.v 3) (.bin .FloorDiv (.call "_law_draw" [(.v 0), (.k (.int 12))]) (.k (.int 2)))))] [],
  .iff (.cmp .Lt (.v 2) (.k (.int 5))) [.asg 4 (.call "_law_built" [(.v 0), (.bin .Sub (.v 1) (.k (.int 1)))]) false, .ret (some (.tup [(.ix (.lst [(.k (.str "fun")), (.k (.str "and")), (.k (.str "or")), (.k (.str "or"))]) (.bin .Sub (.v 2) (.k (.int 1)))), (.v 4), (.call "_law_built" [(.v 0), (.bin .Sub (.v 1) (.k (.int 1)))])]))] [],
  .iff (.cmp .Eq (.v 2) (.k (.int 5))) [.ret (some (.tup [(.k (.str "not")), (.call "_law_built" [(.v 0), (.bin .Sub (.v 1) (.k (.int 1)))])]))] [],
  .ret (some (.ife (.cmp .Eq (.v 2) (.k (.int 6))) (.tup [(.k (.str "rec")), (.call "_law_fields" [(.v 0), (.bin .Sub (.v 1) (.k (.int 1))), (.call "_law_draw" [(.v 0), (.k (.int 4))])])]) (.tup [(.k (.str "fun")), (.tup [(.k (.str "none"))]), (.tup [(.k (.str "any"))])])))]
def b__law_kind : List S := [
  .asg 1 (.call "_law_built" [(.v 0), (.call "_law_draw" [(.v 0), (.k (.int 6))])]) false,
  .whl (.not (.call "_law_fits" [(.v 1)])) [.asg 1 (.ix (.call "_law_own" [(.v 1)]) (.k (.int 0))) false],
  .ret (some (.v 1))]
def b__law_is_name : List S := [
  .iff (.or [(.not (.isi (.v 0) [(.inl "str")] false)), (.cmp .Eq (.v 0) (.k (.str ""))), (.cmp .Gt (.bi "len" [(.v 0)]) (.k (.int 8)))]) [.ret (some (.k (.bool false)))] [],
  .ret (some (.cmp .Eq (.lc (.v 1) (.nm 1) (.seq (.v 0)) [(.cmp .NotIn (.v 1) (.k (.str "abcdefghijklmnopqrstuvwxyz")))] [1]) (.lst [])))]
def b__law_are_fields : List S := [
  .iff (.not (.isi (.v 0) [(.inl "tuple")] false)) [.ret (some (.k (.bool false)))] [],
  .asg 1 (.lst []) true,
  .fr (.nm 2) (.seq (.v 0)) [.iff (.or [(.not (.isi (.v 2) [(.inl "tuple")] false)), (.cmp .NotEq (.bi "len" [(.v 2)]) (.k (.int 2))), (.not (.call "_law_is_name" [(.ix (.v 2) (.k (.int 0)))]))]) [.ret (some (.k (.bool false)))] [], .exp (.meth "list.append" (.v 1) [(.ix (.v 2) (.k (.int 0)))])],
  .ret (some (.cmp .Eq (.v 1) (.bi "sorted" [(.bi "dict" [(.lc (.tup [(.v 3), (.k (.bool true))]) (.nm 3) (.seq (.v 1)) [] [3])])])))]
def b__law_has_form : List S := [
  .iff (.or [(.not (.isi (.v 0) [(.inl "tuple")] false)), (.cmp .Eq (.bi "len" [(.v 0)]) (.k (.int 0))), (.not (.isi (.ix (.v 0) (.k (.int 0))) [(.inl "str")] false))]) [.ret (some (.k (.bool false)))] [],
  .asg 1 (.dic [(.inr "any"), (.inr "none"), (.inr "names"), (.inr "name"), (.inr "rec"), (.inr "not"), (.inr "num"), (.inr "fun"), (.inr "and"), (.inr "or")] [(.k (.int 1)), (.k (.int 1)), (.k (.int 1)), (.k (.int 2)), (.k (.int 2)), (.k (.int 2)), (.k (.int 3)), (.k (.int 3)), (.k (.int 3)), (.k (.int 3))]) true,
  .iff (.cmp .NotEq (.bi "len" [(.v 0)]) (.meth "dict.get" (.v 1) [(.ix (.v 0) (.k (.int 0))), (.k (.int 0))])) [.ret (some (.k (.bool false)))] [],
  .iff (.cmp .Eq (.ix (.v 0) (.k (.int 0))) (.k (.str "name"))) [.ret (some (.call "_law_is_name" [(.ix (.v 0) (.k (.int 1)))]))] [],
  .iff (.cmp .Eq (.ix (.v 0) (.k (.int 0))) (.k (.str "rec"))) [.ret (some (.call "_law_are_fields" [(.ix (.v 0) (.k (.int 1)))]))] [],
  .iff (.cmp .NotEq (.ix (.v 0) (.k (.int 0))) (.k (.str "num"))) [.ret (some (.k (.bool true)))] [],
  .fr (.nm 2) (.seq (.sl (.v 0) (some (.k (.int 1))) none)) [.iff (.or [(.isi (.v 2) [(.inl "bool")] false), (.and [(.cmp .IsNot (.v 2) (.k .none)), (.not (.isi (.v 2) [(.inl "int")] false))])]) [.ret (some (.k (.bool false)))] [], .iff (.and [(.cmp .IsNot (.v 2) (.k .none)), (.not (.chn .Lt .Lt (.neg (.bin .Pow (.k (.int 10)) (.k (.int 30)))) (.v 2) (.bin .Pow (.k (.int 10)) (.k (.int 30)))))]) [.ret (some (.k (.bool false)))] []],
  .ret (some (.or [(.cmp .Is (.ix (.v 0) (.k (.int 1))) (.k .none)), (.cmp .Is (.ix (.v 0) (.k (.int 2))) (.k .none)), (.cmp .LtE (.ix (.v 0) (.k (.int 1))) (.ix (.v 0) (.k (.int 2))))]))]
def b__law_place : List S := [
  .asg 1 (.lst [(.tup [(.tup []), (.v 0)])]) true,
  .asgT (.tp [(.nm 2), (.nm 3)]) (.tup [(.k (.int 0)), (.k (.int 0))]),
  .whl (.cmp .NotEq (.v 1) (.lst [])) [.asgT (.tp [(.nm 5), (.nm 6)]) (.meth "list.pop" (.v 1) []), .iff (.or [(.cmp .Eq (.v 2) (.k (.int 24))), (.cmp .Eq (.bi "len" [(.v 5)]) (.k (.int 6))), (.not (.call "_law_has_form" [(.v 6)]))]) [.ret (some (.v 5))] [], .asg 3 (.bin .Add (.v 3) (.bi "int" [(.cmp .Eq (.ix (.v 6) (.k (.int 0))) (.k (.str "fun")))])) false, .iff (.cmp .Eq (.v 3) (.k (.int 5))) [.ret (some (.v 5))] [], .asg 2 (.bin .Add (.v 2) (.k (.int 1))) false, .asg 4 (.call "_law_own" [(.v 6)]) false, .asg 1 (.bin .Add (.v 1) (.lc (.tup [(.bin .Add (.v 5) (.tup [(.bin .Sub (.bin .Sub (.bi "len" [(.v 4)]) (.k (.int 1))) (.v 7))])), (.ix (.v 4) (.bin .Sub (.bin .Sub (.bi "len" [(.v 4)]) (.k (.int 1))) (.v 7)))]) (.nm 7) (.rng [(.bi "len" [(.v 4)])]) [] [7])) true],
  .ret (some (.k .none))]
def b__law_bent : List S := [
  .iff (.and [(.isi (.v 1) [(.inl "tuple")] false), (.cmp .Gt (.bi "len" [(.v 1)]) (.k (.int 0))), (.cmp .Gt (.call "_law_draw" [(.v 0), (.k (.int 4))]) (.k (.int 0)))]) [.asg 3 (.call "_law_draw" [(.v 0), (.bi "len" [(.v 1)])]) false, .asg 4 (.call "_law_draw" [(.v 0), (.k (.int 6))]) false, .iff (.cmp .Eq (.v 4) (.k (.int 0))) [.ret (some (.bin .Add (.sl (.v 1) none (some (.v 3))) (.sl (.v 1) (some (.bin .Add (.v 3) (.k (.int 1)))) none)))] [], .iff (.cmp .Eq (.v 4) (.k (.int 1))) [.ret (some (.bin .Add (.bin .Add (.sl (.v 1) none (some (.v 3))) (.tup [(.ix (.v 1) (.v 3))])) (.sl (.v 1) (some (.v 3)) none)))] [], .ret (some (.bin .Add (.bin .Add (.sl (.v 1) none (some (.v 3))) (.tup [(.call "_law_bent" [(.v 0), (.ix (.v 1) (.v 3))])])) (.sl (.v 1) (some (.bin .Add (.v 3) (.k (.int 1)))) none)))] [],
  .iff (.and [(.isi (.v 1) [(.inl "int")] false), (.not (.isi (.v 1) [(.inl "bool")] false)), (.cmp .Eq (.call "_law_draw" [(.v 0), (.k (.int 2))]) (.k (.int 0)))]) [.ret (some (.bin .Add (.v 1) (.call "_law_one" [(.v 0), (.lst [(.k (.int 1)), (.neg (.k (.int 1)))])])))] [],
  .asg 2 (.lst [(.k .none), (.k (.bool true)), (.k (.bool false)), (.k (.int 0)), (.k (.int 5)), (.bin .Pow (.k (.int 10)) (.k (.int 30))), (.bin .Sub (.bin .Pow (.k (.int 10)) (.k (.int 30))) (.k (.int 1))), (.neg (.bin .Pow (.k (.int 10)) (.k (.int 30)))), (.k (.str "")), (.k (.str "A")), (.k (.str "a1")), (.k (.str "abcdefghi")), (.k (.str "q")), (.tup []), (.lst []), (.dic [] [])]) false,
  .asg 2 (.bin .Add (.v 2) (.lst [(.k (.str "any")), (.k (.str "fun")), (.k (.str "num")), (.tup [(.k (.str "any"))]), (.tup [(.k (.str "none")), (.tup [])]), (.tup [(.k (.str "any")), (.k (.str "any"))]), (.tup [(.k (.str "fun")), (.tup [(.k (.str "none"))]), (.tup [(.k (.str "any"))])])])) false,
  .asg 2 (.bin .Add (.v 2) (.lst [(.tup [(.k (.str "rec")), (.tup [(.tup [(.k (.str "b")), (.tup [(.k (.str "any"))])]), (.tup [(.k (.str "a")), (.tup [(.k (.str "any"))])])])]), (.tup [(.k (.str "rec")), (.tup [(.tup [(.k (.str "a")), (.tup [(.k (.str "any"))])]), (.tup [(.k (.str "a")), (.tup [(.k (.str "any"))])])])]), (.tup [(.k (.str "rec"))])])) false,
  .asg 2 (.bin .Add (.v 2) (.lst [(.tup [(.k (.str "num")), (.k (.int 5)), (.k (.int 4))]), (.tup [(.k (.str "num")), (.k .none), (.neg (.bin .Pow (.k (.int 10)) (.k (.int 30))))]), (.tup [(.k (.str "name")), (.k (.str "q"))]), (.tup [(.k (.str "not")), (.tup [(.k (.str "num")), (.k .none), (.k (.int 3))])]), (.tup [(.k (.str "and")), (.tup [(.k (.str "any"))])])])) false,
  .asg 2 (.bin .Add (.v 2) (.lst [(.ife (.isi (.v 1) [(.inl "tuple")] false) (.bi "list" [(.v 1)]) (.lst [(.v 1)])), (.tup [(.v 1)]), (.tup [(.k (.str "rec")), (.lst [(.tup [(.k (.str "a")), (.tup [(.k (.str "any"))])])])])])) false,
  .ret (some (.ix (.v 2) (.call "_law_draw" [(.v 0), (.bi "len" [(.v 2)])])))]
def b__law_grown : List S := [
  .asg 2 (.call "_law_draw" [(.v 0), (.k (.int 4))]) false,
  .iff (.cmp .Eq (.v 2) (.k (.int 0))) [.fr (.nm 6) (.rng [(.bin .Add (.k (.int 1)) (.call "_law_draw" [(.v 0), (.k (.int 6))]))]) [.asg 7 (.lst [(.tup [(.k (.str "not")), (.v 1)]), (.tup [(.k (.str "or")), (.tup [(.k (.str "any"))]), (.v 1)]), (.tup [(.k (.str "rec")), (.tup [(.tup [(.k (.str "a")), (.v 1)])])]), (.tup [(.k (.str "fun")), (.v 1), (.tup [(.k (.str "any"))])])]) false, .asg 1 (.call "_law_one" [(.v 0), (.v 7)]) false], .ret (some (.v 1))] [],
  .iff (.cmp .Eq (.v 2) (.k (.int 1))) [.ret (some (.call "_law_one" [(.v 0), (.lst [(.tup [(.k (.str "or")), (.v 1), (.v 1)]), (.tup [(.k (.str "and")), (.v 1), (.tup [(.k (.str "not")), (.v 1)])]), (.tup [(.k (.str "fun")), (.v 1), (.tup [(.k (.str "or")), (.v 1), (.v 1)])])])]))] [],
  .asg 3 (.k (.str "abcdefghijklmnopqrstuvwxyz")) false,
  .asg 4 (.bin .Add (.k (.int 20)) (.call "_law_draw" [(.v 0), (.k (.int 7))])) false,
  .iff (.cmp .Eq (.v 2) (.k (.int 2))) [.ret (some (.tup [(.k (.str "rec")), (.bi "tuple" [(.lc (.tup [(.ix (.v 3) (.v 6)), (.ix (.lst [(.tup [(.k (.str "any"))]), (.v 1)]) (.bi "int" [(.cmp .Eq (.v 6) (.bin .Sub (.v 4) (.k (.int 1))))]))]) (.nm 6) (.rng [(.v 4)]) [] [6])])]))] [],
  .asg 5 (.tup [(.k (.str "fun")), (.tup [(.k (.str "none"))]), (.tup [(.k (.str "any"))])]) false,
  .ret (some (.tup [(.k (.str "rec")), (.bi "tuple" [(.bin .Add (.lc (.tup [(.ix (.v 3) (.v 6)), (.v 5)]) (.nm 6) (.rng [(.bin .Add (.k (.int 2)) (.call "_law_draw" [(.v 0), (.k (.int 4))]))]) [] [6]) (.lst [(.tup [(.k (.str "z")), (.v 1)])]))])]))]
def b__law_refused : List S := [
  .asg 1 (.k .none) false,
  .tryC [.exp (.act 0)] ["BadKind", "BadWorth", "BadText", "BadClaim", "BadPaper", "BadQuestion", "NoDerivation"] 2 1,
  .iff (.cmp .Is (.v 1) (.k .none)) [.ret (some (.k (.str "")))] [],
  .asg 3 (.lst [(.tup [(.k (.str "kind")), (.isi (.v 1) [(.inr "BadKind")] false)]), (.tup [(.k (.str "worth")), (.isi (.v 1) [(.inr "BadWorth")] false)])]) false,
  .asg 3 (.bin .Add (.v 3) (.lst [(.tup [(.k (.str "text")), (.isi (.v 1) [(.inr "BadText")] false)]), (.tup [(.k (.str "claim")), (.isi (.v 1) [(.inr "BadClaim")] false)])])) false,
  .asg 3 (.bin .Add (.v 3) (.lst [(.tup [(.k (.str "paper")), (.isi (.v 1) [(.inr "BadPaper")] false)]), (.tup [(.k (.str "question")), (.isi (.v 1) [(.inr "BadQuestion")] false)])])) false,
  .asg 4 (.lc (.v 5) (.tp [(.nm 5), (.nm 6)]) (.seq (.bin .Add (.v 3) (.lst [(.tup [(.k (.str "none")), (.isi (.v 1) [(.inr "NoDerivation")] false)])]))) [(.v 6)] [5, 6]) false,
  .iff (.or [(.cmp .NotEq (.bi "len" [(.v 4)]) (.k (.int 1))), (.cmp .NotEq (.isi (.v 1) [(.inl "ValueError")] false) (.cmp .NotEq (.ix (.v 4) (.k (.int 0))) (.k (.str "none"))))]) [.ret (some (.k (.str "other")))] [],
  .iff (.cmp .NotEq (.isi (.v 1) [(.inl "LookupError")] false) (.cmp .Eq (.ix (.v 4) (.k (.int 0))) (.k (.str "none")))) [.ret (some (.k (.str "other")))] [],
  .ret (some (.ife (.cmp .In (.ix (.v 4) (.k (.int 0))) (.tup [(.k (.str "question")), (.k (.str "none"))])) (.ix (.v 4) (.k (.int 0))) (.bin .Add (.bin .Add (.ix (.v 4) (.k (.int 0))) (.k (.str " "))) (.bi "repr" [(.fld (.v 1) "place")]))))]
def b__law_right : List S := [
  .asg 1 (.call "_law_place" [(.v 0)]) false,
  .iff (.cmp .NotEq (.bi "repr" [(.call "is_kind" [(.v 0)])]) (.bi "repr" [(.cmp .Is (.v 1) (.k .none))])) [.ret (some (.k (.bool false)))] [],
  .iff (.cmp .Is (.v 1) (.k .none)) [.ret (some (.cmp .Eq (.bi "repr" [(.call "need_kind" [(.v 0)])]) (.bi "repr" [(.v 0)])))] [],
  .ret (some (.cmp .Eq (.lamc "_law_refused" (.call "need_kind" [(.v 0)])) (.bin .Add (.k (.str "kind ")) (.bi "repr" [(.v 1)]))))]
def b__law_deep_right : List S := [
  .par3 3 4 5 (.v 0) (.v 0) (.v 0),
  .fr (.nm 1) (.rng [(.k (.int 3000))]) [.asg 3 (.tup [(.k (.str "not")), (.v 3)]) false],
  .fr (.nm 1) (.rng [(.k (.int 60))]) [.asg 4 (.tup [(.k (.str "or")), (.v 4), (.v 4)]) false, .asg 5 (.tup [(.k (.str "fun")), (.v 5), (.v 5)]) false],
  .fr (.nm 2) (.seq (.tup [(.v 3), (.v 4), (.v 5)])) [.fr (.nm 6) (.seq (.tup [(.v 2), (.tup [(.v 2)]), (.tup [(.k (.str "and")), (.tup [(.k (.str "any"))]), (.v 2)]), (.tup [(.k (.str "rec")), (.tup [(.tup [(.k (.str "a")), (.v 2)])])]), (.tup [(.k (.str "num")), (.v 2), (.k .none)]), (.tup [(.k (.str "name")), (.v 2)])])) [.iff (.not (.call "_law_right" [(.v 6)])) [.ret (some (.k (.bool false)))] []]],
  .ret (some (.k (.bool true)))]
def b_law : List S := [
  .asg 1 (.call "_law_begun" [(.v 0)]) true,
  .iff (.not (.call "_law_deep_right" [(.call "_law_kind" [(.v 1)])])) [.ret (some (.k (.bool false)))] [],
  .fr (.nm 2) (.rng [(.bin .Add (.k (.int 1)) (.bi "min" [(.k (.int 15)), (.bi "len" [(.v 0)])]))]) [.asg 3 (.call "_law_kind" [(.v 1)]) false, .asg 4 (.call "_law_bent" [(.v 1), (.v 3)]) false, .asg 5 (.call "_law_grown" [(.v 1), (.v 3)]) false, .fr (.nm 6) (.seq (.tup [(.v 3), (.v 4), (.call "_law_bent" [(.v 1), (.v 4)]), (.v 5), (.call "_law_bent" [(.v 1), (.v 5)]), (.call "_law_grown" [(.v 1), (.v 5)])])) [.iff (.not (.call "_law_right" [(.v 6)])) [.ret (some (.k (.bool false)))] []]],
  .ret (some (.k (.bool true)))]
end Kg
set_option Elab.async false
set_option linter.all false
set_option maxRecDepth 100000
set_option maxHeartbeats 1000000
/-! KgA: the draws. -/
namespace Kg
open PySem L2 Mi TL
def Cl (A : Hs) : Prop := A.all (clean A.length) = true
theorem leave_self {A : Hs} {p : PyData} (h : Cl A) : leave false A.length (.val (.d p)) A = some (.val (.d p), A) := by
  rw [leave_d (by rw [List.take_length]; exact h), List.take_length]
theorem leave_newl_self {A : Hs} {ps : List PyData} (h : Cl A) : leave false A.length (.new (.lst ps)) A = some (.new (.lst ps), A) := by
  rw [leave_newl (by rw [List.take_length]; exact h), List.take_length]
theorem log_lt {i : Int} (h1 : -1606938044258990275541962092341162602522202993782792835301376 < i) (h2 : i < 1606938044258990275541962092341162602522202993782792835301376) : i.natAbs.log2 < 200 := by
  by_cases h : i.natAbs = 0
  · rw [h]; decide
  · rw [Nat.log2_lt h]
    have e : (2 : Nat) ^ 200 = 1606938044258990275541962092341162602522202993782792835301376 := by decide
    rw [e]
    omega
theorem mul_ok {i j : Int} (h1 : -1606938044258990275541962092341162602522202993782792835301376 < i) (h2 : i < 1606938044258990275541962092341162602522202993782792835301376) (h3 : -1606938044258990275541962092341162602522202993782792835301376 < j) (h4 : j < 1606938044258990275541962092341162602522202993782792835301376) : i.natAbs.log2 + j.natAbs.log2 < 1000000 := by
  have := log_lt h1 h2
  have := log_lt h3 h4
  omega
theorem div_ok {j : Int} (h1 : 0 < j) (h2 : j < 1606938044258990275541962092341162602522202993782792835301376) : 0 < j ∧ j.natAbs.log2 < 9000 := by
  have := log_lt (i := j) (by omega) h2
  exact ⟨h1, by omega⟩
theorem ixN_nat {n : Nat} {i : Int} (h1 : 0 ≤ i) (h2 : i < n) : ixN n i = some i.toNat := by
  unfold ixN
  rw [if_pos h1, if_pos h2]
theorem atI_of {α : Type} {xs : List α} {i : Int} (h1 : 0 ≤ i) (h2 : i < xs.length) : ∃ x ∈ xs, atI xs i = some x := by
  have hk : i.toNat < xs.length := by omega
  refine ⟨xs[i.toNat], List.getElem_mem hk, ?_⟩
  unfold atI
  rw [ixN_nat h1 h2, Option.bind_some, List.getElem?_eq_getElem hk]
theorem atI_map {α β : Type} {f : α → β} {xs : List α} {i : Int} : atI (xs.map f) i = (atI xs i).map f := by
  unfold atI
  rw [List.length_map]
  cases ixN xs.length i with
  | none => rfl
  | some j => simp
/-- the state of the draws -/
abbrev sd (C : List Int) (n : Int) : List (Key × U) := [(.inr "cells", .d (.list (C.map .int))), (.inr "left", .obj 0), (.inr "at", .d (.int n))]
abbrev stA (C L : List Int) (n : Int) (rest : Hs) : Hs := .lst (L.map .int) :: .dK (sd C n) :: rest
section
variable {C L : List Int} {n k : Int} {rest : Hs}
theorem sd_cells : ixO (stA C L n rest) (.obj 1) (.d (.str "cells")) = some (.d (.list (C.map .int))) := rfl
theorem sd_left : ixO (stA C L n rest) (.obj 1) (.d (.str "left")) = some (.obj 0) := rfl
theorem sd_at : ixO (stA C L n rest) (.obj 1) (.d (.str "at")) = some (.d (.int n)) := rfl
theorem sd_put : setIx (stA C L n rest) (.obj 1) (.d (.str "at")) (.d (.int k)) = some (stA C L k rest) := rfl
theorem sd_ix : ixO (stA C L n rest) (.obj 0) (.d (.int k)) = (atI (L.map .int) k).map U.d := rfl
theorem sd_six {v : Int} : setIx (stA C L n rest) (.obj 0) (.d (.int k)) (.d (.int v)) = (ixN L.length k).map fun j => stA C (L.set j v) n rest := by
  have e : setIx (stA C L n rest) (.obj 0) (.d (.int k)) (.d (.int v)) = (ixN (L.map PyData.int).length k).map fun j => (stA C L n rest).set 0 (.lst ((L.map PyData.int).set j (.int v))) := rfl
  rw [e, List.length_map]
  congr
  funext j
  show Ob.lst ((L.map PyData.int).set j (.int v)) :: _ = Ob.lst ((L.set j v).map PyData.int) :: _
  rw [List.map_set]
end
/-- the objects behind it hold none that comes later -/
def Clr (rest : Hs) : Prop := rest.all (clean (rest.length + 2)) = true
theorem Clr.cl {rest : Hs} (h : Clr rest) {C L : List Int} {n : Int} : Cl (stA C L n rest) := by
  unfold Cl
  show (clean _ _ && (clean _ _ && rest.all _)) = true
  simp only [List.length_cons]
  rw [h]
  simp [clean]
theorem Clr.nil : Clr [] := rfl
/-- the state: at most b draws so far -/
def Dr (C : List Int) (b : Int) (rest A : Hs) : Prop := ∃ L k, A = stA C L k rest ∧ L.length = C.length ∧ (∀ z ∈ L, 0 ≤ z) ∧ 0 ≤ k ∧ k ≤ b
theorem Dr.mono {C : List Int} {b b' : Int} {rest A : Hs} (h : Dr C b rest A) (hb : b ≤ b') : Dr C b' rest A := by
  obtain ⟨L, k, h1, h2, h3, h4, h5⟩ := h
  exact ⟨L, k, h1, h2, h3, h4, by omega⟩
theorem leave_dr {C : List Int} {b b' : Int} {rest A A' : Hs} {p : PyData} (hA : Dr C b rest A) (hA' : Dr C b' rest A') (hc : Clr rest) : leave false A.length (.val (.d p)) A' = some (.val (.d p), A') := by
  obtain ⟨L, k, rfl, _⟩ := hA
  obtain ⟨L', k', rfl, _⟩ := hA'
  have e : (stA C L k rest).length = (stA C L' k' rest).length := rfl
  rw [e]
  exact leave_self hc.cl
/-- it comes to data of which Q holds, by at most so many draws -/
def DrR (C : List Int) (b : Int) (rest : Hs) (Q : PyData → Prop) : R → Hs → Prop := fun r A' => Dr C b rest A' ∧ ∃ p, r = .val (.d p) ∧ Q p
def BIG : Int := 1606938044258990275541962092341162602522202993782792
def fMixed : Fn := ⟨"_law_mixed", 2, 3, b__law_mixed, false⟩
def fDraw : Fn := ⟨"_law_draw", 2, 5, b__law_draw, false⟩
def fOne : Fn := ⟨"_law_one", 2, 2, b__law_one, false⟩
def fWord : Fn := ⟨"_law_word", 1, 3, b__law_word, false⟩
def fNumber : Fn := ⟨"_law_number", 1, 3, b__law_number, false⟩
def fStretch : Fn := ⟨"_law_stretch", 1, 6, b__law_stretch, false⟩
structure GenA (P : Pr) : Prop where
  mixed : fnd P.tab "_law_mixed" = some fMixed
  draw : fnd P.tab "_law_draw" = some fDraw
  one : fnd P.tab "_law_one" = some fOne
  word : fnd P.tab "_law_word" = some fWord
  number : fnd P.tab "_law_number" = some fNumber
  stretch : fnd P.tab "_law_stretch" = some fStretch
section
variable {P : Pr} {n : Nat} {C : List Int} {b : Int} {rest A : Hs}
theorem mixed_ok (h : fnd P.tab "_law_mixed" = some fMixed) (x y : Int) (A : Hs) (hb : 0 ≤ y ∧ y < 1000) (hA : Cl A) : Ret (callN P (n + 1) "_law_mixed" [.d (.int x), .d (.int y)]) A fun r A' => ∃ k : Int, 0 ≤ k ∧ r = .val (.d (.int k)) ∧ A' = A := by
  apply wq.ret
  rw [wq_call h rfl]
  simp only [fMixed, b__law_mixed, z_cons, BQ, q_ife, BZ, BO, BV, BL, tyN, mTy, List.replicate, List.getElem?_cons_zero, List.getElem?_cons_succ, List.set_cons_zero, List.set_cons_succ, List.map_cons, List.map_nil, List.cons_append, List.nil_append, List.all_cons, List.all_nil, Option.map_some, Option.map_none, Option.bind_some, Option.bind_none, if_true, if_false, ite_true, ite_false, List.length_cons, List.length_nil, ite_self, Nat.reduceAdd, Nat.reduceLeDiff, Nat.reduceLT, Nat.reduceMul, Int.reduceLT, Int.reduceLE, Int.reduceNeg, Int.reduceAdd, Int.reduceSub, Int.reduceMul, Int.reducePow, Int.reduceEq]
  have hbb : 0 ≤ y * y ∧ y * y ≤ 1000000 := ⟨Int.mul_nonneg hb.1 hb.1, Int.le_trans (Int.mul_le_mul (show y ≤ 1000 by omega) (show y ≤ 1000 by omega) hb.1 (by omega)) (by decide)⟩
  rw [Int.mul_assoc 2 y y]
  refine ⟨mul_ok ?_ ?_ ?_ ?_, mul_ok ?_ ?_ ?_ ?_, mul_ok ?_ ?_ ?_ ?_, mul_ok ?_ ?_ ?_ ?_, mul_ok ?_ ?_ ?_ ?_, ?_⟩
  all_goals try omega
  rw [leave_self hA]
  exact ⟨_, by omega, rfl, rfl⟩
theorem draw_ok (g : GenA P) (hA : Dr C b rest A) (hc : Clr rest) {m : Int} (hm : 0 < m ∧ m < 10000000000) (hb : b < BIG) : Ret (callN P (n + 2) "_law_draw" [.obj 1, .d (.int m)]) A (DrR C (b + 1) rest fun p => ∃ i : Int, p = .int i ∧ 0 ≤ i ∧ i < m) := by
  obtain ⟨L, k, rfl, h1, h2, h3, h4⟩ := hA
  have hk : k + 1 < 1606938044258990275541962092341162602522202993782793 := by unfold BIG at hb; omega
  have fin : ∀ (i : Int) (L' : List Int), 0 ≤ i → i < m → L'.length = C.length → (∀ z ∈ L', 0 ≤ z) → ow (leave false (stA C L k rest).length (.val (.d (.int i))) (stA C L' (k + 1) rest)) fun z => DrR C (b + 1) rest (fun p => ∃ i : Int, p = .int i ∧ 0 ≤ i ∧ i < m) z.1 z.2 := fun i L' i1 i2 l1 l2 => by
    have e : (stA C L k rest).length = (stA C L' (k + 1) rest).length := rfl
    rw [e, leave_self hc.cl]
    exact ⟨⟨L', k + 1, rfl, l1, l2, by omega, by omega⟩, _, rfl, i, rfl, i1, i2⟩
  apply wq.ret
  rw [wq_call g.draw rfl]
  simp only [fDraw, b__law_draw]
  rw [z_cons]
  simp only [BQ, q_ife, BZ, BO, BV, BL, tyN, mTy, List.replicate, List.getElem?_cons_zero, List.getElem?_cons_succ, List.set_cons_zero, List.set_cons_succ, List.map_cons, List.map_nil, List.cons_append, List.nil_append, List.all_cons, List.all_nil, Option.map_some, Option.map_none, Option.bind_some, Option.bind_none, if_true, if_false, ite_true, ite_false, List.length_cons, List.length_nil, ite_self, Nat.reduceAdd, Nat.reduceLeDiff, Nat.reduceLT, Nat.reduceMul, Int.reduceLT, Int.reduceLE, Int.reduceNeg, Int.reduceAdd, Int.reduceSub, Int.reduceMul, Int.reducePow, Int.reduceEq, sd_cells, sd_left, sd_at, sd_put]
  rw [z_cons]
  simp only [BQ, q_ife, BZ, BO, BV, BL, tyN, mTy, List.replicate, List.getElem?_cons_zero, List.getElem?_cons_succ, List.set_cons_zero, List.set_cons_succ, List.map_cons, List.map_nil, List.cons_append, List.nil_append, List.all_cons, List.all_nil, Option.map_some, Option.map_none, Option.bind_some, Option.bind_none, if_true, if_false, ite_true, ite_false, List.length_cons, List.length_nil, ite_self, Nat.reduceAdd, Nat.reduceLeDiff, Nat.reduceLT, Nat.reduceMul, Int.reduceLT, Int.reduceLE, Int.reduceNeg, Int.reduceAdd, Int.reduceSub, Int.reduceMul, Int.reducePow, Int.reduceEq, sd_cells, sd_left, sd_at, sd_put]
  rw [z_cons]
  simp only [BQ, q_ife, BZ, BO, BV, BL, tyN, mTy, List.replicate, List.getElem?_cons_zero, List.getElem?_cons_succ, List.set_cons_zero, List.set_cons_succ, List.map_cons, List.map_nil, List.cons_append, List.nil_append, List.all_cons, List.all_nil, Option.map_some, Option.map_none, Option.bind_some, Option.bind_none, if_true, if_false, ite_true, ite_false, List.length_cons, List.length_nil, ite_self, Nat.reduceAdd, Nat.reduceLeDiff, Nat.reduceLT, Nat.reduceMul, Int.reduceLT, Int.reduceLE, Int.reduceNeg, Int.reduceAdd, Int.reduceSub, Int.reduceMul, Int.reducePow, Int.reduceEq, sd_cells, sd_left, sd_at, sd_put]
  split
  · rw [z_cons]
    simp only [BQ, q_ife, BZ, BO, BV, BL, tyN, mTy, List.replicate, List.getElem?_cons_zero, List.getElem?_cons_succ, List.set_cons_zero, List.set_cons_succ, List.map_cons, List.map_nil, List.cons_append, List.nil_append, List.all_cons, List.all_nil, Option.map_some, Option.map_none, Option.bind_some, Option.bind_none, if_true, if_false, ite_true, ite_false, List.length_cons, List.length_nil, ite_self, Nat.reduceAdd, Nat.reduceLeDiff, Nat.reduceLT, Nat.reduceMul, Int.reduceLT, Int.reduceLE, Int.reduceNeg, Int.reduceAdd, Int.reduceSub, Int.reduceMul, Int.reducePow, Int.reduceEq, sd_cells, sd_left, sd_at, sd_put]
    refine ⟨mul_ok ?_ ?_ ?_ ?_, ?_⟩
    all_goals try omega
    refine (mixed_ok g.mixed _ _ _ (by omega) hc.cl).wq ?_
    rintro _ _ ⟨x, hx, rfl, rfl⟩
    simp only [BQ, q_ife, BZ, BO, BV, BL, tyN, mTy, List.replicate, List.getElem?_cons_zero, List.getElem?_cons_succ, List.set_cons_zero, List.set_cons_succ, List.map_cons, List.map_nil, List.cons_append, List.nil_append, List.all_cons, List.all_nil, Option.map_some, Option.map_none, Option.bind_some, Option.bind_none, if_true, if_false, ite_true, ite_false, List.length_cons, List.length_nil, ite_self, Nat.reduceAdd, Nat.reduceLeDiff, Nat.reduceLT, Nat.reduceMul, Int.reduceLT, Int.reduceLE, Int.reduceNeg, Int.reduceAdd, Int.reduceSub, Int.reduceMul, Int.reducePow, Int.reduceEq, sd_cells, sd_left, sd_at, sd_put]
    refine (mixed_ok g.mixed _ _ _ (by omega) hc.cl).wq ?_
    rintro _ _ ⟨y, hy, rfl, rfl⟩
    simp only [BQ, q_ife, BZ, BO, BV, BL, tyN, mTy, List.replicate, List.getElem?_cons_zero, List.getElem?_cons_succ, List.set_cons_zero, List.set_cons_succ, List.map_cons, List.map_nil, List.cons_append, List.nil_append, List.all_cons, List.all_nil, Option.map_some, Option.map_none, Option.bind_some, Option.bind_none, if_true, if_false, ite_true, ite_false, List.length_cons, List.length_nil, ite_self, Nat.reduceAdd, Nat.reduceLeDiff, Nat.reduceLT, Nat.reduceMul, Int.reduceLT, Int.reduceLE, Int.reduceNeg, Int.reduceAdd, Int.reduceSub, Int.reduceMul, Int.reducePow, Int.reduceEq, sd_cells, sd_left, sd_at, sd_put]
    exact ⟨by decide, hm.1, fin _ L (Int.emod_nonneg _ (by omega)) (Int.emod_lt_of_pos _ hm.1) h1 h2⟩
  · rename_i hC
    have hC0 : 0 < C.length := by
      cases C with
      | nil => exact (hC rfl).elim
      | cons _ _ => simp
    rw [z_cons]
    simp only [BQ, q_ife, BZ, BO, BV, BL, tyN, mTy, List.replicate, List.getElem?_cons_zero, List.getElem?_cons_succ, List.set_cons_zero, List.set_cons_succ, List.map_cons, List.map_nil, List.cons_append, List.nil_append, List.all_cons, List.all_nil, Option.map_some, Option.map_none, Option.bind_some, Option.bind_none, if_true, if_false, ite_true, ite_false, List.length_cons, List.length_nil, ite_self, Nat.reduceAdd, Nat.reduceLeDiff, Nat.reduceLT, Nat.reduceMul, Int.reduceLT, Int.reduceLE, Int.reduceNeg, Int.reduceAdd, Int.reduceSub, Int.reduceMul, Int.reducePow, Int.reduceEq, sd_cells, sd_left, sd_at, sd_put, List.length_map]
    refine ⟨by omega, ?_⟩
    have a1 : 0 ≤ (k + 1) % (C.length : Int) := Int.emod_nonneg _ (by omega)
    have a2 : (k + 1) % (C.length : Int) < C.length := Int.emod_lt_of_pos _ (by omega)
    generalize (k + 1) % (C.length : Int) = j at a1 a2
    obtain ⟨c, _, ec⟩ := atI_of (xs := C) a1 a2
    obtain ⟨l, hl, el⟩ := atI_of (xs := L) a1 (by omega)
    have hl0 := h2 l hl
    rw [z_cons]
    simp only [BQ, q_ife, BZ, BO, BV, BL, tyN, mTy, List.replicate, List.getElem?_cons_zero, List.getElem?_cons_succ, List.set_cons_zero, List.set_cons_succ, List.map_cons, List.map_nil, List.cons_append, List.nil_append, List.all_cons, List.all_nil, Option.map_some, Option.map_none, Option.bind_some, Option.bind_none, if_true, if_false, ite_true, ite_false, List.length_cons, List.length_nil, ite_self, Nat.reduceAdd, Nat.reduceLeDiff, Nat.reduceLT, Nat.reduceMul, Int.reduceLT, Int.reduceLE, Int.reduceNeg, Int.reduceAdd, Int.reduceSub, Int.reduceMul, Int.reducePow, Int.reduceEq, sd_cells, sd_left, sd_at, sd_put, sd_ix, sd_six, atI_map, ec, el]
    split
    · rw [z_cons]
      simp only [BQ, q_ife, BZ, BO, BV, BL, tyN, mTy, List.replicate, List.getElem?_cons_zero, List.getElem?_cons_succ, List.set_cons_zero, List.set_cons_succ, List.map_cons, List.map_nil, List.cons_append, List.nil_append, List.all_cons, List.all_nil, Option.map_some, Option.map_none, Option.bind_some, Option.bind_none, if_true, if_false, ite_true, ite_false, List.length_cons, List.length_nil, ite_self, Nat.reduceAdd, Nat.reduceLeDiff, Nat.reduceLT, Nat.reduceMul, Int.reduceLT, Int.reduceLE, Int.reduceNeg, Int.reduceAdd, Int.reduceSub, Int.reduceMul, Int.reducePow, Int.reduceEq, sd_cells, sd_left, sd_at, sd_put, sd_ix, sd_six, atI_map, ec, el]
      refine ⟨hm.1, ?_⟩
      rw [z_cons]
      simp only [BQ, q_ife, BZ, BO, BV, BL, tyN, mTy, List.replicate, List.getElem?_cons_zero, List.getElem?_cons_succ, List.set_cons_zero, List.set_cons_succ, List.map_cons, List.map_nil, List.cons_append, List.nil_append, List.all_cons, List.all_nil, Option.map_some, Option.map_none, Option.bind_some, Option.bind_none, if_true, if_false, ite_true, ite_false, List.length_cons, List.length_nil, ite_self, Nat.reduceAdd, Nat.reduceLeDiff, Nat.reduceLT, Nat.reduceMul, Int.reduceLT, Int.reduceLE, Int.reduceNeg, Int.reduceAdd, Int.reduceSub, Int.reduceMul, Int.reducePow, Int.reduceEq, sd_cells, sd_left, sd_at, sd_put, sd_ix, sd_six, atI_map, ec, el]
      refine ⟨div_ok hm.1 (by omega), ?_⟩
      rw [ixN_nat a1 (by omega)]
      simp only [BQ, q_ife, BZ, BO, BV, BL, tyN, mTy, List.replicate, List.getElem?_cons_zero, List.getElem?_cons_succ, List.set_cons_zero, List.set_cons_succ, List.map_cons, List.map_nil, List.cons_append, List.nil_append, List.all_cons, List.all_nil, Option.map_some, Option.map_none, Option.bind_some, Option.bind_none, if_true, if_false, ite_true, ite_false, List.length_cons, List.length_nil, ite_self, Nat.reduceAdd, Nat.reduceLeDiff, Nat.reduceLT, Nat.reduceMul, Int.reduceLT, Int.reduceLE, Int.reduceNeg, Int.reduceAdd, Int.reduceSub, Int.reduceMul, Int.reducePow, Int.reduceEq]
      rw [z_cons]
      simp only [BQ, q_ife, BZ, BO, BV, BL, tyN, mTy, List.replicate, List.getElem?_cons_zero, List.getElem?_cons_succ, List.set_cons_zero, List.set_cons_succ, List.map_cons, List.map_nil, List.cons_append, List.nil_append, List.all_cons, List.all_nil, Option.map_some, Option.map_none, Option.bind_some, Option.bind_none, if_true, if_false, ite_true, ite_false, List.length_cons, List.length_nil, ite_self, Nat.reduceAdd, Nat.reduceLeDiff, Nat.reduceLT, Nat.reduceMul, Int.reduceLT, Int.reduceLE, Int.reduceNeg, Int.reduceAdd, Int.reduceSub, Int.reduceMul, Int.reducePow, Int.reduceEq]
      refine fin _ _ (Int.emod_nonneg _ (by omega)) (Int.emod_lt_of_pos _ hm.1) (by rw [List.length_set]; exact h1) fun z hz => ?_
      rcases List.mem_or_eq_of_mem_set hz with h | h
      · exact h2 z h
      · rw [h]
        exact Int.ediv_nonneg hl0 (by omega)
    · rw [z_cons]
      simp only [BQ, q_ife, BZ, BO, BV, BL, tyN, mTy, List.replicate, List.getElem?_cons_zero, List.getElem?_cons_succ, List.set_cons_zero, List.set_cons_succ, List.map_cons, List.map_nil, List.cons_append, List.nil_append, List.all_cons, List.all_nil, Option.map_some, Option.map_none, Option.bind_some, Option.bind_none, if_true, if_false, ite_true, ite_false, List.length_cons, List.length_nil, ite_self, Nat.reduceAdd, Nat.reduceLeDiff, Nat.reduceLT, Nat.reduceMul, Int.reduceLT, Int.reduceLE, Int.reduceNeg, Int.reduceAdd, Int.reduceSub, Int.reduceMul, Int.reducePow, Int.reduceEq, sd_cells, sd_left, sd_at, sd_put, sd_ix, sd_six, atI_map, ec, el]
      refine ⟨mul_ok ?_ ?_ ?_ ?_, ?_⟩
      all_goals try omega
      refine (mixed_ok g.mixed _ _ _ (by omega) hc.cl).wq ?_
      rintro _ _ ⟨x, hx, rfl, rfl⟩
      simp only [BQ, q_ife, BZ, BO, BV, BL, tyN, mTy, List.replicate, List.getElem?_cons_zero, List.getElem?_cons_succ, List.set_cons_zero, List.set_cons_succ, List.map_cons, List.map_nil, List.cons_append, List.nil_append, List.all_cons, List.all_nil, Option.map_some, Option.map_none, Option.bind_some, Option.bind_none, if_true, if_false, ite_true, ite_false, List.length_cons, List.length_nil, ite_self, Nat.reduceAdd, Nat.reduceLeDiff, Nat.reduceLT, Nat.reduceMul, Int.reduceLT, Int.reduceLE, Int.reduceNeg, Int.reduceAdd, Int.reduceSub, Int.reduceMul, Int.reducePow, Int.reduceEq, sd_cells, sd_left, sd_at, sd_put]
      refine (mixed_ok g.mixed _ _ _ (by omega) hc.cl).wq ?_
      rintro _ _ ⟨y, hy, rfl, rfl⟩
      simp only [BQ, q_ife, BZ, BO, BV, BL, tyN, mTy, List.replicate, List.getElem?_cons_zero, List.getElem?_cons_succ, List.set_cons_zero, List.set_cons_succ, List.map_cons, List.map_nil, List.cons_append, List.nil_append, List.all_cons, List.all_nil, Option.map_some, Option.map_none, Option.bind_some, Option.bind_none, if_true, if_false, ite_true, ite_false, List.length_cons, List.length_nil, ite_self, Nat.reduceAdd, Nat.reduceLeDiff, Nat.reduceLT, Nat.reduceMul, Int.reduceLT, Int.reduceLE, Int.reduceNeg, Int.reduceAdd, Int.reduceSub, Int.reduceMul, Int.reducePow, Int.reduceEq, sd_cells, sd_left, sd_at, sd_put]
      exact ⟨by decide, hm.1, fin _ L (Int.emod_nonneg _ (by omega)) (Int.emod_lt_of_pos _ hm.1) h1 h2⟩
theorem one_ok (g : GenA P) (hA : Dr C b rest A) (hc : Clr rest) {ps : List PyData} (hl : 0 < ps.length ∧ ps.length < 1000) (hb : b < BIG) : Ret (callN P (n + 3) "_law_one" [.obj 1, .d (.list ps)]) A (DrR C (b + 1) rest fun p => p ∈ ps) := by
  apply wq.ret
  rw [wq_call g.one rfl]
  simp only [fOne, b__law_one]
  rw [z_cons]
  simp only [BQ, q_ife, BZ, BO, BV, BL, tyN, mTy, List.replicate, List.getElem?_cons_zero, List.getElem?_cons_succ, List.set_cons_zero, List.set_cons_succ, List.map_cons, List.map_nil, List.cons_append, List.nil_append, List.all_cons, List.all_nil, Option.map_some, Option.map_none, Option.bind_some, Option.bind_none, if_true, if_false, ite_true, ite_false, List.length_cons, List.length_nil, ite_self, Nat.reduceAdd, Nat.reduceLeDiff, Nat.reduceLT, Nat.reduceMul, Int.reduceLT, Int.reduceLE, Int.reduceNeg, Int.reduceAdd, Int.reduceSub, Int.reduceMul, Int.reducePow, Int.reduceEq]
  refine (draw_ok g hA hc (by omega) hb).wq ?_
  rintro _ A1 ⟨hA1, _, rfl, i, rfl, i1, i2⟩
  obtain ⟨x, hx, ex⟩ := atI_of (xs := ps) i1 i2
  simp only [BQ, q_ife, BZ, BO, BV, BL, tyN, mTy, List.replicate, List.getElem?_cons_zero, List.getElem?_cons_succ, List.set_cons_zero, List.set_cons_succ, List.map_cons, List.map_nil, List.cons_append, List.nil_append, List.all_cons, List.all_nil, Option.map_some, Option.map_none, Option.bind_some, Option.bind_none, if_true, if_false, ite_true, ite_false, List.length_cons, List.length_nil, ite_self, Nat.reduceAdd, Nat.reduceLeDiff, Nat.reduceLT, Nat.reduceMul, Int.reduceLT, Int.reduceLE, Int.reduceNeg, Int.reduceAdd, Int.reduceSub, Int.reduceMul, Int.reducePow, Int.reduceEq, ex]
  rw [leave_dr hA hA1 hc]
  exact ⟨hA1, _, rfl, hx⟩
theorem oneS_ok (g : GenA P) (hA : Dr C b rest A) (hc : Clr rest) {x : Str} (hl : 0 < x.length ∧ x.length < 1000) (hb : b < BIG) : Ret (callN P (n + 3) "_law_one" [.obj 1, .d (.str x)]) A (DrR C (b + 1) rest fun p => ∃ c ∈ x.cps.toList, p = .str ⟨#[c]⟩) := by
  apply wq.ret
  rw [wq_call g.one rfl]
  simp only [fOne, b__law_one]
  rw [z_cons]
  have hs : x.length ≤ 16777216 := by omega
  simp only [BQ, q_ife, BZ, BO, BV, BL, tyN, mTy, List.replicate, List.getElem?_cons_zero, List.getElem?_cons_succ, List.set_cons_zero, List.set_cons_succ, List.map_cons, List.map_nil, List.cons_append, List.nil_append, List.all_cons, List.all_nil, Option.map_some, Option.map_none, Option.bind_some, Option.bind_none, if_true, if_false, ite_true, ite_false, List.length_cons, List.length_nil, ite_self, Nat.reduceAdd, Nat.reduceLeDiff, Nat.reduceLT, Nat.reduceMul, Int.reduceLT, Int.reduceLE, Int.reduceNeg, Int.reduceAdd, Int.reduceSub, Int.reduceMul, Int.reducePow, Int.reduceEq, hs]
  refine (draw_ok g hA hc (m := x.length) (by omega) hb).wq ?_
  rintro _ A1 ⟨hA1, _, rfl, i, rfl, i1, i2⟩
  obtain ⟨c, hx, ex⟩ := atI_of (xs := x.cps.toList) i1 (by simpa [Str.length] using i2)
  simp only [BQ, q_ife, BZ, BO, BV, BL, tyN, mTy, List.replicate, List.getElem?_cons_zero, List.getElem?_cons_succ, List.set_cons_zero, List.set_cons_succ, List.map_cons, List.map_nil, List.cons_append, List.nil_append, List.all_cons, List.all_nil, Option.map_some, Option.map_none, Option.bind_some, Option.bind_none, if_true, if_false, ite_true, ite_false, List.length_cons, List.length_nil, ite_self, Nat.reduceAdd, Nat.reduceLeDiff, Nat.reduceLT, Nat.reduceMul, Int.reduceLT, Int.reduceLE, Int.reduceNeg, Int.reduceAdd, Int.reduceSub, Int.reduceMul, Int.reducePow, Int.reduceEq, ex, hs]
  rw [leave_dr hA hA1 hc]
  exact ⟨hA1, _, rfl, c, hx, rfl⟩
theorem number_ok (g : GenA P) (hA : Dr C b rest A) (hc : Clr rest) (hb : b + 10 < BIG) : Ret (callN P (n + 4) "_law_number" [.obj 1]) A (DrR C (b + 8) rest fun p => ∃ i : Int, p = .int i ∧ -1000000000000000000000000000000 < i ∧ i < 1000000000000000000000000000000) := by
  apply wq.ret
  rw [wq_call g.number rfl]
  simp only [fNumber, b__law_number]
  rw [z_cons]
  simp only [BQ, q_ife, BZ, BO, BV, BL, tyN, mTy, List.replicate, List.getElem?_cons_zero, List.getElem?_cons_succ, List.set_cons_zero, List.set_cons_succ, List.map_cons, List.map_nil, List.cons_append, List.nil_append, List.all_cons, List.all_nil, Option.map_some, Option.map_none, Option.bind_some, Option.bind_none, if_true, if_false, ite_true, ite_false, List.length_cons, List.length_nil, ite_self, Nat.reduceAdd, Nat.reduceLeDiff, Nat.reduceLT, Nat.reduceMul, Int.reduceLT, Int.reduceLE, Int.reduceNeg, Int.reduceAdd, Int.reduceSub, Int.reduceMul, Int.reducePow, Int.reduceEq]
  refine (draw_ok g hA hc (by decide) (by omega)).wq ?_
  rintro _ A1 ⟨hA1, _, rfl, i1, rfl, j1, k1⟩
  simp only [BQ, q_ife, BZ, BO, BV, BL, tyN, mTy, List.replicate, List.getElem?_cons_zero, List.getElem?_cons_succ, List.set_cons_zero, List.set_cons_succ, List.map_cons, List.map_nil, List.cons_append, List.nil_append, List.all_cons, List.all_nil, Option.map_some, Option.map_none, Option.bind_some, Option.bind_none, if_true, if_false, ite_true, ite_false, List.length_cons, List.length_nil, ite_self, Nat.reduceAdd, Nat.reduceLeDiff, Nat.reduceLT, Nat.reduceMul, Int.reduceLT, Int.reduceLE, Int.reduceNeg, Int.reduceAdd, Int.reduceSub, Int.reduceMul, Int.reducePow, Int.reduceEq]
  refine ⟨mul_ok (by omega) (by omega) (by omega) (by omega), ?_⟩
  refine (draw_ok g hA1 hc (by decide) (by omega)).wq ?_
  rintro _ A2 ⟨hA2, _, rfl, i2, rfl, j2, k2⟩
  simp only [BQ, q_ife, BZ, BO, BV, BL, tyN, mTy, List.replicate, List.getElem?_cons_zero, List.getElem?_cons_succ, List.set_cons_zero, List.set_cons_succ, List.map_cons, List.map_nil, List.cons_append, List.nil_append, List.all_cons, List.all_nil, Option.map_some, Option.map_none, Option.bind_some, Option.bind_none, if_true, if_false, ite_true, ite_false, List.length_cons, List.length_nil, ite_self, Nat.reduceAdd, Nat.reduceLeDiff, Nat.reduceLT, Nat.reduceMul, Int.reduceLT, Int.reduceLE, Int.reduceNeg, Int.reduceAdd, Int.reduceSub, Int.reduceMul, Int.reducePow, Int.reduceEq]
  refine ⟨mul_ok (by omega) (by omega) (by omega) (by omega), ?_⟩
  refine (draw_ok g hA2 hc (by decide) (by omega)).wq ?_
  rintro _ A3 ⟨hA3, _, rfl, i3, rfl, j3, k3⟩
  simp only [BQ, q_ife, BZ, BO, BV, BL, tyN, mTy, List.replicate, List.getElem?_cons_zero, List.getElem?_cons_succ, List.set_cons_zero, List.set_cons_succ, List.map_cons, List.map_nil, List.cons_append, List.nil_append, List.all_cons, List.all_nil, Option.map_some, Option.map_none, Option.bind_some, Option.bind_none, if_true, if_false, ite_true, ite_false, List.length_cons, List.length_nil, ite_self, Nat.reduceAdd, Nat.reduceLeDiff, Nat.reduceLT, Nat.reduceMul, Int.reduceLT, Int.reduceLE, Int.reduceNeg, Int.reduceAdd, Int.reduceSub, Int.reduceMul, Int.reducePow, Int.reduceEq]
  rw [z_cons]
  simp only [BQ, q_ife, BZ, BO, BV, BL, tyN, mTy, List.replicate, List.getElem?_cons_zero, List.getElem?_cons_succ, List.set_cons_zero, List.set_cons_succ, List.map_cons, List.map_nil, List.cons_append, List.nil_append, List.all_cons, List.all_nil, Option.map_some, Option.map_none, Option.bind_some, Option.bind_none, if_true, if_false, ite_true, ite_false, List.length_cons, List.length_nil, ite_self, Nat.reduceAdd, Nat.reduceLeDiff, Nat.reduceLT, Nat.reduceMul, Int.reduceLT, Int.reduceLE, Int.reduceNeg, Int.reduceAdd, Int.reduceSub, Int.reduceMul, Int.reducePow, Int.reduceEq]
  refine (draw_ok g hA3 hc (by decide) (by omega)).wq ?_
  rintro _ A4 ⟨hA4, _, rfl, i4, rfl, j4, k4⟩
  simp only [BQ, q_ife, BZ, BO, BV, BL, tyN, mTy, List.replicate, List.getElem?_cons_zero, List.getElem?_cons_succ, List.set_cons_zero, List.set_cons_succ, List.map_cons, List.map_nil, List.cons_append, List.nil_append, List.all_cons, List.all_nil, Option.map_some, Option.map_none, Option.bind_some, Option.bind_none, if_true, if_false, ite_true, ite_false, List.length_cons, List.length_nil, ite_self, Nat.reduceAdd, Nat.reduceLeDiff, Nat.reduceLT, Nat.reduceMul, Int.reduceLT, Int.reduceLE, Int.reduceNeg, Int.reduceAdd, Int.reduceSub, Int.reduceMul, Int.reducePow, Int.reduceEq]
  refine (draw_ok g hA4 hc (by decide) (by omega)).wq ?_
  rintro _ A5 ⟨hA5, _, rfl, i5, rfl, j5, k5⟩
  simp only [BQ, q_ife, BZ, BO, BV, BL, tyN, mTy, List.replicate, List.getElem?_cons_zero, List.getElem?_cons_succ, List.set_cons_zero, List.set_cons_succ, List.map_cons, List.map_nil, List.cons_append, List.nil_append, List.all_cons, List.all_nil, Option.map_some, Option.map_none, Option.bind_some, Option.bind_none, if_true, if_false, ite_true, ite_false, List.length_cons, List.length_nil, ite_self, Nat.reduceAdd, Nat.reduceLeDiff, Nat.reduceLT, Nat.reduceMul, Int.reduceLT, Int.reduceLE, Int.reduceNeg, Int.reduceAdd, Int.reduceSub, Int.reduceMul, Int.reducePow, Int.reduceEq]
  refine (draw_ok g hA5 hc (by decide) (by omega)).wq ?_
  rintro _ A6 ⟨hA6, _, rfl, i6, rfl, j6, k6⟩
  simp only [BQ, q_ife, BZ, BO, BV, BL, tyN, mTy, List.replicate, List.getElem?_cons_zero, List.getElem?_cons_succ, List.set_cons_zero, List.set_cons_succ, List.map_cons, List.map_nil, List.cons_append, List.nil_append, List.all_cons, List.all_nil, Option.map_some, Option.map_none, Option.bind_some, Option.bind_none, if_true, if_false, ite_true, ite_false, List.length_cons, List.length_nil, ite_self, Nat.reduceAdd, Nat.reduceLeDiff, Nat.reduceLT, Nat.reduceMul, Int.reduceLT, Int.reduceLE, Int.reduceNeg, Int.reduceAdd, Int.reduceSub, Int.reduceMul, Int.reducePow, Int.reduceEq]
  refine (one_ok g hA6 hc ⟨by simp, by simp⟩ (by omega)).wq ?_
  rintro _ A7 ⟨hA7, p7, rfl, h7⟩
  have h7 : ∃ i : Int, p7 = .int i ∧ 0 ≤ i ∧ i < 1000000000000000000000000000000 := by
    simp only [List.mem_cons, List.not_mem_nil, or_false] at h7
    rcases h7 with rfl | rfl | rfl | rfl
    · exact ⟨_, rfl, by omega, by omega⟩
    · exact ⟨_, rfl, by omega, by omega⟩
    · exact ⟨_, rfl, by omega, by omega⟩
    · exact ⟨_, rfl, by omega, by omega⟩
  obtain ⟨i7, rfl, j7, k7⟩ := h7
  simp only [BQ, q_ife, BZ, BO, BV, BL, tyN, mTy, List.replicate, List.getElem?_cons_zero, List.getElem?_cons_succ, List.set_cons_zero, List.set_cons_succ, List.map_cons, List.map_nil, List.cons_append, List.nil_append, List.all_cons, List.all_nil, Option.map_some, Option.map_none, Option.bind_some, Option.bind_none, if_true, if_false, ite_true, ite_false, List.length_cons, List.length_nil, ite_self, Nat.reduceAdd, Nat.reduceLeDiff, Nat.reduceLT, Nat.reduceMul, Int.reduceLT, Int.reduceLE, Int.reduceNeg, Int.reduceAdd, Int.reduceSub, Int.reduceMul, Int.reducePow, Int.reduceEq]
  rw [z_cons]
  simp only [BQ, q_ife, BZ, BO, BV, BL, tyN, mTy, List.replicate, List.getElem?_cons_zero, List.getElem?_cons_succ, List.set_cons_zero, List.set_cons_succ, List.map_cons, List.map_nil, List.cons_append, List.nil_append, List.all_cons, List.all_nil, Option.map_some, Option.map_none, Option.bind_some, Option.bind_none, if_true, if_false, ite_true, ite_false, List.length_cons, List.length_nil, ite_self, Nat.reduceAdd, Nat.reduceLeDiff, Nat.reduceLT, Nat.reduceMul, Int.reduceLT, Int.reduceLE, Int.reduceNeg, Int.reduceAdd, Int.reduceSub, Int.reduceMul, Int.reducePow, Int.reduceEq]
  refine (one_ok g hA7 hc ⟨by simp, by simp⟩ (by omega)).wq ?_
  rintro _ A8 ⟨hA8, p8, rfl, h8⟩
  have h8 : p8 = .int 1 ∨ p8 = .int (-1) := by
    simp only [List.mem_cons, List.not_mem_nil, or_false] at h8
    rcases h8 with rfl | rfl | rfl
    · exact .inl rfl
    · exact .inl rfl
    · exact .inr rfl
  rcases h8 with rfl | rfl
  · simp only [BQ, q_ife, BZ, BO, BV, BL, tyN, mTy, List.replicate, List.getElem?_cons_zero, List.getElem?_cons_succ, List.set_cons_zero, List.set_cons_succ, List.map_cons, List.map_nil, List.cons_append, List.nil_append, List.all_cons, List.all_nil, Option.map_some, Option.map_none, Option.bind_some, Option.bind_none, if_true, if_false, ite_true, ite_false, List.length_cons, List.length_nil, ite_self, Nat.reduceAdd, Nat.reduceLeDiff, Nat.reduceLT, Nat.reduceMul, Int.reduceLT, Int.reduceLE, Int.reduceNeg, Int.reduceAdd, Int.reduceSub, Int.reduceMul, Int.reducePow, Int.reduceEq]
    refine ⟨mul_ok (by omega) (by omega) (by omega) (by omega), ?_⟩
    rw [leave_dr hA hA8 hc]
    exact ⟨hA8.mono (by omega), _, rfl, _, rfl, by omega, by omega⟩
  · simp only [BQ, q_ife, BZ, BO, BV, BL, tyN, mTy, List.replicate, List.getElem?_cons_zero, List.getElem?_cons_succ, List.set_cons_zero, List.set_cons_succ, List.map_cons, List.map_nil, List.cons_append, List.nil_append, List.all_cons, List.all_nil, Option.map_some, Option.map_none, Option.bind_some, Option.bind_none, if_true, if_false, ite_true, ite_false, List.length_cons, List.length_nil, ite_self, Nat.reduceAdd, Nat.reduceLeDiff, Nat.reduceLT, Nat.reduceMul, Int.reduceLT, Int.reduceLE, Int.reduceNeg, Int.reduceAdd, Int.reduceSub, Int.reduceMul, Int.reducePow, Int.reduceEq]
    refine ⟨mul_ok (by omega) (by omega) (by omega) (by omega), ?_⟩
    rw [leave_dr hA hA8 hc]
    exact ⟨hA8.mono (by omega), _, rfl, _, rfl, by omega, by omega⟩
/-- a bound of a stretch, or none -/
def IsB (p : PyData) : Prop := p = .none ∨ ∃ i : Int, p = .int i ∧ -1000000000000000000000000000000 < i ∧ i < 1000000000000000000000000000000
def IsNum (p : PyData) : Prop := ∃ x y, p = .tuple [.str "num", x, y] ∧ IsB x ∧ IsB y ∧ ∀ i j : Int, x = .int i → y = .int j → i ≤ j
theorem stretch_ok (g : GenA P) (hA : Dr C b rest A) (hc : Clr rest) (hb : b + 30 < BIG) : Ret (callN P (n + 5) "_law_stretch" [.obj 1]) A (DrR C (b + 18) rest IsNum) := by
  apply wq.ret
  rw [wq_call g.stretch rfl]
  simp only [fStretch, b__law_stretch]
  rw [z_cons]
  simp only [BQ, q_ife, BZ, BO, BV, BL, tyN, mTy, List.replicate, List.getElem?_cons_zero, List.getElem?_cons_succ, List.set_cons_zero, List.set_cons_succ, List.map_cons, List.map_nil, List.cons_append, List.nil_append, List.all_cons, List.all_nil, Option.map_some, Option.map_none, Option.bind_some, Option.bind_none, if_true, if_false, ite_true, ite_false, List.length_cons, List.length_nil, ite_self, Nat.reduceAdd, Nat.reduceLeDiff, Nat.reduceLT, Nat.reduceMul, Int.reduceLT, Int.reduceLE, Int.reduceNeg, Int.reduceAdd, Int.reduceSub, Int.reduceMul, Int.reducePow, Int.reduceEq]
  refine (number_ok g hA hc (by omega)).wq ?_
  rintro _ A1 ⟨hA1, _, rfl, i1, rfl, j1, k1⟩
  simp only [BQ, q_ife, BZ, BO, BV, BL, tyN, mTy, List.replicate, List.getElem?_cons_zero, List.getElem?_cons_succ, List.set_cons_zero, List.set_cons_succ, List.map_cons, List.map_nil, List.cons_append, List.nil_append, List.all_cons, List.all_nil, Option.map_some, Option.map_none, Option.bind_some, Option.bind_none, if_true, if_false, ite_true, ite_false, List.length_cons, List.length_nil, ite_self, Nat.reduceAdd, Nat.reduceLeDiff, Nat.reduceLT, Nat.reduceMul, Int.reduceLT, Int.reduceLE, Int.reduceNeg, Int.reduceAdd, Int.reduceSub, Int.reduceMul, Int.reducePow, Int.reduceEq]
  refine (number_ok g hA1 hc (by omega)).wq ?_
  rintro _ A2 ⟨hA2, _, rfl, i2, rfl, j2, k2⟩
  simp only [BQ, q_ife, BZ, BO, BV, BL, tyN, mTy, List.replicate, List.getElem?_cons_zero, List.getElem?_cons_succ, List.set_cons_zero, List.set_cons_succ, List.map_cons, List.map_nil, List.cons_append, List.nil_append, List.all_cons, List.all_nil, Option.map_some, Option.map_none, Option.bind_some, Option.bind_none, if_true, if_false, ite_true, ite_false, List.length_cons, List.length_nil, ite_self, Nat.reduceAdd, Nat.reduceLeDiff, Nat.reduceLT, Nat.reduceMul, Int.reduceLT, Int.reduceLE, Int.reduceNeg, Int.reduceAdd, Int.reduceSub, Int.reduceMul, Int.reducePow, Int.reduceEq]
  rw [z_cons]
  simp only [BQ, q_ife, BZ, BO, BV, BL, tyN, mTy, List.replicate, List.getElem?_cons_zero, List.getElem?_cons_succ, List.set_cons_zero, List.set_cons_succ, List.map_cons, List.map_nil, List.cons_append, List.nil_append, List.all_cons, List.all_nil, Option.map_some, Option.map_none, Option.bind_some, Option.bind_none, if_true, if_false, ite_true, ite_false, List.length_cons, List.length_nil, ite_self, Nat.reduceAdd, Nat.reduceLeDiff, Nat.reduceLT, Nat.reduceMul, Int.reduceLT, Int.reduceLE, Int.reduceNeg, Int.reduceAdd, Int.reduceSub, Int.reduceMul, Int.reducePow, Int.reduceEq]
  rw [z_cons]
  simp only [BQ, q_ife, BZ, BO, BV, BL, tyN, mTy, List.replicate, List.getElem?_cons_zero, List.getElem?_cons_succ, List.set_cons_zero, List.set_cons_succ, List.map_cons, List.map_nil, List.cons_append, List.nil_append, List.all_cons, List.all_nil, Option.map_some, Option.map_none, Option.bind_some, Option.bind_none, if_true, if_false, ite_true, ite_false, List.length_cons, List.length_nil, ite_self, Nat.reduceAdd, Nat.reduceLeDiff, Nat.reduceLT, Nat.reduceMul, Int.reduceLT, Int.reduceLE, Int.reduceNeg, Int.reduceAdd, Int.reduceSub, Int.reduceMul, Int.reducePow, Int.reduceEq]
  refine (draw_ok g hA2 hc (by decide) (by omega)).wq ?_
  rintro _ A3 ⟨hA3, _, rfl, i3, rfl, j3, k3⟩
  simp only [BQ, q_ife, BZ, BO, BV, BL, tyN, mTy, List.replicate, List.getElem?_cons_zero, List.getElem?_cons_succ, List.set_cons_zero, List.set_cons_succ, List.map_cons, List.map_nil, List.cons_append, List.nil_append, List.all_cons, List.all_nil, Option.map_some, Option.map_none, Option.bind_some, Option.bind_none, if_true, if_false, ite_true, ite_false, List.length_cons, List.length_nil, ite_self, Nat.reduceAdd, Nat.reduceLeDiff, Nat.reduceLT, Nat.reduceMul, Int.reduceLT, Int.reduceLE, Int.reduceNeg, Int.reduceAdd, Int.reduceSub, Int.reduceMul, Int.reducePow, Int.reduceEq]
  rw [z_cons]
  simp only [BQ, q_ife, BZ, BO, BV, BL, tyN, mTy, List.replicate, List.getElem?_cons_zero, List.getElem?_cons_succ, List.set_cons_zero, List.set_cons_succ, List.map_cons, List.map_nil, List.cons_append, List.nil_append, List.all_cons, List.all_nil, Option.map_some, Option.map_none, Option.bind_some, Option.bind_none, if_true, if_false, ite_true, ite_false, List.length_cons, List.length_nil, ite_self, Nat.reduceAdd, Nat.reduceLeDiff, Nat.reduceLT, Nat.reduceMul, Int.reduceLT, Int.reduceLE, Int.reduceNeg, Int.reduceAdd, Int.reduceSub, Int.reduceMul, Int.reducePow, Int.reduceEq]
  refine (one_ok g hA3 hc ⟨by simp, by simp⟩ (by omega)).wq ?_
  rintro _ A4 ⟨hA4, p4, rfl, h4⟩
  have h4 : ∃ x y, p4 = .tuple [x, y] ∧ IsB x ∧ IsB y ∧ ∀ i j : Int, x = .int i → y = .int j → i ≤ j := by
    simp only [List.mem_cons, List.not_mem_nil, or_false] at h4
    rcases h4 with rfl | rfl | rfl | rfl | rfl
    · refine ⟨_, _, rfl, .inr ⟨_, rfl, ?_, ?_⟩, .inr ⟨_, rfl, ?_, ?_⟩, fun i j e1 e2 => ?_⟩
      all_goals first | (cases e1; cases e2; split <;> split <;> omega) | (split <;> omega)
    · refine ⟨_, _, rfl, .inr ⟨_, rfl, ?_, ?_⟩, .inr ⟨_, rfl, ?_, ?_⟩, fun i j e1 e2 => ?_⟩
      all_goals first | (cases e1; cases e2; omega) | omega
    · refine ⟨_, _, rfl, .inr ⟨_, rfl, ?_, ?_⟩, .inl rfl, fun i j e1 e2 => ?_⟩
      all_goals first | (cases e2) | (split <;> omega)
    · refine ⟨_, _, rfl, .inl rfl, .inr ⟨_, rfl, ?_, ?_⟩, fun i j e1 e2 => ?_⟩
      all_goals first | (cases e1) | (split <;> omega)
    · refine ⟨_, _, rfl, .inr ⟨_, rfl, ?_, ?_⟩, .inr ⟨_, rfl, ?_, ?_⟩, fun i j e1 e2 => ?_⟩
      all_goals first | (cases e1; cases e2; split <;> omega) | omega | (split <;> omega)
  obtain ⟨x, y, rfl, h5⟩ := h4
  simp only [BQ, q_ife, BZ, BO, BV, BL, tyN, mTy, List.replicate, List.getElem?_cons_zero, List.getElem?_cons_succ, List.set_cons_zero, List.set_cons_succ, List.map_cons, List.map_nil, List.cons_append, List.nil_append, List.all_cons, List.all_nil, Option.map_some, Option.map_none, Option.bind_some, Option.bind_none, if_true, if_false, ite_true, ite_false, List.length_cons, List.length_nil, ite_self, Nat.reduceAdd, Nat.reduceLeDiff, Nat.reduceLT, Nat.reduceMul, Int.reduceLT, Int.reduceLE, Int.reduceNeg, Int.reduceAdd, Int.reduceSub, Int.reduceMul, Int.reducePow, Int.reduceEq]
  rw [leave_dr hA hA4 hc]
  exact ⟨hA4.mono (by omega), _, rfl, x, y, rfl, h5⟩
theorem joinL_ones {S : List Nat} : ∀ {cs : List (List Nat)}, (∀ q ∈ cs, ∃ c ∈ S, q = [c]) → (joinL [] cs).length = cs.length ∧ ∀ c ∈ joinL [] cs, c ∈ S
  | [], _ => ⟨rfl, fun c h => by cases h⟩
  | [p], h => by
    obtain ⟨c, hc, e⟩ := h p (by simp)
    subst e
    exact ⟨rfl, fun d hd => by rw [List.mem_singleton.mp hd]; exact hc⟩
  | p :: q :: r, h => by
    obtain ⟨c, hc, e⟩ := h p (by simp)
    subst e
    obtain ⟨h1, h2⟩ := joinL_ones (cs := q :: r) fun z hz => h z (by simp only [List.mem_cons] at hz ⊢; exact .inr hz)
    refine ⟨?_, fun d hd => ?_⟩
    · show ([c] ++ ([] ++ joinL [] (q :: r))).length = _
      rw [List.length_append, List.nil_append, h1]
      simp only [List.length_cons, List.length_nil]
      omega
    · have hd : d ∈ [c] ++ ([] ++ joinL [] (q :: r)) := hd
      rw [List.nil_append, List.mem_append] at hd
      rcases hd with hd | hd
      · rw [List.mem_singleton.mp hd]; exact hc
      · exact h2 d hd
theorem signs_texts {S : List Nat} : ∀ {rs : List PyData}, (∀ q ∈ rs, ∃ c ∈ S, q = .str ⟨#[c]⟩) → ∃ ys : List Str, textsP rs = some ys ∧ ys.length = rs.length ∧ (ys.map (·.length)).sum = rs.length ∧ ∀ q ∈ ys.map tl, ∃ c ∈ S, q = [c]
  | [], _ => ⟨[], rfl, rfl, rfl, fun q h => by cases h⟩
  | p :: rs, h => by
    obtain ⟨c, hc, e⟩ := h p (by simp)
    subst e
    obtain ⟨ys, h1, h2, h3, h4⟩ := signs_texts (rs := rs) fun z hz => h z (by simp [hz])
    refine ⟨⟨#[c]⟩ :: ys, by simp only [textsP, h1, Option.map_some], by simp [h2], ?_, fun q hq => ?_⟩
    · simp only [List.map_cons, List.sum_cons, h3, List.length_cons]
      have : (⟨#[c]⟩ : Str).length = 1 := rfl
      omega
    · rcases List.mem_cons.mp hq with e | hq
      · exact ⟨c, hc, e⟩
      · exact h4 q hq
theorem join_signs {S : List Nat} {rs : List PyData} (h : ∀ q ∈ rs, ∃ c ∈ S, q = .str ⟨#[c]⟩) (hl : rs.length ≤ 1000) : ∃ x : Str, joinO (Str.ofString "") rs = some (.val (.d (.str x))) ∧ x.length = rs.length ∧ ∀ c ∈ x.cps.toList, c ∈ S := by
  obtain ⟨ys, h1, h2, h3, h4⟩ := signs_texts h
  have e0 : (Str.ofString "").length = 0 := rfl
  refine ⟨Txt.join (Str.ofString "") ys, ?_, ?_⟩
  · unfold joinO
    rw [h1, Option.bind_some, if_pos (by rw [h3, e0]; omega)]
    rfl
  · have e : tl (Txt.join (Str.ofString "") ys) = joinL [] (ys.map tl) := by rw [join_eq, tl_join]; rfl
    obtain ⟨g1, g2⟩ := joinL_ones h4
    refine ⟨?_, fun c hc => g2 c ?_⟩
    · have : (tl (Txt.join (Str.ofString "") ys)).length = rs.length := by rw [e, g1, List.length_map, h2]
      rw [← this]
      simp [tl, Str.length]
    · rw [← e]; exact hc
/-- a name -/
def IsNm (x : Str) : Prop := 1 ≤ x.length ∧ x.length ≤ 8 ∧ ∀ c ∈ x.cps.toList, c ∈ (Str.ofString "abcdefghijklmnopqrstuvwxyz").cps.toList
theorem word_ok (g : GenA P) (hA : Dr C b rest A) (hc : Clr rest) (hb : b + 12 < BIG) : Ret (callN P (n + 4) "_law_word" [.obj 1]) A (DrR C (b + 10) rest fun p => ∃ x, p = .str x ∧ IsNm x) := by
  apply wq.ret
  rw [wq_call g.word rfl]
  simp only [fWord, b__law_word]
  rw [z_cons]
  simp only [BQ, q_ife, BZ, BO, BV, BL, tyN, mTy, List.replicate, List.getElem?_cons_zero, List.getElem?_cons_succ, List.set_cons_zero, List.set_cons_succ, List.map_cons, List.map_nil, List.cons_append, List.nil_append, List.all_cons, List.all_nil, Option.map_some, Option.map_none, Option.bind_some, Option.bind_none, if_true, if_false, ite_true, ite_false, List.length_cons, List.length_nil, ite_self, Nat.reduceAdd, Nat.reduceLeDiff, Nat.reduceLT, Nat.reduceMul, Int.reduceLT, Int.reduceLE, Int.reduceNeg, Int.reduceAdd, Int.reduceSub, Int.reduceMul, Int.reducePow, Int.reduceEq]
  refine (draw_ok g hA hc (by decide) (by omega)).wq ?_
  rintro _ A1 ⟨hA1, _, rfl, i1, rfl, j1, k1⟩
  simp only [BQ, q_ife, BZ, BO, BV, BL, tyN, mTy, List.replicate, List.getElem?_cons_zero, List.getElem?_cons_succ, List.set_cons_zero, List.set_cons_succ, List.map_cons, List.map_nil, List.cons_append, List.nil_append, List.all_cons, List.all_nil, Option.map_some, Option.map_none, Option.bind_some, Option.bind_none, if_true, if_false, ite_true, ite_false, List.length_cons, List.length_nil, ite_self, Nat.reduceAdd, Nat.reduceLeDiff, Nat.reduceLT, Nat.reduceMul, Int.reduceLT, Int.reduceLE, Int.reduceNeg, Int.reduceAdd, Int.reduceSub, Int.reduceMul, Int.reducePow, Int.reduceEq]
  split
  · rw [z_cons]
    simp only [BQ, q_ife, BZ, BO, BV, BL, tyN, mTy, List.replicate, List.getElem?_cons_zero, List.getElem?_cons_succ, List.set_cons_zero, List.set_cons_succ, List.map_cons, List.map_nil, List.cons_append, List.nil_append, List.all_cons, List.all_nil, Option.map_some, Option.map_none, Option.bind_some, Option.bind_none, if_true, if_false, ite_true, ite_false, List.length_cons, List.length_nil, ite_self, Nat.reduceAdd, Nat.reduceLeDiff, Nat.reduceLT, Nat.reduceMul, Int.reduceLT, Int.reduceLE, Int.reduceNeg, Int.reduceAdd, Int.reduceSub, Int.reduceMul, Int.reducePow, Int.reduceEq]
    refine (one_ok g hA1 hc ⟨by simp, by simp⟩ (by omega)).wq ?_
    rintro _ A2 ⟨hA2, p2, rfl, h2⟩
    rw [leave_dr hA hA2 hc]
    refine ⟨hA2.mono (by omega), _, rfl, ?_⟩
    simp only [List.mem_cons, List.not_mem_nil, or_false] at h2
    rcases h2 with rfl | rfl | rfl | rfl | rfl | rfl | rfl | rfl | rfl | rfl | rfl
    all_goals exact ⟨_, rfl, by decide, by decide, by decide⟩
  · rw [z_cons]
    simp only [BQ, q_ife, BZ, BO, BV, BL, tyN, mTy, List.replicate, List.getElem?_cons_zero, List.getElem?_cons_succ, List.set_cons_zero, List.set_cons_succ, List.map_cons, List.map_nil, List.cons_append, List.nil_append, List.all_cons, List.all_nil, Option.map_some, Option.map_none, Option.bind_some, Option.bind_none, if_true, if_false, ite_true, ite_false, List.length_cons, List.length_nil, ite_self, Nat.reduceAdd, Nat.reduceLeDiff, Nat.reduceLT, Nat.reduceMul, Int.reduceLT, Int.reduceLE, Int.reduceNeg, Int.reduceAdd, Int.reduceSub, Int.reduceMul, Int.reducePow, Int.reduceEq]
    rw [z_cons]
    simp only [BQ, q_ife, BZ, BO, BV, BL, tyN, mTy, List.replicate, List.getElem?_cons_zero, List.getElem?_cons_succ, List.set_cons_zero, List.set_cons_succ, List.map_cons, List.map_nil, List.cons_append, List.nil_append, List.all_cons, List.all_nil, Option.map_some, Option.map_none, Option.bind_some, Option.bind_none, if_true, if_false, ite_true, ite_false, List.length_cons, List.length_nil, ite_self, Nat.reduceAdd, Nat.reduceLeDiff, Nat.reduceLT, Nat.reduceMul, Int.reduceLT, Int.reduceLE, Int.reduceNeg, Int.reduceAdd, Int.reduceSub, Int.reduceMul, Int.reducePow, Int.reduceEq]
    refine (draw_ok g hA1 hc (by decide) (by omega)).wq ?_
    rintro _ A2 ⟨hA2, _, rfl, i2, rfl, j2, k2⟩
    simp only [BQ, q_ife, BZ, BO, BV, BL, tyN, mTy, List.replicate, List.getElem?_cons_zero, List.getElem?_cons_succ, List.set_cons_zero, List.set_cons_succ, List.map_cons, List.map_nil, List.cons_append, List.nil_append, List.all_cons, List.all_nil, Option.map_some, Option.map_none, Option.bind_some, Option.bind_none, if_true, if_false, ite_true, ite_false, List.length_cons, List.length_nil, ite_self, Nat.reduceAdd, Nat.reduceLeDiff, Nat.reduceLT, Nat.reduceMul, Int.reduceLT, Int.reduceLE, Int.reduceNeg, Int.reduceAdd, Int.reduceSub, Int.reduceMul, Int.reducePow, Int.reduceEq]
    refine ⟨by omega, ?_⟩
    have hl : (rangeP 0 (1 + i2).toNat).length = (1 + i2).toNat := by simp [rangeP]
    refine (lc_inv (I := fun j A => Dr C (b + 2 + j) rest A) (Q := fun p => ∃ c ∈ (Str.ofString "abcdefghijklmnopqrstuvwxyz").cps.toList, p = .str ⟨#[c]⟩) (i := 0) (by simpa using hA2.mono (by omega)) (fun _ _ _ => rfl) (fun j p A hp _ hj hI => ?_)).wq ?_
    · apply wq.ret
      simp only [BQ, q_ife, BZ, BO, BV, BL, tyN, mTy, List.replicate, List.getElem?_cons_zero, List.getElem?_cons_succ, List.set_cons_zero, List.set_cons_succ, List.map_cons, List.map_nil, List.cons_append, List.nil_append, List.all_cons, List.all_nil, Option.map_some, Option.map_none, Option.bind_some, Option.bind_none, if_true, if_false, ite_true, ite_false, List.length_cons, List.length_nil, ite_self, Nat.reduceAdd, Nat.reduceLeDiff, Nat.reduceLT, Nat.reduceMul, Int.reduceLT, Int.reduceLE, Int.reduceNeg, Int.reduceAdd, Int.reduceSub, Int.reduceMul, Int.reducePow, Int.reduceEq]
      refine (oneS_ok g hI hc (by decide) (by omega)).wq ?_
      rintro _ A3 ⟨hA3, p3, rfl, h3⟩
      simp only [BQ, q_ife, BZ, BO, BV, BL, tyN, mTy, List.replicate, List.getElem?_cons_zero, List.getElem?_cons_succ, List.set_cons_zero, List.set_cons_succ, List.map_cons, List.map_nil, List.cons_append, List.nil_append, List.all_cons, List.all_nil, Option.map_some, Option.map_none, Option.bind_some, Option.bind_none, if_true, if_false, ite_true, ite_false, List.length_cons, List.length_nil, ite_self, Nat.reduceAdd, Nat.reduceLeDiff, Nat.reduceLT, Nat.reduceMul, Int.reduceLT, Int.reduceLE, Int.reduceNeg, Int.reduceAdd, Int.reduceSub, Int.reduceMul, Int.reducePow, Int.reduceEq]
      exact ⟨hA3.mono (by omega), _, rfl, h3⟩
    · rintro rs A3 ⟨hA3, l3, h3⟩
      obtain ⟨x, e1, e2, e3⟩ := join_signs h3 (by rw [l3, hl]; omega)
      rw [hl] at hA3 l3
      refine ⟨by omega, ?_⟩
      rw [e1]
      simp only [BQ, q_ife, BZ, BO, BV, BL, tyN, mTy, List.replicate, List.getElem?_cons_zero, List.getElem?_cons_succ, List.set_cons_zero, List.set_cons_succ, List.map_cons, List.map_nil, List.cons_append, List.nil_append, List.all_cons, List.all_nil, Option.map_some, Option.map_none, Option.bind_some, Option.bind_none, if_true, if_false, ite_true, ite_false, List.length_cons, List.length_nil, ite_self, Nat.reduceAdd, Nat.reduceLeDiff, Nat.reduceLT, Nat.reduceMul, Int.reduceLT, Int.reduceLE, Int.reduceNeg, Int.reduceAdd, Int.reduceSub, Int.reduceMul, Int.reducePow, Int.reduceEq]
      have hA3' : Dr C (b + 10) rest A3 := hA3.mono (by omega)
      rw [leave_dr hA hA3' hc]
      exact ⟨hA3', _, rfl, x, rfl, by rw [e2, l3]; omega, by rw [e2, l3]; omega, e3⟩
end
end Kg
set_option Elab.async false
set_option linter.all false
set_option maxRecDepth 100000
set_option maxHeartbeats 1000000
/-! KgB: names, bounds, fields, forms. -/
namespace Kg
open PySem L2 Mi TL
theorem Ret.q {α : Type} {m : M α} {A : Hs} {v : α} (h : Ret m A fun r A' => r = v ∧ A' = A) {Φ : α → Hs → Prop} {E : Str → List (Str × PyData) → Hs → Prop} : wq m A Φ E = Φ v A := by
  obtain ⟨a, A', e, rfl, rfl⟩ := h
  exact wq_of e
/-! ### what sort a thing is of -/
def isS : PyData → Bool
  | .str _ => true
  | _ => false
def isT : PyData → Bool
  | .tuple _ => true
  | _ => false
def isI : PyData → Bool
  | .int _ => true
  | .bool _ => true
  | _ => false
def isBo : PyData → Bool
  | .bool _ => true
  | _ => false
section
variable {sb : Sub} {A : Hs} {p : PyData}
theorem y_isS : isiOs sb A (.d p) [.inl "str"] = some (isS p) := by cases p <;> rfl
theorem y_isT : isiOs sb A (.d p) [.inl "tuple"] = some (isT p) := by cases p <;> rfl
theorem y_isI : isiOs sb A (.d p) [.inl "int"] = some (isI p) := by cases p <;> rfl
theorem y_isB : isiOs sb A (.d p) [.inl "bool"] = some (isBo p) := by cases p <;> rfl
def isN : PyData → Bool
  | .none => true
  | _ => false
theorem y_isN : isNO (.d p) (.d .none) = some (isN p) := by cases p <;> rfl
end
/-! ### names -/
def small : List Nat := (Str.ofString "abcdefghijklmnopqrstuvwxyz").cps.toList
def nmB (x : Str) : Bool := decide (1 ≤ x.length) && decide (x.length ≤ 8) && x.cps.toList.all fun c => decide (c ∈ small)
def isNmB : PyData → Bool
  | .str x => nmB x
  | _ => false
theorem nmB_iff {x : Str} : nmB x = true ↔ IsNm x := by
  unfold nmB IsNm small
  simp only [Bool.and_eq_true, decide_eq_true_eq, List.all_eq_true, and_assoc]
def fIsNumber : Fn := ⟨"is_number", 1, 1, b_is_number, false⟩
def fIsName : Fn := ⟨"is_name", 1, 2, b_is_name, false⟩
def fIsBound : Fn := ⟨"is_bound", 1, 1, b_is_bound, false⟩
def fAreBounds : Fn := ⟨"are_bounds", 2, 2, b_are_bounds, false⟩
def fAreFields : Fn := ⟨"are_fields", 1, 3, b_are_fields, false⟩
def fHasForm : Fn := ⟨"has_form", 1, 1, b_has_form, false⟩
def fOwnParts : Fn := ⟨"own_parts", 1, 3, b_own_parts, false⟩
def fWalked : Fn := ⟨"walked", 1, 8, b_walked, false⟩
def fNeedKind : Fn := ⟨"need_kind", 1, 1, b_need_kind, false⟩
def fLIsName : Fn := ⟨"_law_is_name", 1, 2, b__law_is_name, false⟩
def fLAreFields : Fn := ⟨"_law_are_fields", 1, 4, b__law_are_fields, false⟩
def fLHasForm : Fn := ⟨"_law_has_form", 1, 3, b__law_has_form, false⟩
def fLOwn : Fn := ⟨"_law_own", 1, 3, b__law_own, false⟩
def fLPlace : Fn := ⟨"_law_place", 1, 8, b__law_place, false⟩
def lensT : List (Str × PyData) := [("any", .int 1), ("none", .int 1), ("num", .int 3), ("name", .int 2), ("names", .int 1), ("rec", .int 2), ("fun", .int 3), ("and", .int 3), ("or", .int 3), ("not", .int 2)]
/-- the program's defs of kinds, its constants -/
structure GenP (P : Pr) : Prop where
  isNumber : fnd P.tab "is_number" = some fIsNumber
  isName : fnd P.tab "is_name" = some fIsName
  isBound : fnd P.tab "is_bound" = some fIsBound
  areBounds : fnd P.tab "are_bounds" = some fAreBounds
  areFields : fnd P.tab "are_fields" = some fAreFields
  hasForm : fnd P.tab "has_form" = some fHasForm
  ownParts : fnd P.tab "own_parts" = some fOwnParts
  walked : fnd P.tab "walked" = some fWalked
  needKind : fnd P.tab "need_kind" = some fNeedKind
  letters : P.o.gcs "MOST_LETTERS" = some (.d (.int 8))
  small : P.o.gcs "SMALL" = some (.d (.str "abcdefghijklmnopqrstuvwxyz"))
  parts : P.o.gcs "MOST_PARTS" = some (.d (.int 24))
  funs : P.o.gcs "MOST_FUNS" = some (.d (.int 4))
  within : P.o.gcs "MOST_WITHIN" = some (.d (.int 5))
  lens : P.o.kds "LENGTHS" = some lensT
  flds : P.o.flds "BadKind" = some [Str.ofString "place"]
  lim : 100 ≤ P.o.lim
structure GenL (P : Pr) : Prop where
  isName : fnd P.tab "_law_is_name" = some fLIsName
  areFields : fnd P.tab "_law_are_fields" = some fLAreFields
  hasForm : fnd P.tab "_law_has_form" = some fLHasForm
  own : fnd P.tab "_law_own" = some fLOwn
  place : fnd P.tab "_law_place" = some fLPlace
  lim : 100 ≤ P.o.lim
section
variable {P : Pr} {n : Nat} {A : Hs} {Φ : R → Hs → Prop} {E : Str → List (Str × PyData) → Hs → Prop}
theorem in_sign {c : Nat} {y : Str} : inO A (.d (.str ⟨#[c]⟩)) (.d (.str y)) = some (decide (c ∈ y.cps.toList)) := rfl
theorem signs_mem {x : Str} {p : PyData} (h : p ∈ signs x) : ∃ c ∈ x.cps.toList, p = .str ⟨#[c]⟩ := by
  unfold signs at h
  obtain ⟨c, hc, rfl⟩ := List.mem_map.mp h
  exact ⟨c, hc, rfl⟩
theorem bools_map {α : Type} {f : α → Bool} : ∀ {xs : List α}, boolsP (xs.map fun c => .bool (f c)) = some (xs.map f)
  | [] => rfl
  | x :: xs => by
    simp only [List.map_cons, boolsP, bools_map (xs := xs), Option.map_some]
theorem str_len {x : Str} : x.cps.toList.length = x.length := by simp [Str.length]
theorem isName_q (g : GenP P) (hA : Cl A) {p : PyData} (hs : ∀ x, p = .str x → x.length ≤ 16777216) : wq (callN P (n + 1) "is_name" [.d p]) A Φ E = Φ (.val (.d (.bool (isNmB p)))) A := by
  rw [wq_call g.isName rfl]
  simp only [fIsName, b_is_name]
  rw [z_cons]
  cases p with
  | str x =>
    have hx := hs x rfl
    have no : ∀ b : Bool, b = false → nmB x = b → wS (exs (geN P n bad) [.ret (some (.k (.bool false)))] [some (.d (.str x)), none] A) (sqK (geN P n bad) [.ret (some (.bi "all" [.lc (.cmp .In (.v 1) (.gc "SMALL")) (.nm 1) (.seq (.v 0)) [] [1]]))] (pst false A.length Φ E)) = Φ (.val (.d (.bool (isNmB (.str x))))) A := fun b h1 h2 => by
      rw [z_cons]
      simp only [BQ, q_ife, BZ, BO, BV, BL, tyN, mTy, List.replicate, List.getElem?_cons_zero, List.getElem?_cons_succ, List.set_cons_zero, List.set_cons_succ, List.map_cons, List.map_nil, List.cons_append, List.nil_append, List.all_cons, List.all_nil, Option.map_some, Option.map_none, Option.bind_some, Option.bind_none, if_true, if_false, ite_true, ite_false, List.length_cons, List.length_nil, ite_self, Nat.reduceAdd, Nat.reduceLeDiff, Nat.reduceLT, Nat.reduceMul, Int.reduceLT, Int.reduceLE, Int.reduceNeg, Int.reduceAdd, Int.reduceSub, Int.reduceMul, Int.reducePow, Int.reduceEq, leave_self hA, isNmB, h2, h1]
    by_cases h1 : (1 : Int) ≤ x.length
    · by_cases h2 : (x.length : Int) ≤ 8
      · simp only [BQ, q_ife, BZ, BO, BV, BL, tyN, mTy, List.replicate, List.getElem?_cons_zero, List.getElem?_cons_succ, List.set_cons_zero, List.set_cons_succ, List.map_cons, List.map_nil, List.cons_append, List.nil_append, List.all_cons, List.all_nil, Option.map_some, Option.map_none, Option.bind_some, Option.bind_none, if_true, if_false, ite_true, ite_false, List.length_cons, List.length_nil, ite_self, Nat.reduceAdd, Nat.reduceLeDiff, Nat.reduceLT, Nat.reduceMul, Int.reduceLT, Int.reduceLE, Int.reduceNeg, Int.reduceAdd, Int.reduceSub, Int.reduceMul, Int.reducePow, Int.reduceEq, y_isS, isS, g.letters, hx, h1, h2]
        rw [z_cons]
        simp only [BQ, q_ife, BZ, BO, BV, BL, tyN, mTy, List.replicate, List.getElem?_cons_zero, List.getElem?_cons_succ, List.set_cons_zero, List.set_cons_succ, List.map_cons, List.map_nil, List.cons_append, List.nil_append, List.all_cons, List.all_nil, Option.map_some, Option.map_none, Option.bind_some, Option.bind_none, if_true, if_false, ite_true, ite_false, List.length_cons, List.length_nil, ite_self, Nat.reduceAdd, Nat.reduceLeDiff, Nat.reduceLT, Nat.reduceMul, Int.reduceLT, Int.reduceLE, Int.reduceNeg, Int.reduceAdd, Int.reduceSub, Int.reduceMul, Int.reducePow, Int.reduceEq, signs]
        rw [lc_mapS (g := fun c => .bool (decide (c ∈ small))) rfl]
        · simp only [BQ, q_ife, BZ, BO, BV, BL, tyN, mTy, List.replicate, List.getElem?_cons_zero, List.getElem?_cons_succ, List.set_cons_zero, List.set_cons_succ, List.map_cons, List.map_nil, List.cons_append, List.nil_append, List.all_cons, List.all_nil, Option.map_some, Option.map_none, Option.bind_some, Option.bind_none, if_true, if_false, ite_true, ite_false, List.length_cons, List.length_nil, ite_self, Nat.reduceAdd, Nat.reduceLeDiff, Nat.reduceLT, Nat.reduceMul, Int.reduceLT, Int.reduceLE, Int.reduceNeg, Int.reduceAdd, Int.reduceSub, Int.reduceMul, Int.reducePow, Int.reduceEq, bools_map, List.length_map, leave_self hA, str_len, hx, isNmB]
          congr
          unfold nmB
          rw [decide_eq_true (show 1 ≤ x.length by omega), decide_eq_true (show x.length ≤ 8 by omega), List.all_map]
          rfl
        · intro c hc Φ
          simp only [BQ, q_ife, BZ, BO, BV, BL, tyN, mTy, List.replicate, List.getElem?_cons_zero, List.getElem?_cons_succ, List.set_cons_zero, List.set_cons_succ, List.map_cons, List.map_nil, List.cons_append, List.nil_append, List.all_cons, List.all_nil, Option.map_some, Option.map_none, Option.bind_some, Option.bind_none, if_true, if_false, ite_true, ite_false, List.length_cons, List.length_nil, ite_self, Nat.reduceAdd, Nat.reduceLeDiff, Nat.reduceLT, Nat.reduceMul, Int.reduceLT, Int.reduceLE, Int.reduceNeg, Int.reduceAdd, Int.reduceSub, Int.reduceMul, Int.reducePow, Int.reduceEq, g.small, in_sign]
          rfl
      · simp only [BQ, q_ife, BZ, BO, BV, BL, tyN, mTy, List.replicate, List.getElem?_cons_zero, List.getElem?_cons_succ, List.set_cons_zero, List.set_cons_succ, List.map_cons, List.map_nil, List.cons_append, List.nil_append, List.all_cons, List.all_nil, Option.map_some, Option.map_none, Option.bind_some, Option.bind_none, if_true, if_false, ite_true, ite_false, List.length_cons, List.length_nil, ite_self, Nat.reduceAdd, Nat.reduceLeDiff, Nat.reduceLT, Nat.reduceMul, Int.reduceLT, Int.reduceLE, Int.reduceNeg, Int.reduceAdd, Int.reduceSub, Int.reduceMul, Int.reducePow, Int.reduceEq, y_isS, isS, g.letters, hx, h1, h2]
        refine no _ rfl ?_
        unfold nmB
        rw [decide_eq_false (show ¬ x.length ≤ 8 by omega)]
        simp
    · simp only [BQ, q_ife, BZ, BO, BV, BL, tyN, mTy, List.replicate, List.getElem?_cons_zero, List.getElem?_cons_succ, List.set_cons_zero, List.set_cons_succ, List.map_cons, List.map_nil, List.cons_append, List.nil_append, List.all_cons, List.all_nil, Option.map_some, Option.map_none, Option.bind_some, Option.bind_none, if_true, if_false, ite_true, ite_false, List.length_cons, List.length_nil, ite_self, Nat.reduceAdd, Nat.reduceLeDiff, Nat.reduceLT, Nat.reduceMul, Int.reduceLT, Int.reduceLE, Int.reduceNeg, Int.reduceAdd, Int.reduceSub, Int.reduceMul, Int.reducePow, Int.reduceEq, y_isS, isS, g.letters, hx, h1]
      refine no _ rfl ?_
      unfold nmB
      rw [decide_eq_false (show ¬ 1 ≤ x.length by omega)]
      simp
  | _ =>
    simp only [BQ, q_ife, BZ, BO, BV, BL, tyN, mTy, List.replicate, List.getElem?_cons_zero, List.getElem?_cons_succ, List.set_cons_zero, List.set_cons_succ, List.map_cons, List.map_nil, List.cons_append, List.nil_append, List.all_cons, List.all_nil, Option.map_some, Option.map_none, Option.bind_some, Option.bind_none, if_true, if_false, ite_true, ite_false, List.length_cons, List.length_nil, ite_self, Nat.reduceAdd, Nat.reduceLeDiff, Nat.reduceLT, Nat.reduceMul, Int.reduceLT, Int.reduceLE, Int.reduceNeg, Int.reduceAdd, Int.reduceSub, Int.reduceMul, Int.reducePow, Int.reduceEq, y_isS, isS]
    rw [z_cons]
    simp only [BQ, q_ife, BZ, BO, BV, BL, tyN, mTy, List.replicate, List.getElem?_cons_zero, List.getElem?_cons_succ, List.set_cons_zero, List.set_cons_succ, List.map_cons, List.map_nil, List.cons_append, List.nil_append, List.all_cons, List.all_nil, Option.map_some, Option.map_none, Option.bind_some, Option.bind_none, if_true, if_false, ite_true, ite_false, List.length_cons, List.length_nil, ite_self, Nat.reduceAdd, Nat.reduceLeDiff, Nat.reduceLT, Nat.reduceMul, Int.reduceLT, Int.reduceLE, Int.reduceNeg, Int.reduceAdd, Int.reduceSub, Int.reduceMul, Int.reducePow, Int.reduceEq, leave_self hA]
    rfl
theorem lisName_q (g : GenL P) (hA : Cl A) {p : PyData} (hs : ∀ x, p = .str x → x.length ≤ 16777216) : wq (callN P (n + 1) "_law_is_name" [.d p]) A Φ E = Φ (.val (.d (.bool (isNmB p)))) A := by
  rw [wq_call g.isName rfl]
  simp only [fLIsName, b__law_is_name]
  rw [z_cons]
  cases p with
  | str x =>
    have hx := hs x rfl
    simp only [BQ, q_ife, BZ, BO, BV, BL, tyN, mTy, List.replicate, List.getElem?_cons_zero, List.getElem?_cons_succ, List.set_cons_zero, List.set_cons_succ, List.map_cons, List.map_nil, List.cons_append, List.nil_append, List.all_cons, List.all_nil, Option.map_some, Option.map_none, Option.bind_some, Option.bind_none, if_true, if_false, ite_true, ite_false, List.length_cons, List.length_nil, ite_self, Nat.reduceAdd, Nat.reduceLeDiff, Nat.reduceLT, Nat.reduceMul, Int.reduceLT, Int.reduceLE, Int.reduceNeg, Int.reduceAdd, Int.reduceSub, Int.reduceMul, Int.reducePow, Int.reduceEq, y_isS, isS, hx]
    by_cases h0 : x = Str.ofString ""
    · simp only [BQ, q_ife, BZ, BO, BV, BL, tyN, mTy, List.replicate, List.getElem?_cons_zero, List.getElem?_cons_succ, List.set_cons_zero, List.set_cons_succ, List.map_cons, List.map_nil, List.cons_append, List.nil_append, List.all_cons, List.all_nil, Option.map_some, Option.map_none, Option.bind_some, Option.bind_none, if_true, if_false, ite_true, ite_false, List.length_cons, List.length_nil, ite_self, Nat.reduceAdd, Nat.reduceLeDiff, Nat.reduceLT, Nat.reduceMul, Int.reduceLT, Int.reduceLE, Int.reduceNeg, Int.reduceAdd, Int.reduceSub, Int.reduceMul, Int.reducePow, Int.reduceEq, h0]
      rw [z_cons]
      simp only [BQ, q_ife, BZ, BO, BV, BL, tyN, mTy, List.replicate, List.getElem?_cons_zero, List.getElem?_cons_succ, List.set_cons_zero, List.set_cons_succ, List.map_cons, List.map_nil, List.cons_append, List.nil_append, List.all_cons, List.all_nil, Option.map_some, Option.map_none, Option.bind_some, Option.bind_none, if_true, if_false, ite_true, ite_false, List.length_cons, List.length_nil, ite_self, Nat.reduceAdd, Nat.reduceLeDiff, Nat.reduceLT, Nat.reduceMul, Int.reduceLT, Int.reduceLE, Int.reduceNeg, Int.reduceAdd, Int.reduceSub, Int.reduceMul, Int.reducePow, Int.reduceEq, leave_self hA]
      rfl
    · simp only [BQ, q_ife, BZ, BO, BV, BL, tyN, mTy, List.replicate, List.getElem?_cons_zero, List.getElem?_cons_succ, List.set_cons_zero, List.set_cons_succ, List.map_cons, List.map_nil, List.cons_append, List.nil_append, List.all_cons, List.all_nil, Option.map_some, Option.map_none, Option.bind_some, Option.bind_none, if_true, if_false, ite_true, ite_false, List.length_cons, List.length_nil, ite_self, Nat.reduceAdd, Nat.reduceLeDiff, Nat.reduceLT, Nat.reduceMul, Int.reduceLT, Int.reduceLE, Int.reduceNeg, Int.reduceAdd, Int.reduceSub, Int.reduceMul, Int.reducePow, Int.reduceEq, h0]
      have hx1 : 1 ≤ x.length := by
        rcases Nat.eq_zero_or_pos x.length with z | z
        · exfalso
          apply h0
          have e : x.cps = #[] := by
            apply Array.eq_empty_of_size_eq_zero
            exact z
          cases x
          simp only at e
          subst e
          rfl
        · exact z
      by_cases h1 : (8 : Int) < x.length
      · simp only [BQ, q_ife, BZ, BO, BV, BL, tyN, mTy, List.replicate, List.getElem?_cons_zero, List.getElem?_cons_succ, List.set_cons_zero, List.set_cons_succ, List.map_cons, List.map_nil, List.cons_append, List.nil_append, List.all_cons, List.all_nil, Option.map_some, Option.map_none, Option.bind_some, Option.bind_none, if_true, if_false, ite_true, ite_false, List.length_cons, List.length_nil, ite_self, Nat.reduceAdd, Nat.reduceLeDiff, Nat.reduceLT, Nat.reduceMul, Int.reduceLT, Int.reduceLE, Int.reduceNeg, Int.reduceAdd, Int.reduceSub, Int.reduceMul, Int.reducePow, Int.reduceEq, h1]
        rw [z_cons]
        simp only [BQ, q_ife, BZ, BO, BV, BL, tyN, mTy, List.replicate, List.getElem?_cons_zero, List.getElem?_cons_succ, List.set_cons_zero, List.set_cons_succ, List.map_cons, List.map_nil, List.cons_append, List.nil_append, List.all_cons, List.all_nil, Option.map_some, Option.map_none, Option.bind_some, Option.bind_none, if_true, if_false, ite_true, ite_false, List.length_cons, List.length_nil, ite_self, Nat.reduceAdd, Nat.reduceLeDiff, Nat.reduceLT, Nat.reduceMul, Int.reduceLT, Int.reduceLE, Int.reduceNeg, Int.reduceAdd, Int.reduceSub, Int.reduceMul, Int.reducePow, Int.reduceEq, leave_self hA]
        congr
        show false = nmB x
        unfold nmB
        rw [decide_eq_false (show ¬ x.length ≤ 8 by omega)]
        simp
      · simp only [BQ, q_ife, BZ, BO, BV, BL, tyN, mTy, List.replicate, List.getElem?_cons_zero, List.getElem?_cons_succ, List.set_cons_zero, List.set_cons_succ, List.map_cons, List.map_nil, List.cons_append, List.nil_append, List.all_cons, List.all_nil, Option.map_some, Option.map_none, Option.bind_some, Option.bind_none, if_true, if_false, ite_true, ite_false, List.length_cons, List.length_nil, ite_self, Nat.reduceAdd, Nat.reduceLeDiff, Nat.reduceLT, Nat.reduceMul, Int.reduceLT, Int.reduceLE, Int.reduceNeg, Int.reduceAdd, Int.reduceSub, Int.reduceMul, Int.reducePow, Int.reduceEq, h1]
        rw [z_cons]
        simp only [BQ, q_ife, BZ, BO, BV, BL, tyN, mTy, List.replicate, List.getElem?_cons_zero, List.getElem?_cons_succ, List.set_cons_zero, List.set_cons_succ, List.map_cons, List.map_nil, List.cons_append, List.nil_append, List.all_cons, List.all_nil, Option.map_some, Option.map_none, Option.bind_some, Option.bind_none, if_true, if_false, ite_true, ite_false, List.length_cons, List.length_nil, ite_self, Nat.reduceAdd, Nat.reduceLeDiff, Nat.reduceLT, Nat.reduceMul, Int.reduceLT, Int.reduceLE, Int.reduceNeg, Int.reduceAdd, Int.reduceSub, Int.reduceMul, Int.reducePow, Int.reduceEq, signs]
        rw [lc_mapQ (g := fun c => if c ∈ small then none else some (.str ⟨#[c]⟩)) rfl]
        · have hlen := List.length_filterMap_le (fun c => if c ∈ small then none else some (PyData.str ⟨#[c]⟩)) x.cps.toList
          rw [str_len] at hlen
          rw [leave_self hA]
          simp only [BQ, q_ife, BZ, BO, BV, BL, tyN, mTy, List.replicate, List.getElem?_cons_zero, List.getElem?_cons_succ, List.set_cons_zero, List.set_cons_succ, List.map_cons, List.map_nil, List.cons_append, List.nil_append, List.all_cons, List.all_nil, Option.map_some, Option.map_none, Option.bind_some, Option.bind_none, if_true, if_false, ite_true, ite_false, List.length_cons, List.length_nil, ite_self, Nat.reduceAdd, Nat.reduceLeDiff, Nat.reduceLT, Nat.reduceMul, Int.reduceLT, Int.reduceLE, Int.reduceNeg, Int.reduceAdd, Int.reduceSub, Int.reduceMul, Int.reducePow, Int.reduceEq]
          rw [eq_true (show (List.filterMap (fun c => if c ∈ small then none else some (PyData.str ⟨#[c]⟩)) x.cps.toList).length ≤ 16777216 by omega), true_and]
          congr
          show _ = nmB x
          unfold nmB
          rw [decide_eq_true hx1, decide_eq_true (show x.length ≤ 8 by omega), Bool.and_self, Bool.true_and, Bool.eq_iff_iff, List.isEmpty_iff, List.filterMap_eq_nil_iff, List.all_eq_true]
          constructor
          · intro h c hc
            have := h c hc
            by_cases z : c ∈ small
            · exact decide_eq_true z
            · simp [z] at this
          · intro h c hc
            rw [if_pos (of_decide_eq_true (h c hc))]
        · intro c hc Φ
          simp only [BQ, q_ife, BZ, BO, BV, BL, tyN, mTy, List.replicate, List.getElem?_cons_zero, List.getElem?_cons_succ, List.set_cons_zero, List.set_cons_succ, List.map_cons, List.map_nil, List.cons_append, List.nil_append, List.all_cons, List.all_nil, Option.map_some, Option.map_none, Option.bind_some, Option.bind_none, if_true, if_false, ite_true, ite_false, List.length_cons, List.length_nil, ite_self, Nat.reduceAdd, Nat.reduceLeDiff, Nat.reduceLT, Nat.reduceMul, Int.reduceLT, Int.reduceLE, Int.reduceNeg, Int.reduceAdd, Int.reduceSub, Int.reduceMul, Int.reducePow, Int.reduceEq, in_sign]
          by_cases z : c ∈ small
          · have z' : c ∈ (Str.ofString "abcdefghijklmnopqrstuvwxyz").cps.toList := z
            simp [z, z']
          · have z' : c ∉ (Str.ofString "abcdefghijklmnopqrstuvwxyz").cps.toList := z
            simp [z, z']
  | _ =>
    simp only [BQ, q_ife, BZ, BO, BV, BL, tyN, mTy, List.replicate, List.getElem?_cons_zero, List.getElem?_cons_succ, List.set_cons_zero, List.set_cons_succ, List.map_cons, List.map_nil, List.cons_append, List.nil_append, List.all_cons, List.all_nil, Option.map_some, Option.map_none, Option.bind_some, Option.bind_none, if_true, if_false, ite_true, ite_false, List.length_cons, List.length_nil, ite_self, Nat.reduceAdd, Nat.reduceLeDiff, Nat.reduceLT, Nat.reduceMul, Int.reduceLT, Int.reduceLE, Int.reduceNeg, Int.reduceAdd, Int.reduceSub, Int.reduceMul, Int.reducePow, Int.reduceEq, y_isS, isS]
    rw [z_cons]
    simp only [BQ, q_ife, BZ, BO, BV, BL, tyN, mTy, List.replicate, List.getElem?_cons_zero, List.getElem?_cons_succ, List.set_cons_zero, List.set_cons_succ, List.map_cons, List.map_nil, List.cons_append, List.nil_append, List.all_cons, List.all_nil, Option.map_some, Option.map_none, Option.bind_some, Option.bind_none, if_true, if_false, ite_true, ite_false, List.length_cons, List.length_nil, ite_self, Nat.reduceAdd, Nat.reduceLeDiff, Nat.reduceLT, Nat.reduceMul, Int.reduceLT, Int.reduceLE, Int.reduceNeg, Int.reduceAdd, Int.reduceSub, Int.reduceMul, Int.reducePow, Int.reduceEq, leave_self hA]
    rfl
/-! ### bounds -/
def bndB : PyData → Bool
  | .none => true
  | .int i => decide (-1000000000000000000000000000000 < i) && decide (i < 1000000000000000000000000000000)
  | _ => false
def leB : PyData → PyData → Bool
  | .int i, .int j => decide (i ≤ j)
  | _, _ => true
def numB (a b : PyData) : Bool := bndB a && bndB b && leB a b
theorem isNumber_q (g : GenP P) (hA : Cl A) {p : PyData} : wq (callN P (n + 1) "is_number" [.d p]) A Φ E = Φ (.val (.d (.bool (isI p && !isBo p)))) A := by
  rw [wq_call g.isNumber rfl]
  simp only [fIsNumber, b_is_number]
  rw [z_cons]
  cases p <;> (simp only [BQ, q_ife, BZ, BO, BV, BL, tyN, mTy, List.replicate, List.getElem?_cons_zero, List.getElem?_cons_succ, List.set_cons_zero, List.set_cons_succ, List.map_cons, List.map_nil, List.cons_append, List.nil_append, List.all_cons, List.all_nil, Option.map_some, Option.map_none, Option.bind_some, Option.bind_none, if_true, if_false, ite_true, ite_false, List.length_cons, List.length_nil, ite_self, Nat.reduceAdd, Nat.reduceLeDiff, Nat.reduceLT, Nat.reduceMul, Int.reduceLT, Int.reduceLE, Int.reduceNeg, Int.reduceAdd, Int.reduceSub, Int.reduceMul, Int.reducePow, Int.reduceEq, y_isI, y_isB, isI, isBo, leave_self hA])
theorem isBound_q (g : GenP P) (hA : Cl A) {p : PyData} : wq (callN P (n + 2) "is_bound" [.d p]) A Φ E = Φ (.val (.d (.bool (bndB p)))) A := by
  rw [wq_call g.isBound rfl]
  simp only [fIsBound, b_is_bound]
  rw [z_cons]
  cases p with
  | int i =>
    simp only [BQ, q_ife, BZ, BO, BV, BL, tyN, mTy, List.replicate, List.getElem?_cons_zero, List.getElem?_cons_succ, List.set_cons_zero, List.set_cons_succ, List.map_cons, List.map_nil, List.cons_append, List.nil_append, List.all_cons, List.all_nil, Option.map_some, Option.map_none, Option.bind_some, Option.bind_none, if_true, if_false, ite_true, ite_false, List.length_cons, List.length_nil, ite_self, Nat.reduceAdd, Nat.reduceLeDiff, Nat.reduceLT, Nat.reduceMul, Int.reduceLT, Int.reduceLE, Int.reduceNeg, Int.reduceAdd, Int.reduceSub, Int.reduceMul, Int.reducePow, Int.reduceEq, y_isN, isN, isNumber_q g hA, isI, isBo, leave_self hA, bndB]
    congr
    rw [← Bool.decide_and]
    apply decide_eq_decide.mpr
    split <;> omega
  | _ => simp only [BQ, q_ife, BZ, BO, BV, BL, tyN, mTy, List.replicate, List.getElem?_cons_zero, List.getElem?_cons_succ, List.set_cons_zero, List.set_cons_succ, List.map_cons, List.map_nil, List.cons_append, List.nil_append, List.all_cons, List.all_nil, Option.map_some, Option.map_none, Option.bind_some, Option.bind_none, if_true, if_false, ite_true, ite_false, List.length_cons, List.length_nil, ite_self, Nat.reduceAdd, Nat.reduceLeDiff, Nat.reduceLT, Nat.reduceMul, Int.reduceLT, Int.reduceLE, Int.reduceNeg, Int.reduceAdd, Int.reduceSub, Int.reduceMul, Int.reducePow, Int.reduceEq, y_isN, isN, isNumber_q g hA, isI, isBo, leave_self hA, bndB]
theorem areBounds_q (g : GenP P) (hA : Cl A) {p q : PyData} : wq (callN P (n + 3) "are_bounds" [.d p, .d q]) A Φ E = Φ (.val (.d (.bool (numB p q)))) A := by
  rw [wq_call g.areBounds rfl]
  simp only [fAreBounds, b_are_bounds]
  rw [z_cons]
  simp only [BQ, q_ife, BZ, BO, BV, BL, tyN, mTy, List.replicate, List.getElem?_cons_zero, List.getElem?_cons_succ, List.set_cons_zero, List.set_cons_succ, List.map_cons, List.map_nil, List.cons_append, List.nil_append, List.all_cons, List.all_nil, Option.map_some, Option.map_none, Option.bind_some, Option.bind_none, if_true, if_false, ite_true, ite_false, List.length_cons, List.length_nil, ite_self, Nat.reduceAdd, Nat.reduceLeDiff, Nat.reduceLT, Nat.reduceMul, Int.reduceLT, Int.reduceLE, Int.reduceNeg, Int.reduceAdd, Int.reduceSub, Int.reduceMul, Int.reducePow, Int.reduceEq, y_isN, isBound_q g hA, leave_self hA, numB]
  cases hp : bndB p with
  | false => simp only [BQ, q_ife, BZ, BO, BV, BL, tyN, mTy, List.replicate, List.getElem?_cons_zero, List.getElem?_cons_succ, List.set_cons_zero, List.set_cons_succ, List.map_cons, List.map_nil, List.cons_append, List.nil_append, List.all_cons, List.all_nil, Option.map_some, Option.map_none, Option.bind_some, Option.bind_none, if_true, if_false, ite_true, ite_false, List.length_cons, List.length_nil, ite_self, Nat.reduceAdd, Nat.reduceLeDiff, Nat.reduceLT, Nat.reduceMul, Int.reduceLT, Int.reduceLE, Int.reduceNeg, Int.reduceAdd, Int.reduceSub, Int.reduceMul, Int.reducePow, Int.reduceEq]
  | true =>
    cases hq : bndB q with
    | false => simp only [BQ, q_ife, BZ, BO, BV, BL, tyN, mTy, List.replicate, List.getElem?_cons_zero, List.getElem?_cons_succ, List.set_cons_zero, List.set_cons_succ, List.map_cons, List.map_nil, List.cons_append, List.nil_append, List.all_cons, List.all_nil, Option.map_some, Option.map_none, Option.bind_some, Option.bind_none, if_true, if_false, ite_true, ite_false, List.length_cons, List.length_nil, ite_self, Nat.reduceAdd, Nat.reduceLeDiff, Nat.reduceLT, Nat.reduceMul, Int.reduceLT, Int.reduceLE, Int.reduceNeg, Int.reduceAdd, Int.reduceSub, Int.reduceMul, Int.reducePow, Int.reduceEq]
    | true =>
      cases p with
      | none => simp only [BQ, q_ife, BZ, BO, BV, BL, tyN, mTy, List.replicate, List.getElem?_cons_zero, List.getElem?_cons_succ, List.set_cons_zero, List.set_cons_succ, List.map_cons, List.map_nil, List.cons_append, List.nil_append, List.all_cons, List.all_nil, Option.map_some, Option.map_none, Option.bind_some, Option.bind_none, if_true, if_false, ite_true, ite_false, List.length_cons, List.length_nil, ite_self, Nat.reduceAdd, Nat.reduceLeDiff, Nat.reduceLT, Nat.reduceMul, Int.reduceLT, Int.reduceLE, Int.reduceNeg, Int.reduceAdd, Int.reduceSub, Int.reduceMul, Int.reducePow, Int.reduceEq, isN, leB]
      | int i =>
        cases q with
        | none => simp only [BQ, q_ife, BZ, BO, BV, BL, tyN, mTy, List.replicate, List.getElem?_cons_zero, List.getElem?_cons_succ, List.set_cons_zero, List.set_cons_succ, List.map_cons, List.map_nil, List.cons_append, List.nil_append, List.all_cons, List.all_nil, Option.map_some, Option.map_none, Option.bind_some, Option.bind_none, if_true, if_false, ite_true, ite_false, List.length_cons, List.length_nil, ite_self, Nat.reduceAdd, Nat.reduceLeDiff, Nat.reduceLT, Nat.reduceMul, Int.reduceLT, Int.reduceLE, Int.reduceNeg, Int.reduceAdd, Int.reduceSub, Int.reduceMul, Int.reducePow, Int.reduceEq, isN, leB]
        | int j => simp only [BQ, q_ife, BZ, BO, BV, BL, tyN, mTy, List.replicate, List.getElem?_cons_zero, List.getElem?_cons_succ, List.set_cons_zero, List.set_cons_succ, List.map_cons, List.map_nil, List.cons_append, List.nil_append, List.all_cons, List.all_nil, Option.map_some, Option.map_none, Option.bind_some, Option.bind_none, if_true, if_false, ite_true, ite_false, List.length_cons, List.length_nil, ite_self, Nat.reduceAdd, Nat.reduceLeDiff, Nat.reduceLT, Nat.reduceMul, Int.reduceLT, Int.reduceLE, Int.reduceNeg, Int.reduceAdd, Int.reduceSub, Int.reduceMul, Int.reducePow, Int.reduceEq, isN, leB, leave_self hA]
        | _ => cases hq
      | _ => cases hp
/-! ### labels -/
def risB (a : Str) : List Str → Bool
  | [] => true
  | l :: r => decide (a.cps.toList < l.cps.toList) && risB l r
def labs : List PyData → Option (List Str)
  | [] => some []
  | .tuple [.str l, _] :: r => if nmB l then (labs r).map (l :: ·) else none
  | _ :: _ => none
def fldsB (a : Str) (ps : List PyData) : Bool := match labs ps with
  | some ls => risB a ls
  | none => false
def fieldsB : PyData → Bool
  | .tuple ps => fldsB (Str.ofString "") ps
  | _ => false
/-- each label told once, as first met -/
def ddp (acc : List Str) : List Str → List Str
  | [] => acc
  | l :: r => if l ∈ acc then ddp acc r else ddp (acc ++ [l]) r
theorem ddp_nodup : ∀ {ls acc : List Str}, acc.Nodup → (ddp acc ls).Nodup
  | [], _, h => h
  | l :: r, acc, h => by
    unfold ddp
    split
    · exact ddp_nodup h
    · rename_i hl
      refine ddp_nodup (List.nodup_append.mpr ⟨h, by simp, fun x hx y hy z => ?_⟩)
      rw [List.mem_singleton] at hy
      rw [z, hy] at hx
      exact hl hx
theorem ddp_self : ∀ {ls acc : List Str}, (acc ++ ls).Nodup → ddp acc ls = acc ++ ls
  | [], acc, _ => by simp [ddp]
  | l :: r, acc, h => by
    unfold ddp
    have hl : l ∉ acc := fun z => (List.nodup_append.mp h).2.2 l z l (by simp) rfl
    rw [if_neg hl]
    have e : acc ++ l :: r = (acc ++ [l]) ++ r := by simp
    rw [e] at h ⊢
    exact ddp_self h
theorem risB_iff : ∀ {ls : List Str} {a : Str}, risB a ls = true ↔ (a :: ls).Pairwise fun x y => x.cps.toList < y.cps.toList
  | [], a => by simp [risB]
  | l :: r, a => by
    unfold risB
    rw [Bool.and_eq_true, decide_eq_true_eq, risB_iff (ls := r), List.pairwise_cons (a := a)]
    constructor
    · rintro ⟨h1, h2⟩
      refine ⟨fun y hy => ?_, h2⟩
      rcases List.mem_cons.mp hy with rfl | hy
      · exact h1
      · exact List.lt_trans h1 ((List.pairwise_cons.mp h2).1 y hy)
    · rintro ⟨h1, h2⟩
      exact ⟨h1 l (by simp), h2⟩
theorem str_ext {x y : Str} (h : x.cps.toList = y.cps.toList) : x = y := by
  cases x; cases y
  simp only at h
  congr
  exact Array.toList_inj.mp h
theorem ris_sort {ls : List Str} (hn : ∀ l ∈ ls, 1 ≤ l.length) : decide (ls = sortT (ddp [] ls)) = risB (Str.ofString "") ls := by
  rw [Bool.eq_iff_iff, decide_eq_true_eq, risB_iff, List.pairwise_cons]
  have he : ∀ l ∈ ls, (Str.ofString "").cps.toList < l.cps.toList := fun l hl => by
    have h1 := hn l hl
    rw [← str_len] at h1
    cases e : l.cps.toList with
    | nil => rw [e] at h1; simp at h1
    | cons c cs => exact List.nil_lt_cons c cs
  constructor
  · intro h
    refine ⟨he, ?_⟩
    have nd : ls.Nodup := by
      rw [h]
      exact (List.mergeSort_perm _ leT).nodup_iff.mpr (ddp_nodup List.nodup_nil)
    have so : ls.Pairwise (fun a b => leT a b = true) := by
      rw [h]
      exact List.pairwise_mergeSort leT_trans leT_total _
    refine (so.and nd).imp fun {a b} hab => ?_
    obtain ⟨h1, h2⟩ := hab
    unfold leT at h1
    simp only [Bool.not_eq_true', decide_eq_false_iff_not] at h1
    by_cases z : a.cps.toList < b.cps.toList
    · exact z
    · exact (h2 (str_ext (List.le_antisymm (List.not_lt.mp h1) (List.not_lt.mp z)))).elim
  · rintro ⟨_, h⟩
    have nd : ls.Nodup := h.imp fun {a b} hab z => by
      rw [z] at hab
      exact List.lt_irrefl _ hab
    rw [ddp_self (by simpa using nd), List.nil_append]
    unfold sortT
    rw [List.mergeSort_of_pairwise]
    refine h.imp fun {a b} hab => ?_
    unfold leT
    simp only [Bool.not_eq_true', decide_eq_false_iff_not]
    exact List.lt_asymm hab
end
end Kg
set_option Elab.async false
set_option linter.all false
set_option maxRecDepth 100000
set_option maxHeartbeats 1000000
/-! KgC: fields, forms, the parts right within. -/
namespace Kg
open PySem L2 Mi TL
/-! ### sizes -/
mutual
def smP (w : Nat) : PyData → Bool
  | .str x => decide (x.length ≤ 1000)
  | .list ps => decide (ps.length ≤ w) && smPs w ps
  | .tuple ps => decide (ps.length ≤ w) && smPs w ps
  | .dict kvs => kvs.isEmpty
  | _ => true
def smPs (w : Nat) : List PyData → Bool
  | [] => true
  | p :: ps => smP w p && smPs w ps
end
theorem smPs_iff {w : Nat} : ∀ {ps : List PyData}, smPs w ps = true ↔ ∀ p ∈ ps, smP w p = true
  | [] => by simp [smPs]
  | p :: ps => by
    unfold smPs
    rw [Bool.and_eq_true, smPs_iff]
    simp
theorem smP_str {w : Nat} {p : PyData} (h : smP w p = true) (x : Str) (e : p = .str x) : x.length ≤ 16777216 := by
  subst e
  unfold smP at h
  have := of_decide_eq_true h
  omega
theorem smP_tup {w : Nat} {ps : List PyData} : smP w (.tuple ps) = true ↔ ps.length ≤ w ∧ ∀ p ∈ ps, smP w p = true := by
  rw [smP, Bool.and_eq_true, decide_eq_true_eq, smPs_iff]
theorem smP_lst {w : Nat} {ps : List PyData} : smP w (.list ps) = true ↔ ps.length ≤ w ∧ ∀ p ∈ ps, smP w p = true := by
  rw [smP, Bool.and_eq_true, decide_eq_true_eq, smPs_iff]
theorem at0 {α : Type} {x : α} {xs : List α} : atI (x :: xs) 0 = some x := by
  unfold atI
  rw [ixN_nat (by omega) (by simp only [List.length_cons]; omega)]
  rfl
theorem at1 {α : Type} {x y : α} {xs : List α} : atI (x :: y :: xs) 1 = some y := by
  unfold atI
  rw [ixN_nat (by omega) (by simp only [List.length_cons]; omega)]
  rfl
theorem at2 {α : Type} {x y z : α} {xs : List α} : atI (x :: y :: z :: xs) 2 = some z := by
  unfold atI
  rw [ixN_nat (by omega) (by simp only [List.length_cons]; omega)]
  rfl
theorem Cl.appO {A : Hs} (h : Cl A) {x : Ob} (hx : clean (A.length + 1) x = true) : Cl (A ++ [x]) := by
  unfold Cl at h ⊢
  have hl : (A ++ [x]).length = A.length + 1 := by simp
  rw [hl, List.all_append, Bool.and_eq_true]
  refine ⟨?_, by simp [hx]⟩
  rw [List.all_eq_true] at h ⊢
  intro o ho
  have := h o ho
  have mono : ∀ {κ : Type} (kvs : List (κ × U)), (kvs.all fun p => (match p.2 with | .obj n => decide (n < A.length) | _ => true)) = true → (kvs.all fun p => (match p.2 with | .obj n => decide (n < A.length + 1) | _ => true)) = true := fun kvs hk => by
    rw [List.all_eq_true] at hk ⊢
    intro q hq
    have hq2 := hk q hq
    obtain ⟨k, u⟩ := q
    cases u with
    | obj n =>
      have hq3 : n < A.length := of_decide_eq_true hq2
      exact decide_eq_true (by omega)
    | _ => rfl
  cases o with
  | lst _ => rfl
  | dK kvs => exact mono kvs this
  | dT kvs => exact mono kvs this
theorem Cl.app {A : Hs} (h : Cl A) {ps : List PyData} : Cl (A ++ [.lst ps]) := h.appO rfl
section
variable {P : Pr} {n w : Nat} {A : Hs} {Φ : R → Hs → Prop} {E : Str → List (Str × PyData) → Hs → Prop}
theorem flds_no {a : Str} {q : PyData} {ps : List PyData} (h : labs (q :: ps) = none) : fldsB a (q :: ps) = false := by unfold fldsB; rw [h]
theorem flds_cons {a l : Str} {v : PyData} {ps : List PyData} (h : nmB l = true) : fldsB a (.tuple [.str l, v] :: ps) = (decide (a.cps.toList < l.cps.toList) && fldsB l ps) := by
  unfold fldsB
  rw [labs, if_pos h]
  cases labs ps with
  | none => simp
  | some ls => rfl
abbrev lbFields : List S := [.iff (.or [(.not (.isi (.v 2) [(.inl "tuple")] false)), (.cmp .NotEq (.bi "len" [(.v 2)]) (.k (.int 2))), (.not (.call "is_name" [(.ix (.v 2) (.k (.int 0)))])), (.cmp .LtE (.ix (.v 2) (.k (.int 0))) (.v 1))]) [.ret (some (.k (.bool false)))] [], .asg 1 (.ix (.v 2) (.k (.int 0))) false]
theorem areFields_loop (g : GenP P) (hA : Cl A) {p : PyData} : ∀ {ps : List PyData} {a : Str} {x : Option U}, (∀ q ∈ ps, smP w q = true) → wS (frGo none (.nm 2) (exs (geN P (n + 1) bad) lbFields) ps [some (.d p), some (.d (.str a)), x] A) (sqK (geN P (n + 1) bad) [.ret (some (.k (.bool true)))] (pst false A.length Φ E)) = Φ (.val (.d (.bool (fldsB a ps)))) A
  | [], a, x, _ => by
    rw [fr_nil rfl]
    simp only [BQ, q_ife, BZ, BO, BV, BL, tyN, mTy, List.replicate, List.getElem?_cons_zero, List.getElem?_cons_succ, List.set_cons_zero, List.set_cons_succ, List.map_cons, List.map_nil, List.cons_append, List.nil_append, List.all_cons, List.all_nil, Option.map_some, Option.map_none, Option.bind_some, Option.bind_none, if_true, if_false, ite_true, ite_false, List.length_cons, List.length_nil, ite_self, Nat.reduceAdd, Nat.reduceLeDiff, Nat.reduceLT, Nat.reduceMul, Int.reduceLT, Int.reduceLE, Int.reduceNeg, Int.reduceAdd, Int.reduceSub, Int.reduceMul, Int.reducePow, Int.reduceEq]
    rw [z_cons]
    simp only [BQ, q_ife, BZ, BO, BV, BL, tyN, mTy, List.replicate, List.getElem?_cons_zero, List.getElem?_cons_succ, List.set_cons_zero, List.set_cons_succ, List.map_cons, List.map_nil, List.cons_append, List.nil_append, List.all_cons, List.all_nil, Option.map_some, Option.map_none, Option.bind_some, Option.bind_none, if_true, if_false, ite_true, ite_false, List.length_cons, List.length_nil, ite_self, Nat.reduceAdd, Nat.reduceLeDiff, Nat.reduceLT, Nat.reduceMul, Int.reduceLT, Int.reduceLE, Int.reduceNeg, Int.reduceAdd, Int.reduceSub, Int.reduceMul, Int.reducePow, Int.reduceEq, leave_self hA]
    rfl
  | q :: ps, a, x, hs => by
    have ih := fun {a x} => areFields_loop g hA (p := p) (ps := ps) (a := a) (x := x) fun r hr => hs r (by simp [hr])
    have hq := hs q (by simp)
    rw [fr_cons rfl]
    simp only [BQ, q_ife, BZ, BO, BV, BL, tyN, mTy, List.replicate, List.getElem?_cons_zero, List.getElem?_cons_succ, List.set_cons_zero, List.set_cons_succ, List.map_cons, List.map_nil, List.cons_append, List.nil_append, List.all_cons, List.all_nil, Option.map_some, Option.map_none, Option.bind_some, Option.bind_none, if_true, if_false, ite_true, ite_false, List.length_cons, List.length_nil, ite_self, Nat.reduceAdd, Nat.reduceLeDiff, Nat.reduceLT, Nat.reduceMul, Int.reduceLT, Int.reduceLE, Int.reduceNeg, Int.reduceAdd, Int.reduceSub, Int.reduceMul, Int.reducePow, Int.reduceEq]
    rw [lbFields, z_cons]
    cases q with
    | tuple qs =>
      match qs, hq with
      | [], _ =>
        have hf : fldsB a (.tuple [] :: ps) = false := flds_no rfl
        simp only [BQ, q_ife, BZ, BO, BV, BL, tyN, mTy, List.replicate, List.getElem?_cons_zero, List.getElem?_cons_succ, List.set_cons_zero, List.set_cons_succ, List.map_cons, List.map_nil, List.cons_append, List.nil_append, List.all_cons, List.all_nil, Option.map_some, Option.map_none, Option.bind_some, Option.bind_none, if_true, if_false, ite_true, ite_false, List.length_cons, List.length_nil, ite_self, Nat.reduceAdd, Nat.reduceLeDiff, Nat.reduceLT, Nat.reduceMul, Int.reduceLT, Int.reduceLE, Int.reduceNeg, Int.reduceAdd, Int.reduceSub, Int.reduceMul, Int.reducePow, Int.reduceEq, y_isT, isT]
        rw [z_cons]
        simp only [BQ, q_ife, BZ, BO, BV, BL, tyN, mTy, List.replicate, List.getElem?_cons_zero, List.getElem?_cons_succ, List.set_cons_zero, List.set_cons_succ, List.map_cons, List.map_nil, List.cons_append, List.nil_append, List.all_cons, List.all_nil, Option.map_some, Option.map_none, Option.bind_some, Option.bind_none, if_true, if_false, ite_true, ite_false, List.length_cons, List.length_nil, ite_self, Nat.reduceAdd, Nat.reduceLeDiff, Nat.reduceLT, Nat.reduceMul, Int.reduceLT, Int.reduceLE, Int.reduceNeg, Int.reduceAdd, Int.reduceSub, Int.reduceMul, Int.reducePow, Int.reduceEq, leave_self hA, hf]
      | [u], _ =>
        have hf : fldsB a (.tuple [u] :: ps) = false := flds_no (by cases u <;> rfl)
        simp only [BQ, q_ife, BZ, BO, BV, BL, tyN, mTy, List.replicate, List.getElem?_cons_zero, List.getElem?_cons_succ, List.set_cons_zero, List.set_cons_succ, List.map_cons, List.map_nil, List.cons_append, List.nil_append, List.all_cons, List.all_nil, Option.map_some, Option.map_none, Option.bind_some, Option.bind_none, if_true, if_false, ite_true, ite_false, List.length_cons, List.length_nil, ite_self, Nat.reduceAdd, Nat.reduceLeDiff, Nat.reduceLT, Nat.reduceMul, Int.reduceLT, Int.reduceLE, Int.reduceNeg, Int.reduceAdd, Int.reduceSub, Int.reduceMul, Int.reducePow, Int.reduceEq, y_isT, isT]
        rw [z_cons]
        simp only [BQ, q_ife, BZ, BO, BV, BL, tyN, mTy, List.replicate, List.getElem?_cons_zero, List.getElem?_cons_succ, List.set_cons_zero, List.set_cons_succ, List.map_cons, List.map_nil, List.cons_append, List.nil_append, List.all_cons, List.all_nil, Option.map_some, Option.map_none, Option.bind_some, Option.bind_none, if_true, if_false, ite_true, ite_false, List.length_cons, List.length_nil, ite_self, Nat.reduceAdd, Nat.reduceLeDiff, Nat.reduceLT, Nat.reduceMul, Int.reduceLT, Int.reduceLE, Int.reduceNeg, Int.reduceAdd, Int.reduceSub, Int.reduceMul, Int.reducePow, Int.reduceEq, leave_self hA, hf]
      | u :: v :: t :: r, _ =>
        have hf : fldsB a (.tuple (u :: v :: t :: r) :: ps) = false := flds_no (by cases u <;> rfl)
        have h2 : ¬ ((r.length + 1 + 1 + 1 : Nat) : Int) = 2 := by omega
        simp only [BQ, q_ife, BZ, BO, BV, BL, tyN, mTy, List.replicate, List.getElem?_cons_zero, List.getElem?_cons_succ, List.set_cons_zero, List.set_cons_succ, List.map_cons, List.map_nil, List.cons_append, List.nil_append, List.all_cons, List.all_nil, Option.map_some, Option.map_none, Option.bind_some, Option.bind_none, if_true, if_false, ite_true, ite_false, List.length_cons, List.length_nil, ite_self, Nat.reduceAdd, Nat.reduceLeDiff, Nat.reduceLT, Nat.reduceMul, Int.reduceLT, Int.reduceLE, Int.reduceNeg, Int.reduceAdd, Int.reduceSub, Int.reduceMul, Int.reducePow, Int.reduceEq, y_isT, isT, h2]
        rw [z_cons]
        simp only [BQ, q_ife, BZ, BO, BV, BL, tyN, mTy, List.replicate, List.getElem?_cons_zero, List.getElem?_cons_succ, List.set_cons_zero, List.set_cons_succ, List.map_cons, List.map_nil, List.cons_append, List.nil_append, List.all_cons, List.all_nil, Option.map_some, Option.map_none, Option.bind_some, Option.bind_none, if_true, if_false, ite_true, ite_false, List.length_cons, List.length_nil, ite_self, Nat.reduceAdd, Nat.reduceLeDiff, Nat.reduceLT, Nat.reduceMul, Int.reduceLT, Int.reduceLE, Int.reduceNeg, Int.reduceAdd, Int.reduceSub, Int.reduceMul, Int.reducePow, Int.reduceEq, leave_self hA, hf]
      | [u, v], hq =>
        have hu : smP w u = true := (smP_tup.mp hq).2 u (by simp)
        simp only [BQ, q_ife, BZ, BO, BV, BL, tyN, mTy, List.replicate, List.getElem?_cons_zero, List.getElem?_cons_succ, List.set_cons_zero, List.set_cons_succ, List.map_cons, List.map_nil, List.cons_append, List.nil_append, List.all_cons, List.all_nil, Option.map_some, Option.map_none, Option.bind_some, Option.bind_none, if_true, if_false, ite_true, ite_false, List.length_cons, List.length_nil, ite_self, Nat.reduceAdd, Nat.reduceLeDiff, Nat.reduceLT, Nat.reduceMul, Int.reduceLT, Int.reduceLE, Int.reduceNeg, Int.reduceAdd, Int.reduceSub, Int.reduceMul, Int.reducePow, Int.reduceEq, y_isT, isT, at0, isName_q g hA (smP_str hu)]
        cases u with
        | str l =>
          cases hl : nmB l with
          | false =>
            have hf : fldsB a (.tuple [.str l, v] :: ps) = false := flds_no (by simp [labs, hl])
            have hl' : isNmB (.str l) = false := hl
            simp only [BQ, q_ife, BZ, BO, BV, BL, tyN, mTy, List.replicate, List.getElem?_cons_zero, List.getElem?_cons_succ, List.set_cons_zero, List.set_cons_succ, List.map_cons, List.map_nil, List.cons_append, List.nil_append, List.all_cons, List.all_nil, Option.map_some, Option.map_none, Option.bind_some, Option.bind_none, if_true, if_false, ite_true, ite_false, List.length_cons, List.length_nil, ite_self, Nat.reduceAdd, Nat.reduceLeDiff, Nat.reduceLT, Nat.reduceMul, Int.reduceLT, Int.reduceLE, Int.reduceNeg, Int.reduceAdd, Int.reduceSub, Int.reduceMul, Int.reducePow, Int.reduceEq, hl']
            rw [z_cons]
            simp only [BQ, q_ife, BZ, BO, BV, BL, tyN, mTy, List.replicate, List.getElem?_cons_zero, List.getElem?_cons_succ, List.set_cons_zero, List.set_cons_succ, List.map_cons, List.map_nil, List.cons_append, List.nil_append, List.all_cons, List.all_nil, Option.map_some, Option.map_none, Option.bind_some, Option.bind_none, if_true, if_false, ite_true, ite_false, List.length_cons, List.length_nil, ite_self, Nat.reduceAdd, Nat.reduceLeDiff, Nat.reduceLT, Nat.reduceMul, Int.reduceLT, Int.reduceLE, Int.reduceNeg, Int.reduceAdd, Int.reduceSub, Int.reduceMul, Int.reducePow, Int.reduceEq, leave_self hA, hf]
          | true =>
            have hl' : isNmB (.str l) = true := hl
            rw [flds_cons hl]
            simp only [BQ, q_ife, BZ, BO, BV, BL, tyN, mTy, List.replicate, List.getElem?_cons_zero, List.getElem?_cons_succ, List.set_cons_zero, List.set_cons_succ, List.map_cons, List.map_nil, List.cons_append, List.nil_append, List.all_cons, List.all_nil, Option.map_some, Option.map_none, Option.bind_some, Option.bind_none, if_true, if_false, ite_true, ite_false, List.length_cons, List.length_nil, ite_self, Nat.reduceAdd, Nat.reduceLeDiff, Nat.reduceLT, Nat.reduceMul, Int.reduceLT, Int.reduceLE, Int.reduceNeg, Int.reduceAdd, Int.reduceSub, Int.reduceMul, Int.reducePow, Int.reduceEq, hl']
            by_cases h3 : a.cps.toList < l.cps.toList
            · simp only [BQ, q_ife, BZ, BO, BV, BL, tyN, mTy, List.replicate, List.getElem?_cons_zero, List.getElem?_cons_succ, List.set_cons_zero, List.set_cons_succ, List.map_cons, List.map_nil, List.cons_append, List.nil_append, List.all_cons, List.all_nil, Option.map_some, Option.map_none, Option.bind_some, Option.bind_none, if_true, if_false, ite_true, ite_false, List.length_cons, List.length_nil, ite_self, Nat.reduceAdd, Nat.reduceLeDiff, Nat.reduceLT, Nat.reduceMul, Int.reduceLT, Int.reduceLE, Int.reduceNeg, Int.reduceAdd, Int.reduceSub, Int.reduceMul, Int.reducePow, Int.reduceEq, h3]
              rw [z_cons]
              simp only [BQ, q_ife, BZ, BO, BV, BL, tyN, mTy, List.replicate, List.getElem?_cons_zero, List.getElem?_cons_succ, List.set_cons_zero, List.set_cons_succ, List.map_cons, List.map_nil, List.cons_append, List.nil_append, List.all_cons, List.all_nil, Option.map_some, Option.map_none, Option.bind_some, Option.bind_none, if_true, if_false, ite_true, ite_false, List.length_cons, List.length_nil, ite_self, Nat.reduceAdd, Nat.reduceLeDiff, Nat.reduceLT, Nat.reduceMul, Int.reduceLT, Int.reduceLE, Int.reduceNeg, Int.reduceAdd, Int.reduceSub, Int.reduceMul, Int.reducePow, Int.reduceEq, at0]
              exact ih
            · simp only [BQ, q_ife, BZ, BO, BV, BL, tyN, mTy, List.replicate, List.getElem?_cons_zero, List.getElem?_cons_succ, List.set_cons_zero, List.set_cons_succ, List.map_cons, List.map_nil, List.cons_append, List.nil_append, List.all_cons, List.all_nil, Option.map_some, Option.map_none, Option.bind_some, Option.bind_none, if_true, if_false, ite_true, ite_false, List.length_cons, List.length_nil, ite_self, Nat.reduceAdd, Nat.reduceLeDiff, Nat.reduceLT, Nat.reduceMul, Int.reduceLT, Int.reduceLE, Int.reduceNeg, Int.reduceAdd, Int.reduceSub, Int.reduceMul, Int.reducePow, Int.reduceEq, h3]
              rw [z_cons]
              simp only [BQ, q_ife, BZ, BO, BV, BL, tyN, mTy, List.replicate, List.getElem?_cons_zero, List.getElem?_cons_succ, List.set_cons_zero, List.set_cons_succ, List.map_cons, List.map_nil, List.cons_append, List.nil_append, List.all_cons, List.all_nil, Option.map_some, Option.map_none, Option.bind_some, Option.bind_none, if_true, if_false, ite_true, ite_false, List.length_cons, List.length_nil, ite_self, Nat.reduceAdd, Nat.reduceLeDiff, Nat.reduceLT, Nat.reduceMul, Int.reduceLT, Int.reduceLE, Int.reduceNeg, Int.reduceAdd, Int.reduceSub, Int.reduceMul, Int.reducePow, Int.reduceEq, leave_self hA]
        | _ =>
          have hf : ∀ {z}, isNmB z = false → fldsB a (.tuple [z, v] :: ps) = false := fun {z} hz => flds_no (by
            cases z with
            | str l => have : nmB l = false := hz
                       simp [labs, this]
            | _ => rfl)
          rw [hf rfl]
          simp only [BQ, q_ife, BZ, BO, BV, BL, tyN, mTy, List.replicate, List.getElem?_cons_zero, List.getElem?_cons_succ, List.set_cons_zero, List.set_cons_succ, List.map_cons, List.map_nil, List.cons_append, List.nil_append, List.all_cons, List.all_nil, Option.map_some, Option.map_none, Option.bind_some, Option.bind_none, if_true, if_false, ite_true, ite_false, List.length_cons, List.length_nil, ite_self, Nat.reduceAdd, Nat.reduceLeDiff, Nat.reduceLT, Nat.reduceMul, Int.reduceLT, Int.reduceLE, Int.reduceNeg, Int.reduceAdd, Int.reduceSub, Int.reduceMul, Int.reducePow, Int.reduceEq, isNmB]
          rw [z_cons]
          simp only [BQ, q_ife, BZ, BO, BV, BL, tyN, mTy, List.replicate, List.getElem?_cons_zero, List.getElem?_cons_succ, List.set_cons_zero, List.set_cons_succ, List.map_cons, List.map_nil, List.cons_append, List.nil_append, List.all_cons, List.all_nil, Option.map_some, Option.map_none, Option.bind_some, Option.bind_none, if_true, if_false, ite_true, ite_false, List.length_cons, List.length_nil, ite_self, Nat.reduceAdd, Nat.reduceLeDiff, Nat.reduceLT, Nat.reduceMul, Int.reduceLT, Int.reduceLE, Int.reduceNeg, Int.reduceAdd, Int.reduceSub, Int.reduceMul, Int.reducePow, Int.reduceEq, leave_self hA]
    | _ =>
      simp only [BQ, q_ife, BZ, BO, BV, BL, tyN, mTy, List.replicate, List.getElem?_cons_zero, List.getElem?_cons_succ, List.set_cons_zero, List.set_cons_succ, List.map_cons, List.map_nil, List.cons_append, List.nil_append, List.all_cons, List.all_nil, Option.map_some, Option.map_none, Option.bind_some, Option.bind_none, if_true, if_false, ite_true, ite_false, List.length_cons, List.length_nil, ite_self, Nat.reduceAdd, Nat.reduceLeDiff, Nat.reduceLT, Nat.reduceMul, Int.reduceLT, Int.reduceLE, Int.reduceNeg, Int.reduceAdd, Int.reduceSub, Int.reduceMul, Int.reducePow, Int.reduceEq, y_isT, isT]
      rw [z_cons, flds_no (by rfl)]
      simp only [BQ, q_ife, BZ, BO, BV, BL, tyN, mTy, List.replicate, List.getElem?_cons_zero, List.getElem?_cons_succ, List.set_cons_zero, List.set_cons_succ, List.map_cons, List.map_nil, List.cons_append, List.nil_append, List.all_cons, List.all_nil, Option.map_some, Option.map_none, Option.bind_some, Option.bind_none, if_true, if_false, ite_true, ite_false, List.length_cons, List.length_nil, ite_self, Nat.reduceAdd, Nat.reduceLeDiff, Nat.reduceLT, Nat.reduceMul, Int.reduceLT, Int.reduceLE, Int.reduceNeg, Int.reduceAdd, Int.reduceSub, Int.reduceMul, Int.reducePow, Int.reduceEq, leave_self hA]
theorem areFields_q (g : GenP P) (hA : Cl A) {p : PyData} (hs : smP w p = true) : wq (callN P (n + 2) "are_fields" [.d p]) A Φ E = Φ (.val (.d (.bool (fieldsB p)))) A := by
  rw [wq_call g.areFields rfl]
  simp only [fAreFields, b_are_fields]
  rw [z_cons]
  cases p with
  | tuple ps =>
    simp only [BQ, q_ife, BZ, BO, BV, BL, tyN, mTy, List.replicate, List.getElem?_cons_zero, List.getElem?_cons_succ, List.set_cons_zero, List.set_cons_succ, List.map_cons, List.map_nil, List.cons_append, List.nil_append, List.all_cons, List.all_nil, Option.map_some, Option.map_none, Option.bind_some, Option.bind_none, if_true, if_false, ite_true, ite_false, List.length_cons, List.length_nil, ite_self, Nat.reduceAdd, Nat.reduceLeDiff, Nat.reduceLT, Nat.reduceMul, Int.reduceLT, Int.reduceLE, Int.reduceNeg, Int.reduceAdd, Int.reduceSub, Int.reduceMul, Int.reducePow, Int.reduceEq, y_isT, isT]
    rw [z_cons]
    simp only [BQ, q_ife, BZ, BO, BV, BL, tyN, mTy, List.replicate, List.getElem?_cons_zero, List.getElem?_cons_succ, List.set_cons_zero, List.set_cons_succ, List.map_cons, List.map_nil, List.cons_append, List.nil_append, List.all_cons, List.all_nil, Option.map_some, Option.map_none, Option.bind_some, Option.bind_none, if_true, if_false, ite_true, ite_false, List.length_cons, List.length_nil, ite_self, Nat.reduceAdd, Nat.reduceLeDiff, Nat.reduceLT, Nat.reduceMul, Int.reduceLT, Int.reduceLE, Int.reduceNeg, Int.reduceAdd, Int.reduceSub, Int.reduceMul, Int.reducePow, Int.reduceEq]
    rw [z_cons]
    simp only [BQ, q_ife, BZ, BO, BV, BL, tyN, mTy, List.replicate, List.getElem?_cons_zero, List.getElem?_cons_succ, List.set_cons_zero, List.set_cons_succ, List.map_cons, List.map_nil, List.cons_append, List.nil_append, List.all_cons, List.all_nil, Option.map_some, Option.map_none, Option.bind_some, Option.bind_none, if_true, if_false, ite_true, ite_false, List.length_cons, List.length_nil, ite_self, Nat.reduceAdd, Nat.reduceLeDiff, Nat.reduceLT, Nat.reduceMul, Int.reduceLT, Int.reduceLE, Int.reduceNeg, Int.reduceAdd, Int.reduceSub, Int.reduceMul, Int.reducePow, Int.reduceEq]
    exact areFields_loop g hA (smP_tup.mp hs).2
  | _ =>
    simp only [BQ, q_ife, BZ, BO, BV, BL, tyN, mTy, List.replicate, List.getElem?_cons_zero, List.getElem?_cons_succ, List.set_cons_zero, List.set_cons_succ, List.map_cons, List.map_nil, List.cons_append, List.nil_append, List.all_cons, List.all_nil, Option.map_some, Option.map_none, Option.bind_some, Option.bind_none, if_true, if_false, ite_true, ite_false, List.length_cons, List.length_nil, ite_self, Nat.reduceAdd, Nat.reduceLeDiff, Nat.reduceLT, Nat.reduceMul, Int.reduceLT, Int.reduceLE, Int.reduceNeg, Int.reduceAdd, Int.reduceSub, Int.reduceMul, Int.reducePow, Int.reduceEq, y_isT, isT]
    rw [z_cons]
    simp only [BQ, q_ife, BZ, BO, BV, BL, tyN, mTy, List.replicate, List.getElem?_cons_zero, List.getElem?_cons_succ, List.set_cons_zero, List.set_cons_succ, List.map_cons, List.map_nil, List.cons_append, List.nil_append, List.all_cons, List.all_nil, Option.map_some, Option.map_none, Option.bind_some, Option.bind_none, if_true, if_false, ite_true, ite_false, List.length_cons, List.length_nil, ite_self, Nat.reduceAdd, Nat.reduceLeDiff, Nat.reduceLT, Nat.reduceMul, Int.reduceLT, Int.reduceLE, Int.reduceNeg, Int.reduceAdd, Int.reduceSub, Int.reduceMul, Int.reducePow, Int.reduceEq, leave_self hA]
    rfl
/-! ### the law's own look at fields -/
abbrev lbLFields : List S := [.iff (.or [(.not (.isi (.v 2) [(.inl "tuple")] false)), (.cmp .NotEq (.bi "len" [(.v 2)]) (.k (.int 2))), (.not (.call "_law_is_name" [(.ix (.v 2) (.k (.int 0)))]))]) [.ret (some (.k (.bool false)))] [], .exp (.meth "list.append" (.v 1) [(.ix (.v 2) (.k (.int 0)))])]
theorem app_get {A : Hs} {o : Ob} : (A ++ [o])[A.length]? = some o := by simp
theorem set_app {o o' : Ob} : ∀ {A : Hs}, (A ++ [o]).set A.length o' = A ++ [o']
  | [] => rfl
  | a :: A => congrArg (a :: ·) (set_app (A := A))
theorem y_app {A : Hs} {ps : List PyData} {p : PyData} (h : ps.length < 16777216) : metO (A ++ [.lst ps]) "list.append" (.obj A.length) [.d p] = some (.val (.d .none), A ++ [.lst (ps ++ [p])]) := by
  have e : metO (A ++ [.lst ps]) "list.append" (.obj A.length) [.d p] = meApp (A ++ [.lst ps]) (.obj A.length) [.d p] := rfl
  rw [e]
  unfold meApp
  simp only [app_get, szl, h, if_true, set_app]
theorem ty_obj {A : Hs} {ps : List PyData} : tyN (A ++ [.lst ps]) (.obj A.length) = some "list" := by
  simp [tyN]
theorem leave_app {A : Hs} (hA : Cl A) {o : Ob} {p : PyData} : leave false A.length (.val (.d p)) (A ++ [o]) = some (.val (.d p), A) := by
  have e : (A ++ [o]).take A.length = A := by simp
  rw [leave_d (by rw [e]; exact hA), e]
theorem lareFields_loop (g : GenL P) (hA : Cl A) {p : PyData} {ss : List S} {y : Option U} {K : List Str → Prop} (hK : ∀ x zs, zs.length < 64 → (∀ l ∈ zs, nmB l = true) → wS (exs (geN P (n + 1) bad) ss [some (.d p), some (.obj A.length), x, y] (A ++ [.lst (zs.map .str)])) (pst false A.length Φ E) = K zs) : ∀ {ps : List PyData} {ls : List Str} {x : Option U}, (∀ q ∈ ps, smP w q = true) → ls.length + ps.length < 64 → (∀ l ∈ ls, nmB l = true) → wS (frGo none (.nm 2) (exs (geN P (n + 1) bad) lbLFields) ps [some (.d p), some (.obj A.length), x, y] (A ++ [.lst (ls.map .str)])) (sqK (geN P (n + 1) bad) ss (pst false A.length Φ E)) = (match labs ps with
    | some zs => K (ls ++ zs)
    | none => Φ (.val (.d (.bool false))) A)
  | [], ls, x, _, hn, hm => by
    rw [fr_nil rfl]
    simp only [BQ, q_ife, BZ, BO, BV, BL, tyN, mTy, List.replicate, List.getElem?_cons_zero, List.getElem?_cons_succ, List.set_cons_zero, List.set_cons_succ, List.map_cons, List.map_nil, List.cons_append, List.nil_append, List.all_cons, List.all_nil, Option.map_some, Option.map_none, Option.bind_some, Option.bind_none, if_true, if_false, ite_true, ite_false, List.length_cons, List.length_nil, ite_self, Nat.reduceAdd, Nat.reduceLeDiff, Nat.reduceLT, Nat.reduceMul, Int.reduceLT, Int.reduceLE, Int.reduceNeg, Int.reduceAdd, Int.reduceSub, Int.reduceMul, Int.reducePow, Int.reduceEq, labs, List.append_nil]
    exact hK _ _ (by simpa using hn) hm
  | q :: ps, ls, x, hs, hn, hm => by
    have hn' : (ls.length + 1) + ps.length < 64 := by simp only [List.length_cons] at hn; omega
    have ih := fun {l x} (hl : nmB l = true) => lareFields_loop g hA hK (ps := ps) (ls := ls ++ [l]) (x := x) (fun r hr => hs r (by simp [hr])) (by simp only [List.length_append, List.length_cons, List.length_nil]; omega) (fun y hy => by
      rcases List.mem_append.mp hy with z | z
      · exact hm y z
      · rw [List.mem_singleton.mp z]; exact hl)
    have hq := hs q (by simp)
    have hA1 : Cl (A ++ [.lst (ls.map .str)]) := hA.app
    rw [fr_cons rfl]
    simp only [BQ, q_ife, BZ, BO, BV, BL, tyN, mTy, List.replicate, List.getElem?_cons_zero, List.getElem?_cons_succ, List.set_cons_zero, List.set_cons_succ, List.map_cons, List.map_nil, List.cons_append, List.nil_append, List.all_cons, List.all_nil, Option.map_some, Option.map_none, Option.bind_some, Option.bind_none, if_true, if_false, ite_true, ite_false, List.length_cons, List.length_nil, ite_self, Nat.reduceAdd, Nat.reduceLeDiff, Nat.reduceLT, Nat.reduceMul, Int.reduceLT, Int.reduceLE, Int.reduceNeg, Int.reduceAdd, Int.reduceSub, Int.reduceMul, Int.reducePow, Int.reduceEq]
    rw [lbLFields, z_cons]
    cases q with
    | tuple qs =>
      match qs, hq with
      | [], _ =>
        simp only [BQ, q_ife, BZ, BO, BV, BL, tyN, mTy, List.replicate, List.getElem?_cons_zero, List.getElem?_cons_succ, List.set_cons_zero, List.set_cons_succ, List.map_cons, List.map_nil, List.cons_append, List.nil_append, List.all_cons, List.all_nil, Option.map_some, Option.map_none, Option.bind_some, Option.bind_none, if_true, if_false, ite_true, ite_false, List.length_cons, List.length_nil, ite_self, Nat.reduceAdd, Nat.reduceLeDiff, Nat.reduceLT, Nat.reduceMul, Int.reduceLT, Int.reduceLE, Int.reduceNeg, Int.reduceAdd, Int.reduceSub, Int.reduceMul, Int.reducePow, Int.reduceEq, y_isT, isT]
        rw [z_cons]
        simp only [BQ, q_ife, BZ, BO, BV, BL, tyN, mTy, List.replicate, List.getElem?_cons_zero, List.getElem?_cons_succ, List.set_cons_zero, List.set_cons_succ, List.map_cons, List.map_nil, List.cons_append, List.nil_append, List.all_cons, List.all_nil, Option.map_some, Option.map_none, Option.bind_some, Option.bind_none, if_true, if_false, ite_true, ite_false, List.length_cons, List.length_nil, ite_self, Nat.reduceAdd, Nat.reduceLeDiff, Nat.reduceLT, Nat.reduceMul, Int.reduceLT, Int.reduceLE, Int.reduceNeg, Int.reduceAdd, Int.reduceSub, Int.reduceMul, Int.reducePow, Int.reduceEq, leave_app hA, labs]
      | [u], _ =>
        have hf : labs (.tuple [u] :: ps) = none := by cases u <;> rfl
        simp only [BQ, q_ife, BZ, BO, BV, BL, tyN, mTy, List.replicate, List.getElem?_cons_zero, List.getElem?_cons_succ, List.set_cons_zero, List.set_cons_succ, List.map_cons, List.map_nil, List.cons_append, List.nil_append, List.all_cons, List.all_nil, Option.map_some, Option.map_none, Option.bind_some, Option.bind_none, if_true, if_false, ite_true, ite_false, List.length_cons, List.length_nil, ite_self, Nat.reduceAdd, Nat.reduceLeDiff, Nat.reduceLT, Nat.reduceMul, Int.reduceLT, Int.reduceLE, Int.reduceNeg, Int.reduceAdd, Int.reduceSub, Int.reduceMul, Int.reducePow, Int.reduceEq, y_isT, isT]
        rw [z_cons]
        simp only [BQ, q_ife, BZ, BO, BV, BL, tyN, mTy, List.replicate, List.getElem?_cons_zero, List.getElem?_cons_succ, List.set_cons_zero, List.set_cons_succ, List.map_cons, List.map_nil, List.cons_append, List.nil_append, List.all_cons, List.all_nil, Option.map_some, Option.map_none, Option.bind_some, Option.bind_none, if_true, if_false, ite_true, ite_false, List.length_cons, List.length_nil, ite_self, Nat.reduceAdd, Nat.reduceLeDiff, Nat.reduceLT, Nat.reduceMul, Int.reduceLT, Int.reduceLE, Int.reduceNeg, Int.reduceAdd, Int.reduceSub, Int.reduceMul, Int.reducePow, Int.reduceEq, leave_app hA, hf]
      | u :: v :: t :: r, _ =>
        have hf : labs (.tuple (u :: v :: t :: r) :: ps) = none := by cases u <;> rfl
        have h2 : ¬ ((r.length + 1 + 1 + 1 : Nat) : Int) = 2 := by omega
        simp only [BQ, q_ife, BZ, BO, BV, BL, tyN, mTy, List.replicate, List.getElem?_cons_zero, List.getElem?_cons_succ, List.set_cons_zero, List.set_cons_succ, List.map_cons, List.map_nil, List.cons_append, List.nil_append, List.all_cons, List.all_nil, Option.map_some, Option.map_none, Option.bind_some, Option.bind_none, if_true, if_false, ite_true, ite_false, List.length_cons, List.length_nil, ite_self, Nat.reduceAdd, Nat.reduceLeDiff, Nat.reduceLT, Nat.reduceMul, Int.reduceLT, Int.reduceLE, Int.reduceNeg, Int.reduceAdd, Int.reduceSub, Int.reduceMul, Int.reducePow, Int.reduceEq, y_isT, isT, h2]
        rw [z_cons]
        simp only [BQ, q_ife, BZ, BO, BV, BL, tyN, mTy, List.replicate, List.getElem?_cons_zero, List.getElem?_cons_succ, List.set_cons_zero, List.set_cons_succ, List.map_cons, List.map_nil, List.cons_append, List.nil_append, List.all_cons, List.all_nil, Option.map_some, Option.map_none, Option.bind_some, Option.bind_none, if_true, if_false, ite_true, ite_false, List.length_cons, List.length_nil, ite_self, Nat.reduceAdd, Nat.reduceLeDiff, Nat.reduceLT, Nat.reduceMul, Int.reduceLT, Int.reduceLE, Int.reduceNeg, Int.reduceAdd, Int.reduceSub, Int.reduceMul, Int.reducePow, Int.reduceEq, leave_app hA, hf]
      | [u, v], hq =>
        have hu : smP w u = true := (smP_tup.mp hq).2 u (by simp)
        simp only [BQ, q_ife, BZ, BO, BV, BL, tyN, mTy, List.replicate, List.getElem?_cons_zero, List.getElem?_cons_succ, List.set_cons_zero, List.set_cons_succ, List.map_cons, List.map_nil, List.cons_append, List.nil_append, List.all_cons, List.all_nil, Option.map_some, Option.map_none, Option.bind_some, Option.bind_none, if_true, if_false, ite_true, ite_false, List.length_cons, List.length_nil, ite_self, Nat.reduceAdd, Nat.reduceLeDiff, Nat.reduceLT, Nat.reduceMul, Int.reduceLT, Int.reduceLE, Int.reduceNeg, Int.reduceAdd, Int.reduceSub, Int.reduceMul, Int.reducePow, Int.reduceEq, y_isT, isT, at0, lisName_q g hA1 (smP_str hu)]
        cases u with
        | str l =>
          cases hl : nmB l with
          | false =>
            have hf : labs (.tuple [.str l, v] :: ps) = none := by simp [labs, hl]
            have hl' : isNmB (.str l) = false := hl
            simp only [BQ, q_ife, BZ, BO, BV, BL, tyN, mTy, List.replicate, List.getElem?_cons_zero, List.getElem?_cons_succ, List.set_cons_zero, List.set_cons_succ, List.map_cons, List.map_nil, List.cons_append, List.nil_append, List.all_cons, List.all_nil, Option.map_some, Option.map_none, Option.bind_some, Option.bind_none, if_true, if_false, ite_true, ite_false, List.length_cons, List.length_nil, ite_self, Nat.reduceAdd, Nat.reduceLeDiff, Nat.reduceLT, Nat.reduceMul, Int.reduceLT, Int.reduceLE, Int.reduceNeg, Int.reduceAdd, Int.reduceSub, Int.reduceMul, Int.reducePow, Int.reduceEq, hl']
            rw [z_cons]
            simp only [BQ, q_ife, BZ, BO, BV, BL, tyN, mTy, List.replicate, List.getElem?_cons_zero, List.getElem?_cons_succ, List.set_cons_zero, List.set_cons_succ, List.map_cons, List.map_nil, List.cons_append, List.nil_append, List.all_cons, List.all_nil, Option.map_some, Option.map_none, Option.bind_some, Option.bind_none, if_true, if_false, ite_true, ite_false, List.length_cons, List.length_nil, ite_self, Nat.reduceAdd, Nat.reduceLeDiff, Nat.reduceLT, Nat.reduceMul, Int.reduceLT, Int.reduceLE, Int.reduceNeg, Int.reduceAdd, Int.reduceSub, Int.reduceMul, Int.reducePow, Int.reduceEq, leave_app hA, hf]
          | true =>
            have hl' : isNmB (.str l) = true := hl
            have hf : labs (.tuple [.str l, v] :: ps) = (labs ps).map (l :: ·) := by simp [labs, hl]
            simp only [BQ, q_ife, BZ, BO, BV, BL, tyN, mTy, List.replicate, List.getElem?_cons_zero, List.getElem?_cons_succ, List.set_cons_zero, List.set_cons_succ, List.map_cons, List.map_nil, List.cons_append, List.nil_append, List.all_cons, List.all_nil, Option.map_some, Option.map_none, Option.bind_some, Option.bind_none, if_true, if_false, ite_true, ite_false, List.length_cons, List.length_nil, ite_self, Nat.reduceAdd, Nat.reduceLeDiff, Nat.reduceLT, Nat.reduceMul, Int.reduceLT, Int.reduceLE, Int.reduceNeg, Int.reduceAdd, Int.reduceSub, Int.reduceMul, Int.reducePow, Int.reduceEq, hl', hf]
            rw [z_cons]
            have hll : (ls.map PyData.str).length < 16777216 := by rw [List.length_map]; omega
            simp only [BQ, q_ife, BZ, BO, BV, BL, tyN, mTy, List.replicate, List.getElem?_cons_zero, List.getElem?_cons_succ, List.set_cons_zero, List.set_cons_succ, List.map_cons, List.map_nil, List.cons_append, List.nil_append, List.all_cons, List.all_nil, Option.map_some, Option.map_none, Option.bind_some, Option.bind_none, if_true, if_false, ite_true, ite_false, List.length_cons, List.length_nil, ite_self, Nat.reduceAdd, Nat.reduceLeDiff, Nat.reduceLT, Nat.reduceMul, Int.reduceLT, Int.reduceLE, Int.reduceNeg, Int.reduceAdd, Int.reduceSub, Int.reduceMul, Int.reducePow, Int.reduceEq, app_get, at0, y_app hll]
            have ih2 := ih (l := l) (x := some (.d (.tuple [.str l, v]))) hl
            rw [List.map_append] at ih2
            refine Eq.trans ih2 ?_
            cases labs ps with
            | none => rfl
            | some zs => simp
        | _ =>
          simp only [BQ, q_ife, BZ, BO, BV, BL, tyN, mTy, List.replicate, List.getElem?_cons_zero, List.getElem?_cons_succ, List.set_cons_zero, List.set_cons_succ, List.map_cons, List.map_nil, List.cons_append, List.nil_append, List.all_cons, List.all_nil, Option.map_some, Option.map_none, Option.bind_some, Option.bind_none, if_true, if_false, ite_true, ite_false, List.length_cons, List.length_nil, ite_self, Nat.reduceAdd, Nat.reduceLeDiff, Nat.reduceLT, Nat.reduceMul, Int.reduceLT, Int.reduceLE, Int.reduceNeg, Int.reduceAdd, Int.reduceSub, Int.reduceMul, Int.reducePow, Int.reduceEq, isNmB]
          rw [z_cons]
          simp only [BQ, q_ife, BZ, BO, BV, BL, tyN, mTy, List.replicate, List.getElem?_cons_zero, List.getElem?_cons_succ, List.set_cons_zero, List.set_cons_succ, List.map_cons, List.map_nil, List.cons_append, List.nil_append, List.all_cons, List.all_nil, Option.map_some, Option.map_none, Option.bind_some, Option.bind_none, if_true, if_false, ite_true, ite_false, List.length_cons, List.length_nil, ite_self, Nat.reduceAdd, Nat.reduceLeDiff, Nat.reduceLT, Nat.reduceMul, Int.reduceLT, Int.reduceLE, Int.reduceNeg, Int.reduceAdd, Int.reduceSub, Int.reduceMul, Int.reducePow, Int.reduceEq, leave_app hA, labs]
    | _ =>
      simp only [BQ, q_ife, BZ, BO, BV, BL, tyN, mTy, List.replicate, List.getElem?_cons_zero, List.getElem?_cons_succ, List.set_cons_zero, List.set_cons_succ, List.map_cons, List.map_nil, List.cons_append, List.nil_append, List.all_cons, List.all_nil, Option.map_some, Option.map_none, Option.bind_some, Option.bind_none, if_true, if_false, ite_true, ite_false, List.length_cons, List.length_nil, ite_self, Nat.reduceAdd, Nat.reduceLeDiff, Nat.reduceLT, Nat.reduceMul, Int.reduceLT, Int.reduceLE, Int.reduceNeg, Int.reduceAdd, Int.reduceSub, Int.reduceMul, Int.reducePow, Int.reduceEq, y_isT, isT]
      rw [z_cons]
      simp only [BQ, q_ife, BZ, BO, BV, BL, tyN, mTy, List.replicate, List.getElem?_cons_zero, List.getElem?_cons_succ, List.set_cons_zero, List.set_cons_succ, List.map_cons, List.map_nil, List.cons_append, List.nil_append, List.all_cons, List.all_nil, Option.map_some, Option.map_none, Option.bind_some, Option.bind_none, if_true, if_false, ite_true, ite_false, List.length_cons, List.length_nil, ite_self, Nat.reduceAdd, Nat.reduceLeDiff, Nat.reduceLT, Nat.reduceMul, Int.reduceLT, Int.reduceLE, Int.reduceNeg, Int.reduceAdd, Int.reduceSub, Int.reduceMul, Int.reducePow, Int.reduceEq, leave_app hA, labs]
theorem strs_nm {x : Str} (h : nmB x = true) : PyData.strOk x = true := by
  have h := (nmB_iff.mp h).2.2
  have all : ∀ c ∈ (Str.ofString "abcdefghijklmnopqrstuvwxyz").cps.toList, c < 0x110000 := by decide
  unfold PyData.strOk
  rw [Array.all_eq_true']
  intro c hc
  exact decide_eq_true (all c (h c (by simpa using hc)))
theorem lay_strs : ∀ {ls : List Str}, (∀ l ∈ ls, nmB l = true) → PyData.canLayAll0 (ls.map .str) = true
  | [], _ => rfl
  | l :: ls, h => by
    rw [List.map_cons, PyData.canLayAll0, Bool.and_eq_true]
    exact ⟨strs_nm (h l (by simp)), lay_strs fun x hx => h x (by simp [hx])⟩
theorem dep_strs : ∀ {ls : List Str}, PyData.depthAll (ls.map .str) = 0
  | [] => rfl
  | l :: ls => by
    rw [List.map_cons, PyData.depthAll, dep_strs (ls := ls)]
    rfl
theorem eqv_strs : ∀ {xs ys : List Str}, PyData.eqvAll (xs.map .str) (ys.map .str) = decide (xs = ys)
  | [], [] => rfl
  | [], _ :: _ => rfl
  | _ :: _, [] => rfl
  | x :: xs, y :: ys => by
    rw [List.map_cons, List.map_cons, PyData.eqvAll, eqv_strs (xs := xs)]
    by_cases h1 : x = y
    · by_cases h2 : xs = ys
      · subst h1 h2
        simp [PyData.eqv]
      · simp [PyData.eqv, h2]
    · simp [PyData.eqv, h1]
theorem eq_strs {xs ys : List Str} (h1 : ∀ l ∈ xs, nmB l = true) (h2 : ∀ l ∈ ys, nmB l = true) : eqP (.list (xs.map .str)) (.list (ys.map .str)) = some (decide (xs = ys)) := by
  cases ys with
  | nil => cases xs <;> rfl
  | cons y ys =>
    have c1 : PyData.canLay0 (.list (xs.map .str)) = true := by rw [PyData.canLay0]; exact lay_strs h1
    have c2 : PyData.canLay0 (.list ((y :: ys).map .str)) = true := by rw [PyData.canLay0]; exact lay_strs h2
    have d1 : PyData.depth (.list (xs.map .str)) = 1 := by rw [PyData.depth, dep_strs]
    have e : eqP (.list (xs.map .str)) (.list ((y :: ys).map .str)) = if (PyData.list (xs.map .str)).canLay0 && (PyData.list ((y :: ys).map .str)).canLay0 && decide (min (PyData.list (xs.map .str)).depth (PyData.list ((y :: ys).map .str)).depth ≤ 64) then some (PyData.eqv (.list (xs.map .str)) (.list ((y :: ys).map .str))) else none := rfl
    rw [e, c1, c2, d1]
    have : min 1 (PyData.list ((y :: ys).map .str)).depth ≤ 64 := by omega
    rw [decide_eq_true this]
    rw [PyData.eqv, eqv_strs]
    rfl
/-! ### sorted(dict(..)) -/
def mkT (l : Str) : Key × U := (.inr l, .d (.bool true))
theorem pairs_mk : ∀ {ls : List Str}, pairsK (ls.map fun l => .tuple [.str l, .bool true]) = some (ls.map mkT)
  | [] => rfl
  | l :: ls => by
    rw [List.map_cons, List.map_cons, pairsK]
    simp only [asKey, pairs_mk (ls := ls)]
    rfl
theorem put_mk {acc : List Str} {l : Str} : putU (acc.map mkT) (.inr l) (.d (.bool true)) = (if l ∈ acc then acc else acc ++ [l]).map mkT := by
  unfold putU
  have e : ((acc.map mkT).any fun kv => decide (kv.1 = (.inr l : Key))) = true ↔ l ∈ acc := by
    rw [List.any_map, List.any_eq_true]
    constructor
    · rintro ⟨x, hx, h⟩
      have : (Sum.inr x : Key) = .inr l := by simpa [mkT] using h
      cases this
      exact hx
    · intro h
      exact ⟨l, h, by simp [mkT]⟩
  by_cases h : l ∈ acc
  · rw [if_pos (e.mpr h), if_pos h, List.map_map]
    refine List.map_congr_left fun x hx => ?_
    simp only [Function.comp]
    unfold mkT
    by_cases hx : (Sum.inr x : Key) = .inr l
    · cases hx; simp
    · simp [hx]
  · rw [if_neg (fun z => h (e.mp z)), if_neg h, List.map_append]
    rfl
theorem putAll_mk : ∀ {ls acc : List Str}, putAllU (acc.map mkT) (ls.map mkT) = (ddp acc ls).map mkT
  | [], acc => rfl
  | l :: ls, acc => by
    rw [List.map_cons, show mkT l = (.inr l, .d (.bool true)) from rfl, putAllU, put_mk, ddp]
    split
    · exact putAll_mk
    · exact putAll_mk
theorem purs_mk : ∀ {ls : List Str}, purs (ls.map mkT) = some (ls.map fun l => (.str l, .bool true))
  | [] => rfl
  | l :: ls => by
    rw [List.map_cons, show mkT l = (.inr l, .d (.bool true)) from rfl, purs, purs_mk (ls := ls)]
    rfl
theorem askeys_mk : ∀ {ls : List Str}, asKeys (ls.map .str) = some (ls.map .inr)
  | [] => rfl
  | l :: ls => by
    rw [List.map_cons, asKeys, askeys_mk (ls := ls)]
    rfl
theorem texts_mk : ∀ {ls : List Str}, textsP (ls.map .str) = some ls
  | [] => rfl
  | l :: ls => by
    rw [List.map_cons, textsP, texts_mk (ls := ls)]
    rfl
theorem dict_mk {A : Hs} {ls : List Str} : biDict A [.d (.list (ls.map fun l => .tuple [.str l, .bool true]))] = some (.new (.dK ((ddp [] ls).map mkT))) := by
  have e : biDict A [.d (.list (ls.map fun l => .tuple [.str l, .bool true]))] = (pairsK (ls.map fun l => .tuple [.str l, .bool true])).map fun kvs => .new (.dK (putAllU [] kvs)) := rfl
  rw [e, pairs_mk, Option.map_some]
  congr
  exact putAll_mk (acc := [])
theorem val_mk {ls : List Str} : toVal (.new (.dK (ls.map mkT))) = some (.d (.dict (ls.map fun l => (.str l, .bool true)))) := by
  show (purs (ls.map mkT)).map _ = _
  rw [purs_mk]
  rfl
theorem sorted_mk {A : Hs} {ls : List Str} (h : ls.length < 64) : biSorted A [.d (.dict (ls.map fun l => (.str l, .bool true)))] = some (.new (.lst ((sortT ls).map .str))) := by
  have e : keysOf A (.d (.dict (ls.map fun l => (.str l, .bool true)))) = some (ls.map .inr) := by
    show asKeys ((ls.map fun l => (PyData.str l, PyData.bool true)).map (·.1)) = _
    rw [List.map_map]
    exact askeys_mk
  have t : textsP ((ls.map (Sum.inr : Str → Key)).map keyP) = some ls := by
    rw [List.map_map]
    exact texts_mk
  unfold biSorted
  simp only [e, t, Option.bind_some, h, if_true]
theorem labs_cons {p : PyData} {ps : List PyData} {zs : List Str} (h : labs (p :: ps) = some zs) : ∃ l v ys, p = .tuple [.str l, v] ∧ nmB l = true ∧ labs ps = some ys ∧ zs = l :: ys := by
  unfold labs at h
  split at h
  · rename_i e
    cases e
  · rename_i e
    cases e
    split at h
    · rename_i hl
      obtain ⟨ys, e, rfl⟩ := Option.map_eq_some_iff.mp h
      exact ⟨_, _, ys, rfl, hl, e, rfl⟩
    · cases h
  · cases h
theorem labs_nm : ∀ {ps : List PyData} {zs : List Str}, labs ps = some zs → zs.length = ps.length ∧ ∀ l ∈ zs, nmB l = true
  | [], zs, h => by
    cases h
    exact ⟨rfl, fun l hl => by cases hl⟩
  | p :: ps, zs, h => by
    obtain ⟨l, v, ys, rfl, hl, e, rfl⟩ := labs_cons h
    obtain ⟨h1, h2⟩ := labs_nm e
    refine ⟨by simp [h1], fun x hx => ?_⟩
    rcases List.mem_cons.mp hx with rfl | hx
    · exact hl
    · exact h2 x hx
theorem ddp_len : ∀ {ls acc : List Str}, (ddp acc ls).length ≤ acc.length + ls.length
  | [], acc => by simp [ddp]
  | l :: ls, acc => by
    unfold ddp
    split
    · have := ddp_len (ls := ls) (acc := acc)
      simp only [List.length_cons]
      omega
    · have := ddp_len (ls := ls) (acc := acc ++ [l])
      simp only [List.length_cons, List.length_append, List.length_nil] at *
      omega
theorem ddp_mem : ∀ {ls acc : List Str} {x : Str}, x ∈ ddp acc ls → x ∈ acc ∨ x ∈ ls
  | [], acc, x, h => .inl h
  | l :: ls, acc, x, h => by
    unfold ddp at h
    split at h
    · rcases ddp_mem h with z | z
      · exact .inl z
      · exact .inr (by simp [z])
    · rcases ddp_mem h with z | z
      · rcases List.mem_append.mp z with y | y
        · exact .inl y
        · exact .inr (by simp [List.mem_singleton.mp y])
      · exact .inr (by simp [z])
theorem lareFields_q (g : GenL P) (hA : Cl A) {p : PyData} (hs : smP 60 p = true) : wq (callN P (n + 2) "_law_are_fields" [.d p]) A Φ E = Φ (.val (.d (.bool (fieldsB p)))) A := by
  rw [wq_call g.areFields rfl]
  simp only [fLAreFields, b__law_are_fields]
  rw [z_cons]
  cases p with
  | tuple ps =>
    have hw := smP_tup.mp hs
    simp only [BQ, q_ife, BZ, BO, BV, BL, tyN, mTy, List.replicate, List.getElem?_cons_zero, List.getElem?_cons_succ, List.set_cons_zero, List.set_cons_succ, List.map_cons, List.map_nil, List.cons_append, List.nil_append, List.all_cons, List.all_nil, Option.map_some, Option.map_none, Option.bind_some, Option.bind_none, if_true, if_false, ite_true, ite_false, List.length_cons, List.length_nil, ite_self, Nat.reduceAdd, Nat.reduceLeDiff, Nat.reduceLT, Nat.reduceMul, Int.reduceLT, Int.reduceLE, Int.reduceNeg, Int.reduceAdd, Int.reduceSub, Int.reduceMul, Int.reducePow, Int.reduceEq, y_isT, isT]
    rw [z_cons]
    simp only [BQ, q_ife, BZ, BO, BV, BL, tyN, mTy, List.replicate, List.getElem?_cons_zero, List.getElem?_cons_succ, List.set_cons_zero, List.set_cons_succ, List.map_cons, List.map_nil, List.cons_append, List.nil_append, List.all_cons, List.all_nil, Option.map_some, Option.map_none, Option.bind_some, Option.bind_none, if_true, if_false, ite_true, ite_false, List.length_cons, List.length_nil, ite_self, Nat.reduceAdd, Nat.reduceLeDiff, Nat.reduceLT, Nat.reduceMul, Int.reduceLT, Int.reduceLE, Int.reduceNeg, Int.reduceAdd, Int.reduceSub, Int.reduceMul, Int.reducePow, Int.reduceEq]
    rw [z_cons]
    simp only [BQ, q_ife, BZ, BO, BV, BL, tyN, mTy, List.replicate, List.getElem?_cons_zero, List.getElem?_cons_succ, List.set_cons_zero, List.set_cons_succ, List.map_cons, List.map_nil, List.cons_append, List.nil_append, List.all_cons, List.all_nil, Option.map_some, Option.map_none, Option.bind_some, Option.bind_none, if_true, if_false, ite_true, ite_false, List.length_cons, List.length_nil, ite_self, Nat.reduceAdd, Nat.reduceLeDiff, Nat.reduceLT, Nat.reduceMul, Int.reduceLT, Int.reduceLE, Int.reduceNeg, Int.reduceAdd, Int.reduceSub, Int.reduceMul, Int.reducePow, Int.reduceEq]
    refine Eq.trans (lareFields_loop (n := n) g hA (ps := ps) (ls := []) (w := 60) (K := fun zs => Φ (.val (.d (.bool (decide (zs = sortT (ddp [] zs)))))) A) (fun x zs hz hm => ?_) hw.2 (by simp only [List.length_nil]; omega) (fun l hl => by cases hl)) ?_
    · have hd := ddp_len (ls := zs) (acc := [])
      simp only [List.length_nil] at hd
      have hdl : (ddp [] zs).length < 64 := by omega
      rw [z_cons]
      simp only [BQ, q_ife, BZ, BO, BV, BL, tyN, mTy, List.replicate, List.getElem?_cons_zero, List.getElem?_cons_succ, List.set_cons_zero, List.set_cons_succ, List.map_cons, List.map_nil, List.cons_append, List.nil_append, List.all_cons, List.all_nil, Option.map_some, Option.map_none, Option.bind_some, Option.bind_none, if_true, if_false, ite_true, ite_false, List.length_cons, List.length_nil, ite_self, Nat.reduceAdd, Nat.reduceLeDiff, Nat.reduceLT, Nat.reduceMul, Int.reduceLT, Int.reduceLE, Int.reduceNeg, Int.reduceAdd, Int.reduceSub, Int.reduceMul, Int.reducePow, Int.reduceEq, w_obj app_get]
      rw [lc_mapS (h := PyData.str) (g := fun l => .tuple [.str l, .bool true]) (by simp [still])]
      · simp only [BQ, q_ife, BZ, BO, BV, BL, tyN, mTy, List.replicate, List.getElem?_cons_zero, List.getElem?_cons_succ, List.set_cons_zero, List.set_cons_succ, List.map_cons, List.map_nil, List.cons_append, List.nil_append, List.all_cons, List.all_nil, Option.map_some, Option.map_none, Option.bind_some, Option.bind_none, if_true, if_false, ite_true, ite_false, List.length_cons, List.length_nil, ite_self, Nat.reduceAdd, Nat.reduceLeDiff, Nat.reduceLT, Nat.reduceMul, Int.reduceLT, Int.reduceLE, Int.reduceNeg, Int.reduceAdd, Int.reduceSub, Int.reduceMul, Int.reducePow, Int.reduceEq, dict_mk, val_mk, sorted_mk hdl, o_eqO app_get, List.length_map]
        rw [eq_strs hm fun l hl => ?_]
        · simp only [BQ, q_ife, BZ, BO, BV, BL, tyN, mTy, List.replicate, List.getElem?_cons_zero, List.getElem?_cons_succ, List.set_cons_zero, List.set_cons_succ, List.map_cons, List.map_nil, List.cons_append, List.nil_append, List.all_cons, List.all_nil, Option.map_some, Option.map_none, Option.bind_some, Option.bind_none, if_true, if_false, ite_true, ite_false, List.length_cons, List.length_nil, ite_self, Nat.reduceAdd, Nat.reduceLeDiff, Nat.reduceLT, Nat.reduceMul, Int.reduceLT, Int.reduceLE, Int.reduceNeg, Int.reduceAdd, Int.reduceSub, Int.reduceMul, Int.reducePow, Int.reduceEq, leave_app hA]
          rw [eq_true (show zs.length ≤ 16777216 by omega), true_and]
        · have hp := (List.mergeSort_perm (ddp [] zs) leT).mem_iff.mp (show l ∈ (ddp [] zs).mergeSort leT from hl)
          rcases ddp_mem hp with z | z
          · cases z
          · exact hm l z
      · intro l hl Φ
        simp only [BQ, q_ife, BZ, BO, BV, BL, tyN, mTy, List.replicate, List.getElem?_cons_zero, List.getElem?_cons_succ, List.set_cons_zero, List.set_cons_succ, List.map_cons, List.map_nil, List.cons_append, List.nil_append, List.all_cons, List.all_nil, Option.map_some, Option.map_none, Option.bind_some, Option.bind_none, if_true, if_false, ite_true, ite_false, List.length_cons, List.length_nil, ite_self, Nat.reduceAdd, Nat.reduceLeDiff, Nat.reduceLT, Nat.reduceMul, Int.reduceLT, Int.reduceLE, Int.reduceNeg, Int.reduceAdd, Int.reduceSub, Int.reduceMul, Int.reducePow, Int.reduceEq]
    · show _ = Φ (.val (.d (.bool (fldsB (Str.ofString "") ps)))) A
      unfold fldsB
      cases hl : labs ps with
      | none => rfl
      | some zs =>
        obtain ⟨h1, h2⟩ := labs_nm hl
        simp only [List.nil_append]
        rw [ris_sort fun l hl => (nmB_iff.mp (h2 l hl)).1]
  | _ =>
    simp only [BQ, q_ife, BZ, BO, BV, BL, tyN, mTy, List.replicate, List.getElem?_cons_zero, List.getElem?_cons_succ, List.set_cons_zero, List.set_cons_succ, List.map_cons, List.map_nil, List.cons_append, List.nil_append, List.all_cons, List.all_nil, Option.map_some, Option.map_none, Option.bind_some, Option.bind_none, if_true, if_false, ite_true, ite_false, List.length_cons, List.length_nil, ite_self, Nat.reduceAdd, Nat.reduceLeDiff, Nat.reduceLT, Nat.reduceMul, Int.reduceLT, Int.reduceLE, Int.reduceNeg, Int.reduceAdd, Int.reduceSub, Int.reduceMul, Int.reducePow, Int.reduceEq, y_isT, isT]
    rw [z_cons]
    simp only [BQ, q_ife, BZ, BO, BV, BL, tyN, mTy, List.replicate, List.getElem?_cons_zero, List.getElem?_cons_succ, List.set_cons_zero, List.set_cons_succ, List.map_cons, List.map_nil, List.cons_append, List.nil_append, List.all_cons, List.all_nil, Option.map_some, Option.map_none, Option.bind_some, Option.bind_none, if_true, if_false, ite_true, ite_false, List.length_cons, List.length_nil, ite_self, Nat.reduceAdd, Nat.reduceLeDiff, Nat.reduceLT, Nat.reduceMul, Int.reduceLT, Int.reduceLE, Int.reduceNeg, Int.reduceAdd, Int.reduceSub, Int.reduceMul, Int.reducePow, Int.reduceEq, leave_self hA]
    rfl
end
end Kg
set_option Elab.async false
set_option linter.all false
set_option maxRecDepth 100000
set_option maxHeartbeats 1000000
/-! KgD: forms, the parts right within. -/
namespace Kg
open PySem L2 Mi TL
def lenOf (t : Str) : Int := if ("any" : Str) = t then 1 else if ("none" : Str) = t then 1 else if ("names" : Str) = t then 1 else if ("name" : Str) = t then 2 else if ("rec" : Str) = t then 2 else if ("not" : Str) = t then 2 else if ("num" : Str) = t then 3 else if ("fun" : Str) = t then 3 else if ("and" : Str) = t then 3 else if ("or" : Str) = t then 3 else 0
def formR (t : Str) (r : List PyData) : Bool :=
  if ("num" : Str) = t then (match r with | [a, b] => numB a b | _ => false)
  else if ("name" : Str) = t then (match r with | [a] => isNmB a | _ => false)
  else if ("rec" : Str) = t then (match r with | [a] => fieldsB a | _ => false)
  else true
def formB : PyData → Bool
  | .tuple (.str t :: r) => decide (((r.length + 1 : Nat) : Int) = lenOf t) && formR t r
  | _ => false
theorem look_cons {β : Type} {t a : Str} {v : β} {r : List (Str × β)} : List.lookup t ((a, v) :: r) = if a = t then some v else List.lookup t r := by
  rw [List.lookup_cons]
  by_cases h : a = t
  · subst h; simp
  · have : (t == a) = false := by simpa using Ne.symm h
    rw [this, if_neg h]
theorem valK_cons {a t : Str} {v : U} {r : List (Key × U)} : valK ((.inr a, v) :: r) (.inr t) = if a = t then some v else valK r (.inr t) := by
  unfold valK
  rw [List.find?_cons]
  by_cases h : a = t
  · subst h; simp
  · have : decide ((Sum.inr a : Key) = .inr t) = false := by simpa using h
    simp [this, h]
abbrev lawLens : List (Key × U) := [(.inr "any", .d (.int 1)), (.inr "none", .d (.int 1)), (.inr "names", .d (.int 1)), (.inr "name", .d (.int 2)), (.inr "rec", .d (.int 2)), (.inr "not", .d (.int 2)), (.inr "num", .d (.int 3)), (.inr "fun", .d (.int 3)), (.inr "and", .d (.int 3)), (.inr "or", .d (.int 3))]
theorem lens_law {t : Str} : (valK lawLens (.inr t)).getD (.d (.int 0)) = .d (.int (lenOf t)) := by
  unfold lenOf lawLens
  simp only [valK_cons]
  repeat (split; · rfl)
  rfl
theorem lens_prog {t : Str} : ((List.lookup t lensT).map U.d).getD (.d (.int 0)) = .d (.int (lenOf t)) := by
  unfold lensT
  simp only [look_cons]
  by_cases h1 : ("any" : Str) = t
  · subst h1; rfl
  by_cases h2 : ("none" : Str) = t
  · subst h2; rfl
  by_cases h3 : ("names" : Str) = t
  · subst h3; rfl
  by_cases h4 : ("name" : Str) = t
  · subst h4; rfl
  by_cases h5 : ("rec" : Str) = t
  · subst h5; rfl
  by_cases h6 : ("not" : Str) = t
  · subst h6; rfl
  by_cases h7 : ("num" : Str) = t
  · subst h7; rfl
  by_cases h8 : ("fun" : Str) = t
  · subst h8; rfl
  by_cases h9 : ("and" : Str) = t
  · subst h9; rfl
  by_cases h10 : ("or" : Str) = t
  · subst h10; rfl
  simp only [h1, h2, h3, h4, h5, h6, h7, h8, h9, h10, if_false, lenOf]
  rfl
section
variable {P : Pr} {n w : Nat} {A : Hs} {Φ : R → Hs → Prop} {E : Str → List (Str × PyData) → Hs → Prop}
theorem hasForm_q (g : GenP P) (hA : Cl A) {p : PyData} (hs : smP w p = true) : wq (callN P (n + 4) "has_form" [.d p]) A Φ E = Φ (.val (.d (.bool (formB p)))) A := by
  rw [wq_call g.hasForm rfl]
  simp only [fHasForm, b_has_form]
  rw [z_cons]
  cases p with
  | tuple ps =>
    have hw := (smP_tup.mp hs).2
    match ps, hw with
    | [], _ =>
      simp only [BQ, q_ife, BZ, BO, BV, BL, tyN, mTy, List.replicate, List.getElem?_cons_zero, List.getElem?_cons_succ, List.set_cons_zero, List.set_cons_succ, List.map_cons, List.map_nil, List.cons_append, List.nil_append, List.all_cons, List.all_nil, Option.map_some, Option.map_none, Option.bind_some, Option.bind_none, if_true, if_false, ite_true, ite_false, List.length_cons, List.length_nil, ite_self, Nat.reduceAdd, Nat.reduceLeDiff, Nat.reduceLT, Nat.reduceMul, Int.reduceLT, Int.reduceLE, Int.reduceNeg, Int.reduceAdd, Int.reduceSub, Int.reduceMul, Int.reducePow, Int.reduceEq, y_isT, isT]
      rw [z_cons]
      simp only [BQ, q_ife, BZ, BO, BV, BL, tyN, mTy, List.replicate, List.getElem?_cons_zero, List.getElem?_cons_succ, List.set_cons_zero, List.set_cons_succ, List.map_cons, List.map_nil, List.cons_append, List.nil_append, List.all_cons, List.all_nil, Option.map_some, Option.map_none, Option.bind_some, Option.bind_none, if_true, if_false, ite_true, ite_false, List.length_cons, List.length_nil, ite_self, Nat.reduceAdd, Nat.reduceLeDiff, Nat.reduceLT, Nat.reduceMul, Int.reduceLT, Int.reduceLE, Int.reduceNeg, Int.reduceAdd, Int.reduceSub, Int.reduceMul, Int.reducePow, Int.reduceEq, leave_self hA]
      rfl
    | q :: r, hw =>
      have h1 : ¬ ((r.length + 1 : Nat) : Int) = 0 := by omega
      simp only [BQ, q_ife, BZ, BO, BV, BL, tyN, mTy, List.replicate, List.getElem?_cons_zero, List.getElem?_cons_succ, List.set_cons_zero, List.set_cons_succ, List.map_cons, List.map_nil, List.cons_append, List.nil_append, List.all_cons, List.all_nil, Option.map_some, Option.map_none, Option.bind_some, Option.bind_none, if_true, if_false, ite_true, ite_false, List.length_cons, List.length_nil, ite_self, Nat.reduceAdd, Nat.reduceLeDiff, Nat.reduceLT, Nat.reduceMul, Int.reduceLT, Int.reduceLE, Int.reduceNeg, Int.reduceAdd, Int.reduceSub, Int.reduceMul, Int.reducePow, Int.reduceEq, y_isT, isT, at0, y_isS, h1]
      cases q with
      | str t =>
        simp only [BQ, q_ife, BZ, BO, BV, BL, tyN, mTy, List.replicate, List.getElem?_cons_zero, List.getElem?_cons_succ, List.set_cons_zero, List.set_cons_succ, List.map_cons, List.map_nil, List.cons_append, List.nil_append, List.all_cons, List.all_nil, Option.map_some, Option.map_none, Option.bind_some, Option.bind_none, if_true, if_false, ite_true, ite_false, List.length_cons, List.length_nil, ite_self, Nat.reduceAdd, Nat.reduceLeDiff, Nat.reduceLT, Nat.reduceMul, Int.reduceLT, Int.reduceLE, Int.reduceNeg, Int.reduceAdd, Int.reduceSub, Int.reduceMul, Int.reducePow, Int.reduceEq, isS]
        rw [z_cons]
        simp only [BQ, q_ife, BZ, BO, BV, BL, tyN, mTy, List.replicate, List.getElem?_cons_zero, List.getElem?_cons_succ, List.set_cons_zero, List.set_cons_succ, List.map_cons, List.map_nil, List.cons_append, List.nil_append, List.all_cons, List.all_nil, Option.map_some, Option.map_none, Option.bind_some, Option.bind_none, if_true, if_false, ite_true, ite_false, List.length_cons, List.length_nil, ite_self, Nat.reduceAdd, Nat.reduceLeDiff, Nat.reduceLT, Nat.reduceMul, Int.reduceLT, Int.reduceLE, Int.reduceNeg, Int.reduceAdd, Int.reduceSub, Int.reduceMul, Int.reducePow, Int.reduceEq, at0, g.lens, lens_prog]
        by_cases h2 : ((r.length + 1 : Nat) : Int) = lenOf t
        · simp only [BQ, q_ife, BZ, BO, BV, BL, tyN, mTy, List.replicate, List.getElem?_cons_zero, List.getElem?_cons_succ, List.set_cons_zero, List.set_cons_succ, List.map_cons, List.map_nil, List.cons_append, List.nil_append, List.all_cons, List.all_nil, Option.map_some, Option.map_none, Option.bind_some, Option.bind_none, if_true, if_false, ite_true, ite_false, List.length_cons, List.length_nil, ite_self, Nat.reduceAdd, Nat.reduceLeDiff, Nat.reduceLT, Nat.reduceMul, Int.reduceLT, Int.reduceLE, Int.reduceNeg, Int.reduceAdd, Int.reduceSub, Int.reduceMul, Int.reducePow, Int.reduceEq, h2]
          have ef : formB (.tuple (.str t :: r)) = formR t r := by
            show (decide _ && _) = _
            rw [decide_eq_true h2]
            rfl
          rw [ef, z_cons]
          simp only [BQ, q_ife, BZ, BO, BV, BL, tyN, mTy, List.replicate, List.getElem?_cons_zero, List.getElem?_cons_succ, List.set_cons_zero, List.set_cons_succ, List.map_cons, List.map_nil, List.cons_append, List.nil_append, List.all_cons, List.all_nil, Option.map_some, Option.map_none, Option.bind_some, Option.bind_none, if_true, if_false, ite_true, ite_false, List.length_cons, List.length_nil, ite_self, Nat.reduceAdd, Nat.reduceLeDiff, Nat.reduceLT, Nat.reduceMul, Int.reduceLT, Int.reduceLE, Int.reduceNeg, Int.reduceAdd, Int.reduceSub, Int.reduceMul, Int.reducePow, Int.reduceEq, at0]
          by_cases t1 : t = ("num" : Str)
          · subst t1
            match r, h2, hw with
            | [a, b], _, hw =>
              simp only [BQ, q_ife, BZ, BO, BV, BL, tyN, mTy, List.replicate, List.getElem?_cons_zero, List.getElem?_cons_succ, List.set_cons_zero, List.set_cons_succ, List.map_cons, List.map_nil, List.cons_append, List.nil_append, List.all_cons, List.all_nil, Option.map_some, Option.map_none, Option.bind_some, Option.bind_none, if_true, if_false, ite_true, ite_false, List.length_cons, List.length_nil, ite_self, Nat.reduceAdd, Nat.reduceLeDiff, Nat.reduceLT, Nat.reduceMul, Int.reduceLT, Int.reduceLE, Int.reduceNeg, Int.reduceAdd, Int.reduceSub, Int.reduceMul, Int.reducePow, Int.reduceEq]
              rw [z_cons]
              simp only [BQ, q_ife, BZ, BO, BV, BL, tyN, mTy, List.replicate, List.getElem?_cons_zero, List.getElem?_cons_succ, List.set_cons_zero, List.set_cons_succ, List.map_cons, List.map_nil, List.cons_append, List.nil_append, List.all_cons, List.all_nil, Option.map_some, Option.map_none, Option.bind_some, Option.bind_none, if_true, if_false, ite_true, ite_false, List.length_cons, List.length_nil, ite_self, Nat.reduceAdd, Nat.reduceLeDiff, Nat.reduceLT, Nat.reduceMul, Int.reduceLT, Int.reduceLE, Int.reduceNeg, Int.reduceAdd, Int.reduceSub, Int.reduceMul, Int.reducePow, Int.reduceEq, at1, at2, areBounds_q g hA, leave_self hA]
              rfl
            | [], h2, _ => exact absurd h2 (by decide)
            | [_], h2, _ =>
              have e : lenOf ("num" : Str) = 3 := by decide
              simp only [e, List.length_cons, List.length_nil] at h2
              omega
            | _ :: _ :: _ :: r, h2, _ =>
              have e : lenOf ("num" : Str) = 3 := by decide
              simp only [e, List.length_cons] at h2
              omega
          · simp only [BQ, q_ife, BZ, BO, BV, BL, tyN, mTy, List.replicate, List.getElem?_cons_zero, List.getElem?_cons_succ, List.set_cons_zero, List.set_cons_succ, List.map_cons, List.map_nil, List.cons_append, List.nil_append, List.all_cons, List.all_nil, Option.map_some, Option.map_none, Option.bind_some, Option.bind_none, if_true, if_false, ite_true, ite_false, List.length_cons, List.length_nil, ite_self, Nat.reduceAdd, Nat.reduceLeDiff, Nat.reduceLT, Nat.reduceMul, Int.reduceLT, Int.reduceLE, Int.reduceNeg, Int.reduceAdd, Int.reduceSub, Int.reduceMul, Int.reducePow, Int.reduceEq, t1]
            rw [z_cons]
            simp only [BQ, q_ife, BZ, BO, BV, BL, tyN, mTy, List.replicate, List.getElem?_cons_zero, List.getElem?_cons_succ, List.set_cons_zero, List.set_cons_succ, List.map_cons, List.map_nil, List.cons_append, List.nil_append, List.all_cons, List.all_nil, Option.map_some, Option.map_none, Option.bind_some, Option.bind_none, if_true, if_false, ite_true, ite_false, List.length_cons, List.length_nil, ite_self, Nat.reduceAdd, Nat.reduceLeDiff, Nat.reduceLT, Nat.reduceMul, Int.reduceLT, Int.reduceLE, Int.reduceNeg, Int.reduceAdd, Int.reduceSub, Int.reduceMul, Int.reducePow, Int.reduceEq, at0]
            by_cases t2 : t = ("name" : Str)
            · subst t2
              match r, h2, hw with
              | [a], _, hw =>
                simp only [BQ, q_ife, BZ, BO, BV, BL, tyN, mTy, List.replicate, List.getElem?_cons_zero, List.getElem?_cons_succ, List.set_cons_zero, List.set_cons_succ, List.map_cons, List.map_nil, List.cons_append, List.nil_append, List.all_cons, List.all_nil, Option.map_some, Option.map_none, Option.bind_some, Option.bind_none, if_true, if_false, ite_true, ite_false, List.length_cons, List.length_nil, ite_self, Nat.reduceAdd, Nat.reduceLeDiff, Nat.reduceLT, Nat.reduceMul, Int.reduceLT, Int.reduceLE, Int.reduceNeg, Int.reduceAdd, Int.reduceSub, Int.reduceMul, Int.reducePow, Int.reduceEq]
                rw [z_cons]
                simp only [BQ, q_ife, BZ, BO, BV, BL, tyN, mTy, List.replicate, List.getElem?_cons_zero, List.getElem?_cons_succ, List.set_cons_zero, List.set_cons_succ, List.map_cons, List.map_nil, List.cons_append, List.nil_append, List.all_cons, List.all_nil, Option.map_some, Option.map_none, Option.bind_some, Option.bind_none, if_true, if_false, ite_true, ite_false, List.length_cons, List.length_nil, ite_self, Nat.reduceAdd, Nat.reduceLeDiff, Nat.reduceLT, Nat.reduceMul, Int.reduceLT, Int.reduceLE, Int.reduceNeg, Int.reduceAdd, Int.reduceSub, Int.reduceMul, Int.reducePow, Int.reduceEq, at1, isName_q g hA (smP_str (hw a (by simp))), leave_self hA]
                rfl
              | [], h2, _ => exact absurd h2 (by decide)
              | _ :: _ :: r, h2, _ =>
                have e : lenOf ("name" : Str) = 2 := by decide
                simp only [e, List.length_cons] at h2
                omega
            · simp only [BQ, q_ife, BZ, BO, BV, BL, tyN, mTy, List.replicate, List.getElem?_cons_zero, List.getElem?_cons_succ, List.set_cons_zero, List.set_cons_succ, List.map_cons, List.map_nil, List.cons_append, List.nil_append, List.all_cons, List.all_nil, Option.map_some, Option.map_none, Option.bind_some, Option.bind_none, if_true, if_false, ite_true, ite_false, List.length_cons, List.length_nil, ite_self, Nat.reduceAdd, Nat.reduceLeDiff, Nat.reduceLT, Nat.reduceMul, Int.reduceLT, Int.reduceLE, Int.reduceNeg, Int.reduceAdd, Int.reduceSub, Int.reduceMul, Int.reducePow, Int.reduceEq, t2]
              rw [z_cons]
              simp only [BQ, q_ife, BZ, BO, BV, BL, tyN, mTy, List.replicate, List.getElem?_cons_zero, List.getElem?_cons_succ, List.set_cons_zero, List.set_cons_succ, List.map_cons, List.map_nil, List.cons_append, List.nil_append, List.all_cons, List.all_nil, Option.map_some, Option.map_none, Option.bind_some, Option.bind_none, if_true, if_false, ite_true, ite_false, List.length_cons, List.length_nil, ite_self, Nat.reduceAdd, Nat.reduceLeDiff, Nat.reduceLT, Nat.reduceMul, Int.reduceLT, Int.reduceLE, Int.reduceNeg, Int.reduceAdd, Int.reduceSub, Int.reduceMul, Int.reducePow, Int.reduceEq, at0]
              by_cases t3 : t = ("rec" : Str)
              · subst t3
                match r, h2, hw with
                | [a], _, hw =>
                  simp only [BQ, q_ife, BZ, BO, BV, BL, tyN, mTy, List.replicate, List.getElem?_cons_zero, List.getElem?_cons_succ, List.set_cons_zero, List.set_cons_succ, List.map_cons, List.map_nil, List.cons_append, List.nil_append, List.all_cons, List.all_nil, Option.map_some, Option.map_none, Option.bind_some, Option.bind_none, if_true, if_false, ite_true, ite_false, List.length_cons, List.length_nil, ite_self, Nat.reduceAdd, Nat.reduceLeDiff, Nat.reduceLT, Nat.reduceMul, Int.reduceLT, Int.reduceLE, Int.reduceNeg, Int.reduceAdd, Int.reduceSub, Int.reduceMul, Int.reducePow, Int.reduceEq, at1, areFields_q g hA (hw a (by simp)), leave_self hA]
                  rfl
                | [], h2, _ => exact absurd h2 (by decide)
                | _ :: _ :: r, h2, _ =>
                  have e : lenOf ("rec" : Str) = 2 := by decide
                  simp only [e, List.length_cons] at h2
                  omega
              · simp only [BQ, q_ife, BZ, BO, BV, BL, tyN, mTy, List.replicate, List.getElem?_cons_zero, List.getElem?_cons_succ, List.set_cons_zero, List.set_cons_succ, List.map_cons, List.map_nil, List.cons_append, List.nil_append, List.all_cons, List.all_nil, Option.map_some, Option.map_none, Option.bind_some, Option.bind_none, if_true, if_false, ite_true, ite_false, List.length_cons, List.length_nil, ite_self, Nat.reduceAdd, Nat.reduceLeDiff, Nat.reduceLT, Nat.reduceMul, Int.reduceLT, Int.reduceLE, Int.reduceNeg, Int.reduceAdd, Int.reduceSub, Int.reduceMul, Int.reducePow, Int.reduceEq, t3, leave_self hA]
                unfold formR
                rw [if_neg (Ne.symm t1), if_neg (Ne.symm t2), if_neg (Ne.symm t3)]
        · simp only [BQ, q_ife, BZ, BO, BV, BL, tyN, mTy, List.replicate, List.getElem?_cons_zero, List.getElem?_cons_succ, List.set_cons_zero, List.set_cons_succ, List.map_cons, List.map_nil, List.cons_append, List.nil_append, List.all_cons, List.all_nil, Option.map_some, Option.map_none, Option.bind_some, Option.bind_none, if_true, if_false, ite_true, ite_false, List.length_cons, List.length_nil, ite_self, Nat.reduceAdd, Nat.reduceLeDiff, Nat.reduceLT, Nat.reduceMul, Int.reduceLT, Int.reduceLE, Int.reduceNeg, Int.reduceAdd, Int.reduceSub, Int.reduceMul, Int.reducePow, Int.reduceEq, h2]
          rw [z_cons]
          simp only [BQ, q_ife, BZ, BO, BV, BL, tyN, mTy, List.replicate, List.getElem?_cons_zero, List.getElem?_cons_succ, List.set_cons_zero, List.set_cons_succ, List.map_cons, List.map_nil, List.cons_append, List.nil_append, List.all_cons, List.all_nil, Option.map_some, Option.map_none, Option.bind_some, Option.bind_none, if_true, if_false, ite_true, ite_false, List.length_cons, List.length_nil, ite_self, Nat.reduceAdd, Nat.reduceLeDiff, Nat.reduceLT, Nat.reduceMul, Int.reduceLT, Int.reduceLE, Int.reduceNeg, Int.reduceAdd, Int.reduceSub, Int.reduceMul, Int.reducePow, Int.reduceEq, leave_self hA]
          congr
          show false = (decide _ && _)
          rw [decide_eq_false h2]
          rfl
      | _ =>
        simp only [BQ, q_ife, BZ, BO, BV, BL, tyN, mTy, List.replicate, List.getElem?_cons_zero, List.getElem?_cons_succ, List.set_cons_zero, List.set_cons_succ, List.map_cons, List.map_nil, List.cons_append, List.nil_append, List.all_cons, List.all_nil, Option.map_some, Option.map_none, Option.bind_some, Option.bind_none, if_true, if_false, ite_true, ite_false, List.length_cons, List.length_nil, ite_self, Nat.reduceAdd, Nat.reduceLeDiff, Nat.reduceLT, Nat.reduceMul, Int.reduceLT, Int.reduceLE, Int.reduceNeg, Int.reduceAdd, Int.reduceSub, Int.reduceMul, Int.reducePow, Int.reduceEq, isS]
        rw [z_cons]
        simp only [BQ, q_ife, BZ, BO, BV, BL, tyN, mTy, List.replicate, List.getElem?_cons_zero, List.getElem?_cons_succ, List.set_cons_zero, List.set_cons_succ, List.map_cons, List.map_nil, List.cons_append, List.nil_append, List.all_cons, List.all_nil, Option.map_some, Option.map_none, Option.bind_some, Option.bind_none, if_true, if_false, ite_true, ite_false, List.length_cons, List.length_nil, ite_self, Nat.reduceAdd, Nat.reduceLeDiff, Nat.reduceLT, Nat.reduceMul, Int.reduceLT, Int.reduceLE, Int.reduceNeg, Int.reduceAdd, Int.reduceSub, Int.reduceMul, Int.reducePow, Int.reduceEq, leave_self hA]
        rfl
  | _ =>
    simp only [BQ, q_ife, BZ, BO, BV, BL, tyN, mTy, List.replicate, List.getElem?_cons_zero, List.getElem?_cons_succ, List.set_cons_zero, List.set_cons_succ, List.map_cons, List.map_nil, List.cons_append, List.nil_append, List.all_cons, List.all_nil, Option.map_some, Option.map_none, Option.bind_some, Option.bind_none, if_true, if_false, ite_true, ite_false, List.length_cons, List.length_nil, ite_self, Nat.reduceAdd, Nat.reduceLeDiff, Nat.reduceLT, Nat.reduceMul, Int.reduceLT, Int.reduceLE, Int.reduceNeg, Int.reduceAdd, Int.reduceSub, Int.reduceMul, Int.reducePow, Int.reduceEq, y_isT, isT]
    rw [z_cons]
    simp only [BQ, q_ife, BZ, BO, BV, BL, tyN, mTy, List.replicate, List.getElem?_cons_zero, List.getElem?_cons_succ, List.set_cons_zero, List.set_cons_succ, List.map_cons, List.map_nil, List.cons_append, List.nil_append, List.all_cons, List.all_nil, Option.map_some, Option.map_none, Option.bind_some, Option.bind_none, if_true, if_false, ite_true, ite_false, List.length_cons, List.length_nil, ite_self, Nat.reduceAdd, Nat.reduceLeDiff, Nat.reduceLT, Nat.reduceMul, Int.reduceLT, Int.reduceLE, Int.reduceNeg, Int.reduceAdd, Int.reduceSub, Int.reduceMul, Int.reducePow, Int.reduceEq, leave_self hA]
    rfl
theorem cut1 {α : Type} {x : α} {xs : List α} : cut (x :: xs) (some 1) none = xs := by
  unfold cut HT.sIx
  simp
theorem get_law {A : Hs} {kvs : List (Key × U)} {t : Str} {u : U} : metO (A ++ [.dK kvs]) "dict.get" (.obj A.length) [.d (.str t), u] = some (.val ((valK kvs (.inr t)).getD u), A ++ [.dK kvs]) := by
  have e : metO (A ++ [.dK kvs]) "dict.get" (.obj A.length) [.d (.str t), u] = (dkAt (A ++ [.dK kvs]) A.length (.str t)).map fun z => (.val (z.getD u), A ++ [.dK kvs]) := rfl
  rw [e]
  unfold dkAt
  simp only [app_get, asKey, Option.map_some]
theorem put_law : putAllU [] (([.inr "any", .inr "none", .inr "names", .inr "name", .inr "rec", .inr "not", .inr "num", .inr "fun", .inr "and", .inr "or"] : List Key).zip [.d (.int 1), .d (.int 1), .d (.int 1), .d (.int 2), .d (.int 2), .d (.int 2), .d (.int 3), .d (.int 3), .d (.int 3), .d (.int 3)]) = lawLens := rfl
abbrev lbBounds : List S := [.iff (.or [(.isi (.v 2) [(.inl "bool")] false), (.and [(.cmp .IsNot (.v 2) (.k .none)), (.not (.isi (.v 2) [(.inl "int")] false))])]) [.ret (some (.k (.bool false)))] [], .iff (.and [(.cmp .IsNot (.v 2) (.k .none)), (.not (.chn .Lt .Lt (.neg (.bin .Pow (.k (.int 10)) (.k (.int 30)))) (.v 2) (.bin .Pow (.k (.int 10)) (.k (.int 30)))))]) [.ret (some (.k (.bool false)))] []]
theorem lbounds_turn {G : Ge} {A : Hs} {o : Ob} (hA : Cl A) {I : Fr → Hs → Prop} {ss : List S} {x y : Option U} {p : PyData} : wS (exs G lbBounds [x, y, some (.d p)] (A ++ [o])) (frK I (sqK G ss (pst false A.length Φ E))) = if bndB p = true then I [x, y, some (.d p)] (A ++ [o]) else Φ (.val (.d (.bool false))) A := by
  rw [lbBounds, z_cons]
  cases p with
  | none =>
    simp only [BQ, q_ife, BZ, BO, BV, BL, tyN, mTy, List.replicate, List.getElem?_cons_zero, List.getElem?_cons_succ, List.set_cons_zero, List.set_cons_succ, List.map_cons, List.map_nil, List.cons_append, List.nil_append, List.all_cons, List.all_nil, Option.map_some, Option.map_none, Option.bind_some, Option.bind_none, if_true, if_false, ite_true, ite_false, List.length_cons, List.length_nil, ite_self, Nat.reduceAdd, Nat.reduceLeDiff, Nat.reduceLT, Nat.reduceMul, Int.reduceLT, Int.reduceLE, Int.reduceNeg, Int.reduceAdd, Int.reduceSub, Int.reduceMul, Int.reducePow, Int.reduceEq, y_isB, y_isI, y_isN, isBo, isI, isN, bndB]
    rw [z_cons]
    simp only [BQ, q_ife, BZ, BO, BV, BL, tyN, mTy, List.replicate, List.getElem?_cons_zero, List.getElem?_cons_succ, List.set_cons_zero, List.set_cons_succ, List.map_cons, List.map_nil, List.cons_append, List.nil_append, List.all_cons, List.all_nil, Option.map_some, Option.map_none, Option.bind_some, Option.bind_none, if_true, if_false, ite_true, ite_false, List.length_cons, List.length_nil, ite_self, Nat.reduceAdd, Nat.reduceLeDiff, Nat.reduceLT, Nat.reduceMul, Int.reduceLT, Int.reduceLE, Int.reduceNeg, Int.reduceAdd, Int.reduceSub, Int.reduceMul, Int.reducePow, Int.reduceEq, y_isN, isN]
  | int i =>
    simp only [BQ, q_ife, BZ, BO, BV, BL, tyN, mTy, List.replicate, List.getElem?_cons_zero, List.getElem?_cons_succ, List.set_cons_zero, List.set_cons_succ, List.map_cons, List.map_nil, List.cons_append, List.nil_append, List.all_cons, List.all_nil, Option.map_some, Option.map_none, Option.bind_some, Option.bind_none, if_true, if_false, ite_true, ite_false, List.length_cons, List.length_nil, ite_self, Nat.reduceAdd, Nat.reduceLeDiff, Nat.reduceLT, Nat.reduceMul, Int.reduceLT, Int.reduceLE, Int.reduceNeg, Int.reduceAdd, Int.reduceSub, Int.reduceMul, Int.reducePow, Int.reduceEq, y_isB, y_isI, y_isN, isBo, isI, isN, bndB]
    rw [z_cons]
    simp only [BQ, q_ife, BZ, BO, BV, BL, tyN, mTy, List.replicate, List.getElem?_cons_zero, List.getElem?_cons_succ, List.set_cons_zero, List.set_cons_succ, List.map_cons, List.map_nil, List.cons_append, List.nil_append, List.all_cons, List.all_nil, Option.map_some, Option.map_none, Option.bind_some, Option.bind_none, if_true, if_false, ite_true, ite_false, List.length_cons, List.length_nil, ite_self, Nat.reduceAdd, Nat.reduceLeDiff, Nat.reduceLT, Nat.reduceMul, Int.reduceLT, Int.reduceLE, Int.reduceNeg, Int.reduceAdd, Int.reduceSub, Int.reduceMul, Int.reducePow, Int.reduceEq, y_isN, isN]
    by_cases h1 : -1000000000000000000000000000000 < i
    · by_cases h2 : i < 1000000000000000000000000000000
      · simp only [BQ, q_ife, BZ, BO, BV, BL, tyN, mTy, List.replicate, List.getElem?_cons_zero, List.getElem?_cons_succ, List.set_cons_zero, List.set_cons_succ, List.map_cons, List.map_nil, List.cons_append, List.nil_append, List.all_cons, List.all_nil, Option.map_some, Option.map_none, Option.bind_some, Option.bind_none, if_true, if_false, ite_true, ite_false, List.length_cons, List.length_nil, ite_self, Nat.reduceAdd, Nat.reduceLeDiff, Nat.reduceLT, Nat.reduceMul, Int.reduceLT, Int.reduceLE, Int.reduceNeg, Int.reduceAdd, Int.reduceSub, Int.reduceMul, Int.reducePow, Int.reduceEq, h1, h2]
      · simp only [BQ, q_ife, BZ, BO, BV, BL, tyN, mTy, List.replicate, List.getElem?_cons_zero, List.getElem?_cons_succ, List.set_cons_zero, List.set_cons_succ, List.map_cons, List.map_nil, List.cons_append, List.nil_append, List.all_cons, List.all_nil, Option.map_some, Option.map_none, Option.bind_some, Option.bind_none, if_true, if_false, ite_true, ite_false, List.length_cons, List.length_nil, ite_self, Nat.reduceAdd, Nat.reduceLeDiff, Nat.reduceLT, Nat.reduceMul, Int.reduceLT, Int.reduceLE, Int.reduceNeg, Int.reduceAdd, Int.reduceSub, Int.reduceMul, Int.reducePow, Int.reduceEq, h1, h2]
        rw [z_cons]
        simp only [BQ, q_ife, BZ, BO, BV, BL, tyN, mTy, List.replicate, List.getElem?_cons_zero, List.getElem?_cons_succ, List.set_cons_zero, List.set_cons_succ, List.map_cons, List.map_nil, List.cons_append, List.nil_append, List.all_cons, List.all_nil, Option.map_some, Option.map_none, Option.bind_some, Option.bind_none, if_true, if_false, ite_true, ite_false, List.length_cons, List.length_nil, ite_self, Nat.reduceAdd, Nat.reduceLeDiff, Nat.reduceLT, Nat.reduceMul, Int.reduceLT, Int.reduceLE, Int.reduceNeg, Int.reduceAdd, Int.reduceSub, Int.reduceMul, Int.reducePow, Int.reduceEq, leave_app hA]
    · simp only [BQ, q_ife, BZ, BO, BV, BL, tyN, mTy, List.replicate, List.getElem?_cons_zero, List.getElem?_cons_succ, List.set_cons_zero, List.set_cons_succ, List.map_cons, List.map_nil, List.cons_append, List.nil_append, List.all_cons, List.all_nil, Option.map_some, Option.map_none, Option.bind_some, Option.bind_none, if_true, if_false, ite_true, ite_false, List.length_cons, List.length_nil, ite_self, Nat.reduceAdd, Nat.reduceLeDiff, Nat.reduceLT, Nat.reduceMul, Int.reduceLT, Int.reduceLE, Int.reduceNeg, Int.reduceAdd, Int.reduceSub, Int.reduceMul, Int.reducePow, Int.reduceEq, h1]
      rw [z_cons]
      simp only [BQ, q_ife, BZ, BO, BV, BL, tyN, mTy, List.replicate, List.getElem?_cons_zero, List.getElem?_cons_succ, List.set_cons_zero, List.set_cons_succ, List.map_cons, List.map_nil, List.cons_append, List.nil_append, List.all_cons, List.all_nil, Option.map_some, Option.map_none, Option.bind_some, Option.bind_none, if_true, if_false, ite_true, ite_false, List.length_cons, List.length_nil, ite_self, Nat.reduceAdd, Nat.reduceLeDiff, Nat.reduceLT, Nat.reduceMul, Int.reduceLT, Int.reduceLE, Int.reduceNeg, Int.reduceAdd, Int.reduceSub, Int.reduceMul, Int.reducePow, Int.reduceEq, leave_app hA]
  | _ =>
    simp only [BQ, q_ife, BZ, BO, BV, BL, tyN, mTy, List.replicate, List.getElem?_cons_zero, List.getElem?_cons_succ, List.set_cons_zero, List.set_cons_succ, List.map_cons, List.map_nil, List.cons_append, List.nil_append, List.all_cons, List.all_nil, Option.map_some, Option.map_none, Option.bind_some, Option.bind_none, if_true, if_false, ite_true, ite_false, List.length_cons, List.length_nil, ite_self, Nat.reduceAdd, Nat.reduceLeDiff, Nat.reduceLT, Nat.reduceMul, Int.reduceLT, Int.reduceLE, Int.reduceNeg, Int.reduceAdd, Int.reduceSub, Int.reduceMul, Int.reducePow, Int.reduceEq, y_isB, y_isI, y_isN, isBo, isI, isN, bndB]
    rw [z_cons]
    simp only [BQ, q_ife, BZ, BO, BV, BL, tyN, mTy, List.replicate, List.getElem?_cons_zero, List.getElem?_cons_succ, List.set_cons_zero, List.set_cons_succ, List.map_cons, List.map_nil, List.cons_append, List.nil_append, List.all_cons, List.all_nil, Option.map_some, Option.map_none, Option.bind_some, Option.bind_none, if_true, if_false, ite_true, ite_false, List.length_cons, List.length_nil, ite_self, Nat.reduceAdd, Nat.reduceLeDiff, Nat.reduceLT, Nat.reduceMul, Int.reduceLT, Int.reduceLE, Int.reduceNeg, Int.reduceAdd, Int.reduceSub, Int.reduceMul, Int.reducePow, Int.reduceEq, leave_app hA]
theorem lhasForm_q (g : GenL P) (hA : Cl A) {p : PyData} (hs : smP 60 p = true) : wq (callN P (n + 3) "_law_has_form" [.d p]) A Φ E = Φ (.val (.d (.bool (formB p)))) A := by
  rw [wq_call g.hasForm rfl]
  simp only [fLHasForm, b__law_has_form]
  rw [z_cons]
  cases p with
  | tuple ps =>
    have hw := (smP_tup.mp hs).2
    match ps, hw with
    | [], _ =>
      simp only [BQ, q_ife, BZ, BO, BV, BL, tyN, mTy, List.replicate, List.getElem?_cons_zero, List.getElem?_cons_succ, List.set_cons_zero, List.set_cons_succ, List.map_cons, List.map_nil, List.cons_append, List.nil_append, List.all_cons, List.all_nil, Option.map_some, Option.map_none, Option.bind_some, Option.bind_none, if_true, if_false, ite_true, ite_false, List.length_cons, List.length_nil, ite_self, Nat.reduceAdd, Nat.reduceLeDiff, Nat.reduceLT, Nat.reduceMul, Int.reduceLT, Int.reduceLE, Int.reduceNeg, Int.reduceAdd, Int.reduceSub, Int.reduceMul, Int.reducePow, Int.reduceEq, y_isT, isT]
      rw [z_cons]
      simp only [BQ, q_ife, BZ, BO, BV, BL, tyN, mTy, List.replicate, List.getElem?_cons_zero, List.getElem?_cons_succ, List.set_cons_zero, List.set_cons_succ, List.map_cons, List.map_nil, List.cons_append, List.nil_append, List.all_cons, List.all_nil, Option.map_some, Option.map_none, Option.bind_some, Option.bind_none, if_true, if_false, ite_true, ite_false, List.length_cons, List.length_nil, ite_self, Nat.reduceAdd, Nat.reduceLeDiff, Nat.reduceLT, Nat.reduceMul, Int.reduceLT, Int.reduceLE, Int.reduceNeg, Int.reduceAdd, Int.reduceSub, Int.reduceMul, Int.reducePow, Int.reduceEq, leave_self hA]
      rfl
    | q :: r, hw =>
      have h1 : ¬ ((r.length + 1 : Nat) : Int) = 0 := by omega
      simp only [BQ, q_ife, BZ, BO, BV, BL, tyN, mTy, List.replicate, List.getElem?_cons_zero, List.getElem?_cons_succ, List.set_cons_zero, List.set_cons_succ, List.map_cons, List.map_nil, List.cons_append, List.nil_append, List.all_cons, List.all_nil, Option.map_some, Option.map_none, Option.bind_some, Option.bind_none, if_true, if_false, ite_true, ite_false, List.length_cons, List.length_nil, ite_self, Nat.reduceAdd, Nat.reduceLeDiff, Nat.reduceLT, Nat.reduceMul, Int.reduceLT, Int.reduceLE, Int.reduceNeg, Int.reduceAdd, Int.reduceSub, Int.reduceMul, Int.reducePow, Int.reduceEq, y_isT, isT, at0, y_isS, h1]
      cases q with
      | str t =>
        simp only [BQ, q_ife, BZ, BO, BV, BL, tyN, mTy, List.replicate, List.getElem?_cons_zero, List.getElem?_cons_succ, List.set_cons_zero, List.set_cons_succ, List.map_cons, List.map_nil, List.cons_append, List.nil_append, List.all_cons, List.all_nil, Option.map_some, Option.map_none, Option.bind_some, Option.bind_none, if_true, if_false, ite_true, ite_false, List.length_cons, List.length_nil, ite_self, Nat.reduceAdd, Nat.reduceLeDiff, Nat.reduceLT, Nat.reduceMul, Int.reduceLT, Int.reduceLE, Int.reduceNeg, Int.reduceAdd, Int.reduceSub, Int.reduceMul, Int.reducePow, Int.reduceEq, isS]
        rw [z_cons]
        simp only [BQ, q_ife, BZ, BO, BV, BL, tyN, mTy, List.replicate, List.getElem?_cons_zero, List.getElem?_cons_succ, List.set_cons_zero, List.set_cons_succ, List.map_cons, List.map_nil, List.cons_append, List.nil_append, List.all_cons, List.all_nil, Option.map_some, Option.map_none, Option.bind_some, Option.bind_none, if_true, if_false, ite_true, ite_false, List.length_cons, List.length_nil, ite_self, Nat.reduceAdd, Nat.reduceLeDiff, Nat.reduceLT, Nat.reduceMul, Int.reduceLT, Int.reduceLE, Int.reduceNeg, Int.reduceAdd, Int.reduceSub, Int.reduceMul, Int.reducePow, Int.reduceEq, put_law]
        have hA1 : Cl (A ++ [.dK lawLens]) := hA.appO (by rfl)
        rw [z_cons]
        simp only [BQ, q_ife, BZ, BO, BV, BL, tyN, mTy, List.replicate, List.getElem?_cons_zero, List.getElem?_cons_succ, List.set_cons_zero, List.set_cons_succ, List.map_cons, List.map_nil, List.cons_append, List.nil_append, List.all_cons, List.all_nil, Option.map_some, Option.map_none, Option.bind_some, Option.bind_none, if_true, if_false, ite_true, ite_false, List.length_cons, List.length_nil, ite_self, Nat.reduceAdd, Nat.reduceLeDiff, Nat.reduceLT, Nat.reduceMul, Int.reduceLT, Int.reduceLE, Int.reduceNeg, Int.reduceAdd, Int.reduceSub, Int.reduceMul, Int.reducePow, Int.reduceEq, at0, app_get, get_law, lens_law]
        by_cases h2 : ((r.length + 1 : Nat) : Int) = lenOf t
        · simp only [BQ, q_ife, BZ, BO, BV, BL, tyN, mTy, List.replicate, List.getElem?_cons_zero, List.getElem?_cons_succ, List.set_cons_zero, List.set_cons_succ, List.map_cons, List.map_nil, List.cons_append, List.nil_append, List.all_cons, List.all_nil, Option.map_some, Option.map_none, Option.bind_some, Option.bind_none, if_true, if_false, ite_true, ite_false, List.length_cons, List.length_nil, ite_self, Nat.reduceAdd, Nat.reduceLeDiff, Nat.reduceLT, Nat.reduceMul, Int.reduceLT, Int.reduceLE, Int.reduceNeg, Int.reduceAdd, Int.reduceSub, Int.reduceMul, Int.reducePow, Int.reduceEq, h2]
          have ef : formB (.tuple (.str t :: r)) = formR t r := by
            show (decide _ && _) = _
            rw [decide_eq_true h2]
            rfl
          rw [ef, z_cons]
          simp only [BQ, q_ife, BZ, BO, BV, BL, tyN, mTy, List.replicate, List.getElem?_cons_zero, List.getElem?_cons_succ, List.set_cons_zero, List.set_cons_succ, List.map_cons, List.map_nil, List.cons_append, List.nil_append, List.all_cons, List.all_nil, Option.map_some, Option.map_none, Option.bind_some, Option.bind_none, if_true, if_false, ite_true, ite_false, List.length_cons, List.length_nil, ite_self, Nat.reduceAdd, Nat.reduceLeDiff, Nat.reduceLT, Nat.reduceMul, Int.reduceLT, Int.reduceLE, Int.reduceNeg, Int.reduceAdd, Int.reduceSub, Int.reduceMul, Int.reducePow, Int.reduceEq, at0]
          by_cases t2 : t = ("name" : Str)
          · subst t2
            match r, h2, hw with
            | [a], _, hw =>
              simp only [BQ, q_ife, BZ, BO, BV, BL, tyN, mTy, List.replicate, List.getElem?_cons_zero, List.getElem?_cons_succ, List.set_cons_zero, List.set_cons_succ, List.map_cons, List.map_nil, List.cons_append, List.nil_append, List.all_cons, List.all_nil, Option.map_some, Option.map_none, Option.bind_some, Option.bind_none, if_true, if_false, ite_true, ite_false, List.length_cons, List.length_nil, ite_self, Nat.reduceAdd, Nat.reduceLeDiff, Nat.reduceLT, Nat.reduceMul, Int.reduceLT, Int.reduceLE, Int.reduceNeg, Int.reduceAdd, Int.reduceSub, Int.reduceMul, Int.reducePow, Int.reduceEq]
              rw [z_cons]
              simp only [BQ, q_ife, BZ, BO, BV, BL, tyN, mTy, List.replicate, List.getElem?_cons_zero, List.getElem?_cons_succ, List.set_cons_zero, List.set_cons_succ, List.map_cons, List.map_nil, List.cons_append, List.nil_append, List.all_cons, List.all_nil, Option.map_some, Option.map_none, Option.bind_some, Option.bind_none, if_true, if_false, ite_true, ite_false, List.length_cons, List.length_nil, ite_self, Nat.reduceAdd, Nat.reduceLeDiff, Nat.reduceLT, Nat.reduceMul, Int.reduceLT, Int.reduceLE, Int.reduceNeg, Int.reduceAdd, Int.reduceSub, Int.reduceMul, Int.reducePow, Int.reduceEq, at1, lisName_q g hA1 (smP_str (hw a (by simp))), leave_app hA]
              rfl
            | [], h2, _ => exact absurd h2 (by decide)
            | _ :: _ :: r, h2, _ =>
              have e : lenOf ("name" : Str) = 2 := by decide
              simp only [e, List.length_cons] at h2
              omega
          · simp only [BQ, q_ife, BZ, BO, BV, BL, tyN, mTy, List.replicate, List.getElem?_cons_zero, List.getElem?_cons_succ, List.set_cons_zero, List.set_cons_succ, List.map_cons, List.map_nil, List.cons_append, List.nil_append, List.all_cons, List.all_nil, Option.map_some, Option.map_none, Option.bind_some, Option.bind_none, if_true, if_false, ite_true, ite_false, List.length_cons, List.length_nil, ite_self, Nat.reduceAdd, Nat.reduceLeDiff, Nat.reduceLT, Nat.reduceMul, Int.reduceLT, Int.reduceLE, Int.reduceNeg, Int.reduceAdd, Int.reduceSub, Int.reduceMul, Int.reducePow, Int.reduceEq, t2]
            rw [z_cons]
            simp only [BQ, q_ife, BZ, BO, BV, BL, tyN, mTy, List.replicate, List.getElem?_cons_zero, List.getElem?_cons_succ, List.set_cons_zero, List.set_cons_succ, List.map_cons, List.map_nil, List.cons_append, List.nil_append, List.all_cons, List.all_nil, Option.map_some, Option.map_none, Option.bind_some, Option.bind_none, if_true, if_false, ite_true, ite_false, List.length_cons, List.length_nil, ite_self, Nat.reduceAdd, Nat.reduceLeDiff, Nat.reduceLT, Nat.reduceMul, Int.reduceLT, Int.reduceLE, Int.reduceNeg, Int.reduceAdd, Int.reduceSub, Int.reduceMul, Int.reducePow, Int.reduceEq, at0]
            by_cases t3 : t = ("rec" : Str)
            · subst t3
              match r, h2, hw with
              | [a], _, hw =>
                simp only [BQ, q_ife, BZ, BO, BV, BL, tyN, mTy, List.replicate, List.getElem?_cons_zero, List.getElem?_cons_succ, List.set_cons_zero, List.set_cons_succ, List.map_cons, List.map_nil, List.cons_append, List.nil_append, List.all_cons, List.all_nil, Option.map_some, Option.map_none, Option.bind_some, Option.bind_none, if_true, if_false, ite_true, ite_false, List.length_cons, List.length_nil, ite_self, Nat.reduceAdd, Nat.reduceLeDiff, Nat.reduceLT, Nat.reduceMul, Int.reduceLT, Int.reduceLE, Int.reduceNeg, Int.reduceAdd, Int.reduceSub, Int.reduceMul, Int.reducePow, Int.reduceEq]
                rw [z_cons]
                simp only [BQ, q_ife, BZ, BO, BV, BL, tyN, mTy, List.replicate, List.getElem?_cons_zero, List.getElem?_cons_succ, List.set_cons_zero, List.set_cons_succ, List.map_cons, List.map_nil, List.cons_append, List.nil_append, List.all_cons, List.all_nil, Option.map_some, Option.map_none, Option.bind_some, Option.bind_none, if_true, if_false, ite_true, ite_false, List.length_cons, List.length_nil, ite_self, Nat.reduceAdd, Nat.reduceLeDiff, Nat.reduceLT, Nat.reduceMul, Int.reduceLT, Int.reduceLE, Int.reduceNeg, Int.reduceAdd, Int.reduceSub, Int.reduceMul, Int.reducePow, Int.reduceEq, at1, lareFields_q g hA1 (hw a (by simp)), leave_app hA]
                rfl
              | [], h2, _ => exact absurd h2 (by decide)
              | _ :: _ :: r, h2, _ =>
                have e : lenOf ("rec" : Str) = 2 := by decide
                simp only [e, List.length_cons] at h2
                omega
            · simp only [BQ, q_ife, BZ, BO, BV, BL, tyN, mTy, List.replicate, List.getElem?_cons_zero, List.getElem?_cons_succ, List.set_cons_zero, List.set_cons_succ, List.map_cons, List.map_nil, List.cons_append, List.nil_append, List.all_cons, List.all_nil, Option.map_some, Option.map_none, Option.bind_some, Option.bind_none, if_true, if_false, ite_true, ite_false, List.length_cons, List.length_nil, ite_self, Nat.reduceAdd, Nat.reduceLeDiff, Nat.reduceLT, Nat.reduceMul, Int.reduceLT, Int.reduceLE, Int.reduceNeg, Int.reduceAdd, Int.reduceSub, Int.reduceMul, Int.reducePow, Int.reduceEq, t3]
              rw [z_cons]
              simp only [BQ, q_ife, BZ, BO, BV, BL, tyN, mTy, List.replicate, List.getElem?_cons_zero, List.getElem?_cons_succ, List.set_cons_zero, List.set_cons_succ, List.map_cons, List.map_nil, List.cons_append, List.nil_append, List.all_cons, List.all_nil, Option.map_some, Option.map_none, Option.bind_some, Option.bind_none, if_true, if_false, ite_true, ite_false, List.length_cons, List.length_nil, ite_self, Nat.reduceAdd, Nat.reduceLeDiff, Nat.reduceLT, Nat.reduceMul, Int.reduceLT, Int.reduceLE, Int.reduceNeg, Int.reduceAdd, Int.reduceSub, Int.reduceMul, Int.reducePow, Int.reduceEq, at0]
              by_cases t1 : t = ("num" : Str)
              · subst t1
                match r, h2, hw with
                | [a, b], _, hw =>
                  simp only [BQ, q_ife, BZ, BO, BV, BL, tyN, mTy, List.replicate, List.getElem?_cons_zero, List.getElem?_cons_succ, List.set_cons_zero, List.set_cons_succ, List.map_cons, List.map_nil, List.cons_append, List.nil_append, List.all_cons, List.all_nil, Option.map_some, Option.map_none, Option.bind_some, Option.bind_none, if_true, if_false, ite_true, ite_false, List.length_cons, List.length_nil, ite_self, Nat.reduceAdd, Nat.reduceLeDiff, Nat.reduceLT, Nat.reduceMul, Int.reduceLT, Int.reduceLE, Int.reduceNeg, Int.reduceAdd, Int.reduceSub, Int.reduceMul, Int.reducePow, Int.reduceEq]
                  rw [z_cons]
                  simp only [BQ, q_ife, BZ, BO, BV, BL, tyN, mTy, List.replicate, List.getElem?_cons_zero, List.getElem?_cons_succ, List.set_cons_zero, List.set_cons_succ, List.map_cons, List.map_nil, List.cons_append, List.nil_append, List.all_cons, List.all_nil, Option.map_some, Option.map_none, Option.bind_some, Option.bind_none, if_true, if_false, ite_true, ite_false, List.length_cons, List.length_nil, ite_self, Nat.reduceAdd, Nat.reduceLeDiff, Nat.reduceLT, Nat.reduceMul, Int.reduceLT, Int.reduceLE, Int.reduceNeg, Int.reduceAdd, Int.reduceSub, Int.reduceMul, Int.reducePow, Int.reduceEq, slO, cut1, dT]
                  rw [fr_cons rfl]
                  simp only [BQ, q_ife, BZ, BO, BV, BL, tyN, mTy, List.replicate, List.getElem?_cons_zero, List.getElem?_cons_succ, List.set_cons_zero, List.set_cons_succ, List.map_cons, List.map_nil, List.cons_append, List.nil_append, List.all_cons, List.all_nil, Option.map_some, Option.map_none, Option.bind_some, Option.bind_none, if_true, if_false, ite_true, ite_false, List.length_cons, List.length_nil, ite_self, Nat.reduceAdd, Nat.reduceLeDiff, Nat.reduceLT, Nat.reduceMul, Int.reduceLT, Int.reduceLE, Int.reduceNeg, Int.reduceAdd, Int.reduceSub, Int.reduceMul, Int.reducePow, Int.reduceEq]
                  rw [lbounds_turn hA]
                  show _ = Φ (.val (.d (.bool (numB a b)))) A
                  unfold numB
                  cases ha : bndB a with
                  | false => simp only [BQ, q_ife, BZ, BO, BV, BL, tyN, mTy, List.replicate, List.getElem?_cons_zero, List.getElem?_cons_succ, List.set_cons_zero, List.set_cons_succ, List.map_cons, List.map_nil, List.cons_append, List.nil_append, List.all_cons, List.all_nil, Option.map_some, Option.map_none, Option.bind_some, Option.bind_none, if_true, if_false, ite_true, ite_false, List.length_cons, List.length_nil, ite_self, Nat.reduceAdd, Nat.reduceLeDiff, Nat.reduceLT, Nat.reduceMul, Int.reduceLT, Int.reduceLE, Int.reduceNeg, Int.reduceAdd, Int.reduceSub, Int.reduceMul, Int.reducePow, Int.reduceEq]
                  | true =>
                    simp only [BQ, q_ife, BZ, BO, BV, BL, tyN, mTy, List.replicate, List.getElem?_cons_zero, List.getElem?_cons_succ, List.set_cons_zero, List.set_cons_succ, List.map_cons, List.map_nil, List.cons_append, List.nil_append, List.all_cons, List.all_nil, Option.map_some, Option.map_none, Option.bind_some, Option.bind_none, if_true, if_false, ite_true, ite_false, List.length_cons, List.length_nil, ite_self, Nat.reduceAdd, Nat.reduceLeDiff, Nat.reduceLT, Nat.reduceMul, Int.reduceLT, Int.reduceLE, Int.reduceNeg, Int.reduceAdd, Int.reduceSub, Int.reduceMul, Int.reducePow, Int.reduceEq]
                    rw [fr_cons rfl]
                    simp only [BQ, q_ife, BZ, BO, BV, BL, tyN, mTy, List.replicate, List.getElem?_cons_zero, List.getElem?_cons_succ, List.set_cons_zero, List.set_cons_succ, List.map_cons, List.map_nil, List.cons_append, List.nil_append, List.all_cons, List.all_nil, Option.map_some, Option.map_none, Option.bind_some, Option.bind_none, if_true, if_false, ite_true, ite_false, List.length_cons, List.length_nil, ite_self, Nat.reduceAdd, Nat.reduceLeDiff, Nat.reduceLT, Nat.reduceMul, Int.reduceLT, Int.reduceLE, Int.reduceNeg, Int.reduceAdd, Int.reduceSub, Int.reduceMul, Int.reducePow, Int.reduceEq]
                    rw [lbounds_turn hA]
                    cases hb : bndB b with
                    | false => simp only [BQ, q_ife, BZ, BO, BV, BL, tyN, mTy, List.replicate, List.getElem?_cons_zero, List.getElem?_cons_succ, List.set_cons_zero, List.set_cons_succ, List.map_cons, List.map_nil, List.cons_append, List.nil_append, List.all_cons, List.all_nil, Option.map_some, Option.map_none, Option.bind_some, Option.bind_none, if_true, if_false, ite_true, ite_false, List.length_cons, List.length_nil, ite_self, Nat.reduceAdd, Nat.reduceLeDiff, Nat.reduceLT, Nat.reduceMul, Int.reduceLT, Int.reduceLE, Int.reduceNeg, Int.reduceAdd, Int.reduceSub, Int.reduceMul, Int.reducePow, Int.reduceEq]
                    | true =>
                      simp only [BQ, q_ife, BZ, BO, BV, BL, tyN, mTy, List.replicate, List.getElem?_cons_zero, List.getElem?_cons_succ, List.set_cons_zero, List.set_cons_succ, List.map_cons, List.map_nil, List.cons_append, List.nil_append, List.all_cons, List.all_nil, Option.map_some, Option.map_none, Option.bind_some, Option.bind_none, if_true, if_false, ite_true, ite_false, List.length_cons, List.length_nil, ite_self, Nat.reduceAdd, Nat.reduceLeDiff, Nat.reduceLT, Nat.reduceMul, Int.reduceLT, Int.reduceLE, Int.reduceNeg, Int.reduceAdd, Int.reduceSub, Int.reduceMul, Int.reducePow, Int.reduceEq]
                      rw [fr_nil rfl]
                      simp only [BQ, q_ife, BZ, BO, BV, BL, tyN, mTy, List.replicate, List.getElem?_cons_zero, List.getElem?_cons_succ, List.set_cons_zero, List.set_cons_succ, List.map_cons, List.map_nil, List.cons_append, List.nil_append, List.all_cons, List.all_nil, Option.map_some, Option.map_none, Option.bind_some, Option.bind_none, if_true, if_false, ite_true, ite_false, List.length_cons, List.length_nil, ite_self, Nat.reduceAdd, Nat.reduceLeDiff, Nat.reduceLT, Nat.reduceMul, Int.reduceLT, Int.reduceLE, Int.reduceNeg, Int.reduceAdd, Int.reduceSub, Int.reduceMul, Int.reducePow, Int.reduceEq]
                      rw [z_cons]
                      cases a with
                      | none => simp only [BQ, q_ife, BZ, BO, BV, BL, tyN, mTy, List.replicate, List.getElem?_cons_zero, List.getElem?_cons_succ, List.set_cons_zero, List.set_cons_succ, List.map_cons, List.map_nil, List.cons_append, List.nil_append, List.all_cons, List.all_nil, Option.map_some, Option.map_none, Option.bind_some, Option.bind_none, if_true, if_false, ite_true, ite_false, List.length_cons, List.length_nil, ite_self, Nat.reduceAdd, Nat.reduceLeDiff, Nat.reduceLT, Nat.reduceMul, Int.reduceLT, Int.reduceLE, Int.reduceNeg, Int.reduceAdd, Int.reduceSub, Int.reduceMul, Int.reducePow, Int.reduceEq, at1, at2, y_isN, isN, leB, leave_app hA]
                      | int i =>
                        cases b with
                        | none => simp only [BQ, q_ife, BZ, BO, BV, BL, tyN, mTy, List.replicate, List.getElem?_cons_zero, List.getElem?_cons_succ, List.set_cons_zero, List.set_cons_succ, List.map_cons, List.map_nil, List.cons_append, List.nil_append, List.all_cons, List.all_nil, Option.map_some, Option.map_none, Option.bind_some, Option.bind_none, if_true, if_false, ite_true, ite_false, List.length_cons, List.length_nil, ite_self, Nat.reduceAdd, Nat.reduceLeDiff, Nat.reduceLT, Nat.reduceMul, Int.reduceLT, Int.reduceLE, Int.reduceNeg, Int.reduceAdd, Int.reduceSub, Int.reduceMul, Int.reducePow, Int.reduceEq, at1, at2, y_isN, isN, leB, leave_app hA]
                        | int j => simp only [BQ, q_ife, BZ, BO, BV, BL, tyN, mTy, List.replicate, List.getElem?_cons_zero, List.getElem?_cons_succ, List.set_cons_zero, List.set_cons_succ, List.map_cons, List.map_nil, List.cons_append, List.nil_append, List.all_cons, List.all_nil, Option.map_some, Option.map_none, Option.bind_some, Option.bind_none, if_true, if_false, ite_true, ite_false, List.length_cons, List.length_nil, ite_self, Nat.reduceAdd, Nat.reduceLeDiff, Nat.reduceLT, Nat.reduceMul, Int.reduceLT, Int.reduceLE, Int.reduceNeg, Int.reduceAdd, Int.reduceSub, Int.reduceMul, Int.reducePow, Int.reduceEq, at1, at2, y_isN, isN, leB, leave_app hA]
                        | _ => cases hb
                      | _ => cases ha
                | [], h2, _ => exact absurd h2 (by decide)
                | [_], h2, _ =>
                  have e : lenOf ("num" : Str) = 3 := by decide
                  simp only [e, List.length_cons, List.length_nil] at h2
                  omega
                | _ :: _ :: _ :: r, h2, _ =>
                  have e : lenOf ("num" : Str) = 3 := by decide
                  simp only [e, List.length_cons] at h2
                  omega
              · simp only [BQ, q_ife, BZ, BO, BV, BL, tyN, mTy, List.replicate, List.getElem?_cons_zero, List.getElem?_cons_succ, List.set_cons_zero, List.set_cons_succ, List.map_cons, List.map_nil, List.cons_append, List.nil_append, List.all_cons, List.all_nil, Option.map_some, Option.map_none, Option.bind_some, Option.bind_none, if_true, if_false, ite_true, ite_false, List.length_cons, List.length_nil, ite_self, Nat.reduceAdd, Nat.reduceLeDiff, Nat.reduceLT, Nat.reduceMul, Int.reduceLT, Int.reduceLE, Int.reduceNeg, Int.reduceAdd, Int.reduceSub, Int.reduceMul, Int.reducePow, Int.reduceEq, t1]
                rw [z_cons]
                simp only [BQ, q_ife, BZ, BO, BV, BL, tyN, mTy, List.replicate, List.getElem?_cons_zero, List.getElem?_cons_succ, List.set_cons_zero, List.set_cons_succ, List.map_cons, List.map_nil, List.cons_append, List.nil_append, List.all_cons, List.all_nil, Option.map_some, Option.map_none, Option.bind_some, Option.bind_none, if_true, if_false, ite_true, ite_false, List.length_cons, List.length_nil, ite_self, Nat.reduceAdd, Nat.reduceLeDiff, Nat.reduceLT, Nat.reduceMul, Int.reduceLT, Int.reduceLE, Int.reduceNeg, Int.reduceAdd, Int.reduceSub, Int.reduceMul, Int.reducePow, Int.reduceEq, leave_app hA]
                unfold formR
                rw [if_neg (Ne.symm t1), if_neg (Ne.symm t2), if_neg (Ne.symm t3)]
        · simp only [BQ, q_ife, BZ, BO, BV, BL, tyN, mTy, List.replicate, List.getElem?_cons_zero, List.getElem?_cons_succ, List.set_cons_zero, List.set_cons_succ, List.map_cons, List.map_nil, List.cons_append, List.nil_append, List.all_cons, List.all_nil, Option.map_some, Option.map_none, Option.bind_some, Option.bind_none, if_true, if_false, ite_true, ite_false, List.length_cons, List.length_nil, ite_self, Nat.reduceAdd, Nat.reduceLeDiff, Nat.reduceLT, Nat.reduceMul, Int.reduceLT, Int.reduceLE, Int.reduceNeg, Int.reduceAdd, Int.reduceSub, Int.reduceMul, Int.reducePow, Int.reduceEq, h2]
          rw [z_cons]
          simp only [BQ, q_ife, BZ, BO, BV, BL, tyN, mTy, List.replicate, List.getElem?_cons_zero, List.getElem?_cons_succ, List.set_cons_zero, List.set_cons_succ, List.map_cons, List.map_nil, List.cons_append, List.nil_append, List.all_cons, List.all_nil, Option.map_some, Option.map_none, Option.bind_some, Option.bind_none, if_true, if_false, ite_true, ite_false, List.length_cons, List.length_nil, ite_self, Nat.reduceAdd, Nat.reduceLeDiff, Nat.reduceLT, Nat.reduceMul, Int.reduceLT, Int.reduceLE, Int.reduceNeg, Int.reduceAdd, Int.reduceSub, Int.reduceMul, Int.reducePow, Int.reduceEq, leave_app hA]
          congr
          show false = (decide _ && _)
          rw [decide_eq_false h2]
          rfl
      | _ =>
        simp only [BQ, q_ife, BZ, BO, BV, BL, tyN, mTy, List.replicate, List.getElem?_cons_zero, List.getElem?_cons_succ, List.set_cons_zero, List.set_cons_succ, List.map_cons, List.map_nil, List.cons_append, List.nil_append, List.all_cons, List.all_nil, Option.map_some, Option.map_none, Option.bind_some, Option.bind_none, if_true, if_false, ite_true, ite_false, List.length_cons, List.length_nil, ite_self, Nat.reduceAdd, Nat.reduceLeDiff, Nat.reduceLT, Nat.reduceMul, Int.reduceLT, Int.reduceLE, Int.reduceNeg, Int.reduceAdd, Int.reduceSub, Int.reduceMul, Int.reducePow, Int.reduceEq, isS]
        rw [z_cons]
        simp only [BQ, q_ife, BZ, BO, BV, BL, tyN, mTy, List.replicate, List.getElem?_cons_zero, List.getElem?_cons_succ, List.set_cons_zero, List.set_cons_succ, List.map_cons, List.map_nil, List.cons_append, List.nil_append, List.all_cons, List.all_nil, Option.map_some, Option.map_none, Option.bind_some, Option.bind_none, if_true, if_false, ite_true, ite_false, List.length_cons, List.length_nil, ite_self, Nat.reduceAdd, Nat.reduceLeDiff, Nat.reduceLT, Nat.reduceMul, Int.reduceLT, Int.reduceLE, Int.reduceNeg, Int.reduceAdd, Int.reduceSub, Int.reduceMul, Int.reducePow, Int.reduceEq, leave_self hA]
        rfl
  | _ =>
    simp only [BQ, q_ife, BZ, BO, BV, BL, tyN, mTy, List.replicate, List.getElem?_cons_zero, List.getElem?_cons_succ, List.set_cons_zero, List.set_cons_succ, List.map_cons, List.map_nil, List.cons_append, List.nil_append, List.all_cons, List.all_nil, Option.map_some, Option.map_none, Option.bind_some, Option.bind_none, if_true, if_false, ite_true, ite_false, List.length_cons, List.length_nil, ite_self, Nat.reduceAdd, Nat.reduceLeDiff, Nat.reduceLT, Nat.reduceMul, Int.reduceLT, Int.reduceLE, Int.reduceNeg, Int.reduceAdd, Int.reduceSub, Int.reduceMul, Int.reducePow, Int.reduceEq, y_isT, isT]
    rw [z_cons]
    simp only [BQ, q_ife, BZ, BO, BV, BL, tyN, mTy, List.replicate, List.getElem?_cons_zero, List.getElem?_cons_succ, List.set_cons_zero, List.set_cons_succ, List.map_cons, List.map_nil, List.cons_append, List.nil_append, List.all_cons, List.all_nil, Option.map_some, Option.map_none, Option.bind_some, Option.bind_none, if_true, if_false, ite_true, ite_false, List.length_cons, List.length_nil, ite_self, Nat.reduceAdd, Nat.reduceLeDiff, Nat.reduceLT, Nat.reduceMul, Int.reduceLT, Int.reduceLE, Int.reduceNeg, Int.reduceAdd, Int.reduceSub, Int.reduceMul, Int.reducePow, Int.reduceEq, leave_self hA]
    rfl
/-! ### the kinds right within -/
def snd2 : PyData → PyData
  | .tuple [_, v] => v
  | p => p
def jn (t : Str) : Bool := decide (("fun" : Str) = t) || (decide (("and" : Str) = t) || (decide (("or" : Str) = t) || decide (("not" : Str) = t)))
def ownP : PyData → List PyData
  | .tuple (.str t :: r) => if ("rec" : Str) = t then (match r with | [.tuple fs] => fs.map snd2 | _ => []) else if jn t = true then r else []
  | _ => []
theorem in_jn {t : Str} : inO A (.d (.str t)) (.d (.tuple [.str "fun", .str "and", .str "or", .str "not"])) = some (jn t) := by
  have e : inO A (.d (.str t)) (.d (.tuple [.str "fun", .str "and", .str "or", .str "not"])) = some ([PyData.str "fun", .str "and", .str "or", .str "not"].any fun q => PyData.eqv q (.str t)) := rfl
  rw [e]
  unfold jn
  simp only [List.any_cons, List.any_nil, Bool.or_false, PyData.eqv]
  congr
theorem labs_pairs : ∀ {fs : List PyData} {zs : List Str}, labs fs = some zs → ∀ q ∈ fs, ∃ l v, q = .tuple [.str l, v]
  | [], _, _ => fun q hq => by cases hq
  | q :: fs, zs, hz => by
    obtain ⟨l, v, ys, rfl, _, e, _⟩ := labs_cons hz
    intro q hq
    rcases List.mem_cons.mp hq with rfl | hq
    · exact ⟨l, v, rfl⟩
    · exact labs_pairs e q hq
theorem own_body (G : Ge) (hA : Cl A) {p : PyData} (hf : formB p = true) (hs : smP w p = true) (hw : w ≤ 1000) : wS (exs G b_own_parts [some (.d p), none, none] A) (pst false A.length Φ E) = Φ (.new (.lst (ownP p))) A := by
  match p, hf, hs with
  | .tuple (.str t :: r), hf, hs =>
    have hf' : decide (((r.length + 1 : Nat) : Int) = lenOf t) = true ∧ formR t r = true := by simpa [formB] using hf
    have h2 := of_decide_eq_true hf'.1
    have hl := (smP_tup.mp hs).1
    have hm := (smP_tup.mp hs).2
    rw [b_own_parts, z_cons]
    simp only [BQ, q_ife, BZ, BO, BV, BL, tyN, mTy, List.replicate, List.getElem?_cons_zero, List.getElem?_cons_succ, List.set_cons_zero, List.set_cons_succ, List.map_cons, List.map_nil, List.cons_append, List.nil_append, List.all_cons, List.all_nil, Option.map_some, Option.map_none, Option.bind_some, Option.bind_none, if_true, if_false, ite_true, ite_false, List.length_cons, List.length_nil, ite_self, Nat.reduceAdd, Nat.reduceLeDiff, Nat.reduceLT, Nat.reduceMul, Int.reduceLT, Int.reduceLE, Int.reduceNeg, Int.reduceAdd, Int.reduceSub, Int.reduceMul, Int.reducePow, Int.reduceEq, at0]
    by_cases t3 : t = ("rec" : Str)
    · subst t3
      match r, h2, hm, hf'.2 with
      | [a], _, hm, hr =>
        have hr : fieldsB a = true := hr
        match a, hr with
        | .tuple fs, hr =>
          have hr : fldsB (Str.ofString "") fs = true := hr
          unfold fldsB at hr
          cases hz : labs fs with
          | none => rw [hz] at hr; cases hr
          | some zs =>
            have hfl : ∀ q ∈ fs, ∃ l v, q = .tuple [.str l, v] := labs_pairs hz
            have hfn := (smP_tup.mp (hm (.tuple fs) (by simp))).1
            simp only [BQ, q_ife, BZ, BO, BV, BL, tyN, mTy, List.replicate, List.getElem?_cons_zero, List.getElem?_cons_succ, List.set_cons_zero, List.set_cons_succ, List.map_cons, List.map_nil, List.cons_append, List.nil_append, List.all_cons, List.all_nil, Option.map_some, Option.map_none, Option.bind_some, Option.bind_none, if_true, if_false, ite_true, ite_false, List.length_cons, List.length_nil, ite_self, Nat.reduceAdd, Nat.reduceLeDiff, Nat.reduceLT, Nat.reduceMul, Int.reduceLT, Int.reduceLE, Int.reduceNeg, Int.reduceAdd, Int.reduceSub, Int.reduceMul, Int.reducePow, Int.reduceEq]
            rw [z_cons]
            simp only [BQ, q_ife, BZ, BO, BV, BL, tyN, mTy, List.replicate, List.getElem?_cons_zero, List.getElem?_cons_succ, List.set_cons_zero, List.set_cons_succ, List.map_cons, List.map_nil, List.cons_append, List.nil_append, List.all_cons, List.all_nil, Option.map_some, Option.map_none, Option.bind_some, Option.bind_none, if_true, if_false, ite_true, ite_false, List.length_cons, List.length_nil, ite_self, Nat.reduceAdd, Nat.reduceLeDiff, Nat.reduceLT, Nat.reduceMul, Int.reduceLT, Int.reduceLE, Int.reduceNeg, Int.reduceAdd, Int.reduceSub, Int.reduceMul, Int.reducePow, Int.reduceEq, at1]
            rw [lc_S (g := snd2) rfl]
            · rw [leave_newl_self hA]
              simp only [BQ, q_ife, BZ, BO, BV, BL, tyN, mTy, List.replicate, List.getElem?_cons_zero, List.getElem?_cons_succ, List.set_cons_zero, List.set_cons_succ, List.map_cons, List.map_nil, List.cons_append, List.nil_append, List.all_cons, List.all_nil, Option.map_some, Option.map_none, Option.bind_some, Option.bind_none, if_true, if_false, ite_true, ite_false, List.length_cons, List.length_nil, ite_self, Nat.reduceAdd, Nat.reduceLeDiff, Nat.reduceLT, Nat.reduceMul, Int.reduceLT, Int.reduceLE, Int.reduceNeg, Int.reduceAdd, Int.reduceSub, Int.reduceMul, Int.reducePow, Int.reduceEq, List.length_map]
              rw [eq_true (show fs.length ≤ 16777216 by omega), true_and]
              rfl
            · intro q hq Φ
              obtain ⟨l, v, rfl⟩ := hfl q hq
              simp only [BQ, q_ife, BZ, BO, BV, BL, tyN, mTy, List.replicate, List.getElem?_cons_zero, List.getElem?_cons_succ, List.set_cons_zero, List.set_cons_succ, List.map_cons, List.map_nil, List.cons_append, List.nil_append, List.all_cons, List.all_nil, Option.map_some, Option.map_none, Option.bind_some, Option.bind_none, if_true, if_false, ite_true, ite_false, List.length_cons, List.length_nil, ite_self, Nat.reduceAdd, Nat.reduceLeDiff, Nat.reduceLT, Nat.reduceMul, Int.reduceLT, Int.reduceLE, Int.reduceNeg, Int.reduceAdd, Int.reduceSub, Int.reduceMul, Int.reducePow, Int.reduceEq, snd2]
      | [], h2, _, _ => exact absurd h2 (by decide)
      | _ :: _ :: r, h2, _, _ =>
        have e : lenOf ("rec" : Str) = 2 := by decide
        simp only [e, List.length_cons] at h2
        omega
    · simp only [BQ, q_ife, BZ, BO, BV, BL, tyN, mTy, List.replicate, List.getElem?_cons_zero, List.getElem?_cons_succ, List.set_cons_zero, List.set_cons_succ, List.map_cons, List.map_nil, List.cons_append, List.nil_append, List.all_cons, List.all_nil, Option.map_some, Option.map_none, Option.bind_some, Option.bind_none, if_true, if_false, ite_true, ite_false, List.length_cons, List.length_nil, ite_self, Nat.reduceAdd, Nat.reduceLeDiff, Nat.reduceLT, Nat.reduceMul, Int.reduceLT, Int.reduceLE, Int.reduceNeg, Int.reduceAdd, Int.reduceSub, Int.reduceMul, Int.reducePow, Int.reduceEq, t3]
      rw [z_cons]
      simp only [BQ, q_ife, BZ, BO, BV, BL, tyN, mTy, List.replicate, List.getElem?_cons_zero, List.getElem?_cons_succ, List.set_cons_zero, List.set_cons_succ, List.map_cons, List.map_nil, List.cons_append, List.nil_append, List.all_cons, List.all_nil, Option.map_some, Option.map_none, Option.bind_some, Option.bind_none, if_true, if_false, ite_true, ite_false, List.length_cons, List.length_nil, ite_self, Nat.reduceAdd, Nat.reduceLeDiff, Nat.reduceLT, Nat.reduceMul, Int.reduceLT, Int.reduceLE, Int.reduceNeg, Int.reduceAdd, Int.reduceSub, Int.reduceMul, Int.reducePow, Int.reduceEq, at0, in_jn, slO, cut1, dT]
      have eo : ownP (.tuple (.str t :: r)) = if jn t = true then r else [] := by
        show (if _ then _ else _) = _
        rw [if_neg (Ne.symm t3)]
      rw [eo]
      cases jn t with
      | true => simp only [BQ, q_ife, BZ, BO, BV, BL, tyN, mTy, List.replicate, List.getElem?_cons_zero, List.getElem?_cons_succ, List.set_cons_zero, List.set_cons_succ, List.map_cons, List.map_nil, List.cons_append, List.nil_append, List.all_cons, List.all_nil, Option.map_some, Option.map_none, Option.bind_some, Option.bind_none, if_true, if_false, ite_true, ite_false, List.length_cons, List.length_nil, ite_self, Nat.reduceAdd, Nat.reduceLeDiff, Nat.reduceLT, Nat.reduceMul, Int.reduceLT, Int.reduceLE, Int.reduceNeg, Int.reduceAdd, Int.reduceSub, Int.reduceMul, Int.reducePow, Int.reduceEq, leave_newl_self hA]
      | false => simp only [BQ, q_ife, BZ, BO, BV, BL, tyN, mTy, List.replicate, List.getElem?_cons_zero, List.getElem?_cons_succ, List.set_cons_zero, List.set_cons_succ, List.map_cons, List.map_nil, List.cons_append, List.nil_append, List.all_cons, List.all_nil, Option.map_some, Option.map_none, Option.bind_some, Option.bind_none, if_true, if_false, ite_true, ite_false, List.length_cons, List.length_nil, ite_self, Nat.reduceAdd, Nat.reduceLeDiff, Nat.reduceLT, Nat.reduceMul, Int.reduceLT, Int.reduceLE, Int.reduceNeg, Int.reduceAdd, Int.reduceSub, Int.reduceMul, Int.reducePow, Int.reduceEq, leave_newl_self hA]
theorem own_q (g : GenP P) (hA : Cl A) {p : PyData} (hf : formB p = true) (hs : smP w p = true) (hw : w ≤ 1000) : wq (callN P (n + 1) "own_parts" [.d p]) A Φ E = Φ (.new (.lst (ownP p))) A := by
  rw [wq_call g.ownParts rfl]
  exact own_body _ hA hf hs hw
theorem lown_q (g : fnd P.tab "_law_own" = some fLOwn) (hA : Cl A) {p : PyData} (hf : formB p = true) (hs : smP w p = true) (hw : w ≤ 1000) : wq (callN P (n + 1) "_law_own" [.d p]) A Φ E = Φ (.new (.lst (ownP p))) A := by
  rw [wq_call g rfl]
  exact own_body _ hA hf hs hw
end
end Kg
set_option Elab.async false
set_option linter.all false
set_option maxRecDepth 100000
set_option maxHeartbeats 1000000
/-! KgE: the walk through a kind, by the program and by the law. -/
namespace Kg
open PySem L2 Mi TL
abbrev Wp := List Int × PyData
def wayP (w : List Int) : PyData := .tuple (w.map .int)
def enc (x : Wp) : PyData := .tuple [wayP x.1, x.2]
def isFun : PyData → Bool
  | .tuple (.str t :: _) => decide (t = ("fun" : Str))
  | _ => false
def fnN (p : PyData) : Nat := if isFun p then 1 else 0
def kids (x : Wp) : List Wp := (List.range (ownP x.2).length).map fun (i : Nat) => (x.1 ++ [(i : Int)], (ownP x.2).getD i .none)
def wk : Nat → List Wp → List Wp → Nat → List Wp ⊕ List Int
  | 0, _, _, _ => .inr []
  | _ + 1, [], found, _ => .inl found
  | n + 1, x :: st, found, funs =>
    if found.length = 24 ∨ 5 < x.1.length ∨ formB x.2 = false then .inr x.1
    else if 4 < funs + fnN x.2 then .inr x.1
    else wk n (kids x ++ st) (found ++ [x]) (funs + fnN x.2)
theorem get_last {A : Hs} {o o' : Ob} : (A ++ [o, o'])[A.length]? = some o := by simp
theorem get_last1 {A : Hs} {o o' : Ob} : (A ++ [o, o'])[A.length + 1]? = some o' := by
  rw [List.getElem?_append_right (by omega)]
  simp
theorem set_last : ∀ {A : Hs} {o o' u : Ob}, (A ++ [o, o']).set A.length u = A ++ [u, o']
  | [], _, _, _ => rfl
  | a :: A, _, _, _ => congrArg (a :: ·) (set_last (A := A))
theorem set_last1 : ∀ {A : Hs} {o o' u : Ob}, (A ++ [o, o']).set (A.length + 1) u = A ++ [o, u]
  | [], _, _, _ => rfl
  | a :: A, _, _, _ => congrArg (a :: ·) (set_last1 (A := A))
section
variable {P : Pr} {n w : Nat} {A : Hs} {Φ : R → Hs → Prop} {E : Str → List (Str × PyData) → Hs → Prop}
theorem pop_last {A : Hs} {o : Ob} {ps : List PyData} {p : PyData} : metO (A ++ [o, .lst (ps ++ [p])]) "list.pop" (.obj (A.length + 1)) [] = some (.val (.d p), A ++ [o, .lst ps]) := by
  have e : metO (A ++ [o, .lst (ps ++ [p])]) "list.pop" (.obj (A.length + 1)) [] = mePop (A ++ [o, .lst (ps ++ [p])]) (.obj (A.length + 1)) [] := rfl
  rw [e]
  unfold mePop
  simp only [get_last1, List.length_append, List.length_cons, List.length_nil, Nat.zero_add, Nat.add_sub_cancel, List.getElem?_concat_length, List.dropLast_concat, set_last1]
theorem app_first {A : Hs} {o : Ob} {ps : List PyData} {p : PyData} (h : ps.length < 16777216) : metO (A ++ [.lst ps, o]) "list.append" (.obj A.length) [.d p] = some (.val (.d .none), A ++ [.lst (ps ++ [p]), o]) := by
  have e : metO (A ++ [.lst ps, o]) "list.append" (.obj A.length) [.d p] = meApp (A ++ [.lst ps, o]) (.obj A.length) [.d p] := rfl
  rw [e]
  unfold meApp
  simp only [get_last, szl, h, if_true, set_last]
theorem ext_last {A : Hs} {o : Ob} {ps qs : List PyData} (h : ps.length + qs.length ≤ 16777216) : metO (A ++ [o, .lst ps]) "list.extend" (.obj (A.length + 1)) [.d (.list qs)] = some (.val (.d .none), A ++ [o, .lst (ps ++ qs)]) := by
  have e : metO (A ++ [o, .lst ps]) "list.extend" (.obj (A.length + 1)) [.d (.list qs)] = meExt (A ++ [o, .lst ps]) (.obj (A.length + 1)) [.d (.list qs)] := rfl
  rw [e]
  unfold meExt
  simp only [get_last1, lstOf, szl, h, if_true, set_last1]
theorem leave_obj {A : Hs} (hA : Cl A) {ps : List PyData} {o : Ob} : leave false A.length (.val (.obj A.length)) (A ++ [.lst ps, o]) = some (.new (.lst ps), A) := by
  have e : (A ++ [.lst ps, o]).take A.length = A := by simp
  have hA' : A.all (clean A.length) = true := hA
  unfold leave
  simp only [e, hA', get_last, Nat.lt_irrefl, decide_false]
  rfl
theorem leave_two {A : Hs} (hA : Cl A) {o o' : Ob} {p : PyData} : leave false A.length (.val (.d p)) (A ++ [o, o']) = some (.val (.d p), A) := by
  have e : (A ++ [o, o']).take A.length = A := by simp
  rw [leave_d (by rw [e]; exact hA), e]
theorem Cl.two {A : Hs} (h : Cl A) {ps qs : List PyData} : Cl (A ++ [.lst ps, .lst qs]) := by
  have := (h.app (ps := ps)).app (ps := qs)
  rw [List.append_assoc] at this
  exact this
theorem rev_step {x : Wp} {st : List Wp} : ((x :: st).reverse.map enc) = st.reverse.map enc ++ [enc x] := by simp
theorem form_tup {p : PyData} (h : formB p = true) : ∃ t r, p = .tuple (.str t :: r) := by
  match p, h with
  | .tuple (.str t :: r), _ => exact ⟨t, r, rfl⟩
theorem own_eq {t : Str} {r : List PyData} : ownP (.tuple (.str t :: r)) = if ("rec" : Str) = t then (match r with | [.tuple fs] => fs.map snd2 | _ => []) else if jn t = true then r else [] := rfl
theorem own_sm {p : PyData} (hs : smP w p = true) (hf : formB p = true) : (∀ q ∈ ownP p, smP w q = true) ∧ (ownP p).length ≤ w := by
  obtain ⟨t, r, rfl⟩ := form_tup hf
  have h1 := smP_tup.mp hs
  rw [own_eq]
  split
  · rename_i ht
    subst ht
    have hf' : formR ("rec" : Str) r = true := by
      have : (decide _ && formR _ r) = true := hf
      exact (Bool.and_eq_true_iff.mp this).2
    match r, hf', h1 with
    | [a], hf', h1 =>
      have hr : fieldsB a = true := hf'
      match a, hr with
      | .tuple fs, hr =>
        have hr : fldsB (Str.ofString "") fs = true := hr
        have h2 := smP_tup.mp (h1.2 (.tuple fs) (by simp))
        unfold fldsB at hr
        cases hz : labs fs with
        | none => rw [hz] at hr; cases hr
        | some zs =>
          refine ⟨fun q hq => ?_, by simpa using h2.1⟩
          obtain ⟨y, hy, rfl⟩ := List.mem_map.mp hq
          obtain ⟨l, v, rfl⟩ := labs_pairs hz y hy
          exact (smP_tup.mp (h2.2 _ hy)).2 v (by simp)
    | [], hf', _ =>
      have e : formR ("rec" : Str) [] = false := rfl
      rw [e] at hf'
      cases hf'
    | a :: b :: c, hf', _ =>
      have e : formR ("rec" : Str) (a :: b :: c) = false := rfl
      rw [e] at hf'
      cases hf'
  · split
    · exact ⟨fun q hq => h1.2 q (by simp [hq]), by simp only [List.length_cons] at h1; omega⟩
    · exact ⟨fun q hq => (by cases hq), Nat.zero_le _⟩
theorem rangeP_eq {m : Nat} : rangeP 0 ((m : Int)).toNat = (List.range m).map fun i => .int (0 + (i : Int)) := rfl
theorem kid_at {p : PyData} {i : Nat} (h : i < (ownP p).length) : atI (ownP p) (0 + (i : Int)) = some ((ownP p).getD i .none) := by
  unfold atI
  rw [ixN_nat (by omega) (by omega), Option.bind_some]
  have : (0 + (i : Int)).toNat = i := by omega
  rw [this, List.getElem?_eq_getElem h, List.getD_eq_getElem?_getD, List.getElem?_eq_getElem h]
  rfl
theorem kid_at0 {p : PyData} {i : Nat} (h : i < (ownP p).length) : atI (ownP p) (i : Int) = some ((ownP p).getD i .none) := by
  have := kid_at h
  rw [Int.zero_add] at this
  exact this
/-- what stands in the stack -/
def StOk (w : Nat) (st : List Wp) : Prop := (∀ x ∈ st, smP w x.2 = true ∧ x.1.length ≤ 6) ∧ st.length ≤ 100000
abbrev wlBody : List S := [.asgT (.tp [(.nm 5), (.nm 6)]) (.meth "list.pop" (.v 3) []), .iff (.or [(.cmp .Eq (.bi "len" [(.v 1)]) (.gc "MOST_PARTS")), (.cmp .Gt (.bi "len" [(.v 5)]) (.gc "MOST_WITHIN")), (.not (.call "has_form" [(.v 6)]))]) [.rais "BadKind" [(.v 5)]] [], .aug 2 .Add (.bi "int" [(.cmp .Eq (.ix (.v 6) (.k (.int 0))) (.k (.str "fun")))]), .iff (.cmp .Gt (.v 2) (.gc "MOST_FUNS")) [.rais "BadKind" [(.v 5)]] [], .exp (.meth "list.append" (.v 1) [(.tup [(.v 5), (.v 6)])]), .asg 4 (.call "own_parts" [(.v 6)]) false, .exp (.meth "list.extend" (.v 3) [(.lc (.tup [(.bin .Add (.v 5) (.tup [(.v 7)])), (.ix (.v 4) (.v 7))]) (.nm 7) (.rvr (.bi "len" [(.v 4)])) [] [7])])]
theorem excF_one {flds : Str → Option (List Str)} {c f : Str} {p : PyData} (h : flds c = some [f]) : excF flds c [.d p] = some [(f, p)] := by
  unfold excF
  rw [h]
  rfl
theorem isE {α : Type} {ps : List α} {p : α} : (ps ++ [p]).isEmpty = false := by simp
theorem kids_len {x : Wp} : (kids x).length = (ownP x.2).length := by simp [kids]
theorem kids_ok {x y : Wp} (hs : smP w x.2 = true) (hf : formB x.2 = true) (hl : x.1.length ≤ 5) (hy : y ∈ kids x) : smP w y.2 = true ∧ y.1.length ≤ 6 := by
  unfold kids at hy
  obtain ⟨i, hi, rfl⟩ := List.mem_map.mp hy
  have hi := List.mem_range.mp hi
  refine ⟨?_, by simp only [List.length_append, List.length_cons, List.length_nil]; omega⟩
  refine (own_sm hs hf).1 _ ?_
  rw [List.getD_eq_getElem?_getD, List.getElem?_eq_getElem hi]
  exact List.getElem_mem hi
theorem way_add {x : Wp} {i : Int} (hl : x.1.length ≤ 5) {A : Hs} : binO A .Add (.d (wayP x.1)) (.d (.tuple [.int i])) = some (.val (.d (wayP (x.1 ++ [i])))) := by
  have e : binO A .Add (.d (wayP x.1)) (.d (.tuple [.int i])) = if (x.1.map PyData.int).length + 1 ≤ sizeLine then some (.val (.d (.tuple (x.1.map PyData.int ++ [.int i])))) else none := rfl
  rw [e, List.length_map, if_pos (by rw [szl]; omega)]
  unfold wayP
  rw [List.map_append]
  rfl
theorem isFun_tup {t : Str} {r : List PyData} : isFun (.tuple (.str t :: r)) = decide (t = ("fun" : Str)) := rfl
theorem walked_loop (g : GenP P) (hA : Cl A) {p : PyData} (hw : w ≤ 1000) : ∀ {k fuel : Nat} {st found : List Wp} {funs : Nat} {a b c d : Option U}, k ≤ fuel → (∀ x ∈ st, smP w x.2 = true ∧ x.1.length ≤ 6) → st.length + 1000 * k ≤ 100000 → found.length + k = 25 → found.length ≤ 24 → funs ≤ 4 →
    wS (whlGo (fun δ => boolM (ev (geN P (n + 4) bad) (.cmp .NotEq (.v 3) (.lst [])) δ)) (exs (geN P (n + 4) bad) wlBody) fuel [some (.d p), some (.obj A.length), some (.d (.int funs)), some (.obj (A.length + 1)), a, b, c, d] (A ++ [.lst (found.map enc), .lst (st.reverse.map enc)])) (sqK (geN P (n + 4) bad) [.ret (some (.v 1))] (pst false A.length Φ E)) = (match wk k st found funs with
    | .inl fd => Φ (.new (.lst (fd.map enc))) A
    | .inr way => E "BadKind" [(Str.ofString "place", wayP way)] A) := by
  intro k
  induction k with
  | zero => intro fuel st found funs a b c d _ _ _ h4 h6 _; omega
  | succ k ih =>
    intro fuel st found funs a b c d h1 h2 h3 h4 h6 h5
    obtain ⟨fuel, rfl⟩ : ∃ f, fuel = f + 1 := ⟨fuel - 1, by omega⟩
    rw [whl_step, wq_bool]
    cases st with
    | nil =>
      simp only [BQ, q_ife, BZ, BO, BV, BL, tyN, mTy, List.replicate, List.getElem?_cons_zero, List.getElem?_cons_succ, List.set_cons_zero, List.set_cons_succ, List.map_cons, List.map_nil, List.cons_append, List.nil_append, List.all_cons, List.all_nil, Option.map_some, Option.map_none, Option.bind_some, Option.bind_none, if_true, if_false, ite_true, ite_false, List.length_cons, List.length_nil, ite_self, Nat.reduceAdd, Nat.reduceLeDiff, Nat.reduceLT, Nat.reduceMul, Int.reduceLT, Int.reduceLE, Int.reduceNeg, Int.reduceAdd, Int.reduceSub, Int.reduceMul, Int.reducePow, Int.reduceEq, o_eqO get_last1, List.reverse_nil, List.isEmpty_nil]
      rw [z_cons]
      simp only [BQ, q_ife, BZ, BO, BV, BL, tyN, mTy, List.replicate, List.getElem?_cons_zero, List.getElem?_cons_succ, List.set_cons_zero, List.set_cons_succ, List.map_cons, List.map_nil, List.cons_append, List.nil_append, List.all_cons, List.all_nil, Option.map_some, Option.map_none, Option.bind_some, Option.bind_none, if_true, if_false, ite_true, ite_false, List.length_cons, List.length_nil, ite_self, Nat.reduceAdd, Nat.reduceLeDiff, Nat.reduceLT, Nat.reduceMul, Int.reduceLT, Int.reduceLE, Int.reduceNeg, Int.reduceAdd, Int.reduceSub, Int.reduceMul, Int.reducePow, Int.reduceEq, leave_obj hA]
      rfl
    | cons x st =>
      have hx := h2 x (by simp)
      simp only [List.length_cons] at h3
      rw [rev_step]
      simp only [BQ, q_ife, BZ, BO, BV, BL, tyN, mTy, List.replicate, List.getElem?_cons_zero, List.getElem?_cons_succ, List.set_cons_zero, List.set_cons_succ, List.map_cons, List.map_nil, List.cons_append, List.nil_append, List.all_cons, List.all_nil, Option.map_some, Option.map_none, Option.bind_some, Option.bind_none, if_true, if_false, ite_true, ite_false, List.length_cons, List.length_nil, ite_self, Nat.reduceAdd, Nat.reduceLeDiff, Nat.reduceLT, Nat.reduceMul, Int.reduceLT, Int.reduceLE, Int.reduceNeg, Int.reduceAdd, Int.reduceSub, Int.reduceMul, Int.reducePow, Int.reduceEq, o_eqO get_last1, isE]
      rw [wlBody, z_cons]
      simp only [BQ, q_ife, BZ, BO, BV, BL, tyN, mTy, List.replicate, List.getElem?_cons_zero, List.getElem?_cons_succ, List.set_cons_zero, List.set_cons_succ, List.map_cons, List.map_nil, List.cons_append, List.nil_append, List.all_cons, List.all_nil, Option.map_some, Option.map_none, Option.bind_some, Option.bind_none, if_true, if_false, ite_true, ite_false, List.length_cons, List.length_nil, ite_self, Nat.reduceAdd, Nat.reduceLeDiff, Nat.reduceLT, Nat.reduceMul, Int.reduceLT, Int.reduceLE, Int.reduceNeg, Int.reduceAdd, Int.reduceSub, Int.reduceMul, Int.reducePow, Int.reduceEq, get_last1, pop_last, enc]
      have hA2 : Cl (A ++ [.lst (found.map enc), .lst (st.reverse.map enc)]) := hA.two
      have bad : ∀ {δ : Fr} {ss ss' : List S} {I : Fr → Hs → Prop} {h : wk (k + 1) (x :: st) found funs = .inr x.1}, δ[5]? = some (some (.d (wayP x.1))) → wS (exs (geN P (n + 4) bad) [.rais "BadKind" [.v 5]] δ (A ++ [.lst (found.map enc), .lst (st.reverse.map enc)])) (sqK (geN P (n + 4) bad) ss (frK I (sqK (geN P (n + 4) bad) ss' (pst false A.length Φ E)))) = (match wk (k + 1) (x :: st) found funs with
          | .inl fd => Φ (.new (.lst (fd.map enc))) A
          | .inr way => E "BadKind" [(Str.ofString "place", wayP way)] A) := fun {δ ss ss' I h} hδ => by
        rw [h, z_cons]
        simp only [BQ, q_ife, BZ, BO, BV, BL, tyN, mTy, List.replicate, List.getElem?_cons_zero, List.getElem?_cons_succ, List.set_cons_zero, List.set_cons_succ, List.map_cons, List.map_nil, List.cons_append, List.nil_append, List.all_cons, List.all_nil, Option.map_some, Option.map_none, Option.bind_some, Option.bind_none, if_true, if_false, ite_true, ite_false, List.length_cons, List.length_nil, ite_self, Nat.reduceAdd, Nat.reduceLeDiff, Nat.reduceLT, Nat.reduceMul, Int.reduceLT, Int.reduceLE, Int.reduceNeg, Int.reduceAdd, Int.reduceSub, Int.reduceMul, Int.reducePow, Int.reduceEq, hδ, excF_one g.flds, leave_two hA]
      rw [z_cons]
      simp only [BQ, q_ife, BZ, BO, BV, BL, tyN, mTy, List.replicate, List.getElem?_cons_zero, List.getElem?_cons_succ, List.set_cons_zero, List.set_cons_succ, List.map_cons, List.map_nil, List.cons_append, List.nil_append, List.all_cons, List.all_nil, Option.map_some, Option.map_none, Option.bind_some, Option.bind_none, if_true, if_false, ite_true, ite_false, List.length_cons, List.length_nil, ite_self, Nat.reduceAdd, Nat.reduceLeDiff, Nat.reduceLT, Nat.reduceMul, Int.reduceLT, Int.reduceLE, Int.reduceNeg, Int.reduceAdd, Int.reduceSub, Int.reduceMul, Int.reducePow, Int.reduceEq, o_lenO get_last, List.length_map, g.parts, g.within, o_lenT, wayP, hasForm_q g hA2 hx.1]
      by_cases c1 : found.length = 24
      · have c1' : (found.length : Int) = 24 := by omega
        simp only [BQ, q_ife, BZ, BO, BV, BL, tyN, mTy, List.replicate, List.getElem?_cons_zero, List.getElem?_cons_succ, List.set_cons_zero, List.set_cons_succ, List.map_cons, List.map_nil, List.cons_append, List.nil_append, List.all_cons, List.all_nil, Option.map_some, Option.map_none, Option.bind_some, Option.bind_none, if_true, if_false, ite_true, ite_false, List.length_cons, List.length_nil, ite_self, Nat.reduceAdd, Nat.reduceLeDiff, Nat.reduceLT, Nat.reduceMul, Int.reduceLT, Int.reduceLE, Int.reduceNeg, Int.reduceAdd, Int.reduceSub, Int.reduceMul, Int.reducePow, Int.reduceEq, c1']
        refine bad (h := by rw [wk, if_pos (.inl c1)]) rfl
      · have c1' : ¬ (found.length : Int) = 24 := by omega
        by_cases c2 : 5 < x.1.length
        · have c2' : (5 : Int) < x.1.length := by omega
          simp only [BQ, q_ife, BZ, BO, BV, BL, tyN, mTy, List.replicate, List.getElem?_cons_zero, List.getElem?_cons_succ, List.set_cons_zero, List.set_cons_succ, List.map_cons, List.map_nil, List.cons_append, List.nil_append, List.all_cons, List.all_nil, Option.map_some, Option.map_none, Option.bind_some, Option.bind_none, if_true, if_false, ite_true, ite_false, List.length_cons, List.length_nil, ite_self, Nat.reduceAdd, Nat.reduceLeDiff, Nat.reduceLT, Nat.reduceMul, Int.reduceLT, Int.reduceLE, Int.reduceNeg, Int.reduceAdd, Int.reduceSub, Int.reduceMul, Int.reducePow, Int.reduceEq, c1', c2']
          refine bad (h := by rw [wk, if_pos (.inr (.inl c2))]) rfl
        · have c2' : ¬ (5 : Int) < x.1.length := by omega
          simp only [BQ, q_ife, BZ, BO, BV, BL, tyN, mTy, List.replicate, List.getElem?_cons_zero, List.getElem?_cons_succ, List.set_cons_zero, List.set_cons_succ, List.map_cons, List.map_nil, List.cons_append, List.nil_append, List.all_cons, List.all_nil, Option.map_some, Option.map_none, Option.bind_some, Option.bind_none, if_true, if_false, ite_true, ite_false, List.length_cons, List.length_nil, ite_self, Nat.reduceAdd, Nat.reduceLeDiff, Nat.reduceLT, Nat.reduceMul, Int.reduceLT, Int.reduceLE, Int.reduceNeg, Int.reduceAdd, Int.reduceSub, Int.reduceMul, Int.reducePow, Int.reduceEq, c1', c2']
          cases c3 : formB x.2 with
          | false =>
            simp only [BQ, q_ife, BZ, BO, BV, BL, tyN, mTy, List.replicate, List.getElem?_cons_zero, List.getElem?_cons_succ, List.set_cons_zero, List.set_cons_succ, List.map_cons, List.map_nil, List.cons_append, List.nil_append, List.all_cons, List.all_nil, Option.map_some, Option.map_none, Option.bind_some, Option.bind_none, if_true, if_false, ite_true, ite_false, List.length_cons, List.length_nil, ite_self, Nat.reduceAdd, Nat.reduceLeDiff, Nat.reduceLT, Nat.reduceMul, Int.reduceLT, Int.reduceLE, Int.reduceNeg, Int.reduceAdd, Int.reduceSub, Int.reduceMul, Int.reducePow, Int.reduceEq]
            refine bad (h := by rw [wk, if_pos (.inr (.inr c3))]) rfl
          | true =>
            simp only [BQ, q_ife, BZ, BO, BV, BL, tyN, mTy, List.replicate, List.getElem?_cons_zero, List.getElem?_cons_succ, List.set_cons_zero, List.set_cons_succ, List.map_cons, List.map_nil, List.cons_append, List.nil_append, List.all_cons, List.all_nil, Option.map_some, Option.map_none, Option.bind_some, Option.bind_none, if_true, if_false, ite_true, ite_false, List.length_cons, List.length_nil, ite_self, Nat.reduceAdd, Nat.reduceLeDiff, Nat.reduceLT, Nat.reduceMul, Int.reduceLT, Int.reduceLE, Int.reduceNeg, Int.reduceAdd, Int.reduceSub, Int.reduceMul, Int.reducePow, Int.reduceEq]
            have hn : ¬ (found.length = 24 ∨ 5 < x.1.length ∨ formB x.2 = false) := by rw [c3]; simp [c1, c2]
            obtain ⟨t, r, ht⟩ := form_tup c3
            rw [z_cons]
            have hfn : (if t = ("fun" : Str) then (1 : Int) else 0) = (fnN x.2 : Int) := by
              unfold fnN
              rw [ht, isFun_tup]
              by_cases z : t = ("fun" : Str)
              · simp [z]
              · simp [z]
            have hix : ∀ {A : Hs}, ixO A (.d x.2) (.d (.int 0)) = some (.d (.str t)) := fun {A} => by rw [ht, o_ixT, at0]; rfl
            simp only [BQ, q_ife, BZ, BO, BV, BL, tyN, mTy, List.replicate, List.getElem?_cons_zero, List.getElem?_cons_succ, List.set_cons_zero, List.set_cons_succ, List.map_cons, List.map_nil, List.cons_append, List.nil_append, List.all_cons, List.all_nil, Option.map_some, Option.map_none, Option.bind_some, Option.bind_none, if_true, if_false, ite_true, ite_false, List.length_cons, List.length_nil, ite_self, Nat.reduceAdd, Nat.reduceLeDiff, Nat.reduceLT, Nat.reduceMul, Int.reduceLT, Int.reduceLE, Int.reduceNeg, Int.reduceAdd, Int.reduceSub, Int.reduceMul, Int.reducePow, Int.reduceEq, hix, hfn]
            rw [z_cons]
            simp only [BQ, q_ife, BZ, BO, BV, BL, tyN, mTy, List.replicate, List.getElem?_cons_zero, List.getElem?_cons_succ, List.set_cons_zero, List.set_cons_succ, List.map_cons, List.map_nil, List.cons_append, List.nil_append, List.all_cons, List.all_nil, Option.map_some, Option.map_none, Option.bind_some, Option.bind_none, if_true, if_false, ite_true, ite_false, List.length_cons, List.length_nil, ite_self, Nat.reduceAdd, Nat.reduceLeDiff, Nat.reduceLT, Nat.reduceMul, Int.reduceLT, Int.reduceLE, Int.reduceNeg, Int.reduceAdd, Int.reduceSub, Int.reduceMul, Int.reducePow, Int.reduceEq, g.funs]
            by_cases c4 : 4 < funs + fnN x.2
            · have c4' : (4 : Int) < (funs : Int) + (fnN x.2 : Int) := by omega
              simp only [BQ, q_ife, BZ, BO, BV, BL, tyN, mTy, List.replicate, List.getElem?_cons_zero, List.getElem?_cons_succ, List.set_cons_zero, List.set_cons_succ, List.map_cons, List.map_nil, List.cons_append, List.nil_append, List.all_cons, List.all_nil, Option.map_some, Option.map_none, Option.bind_some, Option.bind_none, if_true, if_false, ite_true, ite_false, List.length_cons, List.length_nil, ite_self, Nat.reduceAdd, Nat.reduceLeDiff, Nat.reduceLT, Nat.reduceMul, Int.reduceLT, Int.reduceLE, Int.reduceNeg, Int.reduceAdd, Int.reduceSub, Int.reduceMul, Int.reducePow, Int.reduceEq, c4']
              refine bad (h := by rw [wk, if_neg hn, if_pos c4]) rfl
            · have c4' : ¬ (4 : Int) < (funs : Int) + (fnN x.2 : Int) := by omega
              simp only [BQ, q_ife, BZ, BO, BV, BL, tyN, mTy, List.replicate, List.getElem?_cons_zero, List.getElem?_cons_succ, List.set_cons_zero, List.set_cons_succ, List.map_cons, List.map_nil, List.cons_append, List.nil_append, List.all_cons, List.all_nil, Option.map_some, Option.map_none, Option.bind_some, Option.bind_none, if_true, if_false, ite_true, ite_false, List.length_cons, List.length_nil, ite_self, Nat.reduceAdd, Nat.reduceLeDiff, Nat.reduceLT, Nat.reduceMul, Int.reduceLT, Int.reduceLE, Int.reduceNeg, Int.reduceAdd, Int.reduceSub, Int.reduceMul, Int.reducePow, Int.reduceEq, c4']
              have hfl : (found.map enc).length < 16777216 := by rw [List.length_map]; omega
              rw [z_cons]
              simp only [BQ, q_ife, BZ, BO, BV, BL, tyN, mTy, List.replicate, List.getElem?_cons_zero, List.getElem?_cons_succ, List.set_cons_zero, List.set_cons_succ, List.map_cons, List.map_nil, List.cons_append, List.nil_append, List.all_cons, List.all_nil, Option.map_some, Option.map_none, Option.bind_some, Option.bind_none, if_true, if_false, ite_true, ite_false, List.length_cons, List.length_nil, ite_self, Nat.reduceAdd, Nat.reduceLeDiff, Nat.reduceLT, Nat.reduceMul, Int.reduceLT, Int.reduceLE, Int.reduceNeg, Int.reduceAdd, Int.reduceSub, Int.reduceMul, Int.reducePow, Int.reduceEq, get_last, app_first hfl]
              rw [z_cons]
              have hA3 : Cl (A ++ [.lst (found.map enc ++ [.tuple [.tuple (x.1.map .int), x.2]]), .lst (st.reverse.map enc)]) := hA.two
              simp only [BQ, q_ife, BZ, BO, BV, BL, tyN, mTy, List.replicate, List.getElem?_cons_zero, List.getElem?_cons_succ, List.set_cons_zero, List.set_cons_succ, List.map_cons, List.map_nil, List.cons_append, List.nil_append, List.all_cons, List.all_nil, Option.map_some, Option.map_none, Option.bind_some, Option.bind_none, if_true, if_false, ite_true, ite_false, List.length_cons, List.length_nil, ite_self, Nat.reduceAdd, Nat.reduceLeDiff, Nat.reduceLT, Nat.reduceMul, Int.reduceLT, Int.reduceLE, Int.reduceNeg, Int.reduceAdd, Int.reduceSub, Int.reduceMul, Int.reducePow, Int.reduceEq, own_q g hA3 c3 hx.1 hw]
              rw [z_cons]
              simp only [BQ, q_ife, BZ, BO, BV, BL, tyN, mTy, List.replicate, List.getElem?_cons_zero, List.getElem?_cons_succ, List.set_cons_zero, List.set_cons_succ, List.map_cons, List.map_nil, List.cons_append, List.nil_append, List.all_cons, List.all_nil, Option.map_some, Option.map_none, Option.bind_some, Option.bind_none, if_true, if_false, ite_true, ite_false, List.length_cons, List.length_nil, ite_self, Nat.reduceAdd, Nat.reduceLeDiff, Nat.reduceLT, Nat.reduceMul, Int.reduceLT, Int.reduceLE, Int.reduceNeg, Int.reduceAdd, Int.reduceSub, Int.reduceMul, Int.reducePow, Int.reduceEq, get_last1]
              have hol := (own_sm hx.1 c3).2
              rw [eq_true (show (-4611686018427387904 ≤ ((ownP x.2).length : Int) ∧ ((ownP x.2).length : Int) < 4611686018427387904) from ⟨by omega, by omega⟩), true_and, rangeP_eq, ← List.map_reverse, lc_mapS (h := fun (i : Nat) => PyData.int (0 + (i : Int))) (g := fun (i : Nat) => enc (x.1 ++ [(i : Int)], (ownP x.2).getD i .none)) rfl]
              · have eL : (List.range (ownP x.2).length).reverse.map (fun (i : Nat) => enc (x.1 ++ [(i : Int)], (ownP x.2).getD i .none)) = ((kids x).map enc).reverse := by
                  unfold kids
                  rw [List.map_map, ← List.map_reverse]
                  rfl
                rw [eL]
                have hl1 : (st.reverse.map enc).length + ((kids x).map enc).reverse.length ≤ 16777216 := by
                  simp only [List.length_map, List.length_reverse, kids_len]
                  omega
                simp only [BQ, q_ife, BZ, BO, BV, BL, tyN, mTy, List.replicate, List.getElem?_cons_zero, List.getElem?_cons_succ, List.set_cons_zero, List.set_cons_succ, List.map_cons, List.map_nil, List.cons_append, List.nil_append, List.all_cons, List.all_nil, Option.map_some, Option.map_none, Option.bind_some, Option.bind_none, if_true, if_false, ite_true, ite_false, List.length_cons, List.length_nil, ite_self, Nat.reduceAdd, Nat.reduceLeDiff, Nat.reduceLT, Nat.reduceMul, Int.reduceLT, Int.reduceLE, Int.reduceNeg, Int.reduceAdd, Int.reduceSub, Int.reduceMul, Int.reducePow, Int.reduceEq, ext_last hl1]
                have e1 : found.map enc ++ [.tuple [.tuple (x.1.map .int), x.2]] = (found ++ [x]).map enc := by rw [List.map_append]; rfl
                have e2 : st.reverse.map enc ++ ((kids x).map enc).reverse = (kids x ++ st).reverse.map enc := by simp
                rw [e1, e2, eq_true (show ((kids x).map enc).reverse.length ≤ 16777216 by simp only [List.length_map, List.length_reverse, kids_len]; omega), true_and]
                have hw2 : wk (k + 1) (x :: st) found funs = wk k (kids x ++ st) (found ++ [x]) (funs + fnN x.2) := by rw [wk, if_neg hn, if_neg c4]
                rw [hw2]
                refine ih (by omega) (fun y hy => ?_) ?_ ?_ ?_ (by omega)
                · rcases List.mem_append.mp hy with z | z
                  · exact kids_ok hx.1 c3 (by omega) z
                  · exact h2 y (by simp [z])
                · simp only [List.length_append, kids_len]
                  omega
                · simp only [List.length_append, List.length_cons, List.length_nil]
                  omega
                · simp only [List.length_append, List.length_cons, List.length_nil]
                  omega
              · intro i hi Φ
                have hi := List.mem_range.mp (List.mem_reverse.mp hi)
                have hx5 : x.1.length + 1 ≤ 16777216 := by omega
                simp only [BQ, q_ife, BZ, BO, BV, BL, tyN, mTy, List.replicate, List.getElem?_cons_zero, List.getElem?_cons_succ, List.set_cons_zero, List.set_cons_succ, List.map_cons, List.map_nil, List.cons_append, List.nil_append, List.all_cons, List.all_nil, Option.map_some, Option.map_none, Option.bind_some, Option.bind_none, if_true, if_false, ite_true, ite_false, List.length_cons, List.length_nil, ite_self, Nat.reduceAdd, Nat.reduceLeDiff, Nat.reduceLT, Nat.reduceMul, Int.reduceLT, Int.reduceLE, Int.reduceNeg, Int.reduceAdd, Int.reduceSub, Int.reduceMul, Int.reducePow, Int.reduceEq, kid_at0 hi, List.length_map, enc, wayP, List.map_append, Int.zero_add, hx5]
theorem walked_q (g : GenP P) (hA : Cl A) {p : PyData} (hs : smP w p = true) (hw : w ≤ 1000) : wq (callN P (n + 5) "walked" [.d p]) A Φ E = (match wk 25 [([], p)] [] 0 with
    | .inl fd => Φ (.new (.lst (fd.map enc))) A
    | .inr way => E "BadKind" [(Str.ofString "place", wayP way)] A) := by
  rw [wq_call g.walked rfl]
  simp only [fWalked, b_walked]
  rw [z_cons]
  simp only [BQ, q_ife, BZ, BO, BV, BL, tyN, mTy, List.replicate, List.getElem?_cons_zero, List.getElem?_cons_succ, List.set_cons_zero, List.set_cons_succ, List.map_cons, List.map_nil, List.cons_append, List.nil_append, List.all_cons, List.all_nil, Option.map_some, Option.map_none, Option.bind_some, Option.bind_none, if_true, if_false, ite_true, ite_false, List.length_cons, List.length_nil, ite_self, Nat.reduceAdd, Nat.reduceLeDiff, Nat.reduceLT, Nat.reduceMul, Int.reduceLT, Int.reduceLE, Int.reduceNeg, Int.reduceAdd, Int.reduceSub, Int.reduceMul, Int.reducePow, Int.reduceEq]
  rw [z_cons]
  simp only [BQ, q_ife, BZ, BO, BV, BL, tyN, mTy, List.replicate, List.getElem?_cons_zero, List.getElem?_cons_succ, List.set_cons_zero, List.set_cons_succ, List.map_cons, List.map_nil, List.cons_append, List.nil_append, List.all_cons, List.all_nil, Option.map_some, Option.map_none, Option.bind_some, Option.bind_none, if_true, if_false, ite_true, ite_false, List.length_cons, List.length_nil, ite_self, Nat.reduceAdd, Nat.reduceLeDiff, Nat.reduceLT, Nat.reduceMul, Int.reduceLT, Int.reduceLE, Int.reduceNeg, Int.reduceAdd, Int.reduceSub, Int.reduceMul, Int.reducePow, Int.reduceEq]
  rw [z_cons]
  simp only [BQ, q_ife, BZ, BO, BV, BL, tyN, mTy, List.replicate, List.getElem?_cons_zero, List.getElem?_cons_succ, List.set_cons_zero, List.set_cons_succ, List.map_cons, List.map_nil, List.cons_append, List.nil_append, List.all_cons, List.all_nil, Option.map_some, Option.map_none, Option.bind_some, Option.bind_none, if_true, if_false, ite_true, ite_false, List.length_cons, List.length_nil, ite_self, Nat.reduceAdd, Nat.reduceLeDiff, Nat.reduceLT, Nat.reduceMul, Int.reduceLT, Int.reduceLE, Int.reduceNeg, Int.reduceAdd, Int.reduceSub, Int.reduceMul, Int.reducePow, Int.reduceEq]
  rw [z_cons]
  simp only [BQ, q_ife, BZ, BO, BV, BL, tyN, mTy, List.replicate, List.getElem?_cons_zero, List.getElem?_cons_succ, List.set_cons_zero, List.set_cons_succ, List.map_cons, List.map_nil, List.cons_append, List.nil_append, List.all_cons, List.all_nil, Option.map_some, Option.map_none, Option.bind_some, Option.bind_none, if_true, if_false, ite_true, ite_false, List.length_cons, List.length_nil, ite_self, Nat.reduceAdd, Nat.reduceLeDiff, Nat.reduceLT, Nat.reduceMul, Int.reduceLT, Int.reduceLE, Int.reduceNeg, Int.reduceAdd, Int.reduceSub, Int.reduceMul, Int.reducePow, Int.reduceEq]
  have e1 : (A ++ [Ob.lst []]) ++ [Ob.lst [PyData.tuple [.tuple [], p]]] = A ++ [.lst (([] : List Wp).map enc), .lst (([([], p)] : List Wp).reverse.map enc)] := by simp [enc, wayP]
  have e2 : (A ++ [Ob.lst []]).length = A.length + 1 := by simp
  rw [e1, e2]
  exact walked_loop g hA hw (k := 25) (found := []) (funs := 0) (by have := g.lim; omega) (fun x hx => by rw [List.mem_singleton.mp hx]; exact ⟨hs, by simp⟩) (by simp) rfl (by simp) (by decide)
theorem needKind_q (g : GenP P) (hA : Cl A) {p : PyData} (hs : smP w p = true) (hw : w ≤ 1000) : wq (callN P (n + 6) "need_kind" [.d p]) A Φ E = (match wk 25 [([], p)] [] 0 with
    | .inl _ => Φ (.val (.d p)) A
    | .inr way => E "BadKind" [(Str.ofString "place", wayP way)] A) := by
  rw [wq_call g.needKind rfl]
  simp only [fNeedKind, b_need_kind]
  rw [z_cons]
  simp only [BQ, q_ife, BZ, BO, BV, BL, tyN, mTy, List.replicate, List.getElem?_cons_zero, List.getElem?_cons_succ, List.set_cons_zero, List.set_cons_succ, List.map_cons, List.map_nil, List.cons_append, List.nil_append, List.all_cons, List.all_nil, Option.map_some, Option.map_none, Option.bind_some, Option.bind_none, if_true, if_false, ite_true, ite_false, List.length_cons, List.length_nil, ite_self, Nat.reduceAdd, Nat.reduceLeDiff, Nat.reduceLT, Nat.reduceMul, Int.reduceLT, Int.reduceLE, Int.reduceNeg, Int.reduceAdd, Int.reduceSub, Int.reduceMul, Int.reducePow, Int.reduceEq, walked_q g hA hs hw]
  cases wk 25 [([], p)] [] 0 with
  | inl fd =>
    simp only
    rw [z_cons]
    simp only [BQ, q_ife, BZ, BO, BV, BL, tyN, mTy, List.replicate, List.getElem?_cons_zero, List.getElem?_cons_succ, List.set_cons_zero, List.set_cons_succ, List.map_cons, List.map_nil, List.cons_append, List.nil_append, List.all_cons, List.all_nil, Option.map_some, Option.map_none, Option.bind_some, Option.bind_none, if_true, if_false, ite_true, ite_false, List.length_cons, List.length_nil, ite_self, Nat.reduceAdd, Nat.reduceLeDiff, Nat.reduceLT, Nat.reduceMul, Int.reduceLT, Int.reduceLE, Int.reduceNeg, Int.reduceAdd, Int.reduceSub, Int.reduceMul, Int.reducePow, Int.reduceEq, leave_self hA]
  | inr way =>
    simp only [BQ, q_ife, BZ, BO, BV, BL, tyN, mTy, List.replicate, List.getElem?_cons_zero, List.getElem?_cons_succ, List.set_cons_zero, List.set_cons_succ, List.map_cons, List.map_nil, List.cons_append, List.nil_append, List.all_cons, List.all_nil, Option.map_some, Option.map_none, Option.bind_some, Option.bind_none, if_true, if_false, ite_true, ite_false, List.length_cons, List.length_nil, ite_self, Nat.reduceAdd, Nat.reduceLeDiff, Nat.reduceLT, Nat.reduceMul, Int.reduceLT, Int.reduceLE, Int.reduceNeg, Int.reduceAdd, Int.reduceSub, Int.reduceMul, Int.reducePow, Int.reduceEq, leave_self hA]
/-! ### the law's own walk -/
theorem pop_l {A : Hs} {ps : List PyData} {p : PyData} : metO (A ++ [.lst (ps ++ [p])]) "list.pop" (.obj A.length) [] = some (.val (.d p), A ++ [.lst ps]) := by
  have e : metO (A ++ [.lst (ps ++ [p])]) "list.pop" (.obj A.length) [] = mePop (A ++ [.lst (ps ++ [p])]) (.obj A.length) [] := rfl
  rw [e]
  unfold mePop
  simp only [app_get, List.length_append, List.length_cons, List.length_nil, Nat.zero_add, Nat.add_sub_cancel, List.getElem?_concat_length, List.dropLast_concat, set_app]
abbrev plBody : List S := [.asgT (.tp [(.nm 5), (.nm 6)]) (.meth "list.pop" (.v 1) []), .iff (.or [(.cmp .Eq (.v 2) (.k (.int 24))), (.cmp .Eq (.bi "len" [(.v 5)]) (.k (.int 6))), (.not (.call "_law_has_form" [(.v 6)]))]) [.ret (some (.v 5))] [], .asg 3 (.bin .Add (.v 3) (.bi "int" [(.cmp .Eq (.ix (.v 6) (.k (.int 0))) (.k (.str "fun")))])) false, .iff (.cmp .Eq (.v 3) (.k (.int 5))) [.ret (some (.v 5))] [], .asg 2 (.bin .Add (.v 2) (.k (.int 1))) false, .asg 4 (.call "_law_own" [(.v 6)]) false, .asg 1 (.bin .Add (.v 1) (.lc (.tup [(.bin .Add (.v 5) (.tup [(.bin .Sub (.bin .Sub (.bi "len" [(.v 4)]) (.k (.int 1))) (.v 7))])), (.ix (.v 4) (.bin .Sub (.bin .Sub (.bi "len" [(.v 4)]) (.k (.int 1))) (.v 7)))]) (.nm 7) (.rng [(.bi "len" [(.v 4)])]) [] [7])) true]
theorem leave_more {A B : Hs} (hA : Cl A) {k : Nat} (hB : B.take A.length = A) {p : PyData} {o : Ob} : leave false A.length (.val (.d p)) (B ++ [o]) = some (.val (.d p), A) := by
  have hl : A.length ≤ B.length := by
    have := congrArg List.length hB
    rw [List.length_take] at this
    omega
  have e : (B ++ [o]).take A.length = A := by rw [List.take_append_of_le_length hl]; exact hB
  rw [leave_d (by rw [e]; exact hA), e]
theorem map_rev_range {β : Type} {f : Nat → β} {m : Nat} : (List.range m).map (fun k => f (m - 1 - k)) = ((List.range m).map f).reverse := by
  apply List.ext_getElem
  · simp
  · intro i h1 h2
    simp
theorem place_loop (g : GenL P) {p : PyData} (hw : w ≤ 60) (hA : Cl A) : ∀ {k fuel : Nat} {B : Hs} {st found : List Wp} {funs : Nat} {a b c d : Option U}, Cl B → B.take A.length = A → k ≤ fuel → (∀ x ∈ st, smP 60 x.2 = true ∧ x.1.length ≤ 6) → st.length + 1000 * k ≤ 100000 → found.length + k = 25 → found.length ≤ 24 → funs ≤ 4 →
    wS (whlGo (fun δ => boolM (ev (geN P (n + 3) bad) (.cmp .NotEq (.v 1) (.lst [])) δ)) (exs (geN P (n + 3) bad) plBody) fuel [some (.d p), some (.obj B.length), some (.d (.int found.length)), some (.d (.int funs)), a, b, c, d] (B ++ [.lst (st.reverse.map enc)])) (sqK (geN P (n + 3) bad) [.ret (some (.k .none))] (pst false A.length Φ E)) = (match wk k st found funs with
    | .inl fd => Φ (.val (.d .none)) A
    | .inr way => Φ (.val (.d (wayP way))) A) := by
  intro k
  induction k with
  | zero => intro fuel B st found funs a b c d _ _ _ _ _ h4 h6 _; omega
  | succ k ih =>
    intro fuel B st found funs a b c d hB hBA h1 h2 h3 h4 h6 h5
    obtain ⟨fuel, rfl⟩ : ∃ f, fuel = f + 1 := ⟨fuel - 1, by omega⟩
    rw [whl_step, wq_bool]
    cases st with
    | nil =>
      simp only [BQ, q_ife, BZ, BO, BV, BL, tyN, mTy, List.replicate, List.getElem?_cons_zero, List.getElem?_cons_succ, List.set_cons_zero, List.set_cons_succ, List.map_cons, List.map_nil, List.cons_append, List.nil_append, List.all_cons, List.all_nil, Option.map_some, Option.map_none, Option.bind_some, Option.bind_none, if_true, if_false, ite_true, ite_false, List.length_cons, List.length_nil, ite_self, Nat.reduceAdd, Nat.reduceLeDiff, Nat.reduceLT, Nat.reduceMul, Int.reduceLT, Int.reduceLE, Int.reduceNeg, Int.reduceAdd, Int.reduceSub, Int.reduceMul, Int.reducePow, Int.reduceEq, o_eqO app_get, List.reverse_nil, List.isEmpty_nil]
      rw [z_cons]
      simp only [BQ, q_ife, BZ, BO, BV, BL, tyN, mTy, List.replicate, List.getElem?_cons_zero, List.getElem?_cons_succ, List.set_cons_zero, List.set_cons_succ, List.map_cons, List.map_nil, List.cons_append, List.nil_append, List.all_cons, List.all_nil, Option.map_some, Option.map_none, Option.bind_some, Option.bind_none, if_true, if_false, ite_true, ite_false, List.length_cons, List.length_nil, ite_self, Nat.reduceAdd, Nat.reduceLeDiff, Nat.reduceLT, Nat.reduceMul, Int.reduceLT, Int.reduceLE, Int.reduceNeg, Int.reduceAdd, Int.reduceSub, Int.reduceMul, Int.reducePow, Int.reduceEq, leave_more (k := 0) hA hBA]
      rfl
    | cons x st =>
      have hx := h2 x (by simp)
      simp only [List.length_cons] at h3
      rw [rev_step]
      simp only [BQ, q_ife, BZ, BO, BV, BL, tyN, mTy, List.replicate, List.getElem?_cons_zero, List.getElem?_cons_succ, List.set_cons_zero, List.set_cons_succ, List.map_cons, List.map_nil, List.cons_append, List.nil_append, List.all_cons, List.all_nil, Option.map_some, Option.map_none, Option.bind_some, Option.bind_none, if_true, if_false, ite_true, ite_false, List.length_cons, List.length_nil, ite_self, Nat.reduceAdd, Nat.reduceLeDiff, Nat.reduceLT, Nat.reduceMul, Int.reduceLT, Int.reduceLE, Int.reduceNeg, Int.reduceAdd, Int.reduceSub, Int.reduceMul, Int.reducePow, Int.reduceEq, o_eqO app_get, isE]
      rw [plBody, z_cons]
      simp only [BQ, q_ife, BZ, BO, BV, BL, tyN, mTy, List.replicate, List.getElem?_cons_zero, List.getElem?_cons_succ, List.set_cons_zero, List.set_cons_succ, List.map_cons, List.map_nil, List.cons_append, List.nil_append, List.all_cons, List.all_nil, Option.map_some, Option.map_none, Option.bind_some, Option.bind_none, if_true, if_false, ite_true, ite_false, List.length_cons, List.length_nil, ite_self, Nat.reduceAdd, Nat.reduceLeDiff, Nat.reduceLT, Nat.reduceMul, Int.reduceLT, Int.reduceLE, Int.reduceNeg, Int.reduceAdd, Int.reduceSub, Int.reduceMul, Int.reducePow, Int.reduceEq, app_get, pop_l, enc]
      have hB2 : Cl (B ++ [.lst (st.reverse.map enc)]) := hB.app
      have bad : ∀ {δ : Fr} {ss ss' : List S} {I : Fr → Hs → Prop} {h : wk (k + 1) (x :: st) found funs = .inr x.1}, δ[5]? = some (some (.d (wayP x.1))) → wS (exs (geN P (n + 3) bad) [.ret (some (.v 5))] δ (B ++ [.lst (st.reverse.map enc)])) (sqK (geN P (n + 3) bad) ss (frK I (sqK (geN P (n + 3) bad) ss' (pst false A.length Φ E)))) = (match wk (k + 1) (x :: st) found funs with
          | .inl fd => Φ (.val (.d .none)) A
          | .inr way => Φ (.val (.d (wayP way))) A) := fun {δ ss ss' I h} hδ => by
        rw [h, z_cons]
        simp only [BQ, q_ife, BZ, BO, BV, BL, tyN, mTy, List.replicate, List.getElem?_cons_zero, List.getElem?_cons_succ, List.set_cons_zero, List.set_cons_succ, List.map_cons, List.map_nil, List.cons_append, List.nil_append, List.all_cons, List.all_nil, Option.map_some, Option.map_none, Option.bind_some, Option.bind_none, if_true, if_false, ite_true, ite_false, List.length_cons, List.length_nil, ite_self, Nat.reduceAdd, Nat.reduceLeDiff, Nat.reduceLT, Nat.reduceMul, Int.reduceLT, Int.reduceLE, Int.reduceNeg, Int.reduceAdd, Int.reduceSub, Int.reduceMul, Int.reducePow, Int.reduceEq, hδ, leave_more (k := 0) hA hBA]
      rw [z_cons]
      simp only [BQ, q_ife, BZ, BO, BV, BL, tyN, mTy, List.replicate, List.getElem?_cons_zero, List.getElem?_cons_succ, List.set_cons_zero, List.set_cons_succ, List.map_cons, List.map_nil, List.cons_append, List.nil_append, List.all_cons, List.all_nil, Option.map_some, Option.map_none, Option.bind_some, Option.bind_none, if_true, if_false, ite_true, ite_false, List.length_cons, List.length_nil, ite_self, Nat.reduceAdd, Nat.reduceLeDiff, Nat.reduceLT, Nat.reduceMul, Int.reduceLT, Int.reduceLE, Int.reduceNeg, Int.reduceAdd, Int.reduceSub, Int.reduceMul, Int.reducePow, Int.reduceEq, List.length_map, o_lenT, wayP, lhasForm_q g hB2 hx.1]
      by_cases c1 : found.length = 24
      · have c1' : (found.length : Int) = 24 := by omega
        simp only [BQ, q_ife, BZ, BO, BV, BL, tyN, mTy, List.replicate, List.getElem?_cons_zero, List.getElem?_cons_succ, List.set_cons_zero, List.set_cons_succ, List.map_cons, List.map_nil, List.cons_append, List.nil_append, List.all_cons, List.all_nil, Option.map_some, Option.map_none, Option.bind_some, Option.bind_none, if_true, if_false, ite_true, ite_false, List.length_cons, List.length_nil, ite_self, Nat.reduceAdd, Nat.reduceLeDiff, Nat.reduceLT, Nat.reduceMul, Int.reduceLT, Int.reduceLE, Int.reduceNeg, Int.reduceAdd, Int.reduceSub, Int.reduceMul, Int.reducePow, Int.reduceEq, c1']
        refine bad (h := by rw [wk, if_pos (.inl c1)]) rfl
      · have c1' : ¬ (found.length : Int) = 24 := by omega
        by_cases c2 : 5 < x.1.length
        · have c2' : (x.1.length : Int) = 6 := by have := hx.2; omega
          simp only [BQ, q_ife, BZ, BO, BV, BL, tyN, mTy, List.replicate, List.getElem?_cons_zero, List.getElem?_cons_succ, List.set_cons_zero, List.set_cons_succ, List.map_cons, List.map_nil, List.cons_append, List.nil_append, List.all_cons, List.all_nil, Option.map_some, Option.map_none, Option.bind_some, Option.bind_none, if_true, if_false, ite_true, ite_false, List.length_cons, List.length_nil, ite_self, Nat.reduceAdd, Nat.reduceLeDiff, Nat.reduceLT, Nat.reduceMul, Int.reduceLT, Int.reduceLE, Int.reduceNeg, Int.reduceAdd, Int.reduceSub, Int.reduceMul, Int.reducePow, Int.reduceEq, c1', c2']
          refine bad (h := by rw [wk, if_pos (.inr (.inl c2))]) rfl
        · have c2' : ¬ (x.1.length : Int) = 6 := by omega
          simp only [BQ, q_ife, BZ, BO, BV, BL, tyN, mTy, List.replicate, List.getElem?_cons_zero, List.getElem?_cons_succ, List.set_cons_zero, List.set_cons_succ, List.map_cons, List.map_nil, List.cons_append, List.nil_append, List.all_cons, List.all_nil, Option.map_some, Option.map_none, Option.bind_some, Option.bind_none, if_true, if_false, ite_true, ite_false, List.length_cons, List.length_nil, ite_self, Nat.reduceAdd, Nat.reduceLeDiff, Nat.reduceLT, Nat.reduceMul, Int.reduceLT, Int.reduceLE, Int.reduceNeg, Int.reduceAdd, Int.reduceSub, Int.reduceMul, Int.reducePow, Int.reduceEq, c1', c2']
          cases c3 : formB x.2 with
          | false =>
            simp only [BQ, q_ife, BZ, BO, BV, BL, tyN, mTy, List.replicate, List.getElem?_cons_zero, List.getElem?_cons_succ, List.set_cons_zero, List.set_cons_succ, List.map_cons, List.map_nil, List.cons_append, List.nil_append, List.all_cons, List.all_nil, Option.map_some, Option.map_none, Option.bind_some, Option.bind_none, if_true, if_false, ite_true, ite_false, List.length_cons, List.length_nil, ite_self, Nat.reduceAdd, Nat.reduceLeDiff, Nat.reduceLT, Nat.reduceMul, Int.reduceLT, Int.reduceLE, Int.reduceNeg, Int.reduceAdd, Int.reduceSub, Int.reduceMul, Int.reducePow, Int.reduceEq]
            refine bad (h := by rw [wk, if_pos (.inr (.inr c3))]) rfl
          | true =>
            simp only [BQ, q_ife, BZ, BO, BV, BL, tyN, mTy, List.replicate, List.getElem?_cons_zero, List.getElem?_cons_succ, List.set_cons_zero, List.set_cons_succ, List.map_cons, List.map_nil, List.cons_append, List.nil_append, List.all_cons, List.all_nil, Option.map_some, Option.map_none, Option.bind_some, Option.bind_none, if_true, if_false, ite_true, ite_false, List.length_cons, List.length_nil, ite_self, Nat.reduceAdd, Nat.reduceLeDiff, Nat.reduceLT, Nat.reduceMul, Int.reduceLT, Int.reduceLE, Int.reduceNeg, Int.reduceAdd, Int.reduceSub, Int.reduceMul, Int.reducePow, Int.reduceEq]
            have hn : ¬ (found.length = 24 ∨ 5 < x.1.length ∨ formB x.2 = false) := by rw [c3]; simp [c1, c2]
            obtain ⟨t, r, ht⟩ := form_tup c3
            rw [z_cons]
            have hfn : (if t = ("fun" : Str) then (1 : Int) else 0) = (fnN x.2 : Int) := by
              unfold fnN
              rw [ht, isFun_tup]
              by_cases z : t = ("fun" : Str)
              · simp [z]
              · simp [z]
            have hix : ∀ {A : Hs}, ixO A (.d x.2) (.d (.int 0)) = some (.d (.str t)) := fun {A} => by rw [ht, o_ixT, at0]; rfl
            have hf1 : fnN x.2 ≤ 1 := by unfold fnN; split <;> omega
            simp only [BQ, q_ife, BZ, BO, BV, BL, tyN, mTy, List.replicate, List.getElem?_cons_zero, List.getElem?_cons_succ, List.set_cons_zero, List.set_cons_succ, List.map_cons, List.map_nil, List.cons_append, List.nil_append, List.all_cons, List.all_nil, Option.map_some, Option.map_none, Option.bind_some, Option.bind_none, if_true, if_false, ite_true, ite_false, List.length_cons, List.length_nil, ite_self, Nat.reduceAdd, Nat.reduceLeDiff, Nat.reduceLT, Nat.reduceMul, Int.reduceLT, Int.reduceLE, Int.reduceNeg, Int.reduceAdd, Int.reduceSub, Int.reduceMul, Int.reducePow, Int.reduceEq, hix, hfn]
            rw [z_cons]
            simp only [BQ, q_ife, BZ, BO, BV, BL, tyN, mTy, List.replicate, List.getElem?_cons_zero, List.getElem?_cons_succ, List.set_cons_zero, List.set_cons_succ, List.map_cons, List.map_nil, List.cons_append, List.nil_append, List.all_cons, List.all_nil, Option.map_some, Option.map_none, Option.bind_some, Option.bind_none, if_true, if_false, ite_true, ite_false, List.length_cons, List.length_nil, ite_self, Nat.reduceAdd, Nat.reduceLeDiff, Nat.reduceLT, Nat.reduceMul, Int.reduceLT, Int.reduceLE, Int.reduceNeg, Int.reduceAdd, Int.reduceSub, Int.reduceMul, Int.reducePow, Int.reduceEq]
            by_cases c4 : 4 < funs + fnN x.2
            · have c4' : (funs : Int) + (fnN x.2 : Int) = 5 := by omega
              simp only [BQ, q_ife, BZ, BO, BV, BL, tyN, mTy, List.replicate, List.getElem?_cons_zero, List.getElem?_cons_succ, List.set_cons_zero, List.set_cons_succ, List.map_cons, List.map_nil, List.cons_append, List.nil_append, List.all_cons, List.all_nil, Option.map_some, Option.map_none, Option.bind_some, Option.bind_none, if_true, if_false, ite_true, ite_false, List.length_cons, List.length_nil, ite_self, Nat.reduceAdd, Nat.reduceLeDiff, Nat.reduceLT, Nat.reduceMul, Int.reduceLT, Int.reduceLE, Int.reduceNeg, Int.reduceAdd, Int.reduceSub, Int.reduceMul, Int.reducePow, Int.reduceEq, c4']
              refine bad (h := by rw [wk, if_neg hn, if_pos c4]) rfl
            · have c4' : ¬ (funs : Int) + (fnN x.2 : Int) = 5 := by omega
              simp only [BQ, q_ife, BZ, BO, BV, BL, tyN, mTy, List.replicate, List.getElem?_cons_zero, List.getElem?_cons_succ, List.set_cons_zero, List.set_cons_succ, List.map_cons, List.map_nil, List.cons_append, List.nil_append, List.all_cons, List.all_nil, Option.map_some, Option.map_none, Option.bind_some, Option.bind_none, if_true, if_false, ite_true, ite_false, List.length_cons, List.length_nil, ite_self, Nat.reduceAdd, Nat.reduceLeDiff, Nat.reduceLT, Nat.reduceMul, Int.reduceLT, Int.reduceLE, Int.reduceNeg, Int.reduceAdd, Int.reduceSub, Int.reduceMul, Int.reducePow, Int.reduceEq, c4']
              rw [z_cons]
              simp only [BQ, q_ife, BZ, BO, BV, BL, tyN, mTy, List.replicate, List.getElem?_cons_zero, List.getElem?_cons_succ, List.set_cons_zero, List.set_cons_succ, List.map_cons, List.map_nil, List.cons_append, List.nil_append, List.all_cons, List.all_nil, Option.map_some, Option.map_none, Option.bind_some, Option.bind_none, if_true, if_false, ite_true, ite_false, List.length_cons, List.length_nil, ite_self, Nat.reduceAdd, Nat.reduceLeDiff, Nat.reduceLT, Nat.reduceMul, Int.reduceLT, Int.reduceLE, Int.reduceNeg, Int.reduceAdd, Int.reduceSub, Int.reduceMul, Int.reducePow, Int.reduceEq]
              rw [z_cons]
              have hown := fun {Φ E} => lown_q (n := n + 2) (Φ := Φ) (E := E) g.own hB2 c3 hx.1 (by decide)
              simp only [BQ, q_ife, BZ, BO, BV, BL, tyN, mTy, List.replicate, List.getElem?_cons_zero, List.getElem?_cons_succ, List.set_cons_zero, List.set_cons_succ, List.map_cons, List.map_nil, List.cons_append, List.nil_append, List.all_cons, List.all_nil, Option.map_some, Option.map_none, Option.bind_some, Option.bind_none, if_true, if_false, ite_true, ite_false, List.length_cons, List.length_nil, ite_self, Nat.reduceAdd, Nat.reduceLeDiff, Nat.reduceLT, Nat.reduceMul, Int.reduceLT, Int.reduceLE, Int.reduceNeg, Int.reduceAdd, Int.reduceSub, Int.reduceMul, Int.reducePow, Int.reduceEq, hown]
              rw [z_cons]
              simp only [BQ, q_ife, BZ, BO, BV, BL, tyN, mTy, List.replicate, List.getElem?_cons_zero, List.getElem?_cons_succ, List.set_cons_zero, List.set_cons_succ, List.map_cons, List.map_nil, List.cons_append, List.nil_append, List.all_cons, List.all_nil, Option.map_some, Option.map_none, Option.bind_some, Option.bind_none, if_true, if_false, ite_true, ite_false, List.length_cons, List.length_nil, ite_self, Nat.reduceAdd, Nat.reduceLeDiff, Nat.reduceLT, Nat.reduceMul, Int.reduceLT, Int.reduceLE, Int.reduceNeg, Int.reduceAdd, Int.reduceSub, Int.reduceMul, Int.reducePow, Int.reduceEq]
              have hol := (own_sm hx.1 c3).2
              rw [eq_true (show (-4611686018427387904 ≤ ((ownP x.2).length : Int) ∧ ((ownP x.2).length : Int) < 4611686018427387904) from ⟨by omega, by omega⟩), true_and, rangeP_eq, lc_mapS (h := fun (i : Nat) => PyData.int (0 + (i : Int))) (g := fun (i : Nat) => enc (x.1 ++ [(((ownP x.2).length - 1 - i : Nat) : Int)], (ownP x.2).getD ((ownP x.2).length - 1 - i) .none)) rfl]
              · have eL : (List.range (ownP x.2).length).map (fun (i : Nat) => enc (x.1 ++ [(((ownP x.2).length - 1 - i : Nat) : Int)], (ownP x.2).getD ((ownP x.2).length - 1 - i) .none)) = ((kids x).map enc).reverse := by
                  unfold kids
                  rw [List.map_map]
                  exact map_rev_range (f := fun (i : Nat) => enc (x.1 ++ [(i : Int)], (ownP x.2).getD i .none))
                rw [eL]
                have hl1 : (st.reverse.map enc).length + ((kids x).map enc).reverse.length ≤ 16777216 := by
                  simp only [List.length_map, List.length_reverse, kids_len]
                  omega
                simp only [BQ, q_ife, BZ, BO, BV, BL, tyN, mTy, List.replicate, List.getElem?_cons_zero, List.getElem?_cons_succ, List.set_cons_zero, List.set_cons_succ, List.map_cons, List.map_nil, List.cons_append, List.nil_append, List.all_cons, List.all_nil, Option.map_some, Option.map_none, Option.bind_some, Option.bind_none, if_true, if_false, ite_true, ite_false, List.length_cons, List.length_nil, ite_self, Nat.reduceAdd, Nat.reduceLeDiff, Nat.reduceLT, Nat.reduceMul, Int.reduceLT, Int.reduceLE, Int.reduceNeg, Int.reduceAdd, Int.reduceSub, Int.reduceMul, Int.reducePow, Int.reduceEq, o_addOL app_get, hl1]
                have e2 : st.reverse.map enc ++ ((kids x).map enc).reverse = (kids x ++ st).reverse.map enc := by simp
                rw [e2, eq_true (show ((kids x).map enc).reverse.length ≤ 16777216 by simp only [List.length_map, List.length_reverse, kids_len]; omega), true_and]
                have hw2 : wk (k + 1) (x :: st) found funs = wk k (kids x ++ st) (found ++ [x]) (funs + fnN x.2) := by rw [wk, if_neg hn, if_neg c4]
                rw [hw2]
                have hBA2 : (B ++ [Ob.lst (st.reverse.map enc)]).take A.length = A := by
                  have hl : A.length ≤ B.length := by
                    have := congrArg List.length hBA
                    rw [List.length_take] at this
                    omega
                  rw [List.take_append_of_le_length hl]; exact hBA
                have e3 : ((found.length : Int) + 1) = ((found ++ [x]).length : Nat) := by simp
                rw [e3]
                refine ih hB2 hBA2 (by omega) (fun y hy => ?_) ?_ ?_ ?_ (by omega)
                · rcases List.mem_append.mp hy with z | z
                  · exact kids_ok hx.1 c3 (by omega) z
                  · exact h2 y (by simp [z])
                · simp only [List.length_append, kids_len]
                  omega
                · simp only [List.length_append, List.length_cons, List.length_nil]
                  omega
                · simp only [List.length_append, List.length_cons, List.length_nil]
                  omega
              · intro i hi Φ
                have hi := List.mem_range.mp hi
                have hx5 : x.1.length + 1 ≤ 16777216 := by omega
                have hi2 : (ownP x.2).length - 1 - i < (ownP x.2).length := by omega
                have e4 : ((ownP x.2).length : Int) - 1 - (i : Int) = (((ownP x.2).length - 1 - i : Nat) : Int) := by omega
                simp only [BQ, q_ife, BZ, BO, BV, BL, tyN, mTy, List.replicate, List.getElem?_cons_zero, List.getElem?_cons_succ, List.set_cons_zero, List.set_cons_succ, List.map_cons, List.map_nil, List.cons_append, List.nil_append, List.all_cons, List.all_nil, Option.map_some, Option.map_none, Option.bind_some, Option.bind_none, if_true, if_false, ite_true, ite_false, List.length_cons, List.length_nil, ite_self, Nat.reduceAdd, Nat.reduceLeDiff, Nat.reduceLT, Nat.reduceMul, Int.reduceLT, Int.reduceLE, Int.reduceNeg, Int.reduceAdd, Int.reduceSub, Int.reduceMul, Int.reducePow, Int.reduceEq, Int.zero_add, e4, kid_at0 hi2, List.length_map, enc, wayP, List.map_append, hx5]
theorem place_q (g : GenL P) (hA : Cl A) {p : PyData} (hs : smP 60 p = true) : wq (callN P (n + 4) "_law_place" [.d p]) A Φ E = (match wk 25 [([], p)] [] 0 with
    | .inl fd => Φ (.val (.d .none)) A
    | .inr way => Φ (.val (.d (wayP way))) A) := by
  rw [wq_call g.place rfl]
  simp only [fLPlace, b__law_place]
  rw [z_cons]
  simp only [BQ, q_ife, BZ, BO, BV, BL, tyN, mTy, List.replicate, List.getElem?_cons_zero, List.getElem?_cons_succ, List.set_cons_zero, List.set_cons_succ, List.map_cons, List.map_nil, List.cons_append, List.nil_append, List.all_cons, List.all_nil, Option.map_some, Option.map_none, Option.bind_some, Option.bind_none, if_true, if_false, ite_true, ite_false, List.length_cons, List.length_nil, ite_self, Nat.reduceAdd, Nat.reduceLeDiff, Nat.reduceLT, Nat.reduceMul, Int.reduceLT, Int.reduceLE, Int.reduceNeg, Int.reduceAdd, Int.reduceSub, Int.reduceMul, Int.reducePow, Int.reduceEq]
  rw [z_cons]
  simp only [BQ, q_ife, BZ, BO, BV, BL, tyN, mTy, List.replicate, List.getElem?_cons_zero, List.getElem?_cons_succ, List.set_cons_zero, List.set_cons_succ, List.map_cons, List.map_nil, List.cons_append, List.nil_append, List.all_cons, List.all_nil, Option.map_some, Option.map_none, Option.bind_some, Option.bind_none, if_true, if_false, ite_true, ite_false, List.length_cons, List.length_nil, ite_self, Nat.reduceAdd, Nat.reduceLeDiff, Nat.reduceLT, Nat.reduceMul, Int.reduceLT, Int.reduceLE, Int.reduceNeg, Int.reduceAdd, Int.reduceSub, Int.reduceMul, Int.reducePow, Int.reduceEq]
  rw [z_cons]
  simp only [BQ, q_ife, BZ, BO, BV, BL, tyN, mTy, List.replicate, List.getElem?_cons_zero, List.getElem?_cons_succ, List.set_cons_zero, List.set_cons_succ, List.map_cons, List.map_nil, List.cons_append, List.nil_append, List.all_cons, List.all_nil, Option.map_some, Option.map_none, Option.bind_some, Option.bind_none, if_true, if_false, ite_true, ite_false, List.length_cons, List.length_nil, ite_self, Nat.reduceAdd, Nat.reduceLeDiff, Nat.reduceLT, Nat.reduceMul, Int.reduceLT, Int.reduceLE, Int.reduceNeg, Int.reduceAdd, Int.reduceSub, Int.reduceMul, Int.reducePow, Int.reduceEq]
  exact place_loop (n := n) (p := p) (w := 60) g (Nat.le_refl _) hA (st := [([], p)]) (found := []) (funs := 0) hA (by simp) (by have := g.lim; omega) (fun x hx => by rw [List.mem_singleton.mp hx]; exact ⟨hs, by simp⟩) (by simp) rfl (by simp) (by omega)
end
end Kg
set_option Elab.async false
set_option linter.all false
set_option maxRecDepth 100000
set_option maxHeartbeats 1000000
/-! KgF: a kind can be shown. -/
namespace Kg
open PySem L2 Mi TL
/-- the forms -/
inductive Fm : PyData → List PyData → Prop
  | one {t : Str} : t = "any" ∨ t = "none" ∨ t = "names" → Fm (.tuple [.str t]) []
  | name {x : Str} : nmB x = true → Fm (.tuple [.str "name", .str x]) []
  | num {a b : PyData} : numB a b = true → Fm (.tuple [.str "num", a, b]) []
  | recd {fs : List PyData} {zs : List Str} : labs fs = some zs → risB (Str.ofString "") zs = true → Fm (.tuple [.str "rec", .tuple fs]) (fs.map snd2)
  | not {a : PyData} : Fm (.tuple [.str "not", a]) [a]
  | two {t : Str} {a b : PyData} : t = "fun" ∨ t = "and" ∨ t = "or" → Fm (.tuple [.str t, a, b]) [a, b]
theorem form_fm {p : PyData} (h : formB p = true) : Fm p (ownP p) := by
  obtain ⟨t, r, rfl⟩ := form_tup h
  have h' : decide (((r.length + 1 : Nat) : Int) = lenOf t) = true ∧ formR t r = true := by simpa [formB] using h
  obtain ⟨h1, h2⟩ := h'
  have h1 := of_decide_eq_true h1
  have two : ∀ {t : Str} {r : List PyData}, ((r.length + 1 : Nat) : Int) = lenOf t → lenOf t = 3 → (t = "fun" ∨ t = "and" ∨ t = "or") → Fm (.tuple (.str t :: r)) (ownP (.tuple (.str t :: r))) := fun {t r} e1 e2 e3 => by
    match r, e1 with
    | [a, b], _ =>
      have eo : ownP (.tuple (.str t :: [a, b])) = [a, b] := by
        rcases e3 with rfl | rfl | rfl <;> rfl
      rw [eo]
      exact .two e3
    | [], e1 => rw [e2] at e1; simp at e1
    | [_], e1 => rw [e2] at e1; simp at e1
    | _ :: _ :: _ :: r, e1 => rw [e2] at e1; simp only [List.length_cons] at e1; omega
  have zer : ∀ {t : Str} {r : List PyData}, ((r.length + 1 : Nat) : Int) = lenOf t → lenOf t = 1 → (t = "any" ∨ t = "none" ∨ t = "names") → Fm (.tuple (.str t :: r)) (ownP (.tuple (.str t :: r))) := fun {t r} e1 e2 e3 => by
    match r, e1 with
    | [], _ =>
      have eo : ownP (.tuple (.str t :: [])) = [] := by
        rcases e3 with rfl | rfl | rfl <;> rfl
      rw [eo]
      exact .one e3
    | _ :: r, e1 => rw [e2] at e1; simp only [List.length_cons] at e1; omega
  have one : ∀ {t : Str} {r : List PyData}, ((r.length + 1 : Nat) : Int) = lenOf t → lenOf t = 2 → ∃ a, r = [a] := fun {t r} e1 e2 => by
    match r, e1 with
    | [a], _ => exact ⟨a, rfl⟩
    | [], e1 => rw [e2] at e1; simp at e1
    | _ :: _ :: r, e1 => rw [e2] at e1; simp only [List.length_cons] at e1; omega
  by_cases t1 : ("any" : Str) = t
  · subst t1; exact zer h1 (by decide) (.inl rfl)
  by_cases t2 : ("none" : Str) = t
  · subst t2; exact zer h1 (by decide) (.inr (.inl rfl))
  by_cases t3 : ("names" : Str) = t
  · subst t3; exact zer h1 (by decide) (.inr (.inr rfl))
  by_cases t4 : ("name" : Str) = t
  · subst t4
    obtain ⟨a, rfl⟩ := one h1 (by decide)
    have h2 : isNmB a = true := h2
    cases a with
    | str x => exact .name h2
    | _ => cases h2
  by_cases t5 : ("rec" : Str) = t
  · subst t5
    obtain ⟨a, rfl⟩ := one h1 (by decide)
    have h2 : fieldsB a = true := h2
    cases a with
    | tuple fs =>
      have h2 : fldsB (Str.ofString "") fs = true := h2
      unfold fldsB at h2
      cases e : labs fs with
      | none => rw [e] at h2; cases h2
      | some zs => rw [e] at h2; exact .recd e h2
    | _ => cases h2
  by_cases t6 : ("not" : Str) = t
  · subst t6
    obtain ⟨a, rfl⟩ := one h1 (by decide)
    exact .not
  by_cases t7 : ("num" : Str) = t
  · subst t7
    match r, h2 with
    | [a, b], h2 => exact .num h2
    | [], h2 => exact absurd h2 (by decide)
    | [_], h2 => cases h2
    | _ :: _ :: _ :: _, h2 => cases h2
  by_cases t8 : ("fun" : Str) = t
  · subst t8; exact two h1 (by decide) (.inl rfl)
  by_cases t9 : ("and" : Str) = t
  · subst t9; exact two h1 (by decide) (.inr (.inl rfl))
  by_cases t10 : ("or" : Str) = t
  · subst t10; exact two h1 (by decide) (.inr (.inr rfl))
  exfalso
  have : lenOf t = 0 := by unfold lenOf; simp only [t1, t2, t3, t4, t5, t6, t7, t8, t9, t10, if_false]
  rw [this] at h1
  omega
/-! ### how long a text of it is -/
abbrev Ln (p : PyData) : Nat := (PyData.shown p).length
def sumL (ps : List PyData) : Nat := (ps.map fun q => Ln q + 100).sum
theorem tup_len {ts : List Str} : (tupleText ts).length ≤ piled ts + 3 := by
  unfold tupleText
  have h0 : (("(" : Str) ++ Str.join ", " ts ++ Str.ofString (if (ts.length == 1) = true then ",)" else ")")).length = 1 + (Str.join ", " ts).length + (Str.ofString (if (ts.length == 1) = true then ",)" else ")")).length := by
    rw [Str.length_append, Str.length_append]
    rfl
  rw [h0]
  have h1 : (Str.ofString (if (ts.length == 1) = true then ",)" else ")")).length ≤ 2 := by
    split <;> decide
  cases ts with
  | nil =>
    have : (Str.join ", " []).length = 0 := rfl
    omega
  | cons t ts =>
    have := join_length_add (t :: ts) (by simp)
    omega
theorem sh_tup {ps : List PyData} : Ln (.tuple ps) ≤ piled (PyData.shownAll ps) + 3 := by
  show (PyData.shown (.tuple ps)).length ≤ _
  rw [PyData.shown]
  exact tup_len
theorem sa_cons {p : PyData} {ps : List PyData} : piled (PyData.shownAll (p :: ps)) = (Ln p + 2) + piled (PyData.shownAll ps) := by
  rw [PyData.shownAll, piled_cons]
theorem sa_nil : piled (PyData.shownAll []) = 0 := by
  rw [PyData.shownAll, piled_nil]
theorem nm_len {x : Str} (h : nmB x = true) : Ln (.str x) ≤ 82 := by
  have h' := nmB_iff.mp h
  have all : ∀ c ∈ (Str.ofString "abcdefghijklmnopqrstuvwxyz").cps.toList, c < 16 ^ 8 := by decide
  have := StrLaws.reprText_len x fun c hc => all c (h'.2.2 c hc)
  show (PyData.shown (.str x)).length ≤ _
  rw [PyData.shown]
  have := h'.2.1
  omega
theorem word_len {x : Str} (h : nmB x = true) : Ln (.str x) ≤ 82 := nm_len h
theorem bnd_len {a : PyData} (h : bndB a = true) : Ln a ≤ 32 := by
  cases a with
  | none => decide
  | int i =>
    have h' : -1000000000000000000000000000000 < i ∧ i < 1000000000000000000000000000000 := by
      simpa [bndB] using h
    show (PyData.shown (.int i)).length ≤ _
    rw [PyData.shown]
    have : i.natAbs < 10 ^ 30 := by
      have e : (10 : Nat) ^ 30 = 1000000000000000000000000000000 := by decide
      rw [e]; omega
    have := int_text_length_le10 (a := i) (k := 30) (by decide) this
    rw [show ((toString i : String) : Str) = Str.ofString (toString i) from rfl, ofString_length]
    omega
  | _ => cases h
theorem sum_nil : sumL [] = 0 := rfl
theorem sum_cons {p : PyData} {ps : List PyData} : sumL (p :: ps) = (Ln p + 100) + sumL ps := by simp [sumL]
theorem sum_app {ps qs : List PyData} : sumL (ps ++ qs) = sumL ps + sumL qs := by simp [sumL]
theorem flds_len : ∀ {fs : List PyData} {zs : List Str}, labs fs = some zs → piled (PyData.shownAll fs) ≤ sumL (fs.map snd2)
  | [], _, _ => by rw [sa_nil]; simp
  | f :: fs, zs, h => by
    obtain ⟨l, v, ys, rfl, hl, e, rfl⟩ := labs_cons h
    have ih := flds_len e
    have h1 := nm_len hl
    have h2 : Ln (.tuple [.str l, v]) ≤ _ := sh_tup
    rw [sa_cons, sa_cons, sa_nil] at h2
    rw [sa_cons, List.map_cons, sum_cons]
    show _ ≤ Ln v + 100 + sumL (fs.map snd2)
    omega
theorem fm_len {p : PyData} {qs : List PyData} (h : Fm p qs) : Ln p + 100 ≤ 600 + sumL qs := by
  cases h with
  | one h =>
    rename_i t
    have h1 : Ln (.tuple [.str t]) ≤ _ := sh_tup
    rw [sa_cons, sa_nil] at h1
    have h2 : Ln (.str t) ≤ 82 := word_len (by rcases h with rfl | rfl | rfl <;> decide)
    rw [sum_nil]
    omega
  | name h =>
    rename_i x
    have h1 : Ln (.tuple [.str "name", .str x]) ≤ _ := sh_tup
    rw [sa_cons, sa_cons, sa_nil] at h1
    have h2 : Ln (.str "name") ≤ 82 := word_len (by decide)
    have h3 := nm_len h
    rw [sum_nil]
    omega
  | num h =>
    rename_i a b
    have h' : (bndB a = true ∧ bndB b = true) ∧ leB a b = true := by simpa [numB] using h
    have h1 : Ln (.tuple [.str "num", a, b]) ≤ _ := sh_tup
    rw [sa_cons, sa_cons, sa_cons, sa_nil] at h1
    have h2 : Ln (.str "num") ≤ 82 := word_len (by decide)
    have h3 := bnd_len h'.1.1
    have h4 := bnd_len h'.1.2
    rw [sum_nil]
    omega
  | @recd fs zs h _ =>
    have h1 : Ln (.tuple [.str "rec", .tuple fs]) ≤ _ := sh_tup
    rw [sa_cons, sa_cons, sa_nil] at h1
    have h2 : Ln (.str "rec") ≤ 82 := word_len (by decide)
    have h3 : Ln (.tuple fs) ≤ _ := sh_tup
    have h4 := flds_len h
    omega
  | not =>
    rename_i a
    have h1 : Ln (.tuple [.str "not", a]) ≤ _ := sh_tup
    rw [sa_cons, sa_cons, sa_nil] at h1
    have h2 : Ln (.str "not") ≤ 82 := word_len (by decide)
    rw [sum_cons, sum_nil]
    omega
  | two h =>
    rename_i t a b
    have h1 : Ln (.tuple [.str t, a, b]) ≤ _ := sh_tup
    rw [sa_cons, sa_cons, sa_cons, sa_nil] at h1
    have h2 : Ln (.str t) ≤ 82 := word_len (by rcases h with rfl | rfl | rfl <;> decide)
    rw [sum_cons, sum_cons, sum_nil]
    omega
/-! ### what can be shown -/
def Shw (p : PyData) : Prop := PyData.showable p = true ∧ PyData.hasDict p = false
theorem shw_tup {ps : List PyData} : Shw (.tuple ps) ↔ ∀ p ∈ ps, Shw p := by
  unfold Shw
  rw [PyData.showable, PyData.hasDict]
  induction ps with
  | nil => simp [PyData.showableAll, PyData.hasDictAll]
  | cons p ps ih =>
    rw [PyData.showableAll, PyData.hasDictAll]
    simp only [Bool.and_eq_true, Bool.or_eq_false_iff, List.mem_cons, forall_eq_or_imp]
    constructor
    · rintro ⟨⟨a, b⟩, c, d⟩
      exact ⟨⟨a, c⟩, ih.mp ⟨b, d⟩⟩
    · rintro ⟨⟨a, c⟩, e⟩
      obtain ⟨b, d⟩ := ih.mpr e
      exact ⟨⟨a, b⟩, c, d⟩
theorem shw_str {x : Str} : Shw (.str x) := ⟨by rw [PyData.showable], by rw [PyData.hasDict]⟩
theorem shw_bnd {a : PyData} (h : bndB a = true) : Shw a := by
  cases a with
  | none => exact ⟨by rw [PyData.showable], by rw [PyData.hasDict]⟩
  | int i =>
    have h' : -1000000000000000000000000000000 < i ∧ i < 1000000000000000000000000000000 := by
      simpa [bndB] using h
    have := log_lt (i := i) (by omega) (by omega)
    exact ⟨by rw [PyData.showable]; exact decide_eq_true (by omega), by rw [PyData.hasDict]⟩
  | _ => cases h
theorem labs_shw : ∀ {fs : List PyData} {zs : List Str}, labs fs = some zs → (∀ q ∈ fs.map snd2, Shw q) → ∀ q ∈ fs, Shw q
  | [], _, _, _ => fun q hq => by cases hq
  | f :: fs, zs, h, hk => by
    obtain ⟨l, v, ys, rfl, hl, e, rfl⟩ := labs_cons h
    intro q hq
    rcases List.mem_cons.mp hq with rfl | hq
    · refine shw_tup.mpr fun x hx => ?_
      simp only [List.mem_cons, List.not_mem_nil, or_false] at hx
      rcases hx with rfl | rfl
      · exact shw_str
      · exact hk _ (by simp [snd2])
    · exact labs_shw e (fun y hy => hk y (by rw [List.map_cons]; exact List.mem_cons_of_mem _ hy)) q hq
theorem fm_shw {p : PyData} {qs : List PyData} (h : Fm p qs) (hk : ∀ q ∈ qs, Shw q) : Shw p := by
  cases h with
  | one h => exact shw_tup.mpr fun x hx => by rw [List.mem_singleton.mp hx]; exact shw_str
  | name h =>
    refine shw_tup.mpr fun x hx => ?_
    simp only [List.mem_cons, List.not_mem_nil, or_false] at hx
    rcases hx with rfl | rfl <;> exact shw_str
  | @num a b h =>
    have h' : (bndB a = true ∧ bndB b = true) ∧ leB a b = true := by simpa [numB] using h
    refine shw_tup.mpr fun x hx => ?_
    simp only [List.mem_cons, List.not_mem_nil, or_false] at hx
    rcases hx with rfl | rfl | rfl
    · exact shw_str
    · exact shw_bnd h'.1.1
    · exact shw_bnd h'.1.2
  | @recd fs zs h _ =>
    refine shw_tup.mpr fun x hx => ?_
    simp only [List.mem_cons, List.not_mem_nil, or_false] at hx
    rcases hx with rfl | rfl
    · exact shw_str
    · exact shw_tup.mpr (labs_shw h hk)
  | @not a =>
    refine shw_tup.mpr fun x hx => ?_
    simp only [List.mem_cons, List.not_mem_nil, or_false] at hx
    rcases hx with rfl | rfl
    · exact shw_str
    · exact hk _ (by simp)
  | @two t a b h =>
    refine shw_tup.mpr fun x hx => ?_
    simp only [List.mem_cons, List.not_mem_nil, or_false] at hx
    rcases hx with rfl | rfl | rfl
    · exact shw_str
    · exact hk _ (by simp)
    · exact hk _ (by simp)
/-! ### how deep -/
theorem dep_all {n : Nat} : ∀ {ps : List PyData}, PyData.depthAll ps ≤ n ↔ ∀ p ∈ ps, PyData.depth p ≤ n
  | [] => by simp [PyData.depthAll]
  | p :: ps => by
    rw [PyData.depthAll]
    simp only [List.mem_cons, forall_eq_or_imp]
    rw [← dep_all (ps := ps)]
    omega
theorem dep_tup {n : Nat} {ps : List PyData} : PyData.depth (.tuple ps) ≤ n + 1 ↔ ∀ p ∈ ps, PyData.depth p ≤ n := by
  rw [PyData.depth, ← dep_all]
  omega
theorem dep_str {x : Str} : PyData.depth (.str x) = 0 := by rw [PyData.depth]
theorem dep_bnd {a : PyData} (h : bndB a = true) : PyData.depth a = 0 := by
  cases a with
  | none => rw [PyData.depth]
  | int i => rw [PyData.depth]
  | _ => cases h
theorem fm_dep {p : PyData} {qs : List PyData} {n : Nat} (h : Fm p qs) (hk : ∀ q ∈ qs, PyData.depth q ≤ n) : PyData.depth p ≤ n + 3 := by
  cases h with
  | one h => exact dep_tup.mpr fun x hx => by rw [List.mem_singleton.mp hx, dep_str]; omega
  | name h =>
    refine dep_tup.mpr fun x hx => ?_
    simp only [List.mem_cons, List.not_mem_nil, or_false] at hx
    rcases hx with rfl | rfl <;> (rw [dep_str]; omega)
  | @num a b h =>
    have h' : (bndB a = true ∧ bndB b = true) ∧ leB a b = true := by simpa [numB] using h
    refine dep_tup.mpr fun x hx => ?_
    simp only [List.mem_cons, List.not_mem_nil, or_false] at hx
    rcases hx with rfl | rfl | rfl
    · rw [dep_str]; omega
    · rw [dep_bnd h'.1.1]; omega
    · rw [dep_bnd h'.1.2]; omega
  | @recd fs zs h _ =>
    refine dep_tup.mpr fun x hx => ?_
    simp only [List.mem_cons, List.not_mem_nil, or_false] at hx
    rcases hx with rfl | rfl
    · rw [dep_str]; omega
    · refine dep_tup.mpr fun y hy => ?_
      obtain ⟨l, v, rfl⟩ := labs_pairs h y hy
      refine dep_tup.mpr fun z hz => ?_
      simp only [List.mem_cons, List.not_mem_nil, or_false] at hz
      rcases hz with rfl | rfl
      · rw [dep_str]; omega
      · exact hk _ (List.mem_map.mpr ⟨_, hy, rfl⟩)
  | @not a =>
    refine dep_tup.mpr fun x hx => ?_
    simp only [List.mem_cons, List.not_mem_nil, or_false] at hx
    rcases hx with rfl | rfl
    · rw [dep_str]; omega
    · have := hk x (by simp); omega
  | @two t a b h =>
    refine dep_tup.mpr fun x hx => ?_
    simp only [List.mem_cons, List.not_mem_nil, or_false] at hx
    rcases hx with rfl | rfl | rfl
    · rw [dep_str]; omega
    · have := hk x (by simp); omega
    · have := hk x (by simp); omega
theorem kids_snd {x : Wp} : (kids x).map (·.2) = ownP x.2 := by
  unfold kids
  rw [List.map_map]
  apply List.ext_getElem
  · simp
  · intro i h1 h2
    simp [h2]
theorem kids_way {x y : Wp} (h : y ∈ kids x) : y.1.length = x.1.length + 1 ∧ y.2 ∈ ownP x.2 := by
  refine ⟨?_, by rw [← kids_snd]; exact List.mem_map.mpr ⟨y, h, rfl⟩⟩
  unfold kids at h
  obtain ⟨i, hi, rfl⟩ := List.mem_map.mp h
  simp
/-- what is let by can be shown -/
theorem wk_shw : ∀ {n : Nat} {st found fd : List Wp} {funs : Nat}, wk n st found funs = .inl fd → sumL (st.map (·.2)) ≤ 600 * n ∧ ∀ x ∈ st, Shw x.2 ∧ PyData.depth x.2 + 3 * x.1.length ≤ 21
  | 0, _, _, _, _, h => by cases h
  | n + 1, [], _, _, _, _ => ⟨by simp [sumL], fun x hx => by cases hx⟩
  | n + 1, x :: st, found, fd, funs, h => by
    rw [wk] at h
    split at h
    · cases h
    · rename_i c1
      split at h
      · cases h
      · obtain ⟨i1, i2⟩ := wk_shw h
        have hf : formB x.2 = true := by
          cases e : formB x.2 with
          | true => rfl
          | false => exact (c1 (.inr (.inr e))).elim
        have hl : x.1.length ≤ 5 := by
          by_cases z : 5 < x.1.length
          · exact (c1 (.inr (.inl z))).elim
          · omega
        have fm := form_fm hf
        rw [List.map_append, sum_app, kids_snd] at i1
        refine ⟨?_, fun y hy => ?_⟩
        · rw [List.map_cons, sum_cons]
          have := fm_len fm
          omega
        · rcases List.mem_cons.mp hy with rfl | hy
          · have own : ∀ q ∈ ownP y.2, ∃ z ∈ kids y, z.2 = q := fun q hq => by
              rw [← kids_snd] at hq
              obtain ⟨z, hz, e⟩ := List.mem_map.mp hq
              exact ⟨z, hz, e⟩
            refine ⟨fm_shw fm fun q hq => ?_, ?_⟩
            · obtain ⟨z, hz, rfl⟩ := own q hq
              exact (i2 z (List.mem_append_left _ hz)).1
            · have := fm_dep (n := 18 - 3 * y.1.length) fm fun q hq => by
                obtain ⟨z, hz, rfl⟩ := own q hq
                have h1 := (i2 z (List.mem_append_left _ hz)).2
                have h2 := (kids_way hz).1
                omega
              omega
          · exact i2 y (List.mem_append_right _ hy)
theorem repr_kind {p : PyData} {fd : List Wp} (h : wk 25 [([], p)] [] 0 = .inl fd) : ∃ x, reprP p = some x := by
  obtain ⟨h1, h2⟩ := wk_shw h
  obtain ⟨⟨a, b⟩, c⟩ := h2 ([], p) (by simp)
  refine ⟨PyData.shown p, ?_⟩
  unfold reprP
  have h3 : sumL [p] ≤ 600 * 25 := h1
  rw [sum_cons, sum_nil] at h3
  simp only [List.length_nil] at c
  have d1 : PyData.depth p ≤ 64 := by omega
  have d2 : Ln p ≤ sizeLine := by rw [szl]; omega
  have d2 : (PyData.shown p).length ≤ sizeLine := d2
  simp only at a b
  rw [a, b, decide_eq_true d1, decide_eq_true d2]
  rfl
/-- a way can be shown -/
theorem repr_way {w : List Int} (h : w.length ≤ 6) (hi : ∀ i ∈ w, 0 ≤ i ∧ i ≤ 1000) : ∃ x, reprP (wayP w) = some x ∧ x.length ≤ 1000 := by
  have hb : ∀ p ∈ w.map PyData.int, bndB p = true := fun p hp => by
    obtain ⟨i, hi2, rfl⟩ := List.mem_map.mp hp
    have := hi i hi2
    simp only [bndB, Bool.and_eq_true, decide_eq_true_eq]
    omega
  have hs : Shw (wayP w) := shw_tup.mpr fun p hp => shw_bnd (hb p hp)
  have hd : PyData.depth (wayP w) ≤ 1 := dep_tup.mpr fun p hp => by rw [dep_bnd (hb p hp)]; omega
  have hl : ∀ {ps : List PyData}, (∀ p ∈ ps, bndB p = true) → piled (PyData.shownAll ps) ≤ 34 * ps.length := by
    intro ps
    induction ps with
    | nil => intro _; rw [sa_nil]; omega
    | cons p ps ih =>
      intro h
      rw [sa_cons, List.length_cons]
      have := bnd_len (h p (by simp))
      have := ih fun q hq => h q (by simp [hq])
      omega
  have h1 : Ln (wayP w) ≤ _ := sh_tup
  have h2 := hl hb
  rw [List.length_map] at h2
  have h3 : Ln (wayP w) ≤ 1000 := by omega
  have h3 : (PyData.shown (wayP w)).length ≤ 1000 := h3
  refine ⟨PyData.shown (wayP w), ?_, h3⟩
  unfold reprP
  rw [hs.1, hs.2, decide_eq_true (show PyData.depth (wayP w) ≤ 64 by omega), decide_eq_true (show (PyData.shown (wayP w)).length ≤ sizeLine by rw [szl]; omega)]
  rfl
end Kg
set_option Elab.async false
set_option linter.all false
set_option maxRecDepth 100000
set_option maxHeartbeats 1000000
/-! KgG: refusals. -/
namespace Kg
open PySem L2 Mi TL
def fRefused : Fn := ⟨"_law_refused", 1, 7, b__law_refused, false⟩
def fIsKind : Fn := ⟨"is_kind", 1, 1, b_is_kind, false⟩
def seven : List Str := ["BadKind", "BadWorth", "BadText", "BadClaim", "BadPaper", "BadQuestion", "NoDerivation"]
/-- which class an exception is of -/
structure GenX (P : Pr) : Prop where
  refused : fnd P.tab "_law_refused" = some fRefused
  kk : P.o.sub "BadKind" (.inr "BadKind") = some true
  kw : P.o.sub "BadKind" (.inr "BadWorth") = some false
  kt : P.o.sub "BadKind" (.inr "BadText") = some false
  kc : P.o.sub "BadKind" (.inr "BadClaim") = some false
  kp : P.o.sub "BadKind" (.inr "BadPaper") = some false
  kq : P.o.sub "BadKind" (.inr "BadQuestion") = some false
  kn : P.o.sub "BadKind" (.inr "NoDerivation") = some false
  kv : P.o.sub "BadKind" (.inl "ValueError") = some true
  kl : P.o.sub "BadKind" (.inl "LookupError") = some false
  flds : P.o.flds "BadKind" = some [Str.ofString "place"]
section
variable {P : Pr} {n w : Nat} {A : Hs} {Φ : R → Hs → Prop} {E : Str → List (Str × PyData) → Hs → Prop}
theorem eqBB {a b : Bool} : eqP (.bool a) (.bool b) = some (a == b) := by cases a <;> cases b <;> rfl
theorem in2 {t a b : Str} : inO A (.d (.str t)) (.d (.tuple [.str a, .str b])) = some (decide (a = t) || decide (b = t)) := by
  have e : inO A (.d (.str t)) (.d (.tuple [.str a, .str b])) = some ([PyData.str a, .str b].any fun q => PyData.eqv q (.str t)) := rfl
  rw [e]
  simp only [List.any_cons, List.any_nil, Bool.or_false, PyData.eqv]
  congr
theorem wq_callD {f : Str} {d : Fn} {m : M R} (h : fnd P.tab f = some d) (hl : 1 = d.np) : wq (callD P (n + 1) f m) A Φ E = wS (exs (geN P n m) d.body ([some .lam] ++ List.replicate (d.ns - d.np) none) A) (pst d.keep A.length Φ E) := by
  have e : callD P (n + 1) f m = runFn (geN P n m) d [.lam] := by
    simp only [callD]
    rw [h]
  rw [e]
  exact wq_run hl
theorem isi_exc {sb : Sub} {c : Str} {fs : List (Str × PyData)} {t : String ⊕ Str} {b : Bool} (h : sb c t = some b) : isiOs sb A (.exc c fs) [t] = some b := by
  unfold isiOs
  simp only [isiO, h]
  cases b <;> rfl
theorem isn_exc {c : Str} {fs : List (Str × PyData)} : isNO (.exc c fs) (.d .none) = some false := rfl
def pick : PyData → Option PyData
  | .tuple [p, .bool true] => some p
  | _ => none
theorem refused_q (g : GenX P) (hA : Cl A) {m : M R} {q : PyData} {x : Str} (hm : ∀ (Φ : R → Hs → Prop) (E : Str → List (Str × PyData) → Hs → Prop), wq m A Φ E = E "BadKind" [(Str.ofString "place", q)] A) (hq : reprP q = some x) (hx : x.length ≤ 1000) : wq (callD P (n + 1) "_law_refused" m) A Φ E = Φ (.val (.d (.str (Str.ofString "kind " ++ x)))) A := by
  rw [wq_callD g.refused rfl]
  simp only [fRefused, b__law_refused]
  rw [z_cons]
  simp only [BQ, q_ife, BZ, BO, BV, BL, tyN, mTy, List.replicate, List.getElem?_cons_zero, List.getElem?_cons_succ, List.set_cons_zero, List.set_cons_succ, List.map_cons, List.map_nil, List.cons_append, List.nil_append, List.all_cons, List.all_nil, Option.map_some, Option.map_none, Option.bind_some, Option.bind_none, if_true, if_false, ite_true, ite_false, List.length_cons, List.length_nil, ite_self, Nat.reduceAdd, Nat.reduceLeDiff, Nat.reduceLT, Nat.reduceMul, Int.reduceLT, Int.reduceLE, Int.reduceNeg, Int.reduceAdd, Int.reduceSub, Int.reduceMul, Int.reducePow, Int.reduceEq]
  rw [z_cons]
  simp only [BQ, q_ife, BZ, BO, BV, BL, tyN, mTy, List.replicate, List.getElem?_cons_zero, List.getElem?_cons_succ, List.set_cons_zero, List.set_cons_succ, List.map_cons, List.map_nil, List.cons_append, List.nil_append, List.all_cons, List.all_nil, Option.map_some, Option.map_none, Option.bind_some, Option.bind_none, if_true, if_false, ite_true, ite_false, List.length_cons, List.length_nil, ite_self, Nat.reduceAdd, Nat.reduceLeDiff, Nat.reduceLT, Nat.reduceMul, Int.reduceLT, Int.reduceLE, Int.reduceNeg, Int.reduceAdd, Int.reduceSub, Int.reduceMul, Int.reducePow, Int.reduceEq]
  rw [z_cons]
  have hc : caught P.o.sub "BadKind" ["BadKind", "BadWorth", "BadText", "BadClaim", "BadPaper", "BadQuestion", "NoDerivation"] = some true := by
    simp only [caught, g.kk, g.kw, g.kt, g.kc, g.kp, g.kq, g.kn]
    rfl
  simp only [BQ, q_ife, BZ, BO, BV, BL, tyN, mTy, List.replicate, List.getElem?_cons_zero, List.getElem?_cons_succ, List.set_cons_zero, List.set_cons_succ, List.map_cons, List.map_nil, List.cons_append, List.nil_append, List.all_cons, List.all_nil, Option.map_some, Option.map_none, Option.bind_some, Option.bind_none, if_true, if_false, ite_true, ite_false, List.length_cons, List.length_nil, ite_self, Nat.reduceAdd, Nat.reduceLeDiff, Nat.reduceLT, Nat.reduceMul, Int.reduceLT, Int.reduceLE, Int.reduceNeg, Int.reduceAdd, Int.reduceSub, Int.reduceMul, Int.reducePow, Int.reduceEq, hm, hc]
  rw [z_cons]
  simp only [BQ, q_ife, BZ, BO, BV, BL, tyN, mTy, List.replicate, List.getElem?_cons_zero, List.getElem?_cons_succ, List.set_cons_zero, List.set_cons_succ, List.map_cons, List.map_nil, List.cons_append, List.nil_append, List.all_cons, List.all_nil, Option.map_some, Option.map_none, Option.bind_some, Option.bind_none, if_true, if_false, ite_true, ite_false, List.length_cons, List.length_nil, ite_self, Nat.reduceAdd, Nat.reduceLeDiff, Nat.reduceLT, Nat.reduceMul, Int.reduceLT, Int.reduceLE, Int.reduceNeg, Int.reduceAdd, Int.reduceSub, Int.reduceMul, Int.reducePow, Int.reduceEq, isn_exc]
  rw [z_cons]
  simp only [BQ, q_ife, BZ, BO, BV, BL, tyN, mTy, List.replicate, List.getElem?_cons_zero, List.getElem?_cons_succ, List.set_cons_zero, List.set_cons_succ, List.map_cons, List.map_nil, List.cons_append, List.nil_append, List.all_cons, List.all_nil, Option.map_some, Option.map_none, Option.bind_some, Option.bind_none, if_true, if_false, ite_true, ite_false, List.length_cons, List.length_nil, ite_self, Nat.reduceAdd, Nat.reduceLeDiff, Nat.reduceLT, Nat.reduceMul, Int.reduceLT, Int.reduceLE, Int.reduceNeg, Int.reduceAdd, Int.reduceSub, Int.reduceMul, Int.reducePow, Int.reduceEq, isi_exc g.kk, isi_exc g.kw]
  rw [z_cons]
  simp only [BQ, q_ife, BZ, BO, BV, BL, tyN, mTy, List.replicate, List.getElem?_cons_zero, List.getElem?_cons_succ, List.set_cons_zero, List.set_cons_succ, List.map_cons, List.map_nil, List.cons_append, List.nil_append, List.all_cons, List.all_nil, Option.map_some, Option.map_none, Option.bind_some, Option.bind_none, if_true, if_false, ite_true, ite_false, List.length_cons, List.length_nil, ite_self, Nat.reduceAdd, Nat.reduceLeDiff, Nat.reduceLT, Nat.reduceMul, Int.reduceLT, Int.reduceLE, Int.reduceNeg, Int.reduceAdd, Int.reduceSub, Int.reduceMul, Int.reducePow, Int.reduceEq, isi_exc g.kt, isi_exc g.kc]
  rw [z_cons]
  simp only [BQ, q_ife, BZ, BO, BV, BL, tyN, mTy, List.replicate, List.getElem?_cons_zero, List.getElem?_cons_succ, List.set_cons_zero, List.set_cons_succ, List.map_cons, List.map_nil, List.cons_append, List.nil_append, List.all_cons, List.all_nil, Option.map_some, Option.map_none, Option.bind_some, Option.bind_none, if_true, if_false, ite_true, ite_false, List.length_cons, List.length_nil, ite_self, Nat.reduceAdd, Nat.reduceLeDiff, Nat.reduceLT, Nat.reduceMul, Int.reduceLT, Int.reduceLE, Int.reduceNeg, Int.reduceAdd, Int.reduceSub, Int.reduceMul, Int.reducePow, Int.reduceEq, isi_exc g.kp, isi_exc g.kq]
  rw [z_cons]
  simp only [BQ, q_ife, BZ, BO, BV, BL, tyN, mTy, List.replicate, List.getElem?_cons_zero, List.getElem?_cons_succ, List.set_cons_zero, List.set_cons_succ, List.map_cons, List.map_nil, List.cons_append, List.nil_append, List.all_cons, List.all_nil, Option.map_some, Option.map_none, Option.bind_some, Option.bind_none, if_true, if_false, ite_true, ite_false, List.length_cons, List.length_nil, ite_self, Nat.reduceAdd, Nat.reduceLeDiff, Nat.reduceLT, Nat.reduceMul, Int.reduceLT, Int.reduceLE, Int.reduceNeg, Int.reduceAdd, Int.reduceSub, Int.reduceMul, Int.reducePow, Int.reduceEq, isi_exc g.kn]
  rw [lc_Q (g := pick) rfl]
  · have e : List.filterMap pick [.tuple [.str "kind", .bool true], .tuple [.str "worth", .bool false], .tuple [.str "text", .bool false], .tuple [.str "claim", .bool false], .tuple [.str "paper", .bool false], .tuple [.str "question", .bool false], .tuple [.str "none", .bool false]] = [.str "kind"] := rfl
    rw [e]
    simp only [BQ, q_ife, BZ, BO, BV, BL, tyN, mTy, List.replicate, List.getElem?_cons_zero, List.getElem?_cons_succ, List.set_cons_zero, List.set_cons_succ, List.map_cons, List.map_nil, List.cons_append, List.nil_append, List.all_cons, List.all_nil, Option.map_some, Option.map_none, Option.bind_some, Option.bind_none, if_true, if_false, ite_true, ite_false, List.length_cons, List.length_nil, ite_self, Nat.reduceAdd, Nat.reduceLeDiff, Nat.reduceLT, Nat.reduceMul, Int.reduceLT, Int.reduceLE, Int.reduceNeg, Int.reduceAdd, Int.reduceSub, Int.reduceMul, Int.reducePow, Int.reduceEq]
    have n1 : ¬ (Str.ofString "kind" = Str.ofString "none") := by decide
    have n2 : ¬ (Str.ofString "question" = Str.ofString "kind") := by decide
    have n3 : ¬ (Str.ofString "none" = Str.ofString "kind") := by decide
    rw [z_cons]
    simp only [BQ, q_ife, BZ, BO, BV, BL, tyN, mTy, List.replicate, List.getElem?_cons_zero, List.getElem?_cons_succ, List.set_cons_zero, List.set_cons_succ, List.map_cons, List.map_nil, List.cons_append, List.nil_append, List.all_cons, List.all_nil, Option.map_some, Option.map_none, Option.bind_some, Option.bind_none, if_true, if_false, ite_true, ite_false, List.length_cons, List.length_nil, ite_self, Nat.reduceAdd, Nat.reduceLeDiff, Nat.reduceLT, Nat.reduceMul, Int.reduceLT, Int.reduceLE, Int.reduceNeg, Int.reduceAdd, Int.reduceSub, Int.reduceMul, Int.reducePow, Int.reduceEq, isi_exc g.kv, at0, n1, eqBB, beq_self_eq_true]
    rw [z_cons]
    simp only [BQ, q_ife, BZ, BO, BV, BL, tyN, mTy, List.replicate, List.getElem?_cons_zero, List.getElem?_cons_succ, List.set_cons_zero, List.set_cons_succ, List.map_cons, List.map_nil, List.cons_append, List.nil_append, List.all_cons, List.all_nil, Option.map_some, Option.map_none, Option.bind_some, Option.bind_none, if_true, if_false, ite_true, ite_false, List.length_cons, List.length_nil, ite_self, Nat.reduceAdd, Nat.reduceLeDiff, Nat.reduceLT, Nat.reduceMul, Int.reduceLT, Int.reduceLE, Int.reduceNeg, Int.reduceAdd, Int.reduceSub, Int.reduceMul, Int.reducePow, Int.reduceEq, isi_exc g.kl, at0, n1, eqBB, beq_self_eq_true]
    rw [z_cons]
    have hfl : ((P.o.flds "BadKind").getD []).contains ("place" : Str) = true := by rw [g.flds]; rfl
    have hlk : List.lookup ("place" : Str) [(Str.ofString "place", q)] = some q := rfl
    have l1 : (Str.ofString "kind").length + (Str.ofString " ").length ≤ 16777216 := by decide
    have l2 : (Str.ofString "kind" ++ Str.ofString " ").length + x.length ≤ 16777216 := by
      have : (Str.ofString "kind" ++ Str.ofString " ").length = 5 := by decide
      omega
    have e5 : Str.ofString "kind" ++ Str.ofString " " = Str.ofString "kind " := by decide
    simp only [BQ, q_ife, BZ, BO, BV, BL, tyN, mTy, List.replicate, List.getElem?_cons_zero, List.getElem?_cons_succ, List.set_cons_zero, List.set_cons_succ, List.map_cons, List.map_nil, List.cons_append, List.nil_append, List.all_cons, List.all_nil, Option.map_some, Option.map_none, Option.bind_some, Option.bind_none, if_true, if_false, ite_true, ite_false, List.length_cons, List.length_nil, ite_self, Nat.reduceAdd, Nat.reduceLeDiff, Nat.reduceLT, Nat.reduceMul, Int.reduceLT, Int.reduceLE, Int.reduceNeg, Int.reduceAdd, Int.reduceSub, Int.reduceMul, Int.reducePow, Int.reduceEq, at0, in2, n2, n3, Bool.or_self, hfl, hlk, hq, l1, l2]
    rw [e5, leave_self hA]
    simp only [BQ, q_ife, BZ, BO, BV, BL, tyN, mTy, List.replicate, List.getElem?_cons_zero, List.getElem?_cons_succ, List.set_cons_zero, List.set_cons_succ, List.map_cons, List.map_nil, List.cons_append, List.nil_append, List.all_cons, List.all_nil, Option.map_some, Option.map_none, Option.bind_some, Option.bind_none, if_true, if_false, ite_true, ite_false, List.length_cons, List.length_nil, ite_self, Nat.reduceAdd, Nat.reduceLeDiff, Nat.reduceLT, Nat.reduceMul, Int.reduceLT, Int.reduceLE, Int.reduceNeg, Int.reduceAdd, Int.reduceSub, Int.reduceMul, Int.reducePow, Int.reduceEq]
  · intro p hp Φ
    simp only [List.mem_cons, List.not_mem_nil, or_false] at hp
    rcases hp with rfl | rfl | rfl | rfl | rfl | rfl | rfl
    all_goals
      simp only [BQ, q_ife, BZ, BO, BV, BL, tyN, mTy, List.replicate, List.getElem?_cons_zero, List.getElem?_cons_succ, List.set_cons_zero, List.set_cons_succ, List.map_cons, List.map_nil, List.cons_append, List.nil_append, List.all_cons, List.all_nil, Option.map_some, Option.map_none, Option.bind_some, Option.bind_none, if_true, if_false, ite_true, ite_false, List.length_cons, List.length_nil, ite_self, Nat.reduceAdd, Nat.reduceLeDiff, Nat.reduceLT, Nat.reduceMul, Int.reduceLT, Int.reduceLE, Int.reduceNeg, Int.reduceAdd, Int.reduceSub, Int.reduceMul, Int.reducePow, Int.reduceEq, pick]
theorem isKind_q (g : GenP P) (hk : fnd P.tab "is_kind" = some fIsKind) (hs : P.o.sub "BadKind" (.inr "BadKind") = some true) (hA : Cl A) {p : PyData} (hp : smP w p = true) (hw : w ≤ 1000) : wq (callN P (n + 7) "is_kind" [.d p]) A Φ E = Φ (.val (.d (.bool (match wk 25 [([], p)] [] 0 with | .inl _ => true | .inr _ => false)))) A := by
  rw [wq_call hk rfl]
  simp only [fIsKind, b_is_kind]
  rw [z_cons]
  simp only [BQ, q_ife, BZ, BO, BV, BL, tyN, mTy, List.replicate, List.getElem?_cons_zero, List.getElem?_cons_succ, List.set_cons_zero, List.set_cons_succ, List.map_cons, List.map_nil, List.cons_append, List.nil_append, List.all_cons, List.all_nil, Option.map_some, Option.map_none, Option.bind_some, Option.bind_none, if_true, if_false, ite_true, ite_false, List.length_cons, List.length_nil, ite_self, Nat.reduceAdd, Nat.reduceLeDiff, Nat.reduceLT, Nat.reduceMul, Int.reduceLT, Int.reduceLE, Int.reduceNeg, Int.reduceAdd, Int.reduceSub, Int.reduceMul, Int.reducePow, Int.reduceEq]
  rw [z_cons]
  simp only [BQ, q_ife, BZ, BO, BV, BL, tyN, mTy, List.replicate, List.getElem?_cons_zero, List.getElem?_cons_succ, List.set_cons_zero, List.set_cons_succ, List.map_cons, List.map_nil, List.cons_append, List.nil_append, List.all_cons, List.all_nil, Option.map_some, Option.map_none, Option.bind_some, Option.bind_none, if_true, if_false, ite_true, ite_false, List.length_cons, List.length_nil, ite_self, Nat.reduceAdd, Nat.reduceLeDiff, Nat.reduceLT, Nat.reduceMul, Int.reduceLT, Int.reduceLE, Int.reduceNeg, Int.reduceAdd, Int.reduceSub, Int.reduceMul, Int.reducePow, Int.reduceEq, needKind_q g hA hp hw]
  cases wk 25 [([], p)] [] 0 with
  | inl fd =>
    simp only
    rw [z_cons]
    simp only [BQ, q_ife, BZ, BO, BV, BL, tyN, mTy, List.replicate, List.getElem?_cons_zero, List.getElem?_cons_succ, List.set_cons_zero, List.set_cons_succ, List.map_cons, List.map_nil, List.cons_append, List.nil_append, List.all_cons, List.all_nil, Option.map_some, Option.map_none, Option.bind_some, Option.bind_none, if_true, if_false, ite_true, ite_false, List.length_cons, List.length_nil, ite_self, Nat.reduceAdd, Nat.reduceLeDiff, Nat.reduceLT, Nat.reduceMul, Int.reduceLT, Int.reduceLE, Int.reduceNeg, Int.reduceAdd, Int.reduceSub, Int.reduceMul, Int.reducePow, Int.reduceEq, leave_self hA]
  | inr way =>
    simp only [BQ, q_ife, BZ, BO, BV, BL, tyN, mTy, List.replicate, List.getElem?_cons_zero, List.getElem?_cons_succ, List.set_cons_zero, List.set_cons_succ, List.map_cons, List.map_nil, List.cons_append, List.nil_append, List.all_cons, List.all_nil, Option.map_some, Option.map_none, Option.bind_some, Option.bind_none, if_true, if_false, ite_true, ite_false, List.length_cons, List.length_nil, ite_self, Nat.reduceAdd, Nat.reduceLeDiff, Nat.reduceLT, Nat.reduceMul, Int.reduceLT, Int.reduceLE, Int.reduceNeg, Int.reduceAdd, Int.reduceSub, Int.reduceMul, Int.reducePow, Int.reduceEq, hs]
    rw [z_cons]
    simp only [BQ, q_ife, BZ, BO, BV, BL, tyN, mTy, List.replicate, List.getElem?_cons_zero, List.getElem?_cons_succ, List.set_cons_zero, List.set_cons_succ, List.map_cons, List.map_nil, List.cons_append, List.nil_append, List.all_cons, List.all_nil, Option.map_some, Option.map_none, Option.bind_some, Option.bind_none, if_true, if_false, ite_true, ite_false, List.length_cons, List.length_nil, ite_self, Nat.reduceAdd, Nat.reduceLeDiff, Nat.reduceLT, Nat.reduceMul, Int.reduceLT, Int.reduceLE, Int.reduceNeg, Int.reduceAdd, Int.reduceSub, Int.reduceMul, Int.reducePow, Int.reduceEq, leave_self hA]
theorem wk_way : ∀ {n : Nat} {st found : List Wp} {funs : Nat} {way : List Int}, (∀ x ∈ st, smP w x.2 = true ∧ x.1.length ≤ 6 ∧ ∀ i ∈ x.1, 0 ≤ i ∧ i ≤ w) → wk n st found funs = .inr way → way.length ≤ 6 ∧ ∀ i ∈ way, 0 ≤ i ∧ i ≤ w
  | 0, _, _, _, _, _, h => by
    cases h
    exact ⟨by simp, fun i hi => by cases hi⟩
  | n + 1, [], _, _, _, _, h => by cases h
  | n + 1, x :: st, found, funs, way, hs, h => by
    have hx := hs x (by simp)
    rw [wk] at h
    split at h
    · cases h
      exact hx.2
    · rename_i c1
      split at h
      · cases h
        exact hx.2
      · have hf : formB x.2 = true := by
          cases e : formB x.2 with
          | true => rfl
          | false => exact (c1 (.inr (.inr e))).elim
        have hl : x.1.length ≤ 5 := by
          by_cases z : 5 < x.1.length
          · exact (c1 (.inr (.inl z))).elim
          · omega
        refine wk_way (fun y hy => ?_) h
        rcases List.mem_append.mp hy with z | z
        · obtain ⟨k1, k2⟩ := kids_ok hx.1 hf hl z
          refine ⟨k1, k2, fun i hi => ?_⟩
          have hol := (own_sm hx.1 hf).2
          unfold kids at z
          obtain ⟨j, hj, rfl⟩ := List.mem_map.mp z
          have hj := List.mem_range.mp hj
          rcases List.mem_append.mp hi with u | u
          · exact hx.2.2 i u
          · rw [List.mem_singleton.mp u]
            omega
        · exact hs y (by simp [z])
def fRight : Fn := ⟨"_law_right", 1, 2, b__law_right, false⟩
theorem repr_bool {b : Bool} : reprP (.bool b) = some (PyData.shown (.bool b)) := by cases b <;> decide +kernel
theorem right_q (g : GenP P) (gl : GenL P) (gx : GenX P) (hk : fnd P.tab "is_kind" = some fIsKind) (hr : fnd P.tab "_law_right" = some fRight) (hA : Cl A) {p : PyData} (hp : smP 60 p = true) : wq (callN P (n + 8) "_law_right" [.d p]) A Φ E = Φ (.val (.d (.bool true))) A := by
  rw [wq_call hr rfl]
  simp only [fRight, b__law_right]
  rw [z_cons]
  simp only [BQ, q_ife, BZ, BO, BV, BL, tyN, mTy, List.replicate, List.getElem?_cons_zero, List.getElem?_cons_succ, List.set_cons_zero, List.set_cons_succ, List.map_cons, List.map_nil, List.cons_append, List.nil_append, List.all_cons, List.all_nil, Option.map_some, Option.map_none, Option.bind_some, Option.bind_none, if_true, if_false, ite_true, ite_false, List.length_cons, List.length_nil, ite_self, Nat.reduceAdd, Nat.reduceLeDiff, Nat.reduceLT, Nat.reduceMul, Int.reduceLT, Int.reduceLE, Int.reduceNeg, Int.reduceAdd, Int.reduceSub, Int.reduceMul, Int.reducePow, Int.reduceEq, place_q gl hA hp]
  cases hw : wk 25 [([], p)] [] 0 with
  | inl fd =>
    obtain ⟨x, hx⟩ := repr_kind hw
    simp only [BQ, q_ife, BZ, BO, BV, BL, tyN, mTy, List.replicate, List.getElem?_cons_zero, List.getElem?_cons_succ, List.set_cons_zero, List.set_cons_succ, List.map_cons, List.map_nil, List.cons_append, List.nil_append, List.all_cons, List.all_nil, Option.map_some, Option.map_none, Option.bind_some, Option.bind_none, if_true, if_false, ite_true, ite_false, List.length_cons, List.length_nil, ite_self, Nat.reduceAdd, Nat.reduceLeDiff, Nat.reduceLT, Nat.reduceMul, Int.reduceLT, Int.reduceLE, Int.reduceNeg, Int.reduceAdd, Int.reduceSub, Int.reduceMul, Int.reducePow, Int.reduceEq]
    rw [z_cons]
    simp only [BQ, q_ife, BZ, BO, BV, BL, tyN, mTy, List.replicate, List.getElem?_cons_zero, List.getElem?_cons_succ, List.set_cons_zero, List.set_cons_succ, List.map_cons, List.map_nil, List.cons_append, List.nil_append, List.all_cons, List.all_nil, Option.map_some, Option.map_none, Option.bind_some, Option.bind_none, if_true, if_false, ite_true, ite_false, List.length_cons, List.length_nil, ite_self, Nat.reduceAdd, Nat.reduceLeDiff, Nat.reduceLT, Nat.reduceMul, Int.reduceLT, Int.reduceLE, Int.reduceNeg, Int.reduceAdd, Int.reduceSub, Int.reduceMul, Int.reducePow, Int.reduceEq, isKind_q g hk gx.kk hA hp (by decide), hw, repr_bool, y_isN, isN]
    rw [z_cons]
    simp only [BQ, q_ife, BZ, BO, BV, BL, tyN, mTy, List.replicate, List.getElem?_cons_zero, List.getElem?_cons_succ, List.set_cons_zero, List.set_cons_succ, List.map_cons, List.map_nil, List.cons_append, List.nil_append, List.all_cons, List.all_nil, Option.map_some, Option.map_none, Option.bind_some, Option.bind_none, if_true, if_false, ite_true, ite_false, List.length_cons, List.length_nil, ite_self, Nat.reduceAdd, Nat.reduceLeDiff, Nat.reduceLT, Nat.reduceMul, Int.reduceLT, Int.reduceLE, Int.reduceNeg, Int.reduceAdd, Int.reduceSub, Int.reduceMul, Int.reducePow, Int.reduceEq, y_isN, isN]
    rw [z_cons]
    simp only [BQ, q_ife, BZ, BO, BV, BL, tyN, mTy, List.replicate, List.getElem?_cons_zero, List.getElem?_cons_succ, List.set_cons_zero, List.set_cons_succ, List.map_cons, List.map_nil, List.cons_append, List.nil_append, List.all_cons, List.all_nil, Option.map_some, Option.map_none, Option.bind_some, Option.bind_none, if_true, if_false, ite_true, ite_false, List.length_cons, List.length_nil, ite_self, Nat.reduceAdd, Nat.reduceLeDiff, Nat.reduceLT, Nat.reduceMul, Int.reduceLT, Int.reduceLE, Int.reduceNeg, Int.reduceAdd, Int.reduceSub, Int.reduceMul, Int.reducePow, Int.reduceEq, needKind_q g hA hp (by decide), hw, hx, leave_self hA]
  | inr way =>
    obtain ⟨w1, w2⟩ := wk_way (w := 60) (fun x hx => by rw [List.mem_singleton.mp hx]; exact ⟨hp, by simp, fun i hi => by cases hi⟩) hw
    obtain ⟨x, hx, hl⟩ := repr_way w1 fun i hi => by have := w2 i hi; omega
    have hn : ∀ {A : Hs}, isNO (.d (wayP way)) (.d .none) = some false := fun {A} => rfl
    simp only [BQ, q_ife, BZ, BO, BV, BL, tyN, mTy, List.replicate, List.getElem?_cons_zero, List.getElem?_cons_succ, List.set_cons_zero, List.set_cons_succ, List.map_cons, List.map_nil, List.cons_append, List.nil_append, List.all_cons, List.all_nil, Option.map_some, Option.map_none, Option.bind_some, Option.bind_none, if_true, if_false, ite_true, ite_false, List.length_cons, List.length_nil, ite_self, Nat.reduceAdd, Nat.reduceLeDiff, Nat.reduceLT, Nat.reduceMul, Int.reduceLT, Int.reduceLE, Int.reduceNeg, Int.reduceAdd, Int.reduceSub, Int.reduceMul, Int.reducePow, Int.reduceEq]
    rw [z_cons]
    simp only [BQ, q_ife, BZ, BO, BV, BL, tyN, mTy, List.replicate, List.getElem?_cons_zero, List.getElem?_cons_succ, List.set_cons_zero, List.set_cons_succ, List.map_cons, List.map_nil, List.cons_append, List.nil_append, List.all_cons, List.all_nil, Option.map_some, Option.map_none, Option.bind_some, Option.bind_none, if_true, if_false, ite_true, ite_false, List.length_cons, List.length_nil, ite_self, Nat.reduceAdd, Nat.reduceLeDiff, Nat.reduceLT, Nat.reduceMul, Int.reduceLT, Int.reduceLE, Int.reduceNeg, Int.reduceAdd, Int.reduceSub, Int.reduceMul, Int.reducePow, Int.reduceEq, isKind_q g hk gx.kk hA hp (by decide), hw, repr_bool, hn (A := A)]
    rw [z_cons]
    simp only [BQ, q_ife, BZ, BO, BV, BL, tyN, mTy, List.replicate, List.getElem?_cons_zero, List.getElem?_cons_succ, List.set_cons_zero, List.set_cons_succ, List.map_cons, List.map_nil, List.cons_append, List.nil_append, List.all_cons, List.all_nil, Option.map_some, Option.map_none, Option.bind_some, Option.bind_none, if_true, if_false, ite_true, ite_false, List.length_cons, List.length_nil, ite_self, Nat.reduceAdd, Nat.reduceLeDiff, Nat.reduceLT, Nat.reduceMul, Int.reduceLT, Int.reduceLE, Int.reduceNeg, Int.reduceAdd, Int.reduceSub, Int.reduceMul, Int.reducePow, Int.reduceEq, hn (A := A)]
    rw [z_cons]
    have hm : ∀ (Φ : R → Hs → Prop) (E : Str → List (Str × PyData) → Hs → Prop), wq (ev (geN P (n + 7) bad) (.call "need_kind" [.v 0]) [some (.d p), some (.d (wayP way))]) A Φ E = E "BadKind" [(Str.ofString "place", wayP way)] A := fun Φ E => by
      simp only [BQ, q_ife, BZ, BO, BV, BL, tyN, mTy, List.replicate, List.getElem?_cons_zero, List.getElem?_cons_succ, List.set_cons_zero, List.set_cons_succ, List.map_cons, List.map_nil, List.cons_append, List.nil_append, List.all_cons, List.all_nil, Option.map_some, Option.map_none, Option.bind_some, Option.bind_none, if_true, if_false, ite_true, ite_false, List.length_cons, List.length_nil, ite_self, Nat.reduceAdd, Nat.reduceLeDiff, Nat.reduceLT, Nat.reduceMul, Int.reduceLT, Int.reduceLE, Int.reduceNeg, Int.reduceAdd, Int.reduceSub, Int.reduceMul, Int.reducePow, Int.reduceEq, needKind_q g hA hp (by decide), hw]
    have l2 : (Str.ofString "kind ").length + x.length ≤ 16777216 := by
      have : (Str.ofString "kind ").length = 5 := by decide
      omega
    simp only [BQ, q_ife, BZ, BO, BV, BL, tyN, mTy, List.replicate, List.getElem?_cons_zero, List.getElem?_cons_succ, List.set_cons_zero, List.set_cons_succ, List.map_cons, List.map_nil, List.cons_append, List.nil_append, List.all_cons, List.all_nil, Option.map_some, Option.map_none, Option.bind_some, Option.bind_none, if_true, if_false, ite_true, ite_false, List.length_cons, List.length_nil, ite_self, Nat.reduceAdd, Nat.reduceLeDiff, Nat.reduceLT, Nat.reduceMul, Int.reduceLT, Int.reduceLE, Int.reduceNeg, Int.reduceAdd, Int.reduceSub, Int.reduceMul, Int.reducePow, Int.reduceEq, refused_q gx hA hm hx hl, hx, l2, leave_self hA]
end
end Kg
set_option Elab.async false
set_option linter.all false
set_option maxRecDepth 100000
set_option maxHeartbeats 1000000
/-! KgH: kinds are built. -/
namespace Kg
open PySem L2 Mi TL
def fLWalk : Fn := ⟨"_law_walk", 1, 6, b__law_walk, false⟩
def fFits : Fn := ⟨"_law_fits", 1, 5, b__law_fits, false⟩
def fFields : Fn := ⟨"_law_fields", 3, 6, b__law_fields, false⟩
def fBuilt : Fn := ⟨"_law_built", 2, 5, b__law_built, false⟩
def fKind : Fn := ⟨"_law_kind", 1, 2, b__law_kind, false⟩
structure GenK (P : Pr) : Prop extends GenA P where
  own : fnd P.tab "_law_own" = some fLOwn
  walk : fnd P.tab "_law_walk" = some fLWalk
  fits : fnd P.tab "_law_fits" = some fFits
  fields : fnd P.tab "_law_fields" = some fFields
  built : fnd P.tab "_law_built" = some fBuilt
  kind : fnd P.tab "_law_kind" = some fKind
  lim : 100 ≤ P.o.lim
/-- formed, and so is all within -/
inductive HF : Nat → PyData → Prop
  | mk {d : Nat} {p : PyData} : formB p = true → (∀ q ∈ ownP p, HF d q) → HF (d + 1) p
theorem HF.form {d : Nat} {p : PyData} (h : HF d p) : formB p = true := by cases h with | mk a b => exact a
theorem HF.mono {d e : Nat} {p : PyData} (h : HF d p) (hd : d ≤ e) : HF e p := by
  induction h generalizing e with
  | mk a b ih =>
    obtain ⟨e, rfl⟩ : ∃ e', e = e' + 1 := ⟨e - 1, by omega⟩
    exact .mk a fun q hq => ih q hq (by omega)
/-- its parts with their ways, each ahead of its own -/
def wl : Nat → PyData → List Wp
  | 0, p => [([], p)]
  | d + 1, p => ([], p) :: (ownP p).zipIdx.flatMap fun x => (wl d x.1).map fun y => ((x.2 : Int) :: y.1, y.2)
theorem flat_len {α β : Type} {f : α → List β} {c : Nat} : ∀ {l : List α}, (∀ x ∈ l, (f x).length ≤ c) → (l.flatMap f).length ≤ c * l.length
  | [], _ => by simp
  | x :: l, h => by
    rw [List.flatMap_cons, List.length_append, List.length_cons, Nat.mul_add, Nat.mul_one]
    have h1 := h x (by simp)
    have h2 := flat_len (l := l) fun y hy => h y (by simp [hy])
    omega
theorem zip_mem {ps : List PyData} {x : PyData × Nat} (h : x ∈ ps.zipIdx) : x.1 ∈ ps ∧ x.2 < ps.length := by
  obtain ⟨q, i⟩ := x
  have := List.mem_zipIdx h
  simp only [Nat.zero_le, Nat.zero_add, true_and, Nat.sub_zero] at this
  obtain ⟨h1, h2⟩ := this
  refine ⟨?_, h1⟩
  rw [h2]
  exact List.getElem_mem _
theorem wl_ok : ∀ {d : Nat} {p : PyData}, HF d p → smP 3 p = true → (wl d p).length ≤ 4 ^ d ∧ ∀ x ∈ wl d p, x.1.length ≤ d ∧ ∃ t r, x.2 = .tuple (.str t :: r)
  | 0, p, h, _ => by cases h
  | d + 1, p, h, hs => by
    cases h with
    | mk hf hk =>
      obtain ⟨o1, o2⟩ := own_sm hs hf
      have ih : ∀ q ∈ ownP p, _ := fun q hq => wl_ok (hk q hq) (o1 q hq)
      refine ⟨?_, fun x hx => ?_⟩
      · have h1 := flat_len (l := (ownP p).zipIdx) (f := fun x => (wl d x.1).map fun y => ((x.2 : Int) :: y.1, y.2)) (c := 4 ^ d) fun x hx => by
          rw [List.length_map]
          exact (ih x.1 (zip_mem hx).1).1
        rw [List.length_zipIdx] at h1
        have h2 : 4 ^ d * (ownP p).length ≤ 4 ^ d * 3 := Nat.mul_le_mul_left _ o2
        have h3 : 1 ≤ 4 ^ d := Nat.one_le_pow _ _ (by decide)
        rw [wl, List.length_cons, Nat.pow_succ]
        omega
      · rw [wl] at hx
        rcases List.mem_cons.mp hx with rfl | hx
        · exact ⟨by simp, form_tup hf⟩
        · obtain ⟨z, hz, hx⟩ := List.mem_flatMap.mp hx
          obtain ⟨y, hy, rfl⟩ := List.mem_map.mp hx
          obtain ⟨i1, i2⟩ := (ih z.1 (zip_mem hz).1).2 y hy
          exact ⟨by simp only [List.length_cons]; omega, i2⟩
section
variable {P : Pr} {n w : Nat} {A : Hs} {Φ : R → Hs → Prop} {E : Str → List (Str × PyData) → Hs → Prop}
theorem enumP_eq {ps : List PyData} : enumP ps = ps.zipIdx.map fun x => .tuple [.int (x.2 : Int), x.1] := rfl
abbrev lwBody : List S := [.asg 1 (.bin .Add (.v 1) (.lc (.tup [(.bin .Add (.tup [(.v 2)]) (.v 4)), (.v 5)]) (.tp [(.nm 4), (.nm 5)]) (.seq (.call "_law_walk" [(.v 3)])) [] [4, 5])) false]
theorem lwalk_q (g : GenK P) (hA : Cl A) : ∀ {d N : Nat} {p : PyData} {Φ : R → Hs → Prop} {E : Str → List (Str × PyData) → Hs → Prop}, HF d p → smP 3 p = true → d ≤ 9 → d + 1 ≤ N → wq (callN P N "_law_walk" [.d p]) A Φ E = Φ (.val (.d (.list ((wl d p).map enc)))) A
  | 0, N, p, Φ, E, h, _, _, _ => by cases h
  | d + 1, N, p, Φ, E, h, hs, hd, hN => by
    cases h with
    | mk hf hk =>
      obtain ⟨o1, o2⟩ := own_sm hs hf
      obtain ⟨N, rfl⟩ : ∃ m, N = m + 2 := ⟨N - 2, by omega⟩
      have hpow : (4 : Nat) ^ d ≤ 262144 := Nat.le_trans (Nat.pow_le_pow_right (by decide) (show d ≤ 9 by omega)) (by decide)
      have turn : ∀ {L : List (PyData × Nat)} {fs : List Wp} {a b c e : Option U}, (∀ x ∈ L, x.1 ∈ ownP p) → fs.length + 262144 * L.length ≤ 1000000 → wS (frGo none (.tp [(.nm 2), (.nm 3)]) (exs (geN P (N + 1) bad) lwBody) (L.map fun x => .tuple [.int (x.2 : Int), x.1]) [some (.d p), some (.d (.list (fs.map enc))), a, b, c, e] A) (sqK (geN P (N + 1) bad) [.ret (some (.v 1))] (pst false A.length Φ E)) = Φ (.val (.d (.list ((fs ++ L.flatMap fun x => (wl d x.1).map fun y => ((x.2 : Int) :: y.1, y.2)).map enc)))) A := by
        intro L
        induction L with
        | nil =>
          intro fs a b c e _ _
          rw [List.map_nil, fr_nil rfl]
          simp only [BQ, q_ife, BZ, BO, BV, BL, tyN, mTy, List.replicate, List.getElem?_cons_zero, List.getElem?_cons_succ, List.set_cons_zero, List.set_cons_succ, List.map_cons, List.map_nil, List.cons_append, List.nil_append, List.all_cons, List.all_nil, Option.map_some, Option.map_none, Option.bind_some, Option.bind_none, if_true, if_false, ite_true, ite_false, List.length_cons, List.length_nil, ite_self, Nat.reduceAdd, Nat.reduceLeDiff, Nat.reduceLT, Nat.reduceMul, Int.reduceLT, Int.reduceLE, Int.reduceNeg, Int.reduceAdd, Int.reduceSub, Int.reduceMul, Int.reducePow, Int.reduceEq]
          rw [z_cons]
          simp only [BQ, q_ife, BZ, BO, BV, BL, tyN, mTy, List.replicate, List.getElem?_cons_zero, List.getElem?_cons_succ, List.set_cons_zero, List.set_cons_succ, List.map_cons, List.map_nil, List.cons_append, List.nil_append, List.all_cons, List.all_nil, Option.map_some, Option.map_none, Option.bind_some, Option.bind_none, if_true, if_false, ite_true, ite_false, List.length_cons, List.length_nil, ite_self, Nat.reduceAdd, Nat.reduceLeDiff, Nat.reduceLT, Nat.reduceMul, Int.reduceLT, Int.reduceLE, Int.reduceNeg, Int.reduceAdd, Int.reduceSub, Int.reduceMul, Int.reducePow, Int.reduceEq, leave_self hA, List.flatMap_nil, List.append_nil]
        | cons x L ih =>
          intro fs a b c e hL hn
          have hx := hL x (by simp)
          have hw1 := wl_ok (hk x.1 hx) (o1 x.1 hx)
          simp only [List.length_cons] at hn
          rw [List.map_cons, fr_cons rfl]
          simp only [BQ, q_ife, BZ, BO, BV, BL, tyN, mTy, List.replicate, List.getElem?_cons_zero, List.getElem?_cons_succ, List.set_cons_zero, List.set_cons_succ, List.map_cons, List.map_nil, List.cons_append, List.nil_append, List.all_cons, List.all_nil, Option.map_some, Option.map_none, Option.bind_some, Option.bind_none, if_true, if_false, ite_true, ite_false, List.length_cons, List.length_nil, ite_self, Nat.reduceAdd, Nat.reduceLeDiff, Nat.reduceLT, Nat.reduceMul, Int.reduceLT, Int.reduceLE, Int.reduceNeg, Int.reduceAdd, Int.reduceSub, Int.reduceMul, Int.reducePow, Int.reduceEq]
          rw [lwBody, z_cons]
          simp only [BQ, q_ife, BZ, BO, BV, BL, tyN, mTy, List.replicate, List.getElem?_cons_zero, List.getElem?_cons_succ, List.set_cons_zero, List.set_cons_succ, List.map_cons, List.map_nil, List.cons_append, List.nil_append, List.all_cons, List.all_nil, Option.map_some, Option.map_none, Option.bind_some, Option.bind_none, if_true, if_false, ite_true, ite_false, List.length_cons, List.length_nil, ite_self, Nat.reduceAdd, Nat.reduceLeDiff, Nat.reduceLT, Nat.reduceMul, Int.reduceLT, Int.reduceLE, Int.reduceNeg, Int.reduceAdd, Int.reduceSub, Int.reduceMul, Int.reducePow, Int.reduceEq, lwalk_q g hA (hk x.1 hx) (o1 x.1 hx) (show d ≤ 9 by omega) (show d + 1 ≤ N + 1 by omega)]
          rw [lc_mapS (h := enc) (g := fun y => enc ((x.2 : Int) :: y.1, y.2)) rfl]
          · have el : (fs.map enc).length + ((wl d x.1).map fun y => enc ((x.2 : Int) :: y.1, y.2)).length ≤ 16777216 := by
              simp only [List.length_map]
              omega
            have el2 : ((wl d x.1).map fun y => enc ((x.2 : Int) :: y.1, y.2)).length ≤ 16777216 := by omega
            simp only [BQ, q_ife, BZ, BO, BV, BL, tyN, mTy, List.replicate, List.getElem?_cons_zero, List.getElem?_cons_succ, List.set_cons_zero, List.set_cons_succ, List.map_cons, List.map_nil, List.cons_append, List.nil_append, List.all_cons, List.all_nil, Option.map_some, Option.map_none, Option.bind_some, Option.bind_none, if_true, if_false, ite_true, ite_false, List.length_cons, List.length_nil, ite_self, Nat.reduceAdd, Nat.reduceLeDiff, Nat.reduceLT, Nat.reduceMul, Int.reduceLT, Int.reduceLE, Int.reduceNeg, Int.reduceAdd, Int.reduceSub, Int.reduceMul, Int.reducePow, Int.reduceEq, el, el2]
            have e3 : fs.map enc ++ ((wl d x.1).map fun y => enc ((x.2 : Int) :: y.1, y.2)) = (fs ++ (wl d x.1).map fun y => ((x.2 : Int) :: y.1, y.2)).map enc := by
              rw [List.map_append, List.map_map]
              rfl
            rw [e3, ih (fun y hy => hL y (by simp [hy])) (by simp only [List.length_append, List.length_map]; omega), List.flatMap_cons, List.append_assoc]
          · intro y hy Φ
            have hy1 := (hw1.2 y hy).1
            have hl3 : 1 + y.1.length ≤ 16777216 := by omega
            simp only [BQ, q_ife, BZ, BO, BV, BL, tyN, mTy, List.replicate, List.getElem?_cons_zero, List.getElem?_cons_succ, List.set_cons_zero, List.set_cons_succ, List.map_cons, List.map_nil, List.cons_append, List.nil_append, List.all_cons, List.all_nil, Option.map_some, Option.map_none, Option.bind_some, Option.bind_none, if_true, if_false, ite_true, ite_false, List.length_cons, List.length_nil, ite_self, Nat.reduceAdd, Nat.reduceLeDiff, Nat.reduceLT, Nat.reduceMul, Int.reduceLT, Int.reduceLE, Int.reduceNeg, Int.reduceAdd, Int.reduceSub, Int.reduceMul, Int.reducePow, Int.reduceEq, enc, wayP, List.length_map, hl3]
      rw [wq_call g.walk rfl]
      simp only [fLWalk, b__law_walk]
      rw [z_cons]
      simp only [BQ, q_ife, BZ, BO, BV, BL, tyN, mTy, List.replicate, List.getElem?_cons_zero, List.getElem?_cons_succ, List.set_cons_zero, List.set_cons_succ, List.map_cons, List.map_nil, List.cons_append, List.nil_append, List.all_cons, List.all_nil, Option.map_some, Option.map_none, Option.bind_some, Option.bind_none, if_true, if_false, ite_true, ite_false, List.length_cons, List.length_nil, ite_self, Nat.reduceAdd, Nat.reduceLeDiff, Nat.reduceLT, Nat.reduceMul, Int.reduceLT, Int.reduceLE, Int.reduceNeg, Int.reduceAdd, Int.reduceSub, Int.reduceMul, Int.reducePow, Int.reduceEq]
      rw [z_cons]
      have hown := fun {Φ E} => lown_q (n := N) (Φ := Φ) (E := E) g.own hA hf hs (by decide)
      simp only [BQ, q_ife, BZ, BO, BV, BL, tyN, mTy, List.replicate, List.getElem?_cons_zero, List.getElem?_cons_succ, List.set_cons_zero, List.set_cons_succ, List.map_cons, List.map_nil, List.cons_append, List.nil_append, List.all_cons, List.all_nil, Option.map_some, Option.map_none, Option.bind_some, Option.bind_none, if_true, if_false, ite_true, ite_false, List.length_cons, List.length_nil, ite_self, Nat.reduceAdd, Nat.reduceLeDiff, Nat.reduceLT, Nat.reduceMul, Int.reduceLT, Int.reduceLE, Int.reduceNeg, Int.reduceAdd, Int.reduceSub, Int.reduceMul, Int.reducePow, Int.reduceEq, hown, enumP_eq]
      have := turn (L := (ownP p).zipIdx) (fs := [([], p)]) (a := none) (b := none) (c := none) (e := none) (fun x hx => (zip_mem hx).1) (by rw [List.length_zipIdx]; simp only [List.length_cons, List.length_nil]; omega)
      exact this
theorem ints_map {α : Type} {f : α → Int} : ∀ {xs : List α}, intsP (xs.map fun c => .int (f c)) = some (xs.map f)
  | [] => rfl
  | x :: xs => by
    simp only [List.map_cons, intsP, ints_map (xs := xs), Option.map_some]
theorem maxI_some : ∀ {xs : List Int}, xs ≠ [] → ∃ m, maxI xs = some m
  | [], h => (h rfl).elim
  | [a], _ => ⟨a, rfl⟩
  | a :: b :: r, _ => by
    obtain ⟨m, e⟩ := maxI_some (xs := b :: r) (by simp)
    exact ⟨_, by rw [maxI, e]; rfl; simp⟩
def mxW (L : List Wp) : Int := (maxI (L.map fun x => (x.1.length : Int))).getD 0
def fitB (L : List Wp) : Bool := decide ((L.length : Int) < 25) && (decide (((L.filter fun x => isFun x.2).length : Int) < 5) && decide (mxW L < 6))
theorem fm_filter {L : List Wp} : L.filterMap (fun x => if isFun x.2 = true then some (wayP x.1) else none) = (L.filter fun x => isFun x.2).map fun x => wayP x.1 := by
  induction L with
  | nil => rfl
  | cons x L ih =>
    rw [List.filterMap_cons, List.filter_cons, ih]
    cases isFun x.2 <;> rfl
theorem max_list {ps : List PyData} : biMax A [.d (.list ps)] = (intsP ps).bind fun ns => (maxI ns).map fun i => .val (.d (.int i)) := rfl
theorem fits_q (g : GenK P) (hA : Cl A) {d N : Nat} {p : PyData} (h : HF d p) (hs : smP 3 p = true) (hd : d ≤ 9) (hN : d + 2 ≤ N) : wq (callN P N "_law_fits" [.d p]) A Φ E = Φ (.val (.d (.bool (fitB (wl d p))))) A := by
  obtain ⟨N, rfl⟩ : ∃ m, N = m + 1 := ⟨N - 1, by omega⟩
  obtain ⟨w1, w2⟩ := wl_ok h hs
  have hpow : (4 : Nat) ^ d ≤ 262144 := Nat.le_trans (Nat.pow_le_pow_right (by decide) hd) (by decide)
  have hwl : (wl d p).length ≤ 16777216 := by omega
  have hne : (wl d p).map (fun x => (x.1.length : Int)) ≠ [] := by
    cases h with
    | mk a b => simp [wl]
  rw [wq_call g.fits rfl]
  simp only [fFits, b__law_fits]
  rw [z_cons]
  simp only [BQ, q_ife, BZ, BO, BV, BL, tyN, mTy, List.replicate, List.getElem?_cons_zero, List.getElem?_cons_succ, List.set_cons_zero, List.set_cons_succ, List.map_cons, List.map_nil, List.cons_append, List.nil_append, List.all_cons, List.all_nil, Option.map_some, Option.map_none, Option.bind_some, Option.bind_none, if_true, if_false, ite_true, ite_false, List.length_cons, List.length_nil, ite_self, Nat.reduceAdd, Nat.reduceLeDiff, Nat.reduceLT, Nat.reduceMul, Int.reduceLT, Int.reduceLE, Int.reduceNeg, Int.reduceAdd, Int.reduceSub, Int.reduceMul, Int.reducePow, Int.reduceEq, lwalk_q g hA h hs hd (show d + 1 ≤ N by omega)]
  rw [z_cons]
  simp only [BQ, q_ife, BZ, BO, BV, BL, tyN, mTy, List.replicate, List.getElem?_cons_zero, List.getElem?_cons_succ, List.set_cons_zero, List.set_cons_succ, List.map_cons, List.map_nil, List.cons_append, List.nil_append, List.all_cons, List.all_nil, Option.map_some, Option.map_none, Option.bind_some, Option.bind_none, if_true, if_false, ite_true, ite_false, List.length_cons, List.length_nil, ite_self, Nat.reduceAdd, Nat.reduceLeDiff, Nat.reduceLT, Nat.reduceMul, Int.reduceLT, Int.reduceLE, Int.reduceNeg, Int.reduceAdd, Int.reduceSub, Int.reduceMul, Int.reducePow, Int.reduceEq]
  rw [lc_mapQ (h := enc) (g := fun x => if isFun x.2 = true then some (wayP x.1) else none) rfl]
  · have hfl : ((wl d p).filter fun x => isFun x.2).length ≤ 16777216 := Nat.le_trans (List.length_filter_le _ _) hwl
    rw [fm_filter]
    simp only [BQ, q_ife, BZ, BO, BV, BL, tyN, mTy, List.replicate, List.getElem?_cons_zero, List.getElem?_cons_succ, List.set_cons_zero, List.set_cons_succ, List.map_cons, List.map_nil, List.cons_append, List.nil_append, List.all_cons, List.all_nil, Option.map_some, Option.map_none, Option.bind_some, Option.bind_none, if_true, if_false, ite_true, ite_false, List.length_cons, List.length_nil, ite_self, Nat.reduceAdd, Nat.reduceLeDiff, Nat.reduceLT, Nat.reduceMul, Int.reduceLT, Int.reduceLE, Int.reduceNeg, Int.reduceAdd, Int.reduceSub, Int.reduceMul, Int.reducePow, Int.reduceEq, List.length_map, hfl]
    rw [z_cons]
    simp only [BQ, q_ife, BZ, BO, BV, BL, tyN, mTy, List.replicate, List.getElem?_cons_zero, List.getElem?_cons_succ, List.set_cons_zero, List.set_cons_succ, List.map_cons, List.map_nil, List.cons_append, List.nil_append, List.all_cons, List.all_nil, Option.map_some, Option.map_none, Option.bind_some, Option.bind_none, if_true, if_false, ite_true, ite_false, List.length_cons, List.length_nil, ite_self, Nat.reduceAdd, Nat.reduceLeDiff, Nat.reduceLT, Nat.reduceMul, Int.reduceLT, Int.reduceLE, Int.reduceNeg, Int.reduceAdd, Int.reduceSub, Int.reduceMul, Int.reducePow, Int.reduceEq, List.length_map]
    by_cases c1 : ((wl d p).length : Int) < 25
    · by_cases c2 : (((wl d p).filter fun x => isFun x.2).length : Int) < 5
      · simp only [BQ, q_ife, BZ, BO, BV, BL, tyN, mTy, List.replicate, List.getElem?_cons_zero, List.getElem?_cons_succ, List.set_cons_zero, List.set_cons_succ, List.map_cons, List.map_nil, List.cons_append, List.nil_append, List.all_cons, List.all_nil, Option.map_some, Option.map_none, Option.bind_some, Option.bind_none, if_true, if_false, ite_true, ite_false, List.length_cons, List.length_nil, ite_self, Nat.reduceAdd, Nat.reduceLeDiff, Nat.reduceLT, Nat.reduceMul, Int.reduceLT, Int.reduceLE, Int.reduceNeg, Int.reduceAdd, Int.reduceSub, Int.reduceMul, Int.reducePow, Int.reduceEq, c1, c2]
        rw [lc_mapS (h := enc) (g := fun x => .int (x.1.length : Int)) rfl]
        · obtain ⟨m, em⟩ := maxI_some hne
          have emx : mxW (wl d p) = m := by unfold mxW; rw [em]; rfl
          simp only [BQ, q_ife, BZ, BO, BV, BL, tyN, mTy, List.replicate, List.getElem?_cons_zero, List.getElem?_cons_succ, List.set_cons_zero, List.set_cons_succ, List.map_cons, List.map_nil, List.cons_append, List.nil_append, List.all_cons, List.all_nil, Option.map_some, Option.map_none, Option.bind_some, Option.bind_none, if_true, if_false, ite_true, ite_false, List.length_cons, List.length_nil, ite_self, Nat.reduceAdd, Nat.reduceLeDiff, Nat.reduceLT, Nat.reduceMul, Int.reduceLT, Int.reduceLE, Int.reduceNeg, Int.reduceAdd, Int.reduceSub, Int.reduceMul, Int.reducePow, Int.reduceEq, List.length_map, hwl, max_list, ints_map, em, leave_self hA]
          congr
          unfold fitB
          rw [decide_eq_true c1, decide_eq_true c2, emx]
          rfl
        · intro x hx Φ
          simp only [BQ, q_ife, BZ, BO, BV, BL, tyN, mTy, List.replicate, List.getElem?_cons_zero, List.getElem?_cons_succ, List.set_cons_zero, List.set_cons_succ, List.map_cons, List.map_nil, List.cons_append, List.nil_append, List.all_cons, List.all_nil, Option.map_some, Option.map_none, Option.bind_some, Option.bind_none, if_true, if_false, ite_true, ite_false, List.length_cons, List.length_nil, ite_self, Nat.reduceAdd, Nat.reduceLeDiff, Nat.reduceLT, Nat.reduceMul, Int.reduceLT, Int.reduceLE, Int.reduceNeg, Int.reduceAdd, Int.reduceSub, Int.reduceMul, Int.reducePow, Int.reduceEq, enc, wayP, List.length_map]
      · simp only [BQ, q_ife, BZ, BO, BV, BL, tyN, mTy, List.replicate, List.getElem?_cons_zero, List.getElem?_cons_succ, List.set_cons_zero, List.set_cons_succ, List.map_cons, List.map_nil, List.cons_append, List.nil_append, List.all_cons, List.all_nil, Option.map_some, Option.map_none, Option.bind_some, Option.bind_none, if_true, if_false, ite_true, ite_false, List.length_cons, List.length_nil, ite_self, Nat.reduceAdd, Nat.reduceLeDiff, Nat.reduceLT, Nat.reduceMul, Int.reduceLT, Int.reduceLE, Int.reduceNeg, Int.reduceAdd, Int.reduceSub, Int.reduceMul, Int.reducePow, Int.reduceEq, c1, c2, leave_self hA]
        congr
        unfold fitB
        rw [decide_eq_true c1, decide_eq_false c2]
        rfl
    · simp only [BQ, q_ife, BZ, BO, BV, BL, tyN, mTy, List.replicate, List.getElem?_cons_zero, List.getElem?_cons_succ, List.set_cons_zero, List.set_cons_succ, List.map_cons, List.map_nil, List.cons_append, List.nil_append, List.all_cons, List.all_nil, Option.map_some, Option.map_none, Option.bind_some, Option.bind_none, if_true, if_false, ite_true, ite_false, List.length_cons, List.length_nil, ite_self, Nat.reduceAdd, Nat.reduceLeDiff, Nat.reduceLT, Nat.reduceMul, Int.reduceLT, Int.reduceLE, Int.reduceNeg, Int.reduceAdd, Int.reduceSub, Int.reduceMul, Int.reducePow, Int.reduceEq, c1, leave_self hA]
      congr
      unfold fitB
      rw [decide_eq_false c1]
      rfl
  · intro x hx Φ
    obtain ⟨t, r, e⟩ := (w2 x hx).2
    simp only [BQ, q_ife, BZ, BO, BV, BL, tyN, mTy, List.replicate, List.getElem?_cons_zero, List.getElem?_cons_succ, List.set_cons_zero, List.set_cons_succ, List.map_cons, List.map_nil, List.cons_append, List.nil_append, List.all_cons, List.all_nil, Option.map_some, Option.map_none, Option.bind_some, Option.bind_none, if_true, if_false, ite_true, ite_false, List.length_cons, List.length_nil, ite_self, Nat.reduceAdd, Nat.reduceLeDiff, Nat.reduceLT, Nat.reduceMul, Int.reduceLT, Int.reduceLE, Int.reduceNeg, Int.reduceAdd, Int.reduceSub, Int.reduceMul, Int.reducePow, Int.reduceEq, enc, e, at0, isFun_tup]
    by_cases z : t = ("fun" : Str) <;> simp [z]
theorem fit_leaf {d : Nat} {p : PyData} (h : HF d p) (hf : fitB (wl d p) = false) : ownP p ≠ [] := fun e => by
  cases h with
  | mk a b =>
    rename_i d
    have ew : wl (d + 1) p = [([], p)] := by rw [wl, e]; rfl
    rw [ew] at hf
    have : fitB [([], p)] = true := by
      unfold fitB mxW
      cases z : isFun p <;> simp [z, maxI]
    rw [this] at hf
    cases hf
end
end Kg
set_option Elab.async false
set_option linter.all false
set_option maxRecDepth 100000
set_option maxHeartbeats 1000000
/-! KgI: fields, kinds of any sort. -/
namespace Kg
open PySem L2 Mi TL
def Kd (d : Nat) (p : PyData) : Prop := HF d p ∧ smP 3 p = true
theorem Kd.mono {d e : Nat} {p : PyData} (h : Kd d p) (hd : d ≤ e) : Kd e p := ⟨h.1.mono hd, h.2⟩
theorem kd_leaf {p : PyData} (h1 : formB p = true) (h2 : ownP p = []) (h3 : smP 3 p = true) : Kd 1 p := ⟨.mk h1 fun q hq => (by rw [h2] at hq; cases hq), h3⟩
theorem sm_str {x : Str} (h : nmB x = true) : smP 3 (.str x) = true := by
  have := (nmB_iff.mp h).2.1
  rw [smP]
  exact decide_eq_true (by omega)
theorem sm_bnd {a : PyData} (h : bndB a = true) : smP 3 a = true := by
  cases a with
  | none => rfl
  | int i => rfl
  | _ => cases h
theorem form_eq {t : Str} {r : List PyData} : formB (.tuple (.str t :: r)) = (decide (((r.length + 1 : Nat) : Int) = lenOf t) && formR t r) := rfl
theorem kd_num {p : PyData} (h : IsNum p) : Kd 1 p := by
  obtain ⟨x, y, rfl, hx, hy, hl⟩ := h
  have b : ∀ {z}, IsB z → bndB z = true := fun {z} hz => by
    rcases hz with rfl | ⟨i, rfl, h1, h2⟩
    · rfl
    · simp only [bndB, Bool.and_eq_true, decide_eq_true_eq]
      exact ⟨h1, h2⟩
  have hn : numB x y = true := by
    unfold numB
    rw [b hx, b hy]
    cases x with
    | int i =>
      cases y with
      | int j => exact decide_eq_true (hl i j rfl rfl)
      | _ => rfl
    | _ => rfl
  refine kd_leaf (by rw [form_eq, show formR ("num" : Str) [x, y] = numB x y from rfl, hn]; rfl) rfl (smP_tup.mpr ⟨by simp, fun q hq => ?_⟩)
  simp only [List.mem_cons, List.not_mem_nil, or_false] at hq
  rcases hq with rfl | rfl | rfl
  · exact sm_str (by decide)
  · exact sm_bnd (b hx)
  · exact sm_bnd (b hy)
theorem kd_name {x : Str} (h : nmB x = true) : Kd 1 (.tuple [.str "name", .str x]) := by
  refine kd_leaf (by rw [form_eq, show formR ("name" : Str) [.str x] = nmB x from rfl, h]; rfl) rfl (smP_tup.mpr ⟨by simp, fun q hq => ?_⟩)
  simp only [List.mem_cons, List.not_mem_nil, or_false] at hq
  rcases hq with rfl | rfl
  · exact sm_str (by decide)
  · exact sm_str h
theorem kd_two {t : Str} {d : Nat} {a b : PyData} (ht : t = "fun" ∨ t = "and" ∨ t = "or") (ha : Kd d a) (hb : Kd d b) : Kd (d + 1) (.tuple [.str t, a, b]) := by
  have eo : ownP (.tuple [.str t, a, b]) = [a, b] := by rcases ht with rfl | rfl | rfl <;> rfl
  have ef : formB (.tuple [.str t, a, b]) = true := by rcases ht with rfl | rfl | rfl <;> rfl
  refine ⟨.mk ef fun q hq => ?_, smP_tup.mpr ⟨by simp, fun q hq => ?_⟩⟩
  · rw [eo] at hq
    simp only [List.mem_cons, List.not_mem_nil, or_false] at hq
    rcases hq with rfl | rfl
    · exact ha.1
    · exact hb.1
  · simp only [List.mem_cons, List.not_mem_nil, or_false] at hq
    rcases hq with rfl | rfl | rfl
    · exact sm_str (by rcases ht with rfl | rfl | rfl <;> decide)
    · exact ha.2
    · exact hb.2
theorem kd_not {d : Nat} {a : PyData} (ha : Kd d a) : Kd (d + 1) (.tuple [.str "not", a]) := by
  refine ⟨.mk rfl fun q hq => ?_, smP_tup.mpr ⟨by simp, fun q hq => ?_⟩⟩
  · have hq : q ∈ [a] := hq
    rw [List.mem_singleton.mp hq]
    exact ha.1
  · simp only [List.mem_cons, List.not_mem_nil, or_false] at hq
    rcases hq with rfl | rfl
    · exact sm_str (by decide)
    · exact ha.2
/-- fields of unlike labels, rising -/
def Fds (d m : Nat) (p : PyData) : Prop := ∃ fs zs, p = .tuple fs ∧ labs fs = some zs ∧ risB (Str.ofString "") zs = true ∧ fs.length ≤ m ∧ ∀ q ∈ fs.map snd2, Kd d q
theorem kd_rec {d : Nat} {p : PyData} (h : Fds d 3 p) : Kd (d + 1) (.tuple [.str "rec", p]) := by
  obtain ⟨fs, zs, rfl, h1, h2, h3, h4⟩ := h
  have ef : formB (.tuple [.str "rec", .tuple fs]) = true := by
    rw [form_eq, show formR ("rec" : Str) [.tuple fs] = fldsB (Str.ofString "") fs from rfl]
    unfold fldsB
    rw [h1]
    simp only [h2]
    rfl
  refine ⟨.mk ef fun q hq => (h4 q hq).1, smP_tup.mpr ⟨by simp, fun q hq => ?_⟩⟩
  simp only [List.mem_cons, List.not_mem_nil, or_false] at hq
  rcases hq with rfl | rfl
  · exact sm_str (by decide)
  · refine smP_tup.mpr ⟨h3, fun f hf => ?_⟩
    obtain ⟨l, v, rfl⟩ := labs_pairs h1 f hf
    have hn : nmB l = true := by
      clear ef h2 h3 h4
      induction fs generalizing zs with
      | nil => cases hf
      | cons x fs ih =>
        obtain ⟨l', v', ys, rfl, hl, e, _⟩ := labs_cons h1
        rcases List.mem_cons.mp hf with z | z
        · cases z; exact hl
        · exact ih ys e z
    refine smP_tup.mpr ⟨by simp, fun q hq => ?_⟩
    simp only [List.mem_cons, List.not_mem_nil, or_false] at hq
    rcases hq with rfl | rfl
    · exact sm_str hn
    · exact (h4 q (List.mem_map.mpr ⟨_, hf, rfl⟩)).2
/-! ### a dict of labels -/
def FdOk (d : Nat) (kvs : List (Key × U)) : Prop := ∃ ls : List Str, kvs.map (·.1) = ls.map .inr ∧ ls.Nodup ∧ (∀ l ∈ ls, nmB l = true) ∧ ∀ l ∈ ls, ∃ p, valK kvs (.inr l) = some (.d p) ∧ Kd d p
theorem valK_put {kvs : List (Key × U)} {k k' : Key} {v : U} : valK (putU kvs k v) k' = if k = k' then some v else valK kvs k' := by
  unfold putU valK
  split
  · rename_i h
    induction kvs with
    | nil => simp at h
    | cons kv kvs ih =>
      obtain ⟨a, u⟩ := kv
      rw [List.map_cons, List.find?_cons, List.find?_cons]
      by_cases h1 : a = k
      · subst h1
        by_cases h2 : a = k'
        · subst h2; simp
        · simp only [if_true, h2, decide_false, if_false]
          by_cases h3 : (kvs.any fun kv => decide (kv.1 = a)) = true
          · rw [ih h3, if_neg h2]
          · have e : kvs.map (fun kv => if kv.1 = a then (kv.1, v) else kv) = kvs := by
              refine Eq.trans (List.map_congr_left fun x hx => ?_) (List.map_id' kvs)
              rw [if_neg]
              intro z
              exact h3 (List.any_eq_true.mpr ⟨x, hx, decide_eq_true z⟩)
            rw [e]
      · have h3 : (kvs.any fun kv => decide (kv.1 = k)) = true := by
          rw [List.any_cons] at h
          simpa [h1] using h
        simp only [if_neg h1]
        by_cases h2 : a = k'
        · have : ¬ k = k' := fun z => h1 (h2.trans z.symm)
          simp [h2, this]
        · simp only [h2, decide_false]
          exact ih h3
  · rename_i h
    rw [List.find?_append]
    by_cases h2 : k = k'
    · subst h2
      have : kvs.find? (fun kv => decide (kv.1 = k)) = none := by
        rw [List.find?_eq_none]
        intro x hx z
        exact h (List.any_eq_true.mpr ⟨x, hx, z⟩)
      rw [this]
      simp
    · rw [if_neg h2]
      cases kvs.find? (fun kv => decide (kv.1 = k')) with
      | none => simp [h2]
      | some z => rfl
theorem any_key {kvs : List (Key × U)} {k : Key} : ((kvs.any fun kv => decide (kv.1 = k)) = true) ↔ k ∈ kvs.map (·.1) := by
  rw [List.any_eq_true, List.mem_map]
  constructor
  · rintro ⟨x, hx, h⟩
    exact ⟨x, hx, of_decide_eq_true h⟩
  · rintro ⟨x, hx, h⟩
    exact ⟨x, hx, decide_eq_true h⟩
theorem keys_put1 {kvs : List (Key × U)} {k : Key} {v : U} (h : k ∈ kvs.map (·.1)) : (putU kvs k v).map (·.1) = kvs.map (·.1) := by
  unfold putU
  rw [if_pos (any_key.mpr h), List.map_map]
  refine List.map_congr_left fun x hx => ?_
  simp only [Function.comp]
  split <;> rfl
theorem keys_put0 {kvs : List (Key × U)} {k : Key} {v : U} (h : k ∉ kvs.map (·.1)) : (putU kvs k v).map (·.1) = kvs.map (·.1) ++ [k] := by
  unfold putU
  rw [if_neg (fun z => h (any_key.mp z)), List.map_append]
  rfl
theorem FdOk.put {d : Nat} {kvs : List (Key × U)} {l : Str} {p : PyData} (h : FdOk d kvs) (hl : nmB l = true) (hp : Kd d p) : FdOk d (putU kvs (.inr l) (.d p)) ∧ (putU kvs (.inr l) (.d p)).length ≤ kvs.length + 1 := by
  obtain ⟨ls, h1, h2, h3, h4⟩ := h
  have hm : (Sum.inr l : Key) ∈ kvs.map (·.1) ↔ l ∈ ls := by rw [h1]; simp
  have hlen : (putU kvs (.inr l) (.d p)).length = ((putU kvs (.inr l) (.d p)).map (·.1)).length := by simp
  have vals : ∀ x, (x = l ∨ x ∈ ls) → ∃ q, valK (putU kvs (.inr l) (.d p)) (.inr x) = some (.d q) ∧ Kd d q := fun x hx => by
    rw [valK_put]
    by_cases z : (Sum.inr l : Key) = .inr x
    · rw [if_pos z]
      exact ⟨p, rfl, hp⟩
    · rw [if_neg z]
      rcases hx with hx | hx
      · exact (z (by rw [hx])).elim
      · exact h4 x hx
  by_cases hk : l ∈ ls
  · have ek : (putU kvs (.inr l) (.d p)).map (·.1) = ls.map .inr := by rw [keys_put1 (hm.mpr hk), h1]
    refine ⟨⟨ls, ek, h2, h3, fun x hx => vals x (.inr hx)⟩, ?_⟩
    rw [hlen, keys_put1 (hm.mpr hk), List.length_map]
    omega
  · have ek : (putU kvs (.inr l) (.d p)).map (·.1) = (ls ++ [l]).map .inr := by rw [keys_put0 (fun z => hk (hm.mp z)), h1, List.map_append]; rfl
    refine ⟨⟨ls ++ [l], ek, ?_, fun x hx => ?_, fun x hx => ?_⟩, ?_⟩
    · rw [List.nodup_append]
      refine ⟨h2, by simp, fun a ha b hb z => ?_⟩
      rw [List.mem_singleton.mp hb] at z
      rw [z] at ha
      exact hk ha
    · rcases List.mem_append.mp hx with z | z
      · exact h3 x z
      · rw [List.mem_singleton.mp z]; exact hl
    · rcases List.mem_append.mp hx with z | z
      · exact vals x (.inr z)
      · exact vals x (.inl (List.mem_singleton.mp z))
    · rw [hlen, keys_put0 (fun z => hk (hm.mp z)), List.length_append, List.length_map]
      simp
theorem labs_of : ∀ {zs : List Str} {f : Str → PyData}, (∀ l ∈ zs, nmB l = true) → labs (zs.map fun l => .tuple [.str l, f l]) = some zs
  | [], _, _ => rfl
  | l :: zs, f, h => by
    rw [List.map_cons, labs, if_pos (h l (by simp)), labs_of fun x hx => h x (by simp [hx])]
    rfl
theorem ris_of {ls : List Str} (h : ls.Nodup) (hn : ∀ l ∈ ls, nmB l = true) : risB (Str.ofString "") (sortT ls) = true := by
  have hp := List.mergeSort_perm ls leT
  have nd : (sortT ls).Nodup := hp.nodup_iff.mpr h
  have mem : ∀ l ∈ sortT ls, nmB l = true := fun l hl => hn l (hp.mem_iff.mp hl)
  rw [← ris_sort fun l hl => (nmB_iff.mp (mem l hl)).1, decide_eq_true_eq, ddp_self (by simpa using nd), List.nil_append]
  unfold sortT
  rw [List.mergeSort_of_pairwise (List.pairwise_mergeSort leT_trans leT_total ls)]
end Kg
set_option Elab.async false
set_option linter.all false
set_option maxRecDepth 100000
set_option maxHeartbeats 1000000
/-! KgJ: fields and kinds are drawn. -/
namespace Kg
open PySem L2 Mi TL
section
variable {P : Pr} {n N : Nat} {C : List Int} {b : Int} {rest A : Hs} {Φ : R → Hs → Prop} {E : Str → List (Str × PyData) → Hs → Prop}
theorem draw_N (g : GenA P) (hN : 2 ≤ N) (hA : Dr C b rest A) (hc : Clr rest) {m : Int} (hm : 0 < m ∧ m < 10000000000) (hb : b < BIG) : Ret (callN P N "_law_draw" [.obj 1, .d (.int m)]) A (DrR C (b + 1) rest fun p => ∃ i : Int, p = .int i ∧ 0 ≤ i ∧ i < m) := by
  obtain ⟨n, rfl⟩ : ∃ m, N = m + 2 := ⟨N - 2, by omega⟩
  exact draw_ok g hA hc hm hb
theorem one_N (g : GenA P) (hN : 3 ≤ N) (hA : Dr C b rest A) (hc : Clr rest) {ps : List PyData} (hl : 0 < ps.length ∧ ps.length < 1000) (hb : b < BIG) : Ret (callN P N "_law_one" [.obj 1, .d (.list ps)]) A (DrR C (b + 1) rest fun p => p ∈ ps) := by
  obtain ⟨n, rfl⟩ : ∃ m, N = m + 3 := ⟨N - 3, by omega⟩
  exact one_ok g hA hc hl hb
theorem word_N (g : GenA P) (hN : 4 ≤ N) (hA : Dr C b rest A) (hc : Clr rest) (hb : b + 12 < BIG) : Ret (callN P N "_law_word" [.obj 1]) A (DrR C (b + 10) rest fun p => ∃ x, p = .str x ∧ IsNm x) := by
  obtain ⟨n, rfl⟩ : ∃ m, N = m + 4 := ⟨N - 4, by omega⟩
  exact word_ok g hA hc hb
theorem stretch_N (g : GenA P) (hN : 5 ≤ N) (hA : Dr C b rest A) (hc : Clr rest) (hb : b + 30 < BIG) : Ret (callN P N "_law_stretch" [.obj 1]) A (DrR C (b + 18) rest IsNum) := by
  obtain ⟨n, rfl⟩ : ∃ m, N = m + 5 := ⟨N - 5, by omega⟩
  exact stretch_ok g hA hc hb
theorem Dr.len {A : Hs} (h : Dr C b rest A) : A.length = rest.length + 2 := by
  obtain ⟨L, k, rfl, _⟩ := h
  rfl
theorem Dr.push {A : Hs} {o : Ob} (h : Dr C b rest A) : Dr C b (rest ++ [o]) (A ++ [o]) := by
  obtain ⟨L, k, rfl, h⟩ := h
  exact ⟨L, k, rfl, h⟩
theorem Dr.get {A : Hs} {o : Ob} (h : Dr C b (rest ++ [o]) A) : A[rest.length + 2]? = some o := by
  obtain ⟨L, k, rfl, _⟩ := h
  show (rest ++ [o])[rest.length]? = some o
  simp
theorem Dr.set {A : Hs} {o o' : Ob} (h : Dr C b (rest ++ [o]) A) : Dr C b (rest ++ [o']) (A.set (rest.length + 2) o') := by
  obtain ⟨L, k, rfl, h⟩ := h
  refine ⟨L, k, ?_, h⟩
  show .lst _ :: .dK _ :: (rest ++ [o]).set rest.length o' = _
  have : (rest ++ [o]).set rest.length o' = rest ++ [o'] := set_app
  rw [this]
theorem clean_mono {k : Nat} {o : Ob} (h : clean k o = true) : clean (k + 1) o = true := by
  have mono : ∀ {κ : Type} (kvs : List (κ × U)), (kvs.all fun p => (match p.2 with | .obj n => decide (n < k) | _ => true)) = true → (kvs.all fun p => (match p.2 with | .obj n => decide (n < k + 1) | _ => true)) = true := fun kvs hk => by
    rw [List.all_eq_true] at hk ⊢
    intro q hq
    have hq2 := hk q hq
    obtain ⟨z, u⟩ := q
    cases u with
    | obj n =>
      have hq3 : n < k := of_decide_eq_true hq2
      exact decide_eq_true (by omega)
    | _ => rfl
  cases o with
  | lst _ => rfl
  | dK kvs => exact mono kvs h
  | dT kvs => exact mono kvs h
theorem Clr.push {o : Ob} (h : Clr rest) (ho : ∀ k, clean k o = true) : Clr (rest ++ [o]) := by
  unfold Clr at h ⊢
  rw [List.all_append, Bool.and_eq_true]
  refine ⟨?_, by simp [ho]⟩
  rw [List.all_eq_true] at h ⊢
  intro x hx
  have := clean_mono (h x hx)
  have e : (rest ++ [o]).length + 2 = rest.length + 2 + 1 := by simp only [List.length_append, List.length_cons, List.length_nil]
  rw [e]
  exact this
theorem FdOk.clean {d : Nat} {kvs : List (Key × U)} (h : FdOk d kvs) (k : Nat) : Mi.clean k (.dK kvs) = true := by
  obtain ⟨ls, h1, h2, h3, h4⟩ := h
  show (kvs.all fun p => _) = true
  rw [List.all_eq_true]
  intro kv hkv
  obtain ⟨a, u⟩ := kv
  have ha : a ∈ ls.map Sum.inr := by rw [← h1]; exact List.mem_map.mpr ⟨_, hkv, rfl⟩
  obtain ⟨l, hl, rfl⟩ := List.mem_map.mp ha
  obtain ⟨p, hp, _⟩ := h4 l hl
  have nd : (kvs.map (·.1)).Nodup := by
    rw [h1]
    exact List.pairwise_map.mpr (h2.imp fun hab e => hab (by cases e; rfl))
  have eu : valK kvs (.inr l) = some u := by
    clear hp h4 h1
    induction kvs with
    | nil => cases hkv
    | cons kv kvs ih =>
      obtain ⟨a', u'⟩ := kv
      unfold valK
      rw [List.find?_cons]
      rw [List.map_cons, List.nodup_cons] at nd
      rcases List.mem_cons.mp hkv with z | z
      · cases z
        simp
      · by_cases e : a' = .inr l
        · exfalso
          apply nd.1
          rw [e]
          exact List.mem_map.mpr ⟨_, z, rfl⟩
        · simp only [e, decide_false]
          exact ih z nd.2
  rw [hp] at eu
  cases eu
  rfl
theorem leave_dr1 {C : List Int} {b b' : Int} {rest A A' : Hs} {o : Ob} {p : PyData} (hA : Dr C b rest A) (hA' : Dr C b' (rest ++ [o]) A') (hc : Clr rest) : ∃ A'', leave false A.length (.val (.d p)) A' = some (.val (.d p), A'') ∧ Dr C b' rest A'' := by
  obtain ⟨L, k, rfl, _⟩ := hA
  obtain ⟨L', k', rfl, h⟩ := hA'
  refine ⟨stA C L' k' rest, ?_, L', k', rfl, h⟩
  have e : stA C L' k' (rest ++ [o]) = stA C L' k' rest ++ [o] := rfl
  have e2 : (stA C L k rest).length = (stA C L' k' rest).length := rfl
  rw [e, e2]
  exact leave_app hc.cl
def cst : Nat → Int
  | 0 => 40
  | d + 1 => 3 * cst d + 40
theorem cst_le : ∀ {d : Nat}, d ≤ 6 → 40 ≤ cst d ∧ cst d ≤ 100000 := by decide
/-- what is drawn of such a depth -/
def BuiltAt (P : Pr) (C : List Int) (d M : Nat) : Prop := ∀ (N : Nat) (b : Int) (rest A : Hs), M ≤ N → Dr C b rest A → Clr rest → b + 10 * cst d + 1000 < BIG → Ret (callN P N "_law_built" [.obj 1, .d (.int d)]) A (DrR C (b + cst d) rest (Kd (d + 1)))
theorem fields_ok (g : GenK P) {d M : Nat} (hd : d ≤ 6) (hB : BuiltAt P C d M) (hN : M + 1 ≤ N) (hN2 : 6 ≤ N) (hA : Dr C b rest A) (hc : Clr rest) (hb : b + 13 * cst d + 1500 < BIG) {m : Nat} (hm : m ≤ 3) : Ret (callN P N "_law_fields" [.obj 1, .d (.int d), .d (.int m)]) A (DrR C (b + m * (cst d + 10)) rest (Fds (d + 1) m)) := by
  obtain ⟨N, rfl⟩ : ∃ m, N = m + 1 := ⟨N - 1, by omega⟩
  obtain ⟨c1, c2⟩ := cst_le hd
  have hAl := hA.len
  apply wq.ret
  rw [wq_call g.fields rfl]
  simp only [fFields, b__law_fields]
  rw [z_cons]
  simp only [BQ, q_ife, BZ, BO, BV, BL, tyN, mTy, List.replicate, List.getElem?_cons_zero, List.getElem?_cons_succ, List.set_cons_zero, List.set_cons_succ, List.map_cons, List.map_nil, List.cons_append, List.nil_append, List.all_cons, List.all_nil, Option.map_some, Option.map_none, Option.bind_some, Option.bind_none, if_true, if_false, ite_true, ite_false, List.length_cons, List.length_nil, ite_self, Nat.reduceAdd, Nat.reduceLeDiff, Nat.reduceLT, Nat.reduceMul, Int.reduceLT, Int.reduceLE, Int.reduceNeg, Int.reduceAdd, Int.reduceSub, Int.reduceMul, Int.reducePow, Int.reduceEq]
  rw [z_cons]
  simp only [BQ, q_ife, BZ, BO, BV, BL, tyN, mTy, List.replicate, List.getElem?_cons_zero, List.getElem?_cons_succ, List.set_cons_zero, List.set_cons_succ, List.map_cons, List.map_nil, List.cons_append, List.nil_append, List.all_cons, List.all_nil, Option.map_some, Option.map_none, Option.bind_some, Option.bind_none, if_true, if_false, ite_true, ite_false, List.length_cons, List.length_nil, ite_self, Nat.reduceAdd, Nat.reduceLeDiff, Nat.reduceLT, Nat.reduceMul, Int.reduceLT, Int.reduceLE, Int.reduceNeg, Int.reduceAdd, Int.reduceSub, Int.reduceMul, Int.reducePow, Int.reduceEq]
  refine ⟨by omega, ?_⟩
  have hmn : ((m : Int)).toNat = m := by omega
  rw [hmn]
  refine fr_inv (I := fun j δ A' => ∃ kvs x, FdOk (d + 1) kvs ∧ kvs.length ≤ j ∧ Dr C (b + j * (cst d + 10)) (rest ++ [.dK kvs]) A' ∧ δ = [some (.obj 1), some (.d (.int d)), some (.d (.int m)), some (.obj (rest.length + 2)), x, none]) (i := 0) ?_ (fun _ _ _ _ => rfl) ?_ ?_
  · refine ⟨[], none, ⟨[], rfl, List.nodup_nil, fun l hl => (by cases hl), fun l hl => (by cases hl)⟩, by simp, ?_, by rw [hAl]⟩
    have e : b + ((0 : Nat) : Int) * (cst d + 10) = b := by omega
    rw [e]
    exact hA.push
  · intro j p δ A' hj hI
    obtain ⟨kvs, x, hk, hl, hA', rfl⟩ := hI
    have hj3 : j < m := by
      have := (List.getElem?_eq_some_iff.mp hj).1
      simpa [rangeP] using this
    have hjj : (((0 + j : Nat) : Int)) * (cst d + 10) ≤ 2 * (cst d + 10) := Int.mul_le_mul_of_nonneg_right (by omega) (by omega)
    have hc' : Clr (rest ++ [.dK kvs]) := hc.push hk.clean
    simp only [BQ, q_ife, BZ, BO, BV, BL, tyN, mTy, List.replicate, List.getElem?_cons_zero, List.getElem?_cons_succ, List.set_cons_zero, List.set_cons_succ, List.map_cons, List.map_nil, List.cons_append, List.nil_append, List.all_cons, List.all_nil, Option.map_some, Option.map_none, Option.bind_some, Option.bind_none, if_true, if_false, ite_true, ite_false, List.length_cons, List.length_nil, ite_self, Nat.reduceAdd, Nat.reduceLeDiff, Nat.reduceLT, Nat.reduceMul, Int.reduceLT, Int.reduceLE, Int.reduceNeg, Int.reduceAdd, Int.reduceSub, Int.reduceMul, Int.reducePow, Int.reduceEq]
    rw [z_cons]
    simp only [BQ, q_ife, BZ, BO, BV, BL, tyN, mTy, List.replicate, List.getElem?_cons_zero, List.getElem?_cons_succ, List.set_cons_zero, List.set_cons_succ, List.map_cons, List.map_nil, List.cons_append, List.nil_append, List.all_cons, List.all_nil, Option.map_some, Option.map_none, Option.bind_some, Option.bind_none, if_true, if_false, ite_true, ite_false, List.length_cons, List.length_nil, ite_self, Nat.reduceAdd, Nat.reduceLeDiff, Nat.reduceLT, Nat.reduceMul, Int.reduceLT, Int.reduceLE, Int.reduceNeg, Int.reduceAdd, Int.reduceSub, Int.reduceMul, Int.reducePow, Int.reduceEq]
    refine (hB N _ _ A' (by omega) hA' hc' (by omega)).wq ?_
    rintro _ A1 ⟨hA1, p1, rfl, hp1⟩
    simp only [BQ, q_ife, BZ, BO, BV, BL, tyN, mTy, List.replicate, List.getElem?_cons_zero, List.getElem?_cons_succ, List.set_cons_zero, List.set_cons_succ, List.map_cons, List.map_nil, List.cons_append, List.nil_append, List.all_cons, List.all_nil, Option.map_some, Option.map_none, Option.bind_some, Option.bind_none, if_true, if_false, ite_true, ite_false, List.length_cons, List.length_nil, ite_self, Nat.reduceAdd, Nat.reduceLeDiff, Nat.reduceLT, Nat.reduceMul, Int.reduceLT, Int.reduceLE, Int.reduceNeg, Int.reduceAdd, Int.reduceSub, Int.reduceMul, Int.reducePow, Int.reduceEq]
    refine (word_N g.toGenA (by omega) hA1 hc' (by omega)).wq ?_
    rintro _ A2 ⟨hA2, _, rfl, y, rfl, hy⟩
    simp only [BQ, q_ife, BZ, BO, BV, BL, tyN, mTy, List.replicate, List.getElem?_cons_zero, List.getElem?_cons_succ, List.set_cons_zero, List.set_cons_succ, List.map_cons, List.map_nil, List.cons_append, List.nil_append, List.all_cons, List.all_nil, Option.map_some, Option.map_none, Option.bind_some, Option.bind_none, if_true, if_false, ite_true, ite_false, List.length_cons, List.length_nil, ite_self, Nat.reduceAdd, Nat.reduceLeDiff, Nat.reduceLT, Nat.reduceMul, Int.reduceLT, Int.reduceLE, Int.reduceNeg, Int.reduceAdd, Int.reduceSub, Int.reduceMul, Int.reducePow, Int.reduceEq]
    have hset : setIx A2 (.obj (rest.length + 2)) (.d (.str y)) (.d p1) = some (A2.set (rest.length + 2) (.dK (putU kvs (.inr y) (.d p1)))) := by
      unfold setIx
      simp only [hA2.get, asKey, Option.bind_some, szl, nl, and_true]
      rw [if_pos (by omega)]
    rw [hset]
    simp only [BQ, q_ife, BZ, BO, BV, BL, tyN, mTy, List.replicate, List.getElem?_cons_zero, List.getElem?_cons_succ, List.set_cons_zero, List.set_cons_succ, List.map_cons, List.map_nil, List.cons_append, List.nil_append, List.all_cons, List.all_nil, Option.map_some, Option.map_none, Option.bind_some, Option.bind_none, if_true, if_false, ite_true, ite_false, List.length_cons, List.length_nil, ite_self, Nat.reduceAdd, Nat.reduceLeDiff, Nat.reduceLT, Nat.reduceMul, Int.reduceLT, Int.reduceLE, Int.reduceNeg, Int.reduceAdd, Int.reduceSub, Int.reduceMul, Int.reducePow, Int.reduceEq]
    obtain ⟨q1, q2⟩ := hk.put (nmB_iff.mpr hy) hp1
    refine ⟨putU kvs (.inr y) (.d p1), _, q1, by omega, ?_, rfl⟩
    refine (Dr.set hA2).mono ?_
    have t1 : ((j + 1 : Nat) : Int) * (cst d + 10) = ((0 + j : Nat) : Int) * (cst d + 10) + (cst d + 10) := by
      rw [show ((j + 1 : Nat) : Int) = ((0 + j : Nat) : Int) + 1 by omega, Int.add_mul, Int.one_mul]
    omega
  · intro δ A' hI
    obtain ⟨kvs, x, hk, hl, hA', rfl⟩ := hI
    have hlr : (rangeP 0 m).length = m := by simp [rangeP]
    rw [hlr] at hl hA'
    have hk' := hk
    obtain ⟨ls, h1, h2, h3, h4⟩ := hk
    have hls : ls.length = kvs.length := by
      have := congrArg List.length h1
      simpa using this.symm
    simp only [BQ, q_ife, BZ, BO, BV, BL, tyN, mTy, List.replicate, List.getElem?_cons_zero, List.getElem?_cons_succ, List.set_cons_zero, List.set_cons_succ, List.map_cons, List.map_nil, List.cons_append, List.nil_append, List.all_cons, List.all_nil, Option.map_some, Option.map_none, Option.bind_some, Option.bind_none, if_true, if_false, ite_true, ite_false, List.length_cons, List.length_nil, ite_self, Nat.reduceAdd, Nat.reduceLeDiff, Nat.reduceLT, Nat.reduceMul, Int.reduceLT, Int.reduceLE, Int.reduceNeg, Int.reduceAdd, Int.reduceSub, Int.reduceMul, Int.reducePow, Int.reduceEq]
    rw [z_cons]
    have hsort : biSorted A' [.obj (rest.length + 2)] = some (.new (.lst ((sortT ls).map .str))) := by
      have e : keysOf A' (.obj (rest.length + 2)) = some (ls.map .inr) := by
        unfold keysOf
        simp only [hA'.get, h1]
      have t : textsP ((ls.map (Sum.inr : Str → Key)).map keyP) = some ls := by
        rw [List.map_map]
        exact texts_mk
      unfold biSorted
      simp only [e, t, Option.bind_some]
      rw [if_pos (by omega)]
    have hp := List.mergeSort_perm ls leT
    have mem : ∀ l ∈ sortT ls, l ∈ ls := fun l hl => hp.mem_iff.mp hl
    have hsl : (sortT ls).length = ls.length := hp.length_eq
    simp only [BQ, q_ife, BZ, BO, BV, BL, tyN, mTy, List.replicate, List.getElem?_cons_zero, List.getElem?_cons_succ, List.set_cons_zero, List.set_cons_succ, List.map_cons, List.map_nil, List.cons_append, List.nil_append, List.all_cons, List.all_nil, Option.map_some, Option.map_none, Option.bind_some, Option.bind_none, if_true, if_false, ite_true, ite_false, List.length_cons, List.length_nil, ite_self, Nat.reduceAdd, Nat.reduceLeDiff, Nat.reduceLT, Nat.reduceMul, Int.reduceLT, Int.reduceLE, Int.reduceNeg, Int.reduceAdd, Int.reduceSub, Int.reduceMul, Int.reducePow, Int.reduceEq, hsort]
    rw [lc_mapS (h := PyData.str) (g := fun l => .tuple [.str l, match valK kvs (.inr l) with | some (.d q) => q | _ => .none]) rfl]
    · obtain ⟨A'', e1, e2⟩ := leave_dr1 (p := .tuple ((sortT ls).map fun l => .tuple [.str l, match valK kvs (.inr l) with | some (.d q) => q | _ => .none])) hA hA' hc
      simp only [BQ, q_ife, BZ, BO, BV, BL, tyN, mTy, List.replicate, List.getElem?_cons_zero, List.getElem?_cons_succ, List.set_cons_zero, List.set_cons_succ, List.map_cons, List.map_nil, List.cons_append, List.nil_append, List.all_cons, List.all_nil, Option.map_some, Option.map_none, Option.bind_some, Option.bind_none, if_true, if_false, ite_true, ite_false, List.length_cons, List.length_nil, ite_self, Nat.reduceAdd, Nat.reduceLeDiff, Nat.reduceLT, Nat.reduceMul, Int.reduceLT, Int.reduceLE, Int.reduceNeg, Int.reduceAdd, Int.reduceSub, Int.reduceMul, Int.reducePow, Int.reduceEq, List.length_map]
      refine ⟨by omega, ?_⟩
      rw [e1]
      refine ⟨e2.mono (by rw [Nat.zero_add]; omega), _, rfl, _, sortT ls, rfl, labs_of fun l hl => h3 l (mem l hl), ris_of h2 h3, by rw [List.length_map]; omega, fun q hq => ?_⟩
      rw [List.map_map] at hq
      obtain ⟨l, hl, rfl⟩ := List.mem_map.mp hq
      obtain ⟨p, hp1, hp2⟩ := h4 l (mem l hl)
      simp only [Function.comp, hp1, snd2]
      exact hp2
    · intro l hl Φ
      obtain ⟨p, hp1, hp2⟩ := h4 l (mem l hl)
      simp only [BQ, q_ife, BZ, BO, BV, BL, tyN, mTy, List.replicate, List.getElem?_cons_zero, List.getElem?_cons_succ, List.set_cons_zero, List.set_cons_succ, List.map_cons, List.map_nil, List.cons_append, List.nil_append, List.all_cons, List.all_nil, Option.map_some, Option.map_none, Option.bind_some, Option.bind_none, if_true, if_false, ite_true, ite_false, List.length_cons, List.length_nil, ite_self, Nat.reduceAdd, Nat.reduceLeDiff, Nat.reduceLT, Nat.reduceMul, Int.reduceLT, Int.reduceLE, Int.reduceNeg, Int.reduceAdd, Int.reduceSub, Int.reduceMul, Int.reducePow, Int.reduceEq, o_ixD hA'.get k_str, hp1]
theorem atL {ps : List PyData} {i : Int} (h1 : 0 ≤ i) (h2 : i < ps.length) : ∃ p ∈ ps, atI ps i = some p := atI_of h1 h2
abbrev leafB : List S := [.asg 3 (.lst [(.call "_law_stretch" [(.v 0)]), (.tup [(.k (.str "name")), (.call "_law_word" [(.v 0)])]), (.tup [(.k (.str "any"))]), (.tup [(.k (.str "none"))]), (.tup [(.k (.str "names"))]), (.tup [(.k (.str "num")), (.k .none), (.k .none)])]) false, .ret (some (.ix (.v 3) (.bin .FloorDiv (.call "_law_draw" [(.v 0), (.k (.int 12))]) (.k (.int 2)))))]
theorem kd_any : Kd 1 (.tuple [.str "any"]) := kd_leaf rfl rfl (by decide)
theorem kd_none : Kd 1 (.tuple [.str "none"]) := kd_leaf rfl rfl (by decide)
theorem kd_names : Kd 1 (.tuple [.str "names"]) := kd_leaf rfl rfl (by decide)
theorem built_leaf (g : GenK P) {A A1 : Hs} {b B : Int} {N e : Nat} {ss : List S} {x y z w : Option U} (hN : 6 ≤ N) (hA : Dr C b rest A) (hA1 : Dr C (b + 1) rest A1) (hc : Clr rest) (hb : b + 1000 < BIG) (hB : b + 40 ≤ B) (he : 1 ≤ e) : wS (exs (geN P N bad) leafB [some (.obj 1), x, y, z, w] A1) (sqK (geN P N bad) ss (pst false A.length (DrR C B rest (Kd e)) NoE)) := by
  rw [leafB, z_cons]
  simp only [BQ, q_ife, BZ, BO, BV, BL, tyN, mTy, List.replicate, List.getElem?_cons_zero, List.getElem?_cons_succ, List.set_cons_zero, List.set_cons_succ, List.map_cons, List.map_nil, List.cons_append, List.nil_append, List.all_cons, List.all_nil, Option.map_some, Option.map_none, Option.bind_some, Option.bind_none, if_true, if_false, ite_true, ite_false, List.length_cons, List.length_nil, ite_self, Nat.reduceAdd, Nat.reduceLeDiff, Nat.reduceLT, Nat.reduceMul, Int.reduceLT, Int.reduceLE, Int.reduceNeg, Int.reduceAdd, Int.reduceSub, Int.reduceMul, Int.reducePow, Int.reduceEq]
  refine (stretch_N g.toGenA (by omega) hA1 hc (by omega)).wq ?_
  rintro _ A2 ⟨hA2, p2, rfl, hp2⟩
  simp only [BQ, q_ife, BZ, BO, BV, BL, tyN, mTy, List.replicate, List.getElem?_cons_zero, List.getElem?_cons_succ, List.set_cons_zero, List.set_cons_succ, List.map_cons, List.map_nil, List.cons_append, List.nil_append, List.all_cons, List.all_nil, Option.map_some, Option.map_none, Option.bind_some, Option.bind_none, if_true, if_false, ite_true, ite_false, List.length_cons, List.length_nil, ite_self, Nat.reduceAdd, Nat.reduceLeDiff, Nat.reduceLT, Nat.reduceMul, Int.reduceLT, Int.reduceLE, Int.reduceNeg, Int.reduceAdd, Int.reduceSub, Int.reduceMul, Int.reducePow, Int.reduceEq]
  refine (word_N g.toGenA (by omega) hA2 hc (by omega)).wq ?_
  rintro _ A3 ⟨hA3, _, rfl, y, rfl, hy⟩
  simp only [BQ, q_ife, BZ, BO, BV, BL, tyN, mTy, List.replicate, List.getElem?_cons_zero, List.getElem?_cons_succ, List.set_cons_zero, List.set_cons_succ, List.map_cons, List.map_nil, List.cons_append, List.nil_append, List.all_cons, List.all_nil, Option.map_some, Option.map_none, Option.bind_some, Option.bind_none, if_true, if_false, ite_true, ite_false, List.length_cons, List.length_nil, ite_self, Nat.reduceAdd, Nat.reduceLeDiff, Nat.reduceLT, Nat.reduceMul, Int.reduceLT, Int.reduceLE, Int.reduceNeg, Int.reduceAdd, Int.reduceSub, Int.reduceMul, Int.reducePow, Int.reduceEq]
  rw [z_cons]
  simp only [BQ, q_ife, BZ, BO, BV, BL, tyN, mTy, List.replicate, List.getElem?_cons_zero, List.getElem?_cons_succ, List.set_cons_zero, List.set_cons_succ, List.map_cons, List.map_nil, List.cons_append, List.nil_append, List.all_cons, List.all_nil, Option.map_some, Option.map_none, Option.bind_some, Option.bind_none, if_true, if_false, ite_true, ite_false, List.length_cons, List.length_nil, ite_self, Nat.reduceAdd, Nat.reduceLeDiff, Nat.reduceLT, Nat.reduceMul, Int.reduceLT, Int.reduceLE, Int.reduceNeg, Int.reduceAdd, Int.reduceSub, Int.reduceMul, Int.reducePow, Int.reduceEq]
  refine (draw_N g.toGenA (by omega) hA3 hc (by decide) (by omega)).wq ?_
  rintro _ A4 ⟨hA4, _, rfl, i4, rfl, j4, k4⟩
  simp only [BQ, q_ife, BZ, BO, BV, BL, tyN, mTy, List.replicate, List.getElem?_cons_zero, List.getElem?_cons_succ, List.set_cons_zero, List.set_cons_succ, List.map_cons, List.map_nil, List.cons_append, List.nil_append, List.all_cons, List.all_nil, Option.map_some, Option.map_none, Option.bind_some, Option.bind_none, if_true, if_false, ite_true, ite_false, List.length_cons, List.length_nil, ite_self, Nat.reduceAdd, Nat.reduceLeDiff, Nat.reduceLT, Nat.reduceMul, Int.reduceLT, Int.reduceLE, Int.reduceNeg, Int.reduceAdd, Int.reduceSub, Int.reduceMul, Int.reducePow, Int.reduceEq]
  refine ⟨by decide, ?_⟩
  obtain ⟨p, hp, ep⟩ := atI_of (xs := [p2, PyData.tuple [.str "name", .str y], .tuple [.str "any"], .tuple [.str "none"], .tuple [.str "names"], .tuple [.str "num", .none, .none]]) (i := i4 / 2) (by omega) (by simp only [List.length_cons, List.length_nil]; omega)
  rw [ep]
  simp only [BQ, q_ife, BZ, BO, BV, BL, tyN, mTy, List.replicate, List.getElem?_cons_zero, List.getElem?_cons_succ, List.set_cons_zero, List.set_cons_succ, List.map_cons, List.map_nil, List.cons_append, List.nil_append, List.all_cons, List.all_nil, Option.map_some, Option.map_none, Option.bind_some, Option.bind_none, if_true, if_false, ite_true, ite_false, List.length_cons, List.length_nil, ite_self, Nat.reduceAdd, Nat.reduceLeDiff, Nat.reduceLT, Nat.reduceMul, Int.reduceLT, Int.reduceLE, Int.reduceNeg, Int.reduceAdd, Int.reduceSub, Int.reduceMul, Int.reducePow, Int.reduceEq, leave_dr hA hA4 hc]
  refine ⟨hA4.mono (by omega), p, rfl, Kd.mono ?_ he⟩
  simp only [List.mem_cons, List.not_mem_nil, or_false] at hp
  rcases hp with rfl | rfl | rfl | rfl | rfl | rfl
  · exact kd_num hp2
  · exact kd_name (nmB_iff.mpr hy)
  · exact kd_any
  · exact kd_none
  · exact kd_names
  · exact kd_num ⟨_, _, rfl, .inl rfl, .inl rfl, fun i j e => by cases e⟩
theorem built_ok (g : GenK P) : ∀ {d : Nat}, d ≤ 6 → BuiltAt P C d (7 + 2 * d) := by
  intro d
  induction d with
  | zero =>
    intro _ N b rest A hN hA hc hb
    obtain ⟨N, rfl⟩ : ∃ m, N = m + 1 := ⟨N - 1, by omega⟩
    apply wq.ret
    rw [wq_call g.built rfl]
    simp only [fBuilt, b__law_built]
    rw [z_cons]
    simp only [BQ, q_ife, BZ, BO, BV, BL, tyN, mTy, List.replicate, List.getElem?_cons_zero, List.getElem?_cons_succ, List.set_cons_zero, List.set_cons_succ, List.map_cons, List.map_nil, List.cons_append, List.nil_append, List.all_cons, List.all_nil, Option.map_some, Option.map_none, Option.bind_some, Option.bind_none, if_true, if_false, ite_true, ite_false, List.length_cons, List.length_nil, ite_self, Nat.reduceAdd, Nat.reduceLeDiff, Nat.reduceLT, Nat.reduceMul, Int.reduceLT, Int.reduceLE, Int.reduceNeg, Int.reduceAdd, Int.reduceSub, Int.reduceMul, Int.reducePow, Int.reduceEq]
    refine (draw_N g.toGenA (by omega) hA hc (by decide) (by unfold cst at hb; omega)).wq ?_
    rintro _ A1 ⟨hA1, _, rfl, i1, rfl, j1, k1⟩
    simp only [BQ, q_ife, BZ, BO, BV, BL, tyN, mTy, List.replicate, List.getElem?_cons_zero, List.getElem?_cons_succ, List.set_cons_zero, List.set_cons_succ, List.map_cons, List.map_nil, List.cons_append, List.nil_append, List.all_cons, List.all_nil, Option.map_some, Option.map_none, Option.bind_some, Option.bind_none, if_true, if_false, ite_true, ite_false, List.length_cons, List.length_nil, ite_self, Nat.reduceAdd, Nat.reduceLeDiff, Nat.reduceLT, Nat.reduceMul, Int.reduceLT, Int.reduceLE, Int.reduceNeg, Int.reduceAdd, Int.reduceSub, Int.reduceMul, Int.reducePow, Int.reduceEq]
    rw [z_cons]
    simp only [BQ, q_ife, BZ, BO, BV, BL, tyN, mTy, List.replicate, List.getElem?_cons_zero, List.getElem?_cons_succ, List.set_cons_zero, List.set_cons_succ, List.map_cons, List.map_nil, List.cons_append, List.nil_append, List.all_cons, List.all_nil, Option.map_some, Option.map_none, Option.bind_some, Option.bind_none, if_true, if_false, ite_true, ite_false, List.length_cons, List.length_nil, ite_self, Nat.reduceAdd, Nat.reduceLeDiff, Nat.reduceLT, Nat.reduceMul, Int.reduceLT, Int.reduceLE, Int.reduceNeg, Int.reduceAdd, Int.reduceSub, Int.reduceMul, Int.reducePow, Int.reduceEq]
    exact built_leaf g (by omega) hA hA1 hc (by unfold cst at hb; omega) (by unfold cst; omega) (by decide)
  | succ d ih =>
    intro hd N b rest A hN hA hc hb
    obtain ⟨c1, c2⟩ := cst_le (show d ≤ 6 by omega)
    have ih := ih (by omega)
    have ec : cst (d + 1) = 3 * cst d + 40 := rfl
    obtain ⟨N, rfl⟩ : ∃ m, N = m + 1 := ⟨N - 1, by omega⟩
    have e0 : ¬ ((d + 1 : Nat) : Int) = 0 := by omega
    have e1 : ((d + 1 : Nat) : Int) - 1 = (d : Int) := by omega
    apply wq.ret
    rw [wq_call g.built rfl]
    simp only [fBuilt, b__law_built]
    rw [z_cons]
    simp only [BQ, q_ife, BZ, BO, BV, BL, tyN, mTy, List.replicate, List.getElem?_cons_zero, List.getElem?_cons_succ, List.set_cons_zero, List.set_cons_succ, List.map_cons, List.map_nil, List.cons_append, List.nil_append, List.all_cons, List.all_nil, Option.map_some, Option.map_none, Option.bind_some, Option.bind_none, if_true, if_false, ite_true, ite_false, List.length_cons, List.length_nil, ite_self, Nat.reduceAdd, Nat.reduceLeDiff, Nat.reduceLT, Nat.reduceMul, Int.reduceLT, Int.reduceLE, Int.reduceNeg, Int.reduceAdd, Int.reduceSub, Int.reduceMul, Int.reducePow, Int.reduceEq]
    refine (draw_N g.toGenA (by omega) hA hc (by decide) (by omega)).wq ?_
    rintro _ A1 ⟨hA1, _, rfl, i1, rfl, j1, k1⟩
    simp only [BQ, q_ife, BZ, BO, BV, BL, tyN, mTy, List.replicate, List.getElem?_cons_zero, List.getElem?_cons_succ, List.set_cons_zero, List.set_cons_succ, List.map_cons, List.map_nil, List.cons_append, List.nil_append, List.all_cons, List.all_nil, Option.map_some, Option.map_none, Option.bind_some, Option.bind_none, if_true, if_false, ite_true, ite_false, List.length_cons, List.length_nil, ite_self, Nat.reduceAdd, Nat.reduceLeDiff, Nat.reduceLT, Nat.reduceMul, Int.reduceLT, Int.reduceLE, Int.reduceNeg, Int.reduceAdd, Int.reduceSub, Int.reduceMul, Int.reducePow, Int.reduceEq]
    rw [z_cons]
    simp only [BQ, q_ife, BZ, BO, BV, BL, tyN, mTy, List.replicate, List.getElem?_cons_zero, List.getElem?_cons_succ, List.set_cons_zero, List.set_cons_succ, List.map_cons, List.map_nil, List.cons_append, List.nil_append, List.all_cons, List.all_nil, Option.map_some, Option.map_none, Option.bind_some, Option.bind_none, if_true, if_false, ite_true, ite_false, List.length_cons, List.length_nil, ite_self, Nat.reduceAdd, Nat.reduceLeDiff, Nat.reduceLT, Nat.reduceMul, Int.reduceLT, Int.reduceLE, Int.reduceNeg, Int.reduceAdd, Int.reduceSub, Int.reduceMul, Int.reducePow, Int.reduceEq, e0]
    by_cases w0 : i1 = 0
    · simp only [BQ, q_ife, BZ, BO, BV, BL, tyN, mTy, List.replicate, List.getElem?_cons_zero, List.getElem?_cons_succ, List.set_cons_zero, List.set_cons_succ, List.map_cons, List.map_nil, List.cons_append, List.nil_append, List.all_cons, List.all_nil, Option.map_some, Option.map_none, Option.bind_some, Option.bind_none, if_true, if_false, ite_true, ite_false, List.length_cons, List.length_nil, ite_self, Nat.reduceAdd, Nat.reduceLeDiff, Nat.reduceLT, Nat.reduceMul, Int.reduceLT, Int.reduceLE, Int.reduceNeg, Int.reduceAdd, Int.reduceSub, Int.reduceMul, Int.reducePow, Int.reduceEq, w0]
      exact built_leaf g (by omega) hA hA1 hc (by omega) (by omega) (by omega)
    · simp only [BQ, q_ife, BZ, BO, BV, BL, tyN, mTy, List.replicate, List.getElem?_cons_zero, List.getElem?_cons_succ, List.set_cons_zero, List.set_cons_succ, List.map_cons, List.map_nil, List.cons_append, List.nil_append, List.all_cons, List.all_nil, Option.map_some, Option.map_none, Option.bind_some, Option.bind_none, if_true, if_false, ite_true, ite_false, List.length_cons, List.length_nil, ite_self, Nat.reduceAdd, Nat.reduceLeDiff, Nat.reduceLT, Nat.reduceMul, Int.reduceLT, Int.reduceLE, Int.reduceNeg, Int.reduceAdd, Int.reduceSub, Int.reduceMul, Int.reducePow, Int.reduceEq, w0]
      rw [z_cons]
      simp only [BQ, q_ife, BZ, BO, BV, BL, tyN, mTy, List.replicate, List.getElem?_cons_zero, List.getElem?_cons_succ, List.set_cons_zero, List.set_cons_succ, List.map_cons, List.map_nil, List.cons_append, List.nil_append, List.all_cons, List.all_nil, Option.map_some, Option.map_none, Option.bind_some, Option.bind_none, if_true, if_false, ite_true, ite_false, List.length_cons, List.length_nil, ite_self, Nat.reduceAdd, Nat.reduceLeDiff, Nat.reduceLT, Nat.reduceMul, Int.reduceLT, Int.reduceLE, Int.reduceNeg, Int.reduceAdd, Int.reduceSub, Int.reduceMul, Int.reducePow, Int.reduceEq]
      by_cases w5 : i1 < 5
      · simp only [BQ, q_ife, BZ, BO, BV, BL, tyN, mTy, List.replicate, List.getElem?_cons_zero, List.getElem?_cons_succ, List.set_cons_zero, List.set_cons_succ, List.map_cons, List.map_nil, List.cons_append, List.nil_append, List.all_cons, List.all_nil, Option.map_some, Option.map_none, Option.bind_some, Option.bind_none, if_true, if_false, ite_true, ite_false, List.length_cons, List.length_nil, ite_self, Nat.reduceAdd, Nat.reduceLeDiff, Nat.reduceLT, Nat.reduceMul, Int.reduceLT, Int.reduceLE, Int.reduceNeg, Int.reduceAdd, Int.reduceSub, Int.reduceMul, Int.reducePow, Int.reduceEq, w5]
        rw [z_cons]
        simp only [BQ, q_ife, BZ, BO, BV, BL, tyN, mTy, List.replicate, List.getElem?_cons_zero, List.getElem?_cons_succ, List.set_cons_zero, List.set_cons_succ, List.map_cons, List.map_nil, List.cons_append, List.nil_append, List.all_cons, List.all_nil, Option.map_some, Option.map_none, Option.bind_some, Option.bind_none, if_true, if_false, ite_true, ite_false, List.length_cons, List.length_nil, ite_self, Nat.reduceAdd, Nat.reduceLeDiff, Nat.reduceLT, Nat.reduceMul, Int.reduceLT, Int.reduceLE, Int.reduceNeg, Int.reduceAdd, Int.reduceSub, Int.reduceMul, Int.reducePow, Int.reduceEq, e1]
        refine (ih N _ _ A1 (by omega) hA1 hc (by omega)).wq ?_
        rintro _ A2 ⟨hA2, p2, rfl, hp2⟩
        simp only [BQ, q_ife, BZ, BO, BV, BL, tyN, mTy, List.replicate, List.getElem?_cons_zero, List.getElem?_cons_succ, List.set_cons_zero, List.set_cons_succ, List.map_cons, List.map_nil, List.cons_append, List.nil_append, List.all_cons, List.all_nil, Option.map_some, Option.map_none, Option.bind_some, Option.bind_none, if_true, if_false, ite_true, ite_false, List.length_cons, List.length_nil, ite_self, Nat.reduceAdd, Nat.reduceLeDiff, Nat.reduceLT, Nat.reduceMul, Int.reduceLT, Int.reduceLE, Int.reduceNeg, Int.reduceAdd, Int.reduceSub, Int.reduceMul, Int.reducePow, Int.reduceEq]
        rw [z_cons]
        obtain ⟨t, ht, et⟩ := atI_of (xs := [PyData.str "fun", .str "and", .str "or", .str "or"]) (i := i1 - 1) (by omega) (by simp only [List.length_cons, List.length_nil]; omega)
        simp only [BQ, q_ife, BZ, BO, BV, BL, tyN, mTy, List.replicate, List.getElem?_cons_zero, List.getElem?_cons_succ, List.set_cons_zero, List.set_cons_succ, List.map_cons, List.map_nil, List.cons_append, List.nil_append, List.all_cons, List.all_nil, Option.map_some, Option.map_none, Option.bind_some, Option.bind_none, if_true, if_false, ite_true, ite_false, List.length_cons, List.length_nil, ite_self, Nat.reduceAdd, Nat.reduceLeDiff, Nat.reduceLT, Nat.reduceMul, Int.reduceLT, Int.reduceLE, Int.reduceNeg, Int.reduceAdd, Int.reduceSub, Int.reduceMul, Int.reducePow, Int.reduceEq, e1, et]
        refine (ih N _ _ A2 (by omega) hA2 hc (by omega)).wq ?_
        rintro _ A3 ⟨hA3, p3, rfl, hp3⟩
        simp only [BQ, q_ife, BZ, BO, BV, BL, tyN, mTy, List.replicate, List.getElem?_cons_zero, List.getElem?_cons_succ, List.set_cons_zero, List.set_cons_succ, List.map_cons, List.map_nil, List.cons_append, List.nil_append, List.all_cons, List.all_nil, Option.map_some, Option.map_none, Option.bind_some, Option.bind_none, if_true, if_false, ite_true, ite_false, List.length_cons, List.length_nil, ite_self, Nat.reduceAdd, Nat.reduceLeDiff, Nat.reduceLT, Nat.reduceMul, Int.reduceLT, Int.reduceLE, Int.reduceNeg, Int.reduceAdd, Int.reduceSub, Int.reduceMul, Int.reducePow, Int.reduceEq, leave_dr hA hA3 hc]
        refine ⟨hA3.mono (by omega), _, rfl, ?_⟩
        simp only [List.mem_cons, List.not_mem_nil, or_false] at ht
        rcases ht with rfl | rfl | rfl | rfl
        · exact kd_two (.inl rfl) hp2 hp3
        · exact kd_two (.inr (.inl rfl)) hp2 hp3
        · exact kd_two (.inr (.inr rfl)) hp2 hp3
        · exact kd_two (.inr (.inr rfl)) hp2 hp3
      · simp only [BQ, q_ife, BZ, BO, BV, BL, tyN, mTy, List.replicate, List.getElem?_cons_zero, List.getElem?_cons_succ, List.set_cons_zero, List.set_cons_succ, List.map_cons, List.map_nil, List.cons_append, List.nil_append, List.all_cons, List.all_nil, Option.map_some, Option.map_none, Option.bind_some, Option.bind_none, if_true, if_false, ite_true, ite_false, List.length_cons, List.length_nil, ite_self, Nat.reduceAdd, Nat.reduceLeDiff, Nat.reduceLT, Nat.reduceMul, Int.reduceLT, Int.reduceLE, Int.reduceNeg, Int.reduceAdd, Int.reduceSub, Int.reduceMul, Int.reducePow, Int.reduceEq, w5]
        rw [z_cons]
        simp only [BQ, q_ife, BZ, BO, BV, BL, tyN, mTy, List.replicate, List.getElem?_cons_zero, List.getElem?_cons_succ, List.set_cons_zero, List.set_cons_succ, List.map_cons, List.map_nil, List.cons_append, List.nil_append, List.all_cons, List.all_nil, Option.map_some, Option.map_none, Option.bind_some, Option.bind_none, if_true, if_false, ite_true, ite_false, List.length_cons, List.length_nil, ite_self, Nat.reduceAdd, Nat.reduceLeDiff, Nat.reduceLT, Nat.reduceMul, Int.reduceLT, Int.reduceLE, Int.reduceNeg, Int.reduceAdd, Int.reduceSub, Int.reduceMul, Int.reducePow, Int.reduceEq]
        by_cases w6 : i1 = 5
        · simp only [BQ, q_ife, BZ, BO, BV, BL, tyN, mTy, List.replicate, List.getElem?_cons_zero, List.getElem?_cons_succ, List.set_cons_zero, List.set_cons_succ, List.map_cons, List.map_nil, List.cons_append, List.nil_append, List.all_cons, List.all_nil, Option.map_some, Option.map_none, Option.bind_some, Option.bind_none, if_true, if_false, ite_true, ite_false, List.length_cons, List.length_nil, ite_self, Nat.reduceAdd, Nat.reduceLeDiff, Nat.reduceLT, Nat.reduceMul, Int.reduceLT, Int.reduceLE, Int.reduceNeg, Int.reduceAdd, Int.reduceSub, Int.reduceMul, Int.reducePow, Int.reduceEq, w6]
          rw [z_cons]
          simp only [BQ, q_ife, BZ, BO, BV, BL, tyN, mTy, List.replicate, List.getElem?_cons_zero, List.getElem?_cons_succ, List.set_cons_zero, List.set_cons_succ, List.map_cons, List.map_nil, List.cons_append, List.nil_append, List.all_cons, List.all_nil, Option.map_some, Option.map_none, Option.bind_some, Option.bind_none, if_true, if_false, ite_true, ite_false, List.length_cons, List.length_nil, ite_self, Nat.reduceAdd, Nat.reduceLeDiff, Nat.reduceLT, Nat.reduceMul, Int.reduceLT, Int.reduceLE, Int.reduceNeg, Int.reduceAdd, Int.reduceSub, Int.reduceMul, Int.reducePow, Int.reduceEq, e1]
          refine (ih N _ _ A1 (by omega) hA1 hc (by omega)).wq ?_
          rintro _ A2 ⟨hA2, p2, rfl, hp2⟩
          simp only [BQ, q_ife, BZ, BO, BV, BL, tyN, mTy, List.replicate, List.getElem?_cons_zero, List.getElem?_cons_succ, List.set_cons_zero, List.set_cons_succ, List.map_cons, List.map_nil, List.cons_append, List.nil_append, List.all_cons, List.all_nil, Option.map_some, Option.map_none, Option.bind_some, Option.bind_none, if_true, if_false, ite_true, ite_false, List.length_cons, List.length_nil, ite_self, Nat.reduceAdd, Nat.reduceLeDiff, Nat.reduceLT, Nat.reduceMul, Int.reduceLT, Int.reduceLE, Int.reduceNeg, Int.reduceAdd, Int.reduceSub, Int.reduceMul, Int.reducePow, Int.reduceEq, leave_dr hA hA2 hc]
          exact ⟨hA2.mono (by omega), _, rfl, kd_not hp2⟩
        · simp only [BQ, q_ife, BZ, BO, BV, BL, tyN, mTy, List.replicate, List.getElem?_cons_zero, List.getElem?_cons_succ, List.set_cons_zero, List.set_cons_succ, List.map_cons, List.map_nil, List.cons_append, List.nil_append, List.all_cons, List.all_nil, Option.map_some, Option.map_none, Option.bind_some, Option.bind_none, if_true, if_false, ite_true, ite_false, List.length_cons, List.length_nil, ite_self, Nat.reduceAdd, Nat.reduceLeDiff, Nat.reduceLT, Nat.reduceMul, Int.reduceLT, Int.reduceLE, Int.reduceNeg, Int.reduceAdd, Int.reduceSub, Int.reduceMul, Int.reducePow, Int.reduceEq, w6]
          rw [z_cons]
          simp only [BQ, q_ife, BZ, BO, BV, BL, tyN, mTy, List.replicate, List.getElem?_cons_zero, List.getElem?_cons_succ, List.set_cons_zero, List.set_cons_succ, List.map_cons, List.map_nil, List.cons_append, List.nil_append, List.all_cons, List.all_nil, Option.map_some, Option.map_none, Option.bind_some, Option.bind_none, if_true, if_false, ite_true, ite_false, List.length_cons, List.length_nil, ite_self, Nat.reduceAdd, Nat.reduceLeDiff, Nat.reduceLT, Nat.reduceMul, Int.reduceLT, Int.reduceLE, Int.reduceNeg, Int.reduceAdd, Int.reduceSub, Int.reduceMul, Int.reducePow, Int.reduceEq]
          by_cases w7 : i1 = 6
          · simp only [BQ, q_ife, BZ, BO, BV, BL, tyN, mTy, List.replicate, List.getElem?_cons_zero, List.getElem?_cons_succ, List.set_cons_zero, List.set_cons_succ, List.map_cons, List.map_nil, List.cons_append, List.nil_append, List.all_cons, List.all_nil, Option.map_some, Option.map_none, Option.bind_some, Option.bind_none, if_true, if_false, ite_true, ite_false, List.length_cons, List.length_nil, ite_self, Nat.reduceAdd, Nat.reduceLeDiff, Nat.reduceLT, Nat.reduceMul, Int.reduceLT, Int.reduceLE, Int.reduceNeg, Int.reduceAdd, Int.reduceSub, Int.reduceMul, Int.reducePow, Int.reduceEq, w7, e1]
            refine (draw_N g.toGenA (by omega) hA1 hc (by decide) (by omega)).wq ?_
            rintro _ A2 ⟨hA2, _, rfl, i2, rfl, j2, k2⟩
            simp only [BQ, q_ife, BZ, BO, BV, BL, tyN, mTy, List.replicate, List.getElem?_cons_zero, List.getElem?_cons_succ, List.set_cons_zero, List.set_cons_succ, List.map_cons, List.map_nil, List.cons_append, List.nil_append, List.all_cons, List.all_nil, Option.map_some, Option.map_none, Option.bind_some, Option.bind_none, if_true, if_false, ite_true, ite_false, List.length_cons, List.length_nil, ite_self, Nat.reduceAdd, Nat.reduceLeDiff, Nat.reduceLT, Nat.reduceMul, Int.reduceLT, Int.reduceLE, Int.reduceNeg, Int.reduceAdd, Int.reduceSub, Int.reduceMul, Int.reducePow, Int.reduceEq]
            obtain ⟨m, rfl⟩ := Int.eq_ofNat_of_zero_le j2
            have hm3 : m ≤ 3 := by omega
            refine (fields_ok g (show d ≤ 6 by omega) ih (by omega) (by omega) hA2 hc (by omega) hm3).wq ?_
            rintro _ A3 ⟨hA3, p3, rfl, hp3⟩
            have hmc : (m : Int) * (cst d + 10) ≤ 3 * (cst d + 10) := Int.mul_le_mul_of_nonneg_right (by omega) (by omega)
            simp only [BQ, q_ife, BZ, BO, BV, BL, tyN, mTy, List.replicate, List.getElem?_cons_zero, List.getElem?_cons_succ, List.set_cons_zero, List.set_cons_succ, List.map_cons, List.map_nil, List.cons_append, List.nil_append, List.all_cons, List.all_nil, Option.map_some, Option.map_none, Option.bind_some, Option.bind_none, if_true, if_false, ite_true, ite_false, List.length_cons, List.length_nil, ite_self, Nat.reduceAdd, Nat.reduceLeDiff, Nat.reduceLT, Nat.reduceMul, Int.reduceLT, Int.reduceLE, Int.reduceNeg, Int.reduceAdd, Int.reduceSub, Int.reduceMul, Int.reducePow, Int.reduceEq, leave_dr hA hA3 hc]
            refine ⟨hA3.mono (by omega), _, rfl, kd_rec ?_⟩
            obtain ⟨fs, zs, a1, a2, a3, a4, a5⟩ := hp3
            exact ⟨fs, zs, a1, a2, a3, by omega, a5⟩
          · simp only [BQ, q_ife, BZ, BO, BV, BL, tyN, mTy, List.replicate, List.getElem?_cons_zero, List.getElem?_cons_succ, List.set_cons_zero, List.set_cons_succ, List.map_cons, List.map_nil, List.cons_append, List.nil_append, List.all_cons, List.all_nil, Option.map_some, Option.map_none, Option.bind_some, Option.bind_none, if_true, if_false, ite_true, ite_false, List.length_cons, List.length_nil, ite_self, Nat.reduceAdd, Nat.reduceLeDiff, Nat.reduceLT, Nat.reduceMul, Int.reduceLT, Int.reduceLE, Int.reduceNeg, Int.reduceAdd, Int.reduceSub, Int.reduceMul, Int.reducePow, Int.reduceEq, w7, leave_dr hA hA1 hc]
            exact ⟨hA1.mono (by omega), _, rfl, (kd_two (.inl rfl) kd_none kd_any).mono (by omega)⟩
end
end Kg
set_option Elab.async false
set_option linter.all false
set_option maxRecDepth 100000
set_option maxHeartbeats 1000000
/-! KgK: a kind; things otherwise. -/
namespace Kg
open PySem L2 Mi TL
mutual
theorem smP_mono {w v : Nat} (h : w ≤ v) : ∀ {p : PyData}, smP w p = true → smP v p = true
  | .str x, hp => hp
  | .list ps, hp => by
    rw [smP, Bool.and_eq_true, decide_eq_true_eq] at hp ⊢
    exact ⟨by omega, smPs_mono h hp.2⟩
  | .tuple ps, hp => by
    rw [smP, Bool.and_eq_true, decide_eq_true_eq] at hp ⊢
    exact ⟨by omega, smPs_mono h hp.2⟩
  | .dict kvs, hp => hp
  | .none, hp => hp
  | .bool _, hp => hp
  | .int _, hp => hp
theorem smPs_mono {w v : Nat} (h : w ≤ v) : ∀ {ps : List PyData}, smPs w ps = true → smPs v ps = true
  | [], hp => rfl
  | p :: ps, hp => by
    rw [smPs, Bool.and_eq_true] at hp ⊢
    exact ⟨smP_mono h hp.1, smPs_mono h hp.2⟩
end
theorem hf_dep : ∀ {d : Nat} {p : PyData}, HF d p → PyData.depth p ≤ 3 * d
  | 0, _, h => by cases h
  | d + 1, p, h => by
    cases h with
    | mk a b =>
      have := fm_dep (n := 3 * d) (form_fm a) fun q hq => hf_dep (b q hq)
      omega
section
variable {P : Pr} {n N : Nat} {C : List Int} {b : Int} {rest A : Hs} {Φ : R → Hs → Prop} {E : Str → List (Str × PyData) → Hs → Prop}
theorem Dr.cl (h : Dr C b rest A) (hc : Clr rest) : Cl A := by
  obtain ⟨L, k, rfl, _⟩ := h
  exact hc.cl
def kInv (A2 : Hs) (m : Nat) (δ : Fr) (A' : Hs) : Prop := ∃ p, Kd m p ∧ m ≤ 6 ∧ δ = [some (.obj 1), some (.d p)] ∧ A' = A2
theorem kind_ok (g : GenK P) (hN : 20 ≤ N) (hA : Dr C b rest A) (hc : Clr rest) (hb : b + 200000 < BIG) : Ret (callN P N "_law_kind" [.obj 1]) A (DrR C (b + 20000) rest (Kd 6)) := by
  obtain ⟨N, rfl⟩ : ∃ m, N = m + 1 := ⟨N - 1, by omega⟩
  apply wq.ret
  rw [wq_call g.kind rfl]
  simp only [fKind, b__law_kind]
  rw [z_cons]
  simp only [BQ, q_ife, BZ, BO, BV, BL, tyN, mTy, List.replicate, List.getElem?_cons_zero, List.getElem?_cons_succ, List.set_cons_zero, List.set_cons_succ, List.map_cons, List.map_nil, List.cons_append, List.nil_append, List.all_cons, List.all_nil, Option.map_some, Option.map_none, Option.bind_some, Option.bind_none, if_true, if_false, ite_true, ite_false, List.length_cons, List.length_nil, ite_self, Nat.reduceAdd, Nat.reduceLeDiff, Nat.reduceLT, Nat.reduceMul, Int.reduceLT, Int.reduceLE, Int.reduceNeg, Int.reduceAdd, Int.reduceSub, Int.reduceMul, Int.reducePow, Int.reduceEq]
  refine (draw_N g.toGenA (by omega) hA hc (by decide) (by omega)).wq ?_
  rintro _ A1 ⟨hA1, _, rfl, i1, rfl, j1, k1⟩
  obtain ⟨d, rfl⟩ := Int.eq_ofNat_of_zero_le j1
  have hd : d ≤ 5 := by omega
  have hcst : cst d ≤ 14560 := by
    have all : ∀ d, d ≤ 5 → cst d ≤ 14560 := by decide
    exact all d hd
  simp only [BQ, q_ife, BZ, BO, BV, BL, tyN, mTy, List.replicate, List.getElem?_cons_zero, List.getElem?_cons_succ, List.set_cons_zero, List.set_cons_succ, List.map_cons, List.map_nil, List.cons_append, List.nil_append, List.all_cons, List.all_nil, Option.map_some, Option.map_none, Option.bind_some, Option.bind_none, if_true, if_false, ite_true, ite_false, List.length_cons, List.length_nil, ite_self, Nat.reduceAdd, Nat.reduceLeDiff, Nat.reduceLT, Nat.reduceMul, Int.reduceLT, Int.reduceLE, Int.reduceNeg, Int.reduceAdd, Int.reduceSub, Int.reduceMul, Int.reducePow, Int.reduceEq]
  refine (built_ok g (show d ≤ 6 by omega) N _ _ A1 (by omega) hA1 hc (by omega)).wq ?_
  rintro _ A2 ⟨hA2, p2, rfl, hp2⟩
  have hcl := hA2.cl hc
  simp only [BQ, q_ife, BZ, BO, BV, BL, tyN, mTy, List.replicate, List.getElem?_cons_zero, List.getElem?_cons_succ, List.set_cons_zero, List.set_cons_succ, List.map_cons, List.map_nil, List.cons_append, List.nil_append, List.all_cons, List.all_nil, Option.map_some, Option.map_none, Option.bind_some, Option.bind_none, if_true, if_false, ite_true, ite_false, List.length_cons, List.length_nil, ite_self, Nat.reduceAdd, Nat.reduceLeDiff, Nat.reduceLT, Nat.reduceMul, Int.reduceLT, Int.reduceLE, Int.reduceNeg, Int.reduceAdd, Int.reduceSub, Int.reduceMul, Int.reducePow, Int.reduceEq]
  rw [z_cons]
  simp only [BQ, q_ife, BZ, BO, BV, BL, tyN, mTy, List.replicate, List.getElem?_cons_zero, List.getElem?_cons_succ, List.set_cons_zero, List.set_cons_succ, List.map_cons, List.map_nil, List.cons_append, List.nil_append, List.all_cons, List.all_nil, Option.map_some, Option.map_none, Option.bind_some, Option.bind_none, if_true, if_false, ite_true, ite_false, List.length_cons, List.length_nil, ite_self, Nat.reduceAdd, Nat.reduceLeDiff, Nat.reduceLT, Nat.reduceMul, Int.reduceLT, Int.reduceLE, Int.reduceNeg, Int.reduceAdd, Int.reduceSub, Int.reduceMul, Int.reducePow, Int.reduceEq]
  refine whl_inv (I := kInv A2) (m := d + 1) (by have := g.lim; omega) ⟨p2, hp2, by omega, rfl, rfl⟩ ?_
  rintro m δ A' ⟨p, hp, hm, rfl, rfl⟩
  rw [wq_bool]
  simp only [BQ, q_ife, BZ, BO, BV, BL, tyN, mTy, List.replicate, List.getElem?_cons_zero, List.getElem?_cons_succ, List.set_cons_zero, List.set_cons_succ, List.map_cons, List.map_nil, List.cons_append, List.nil_append, List.all_cons, List.all_nil, Option.map_some, Option.map_none, Option.bind_some, Option.bind_none, if_true, if_false, ite_true, ite_false, List.length_cons, List.length_nil, ite_self, Nat.reduceAdd, Nat.reduceLeDiff, Nat.reduceLT, Nat.reduceMul, Int.reduceLT, Int.reduceLE, Int.reduceNeg, Int.reduceAdd, Int.reduceSub, Int.reduceMul, Int.reducePow, Int.reduceEq, fits_q g hcl hp.1 hp.2 (show m ≤ 9 by omega) (show m + 2 ≤ N by omega)]
  cases hf : fitB (wl m p) with
  | true =>
    simp only [BQ, q_ife, BZ, BO, BV, BL, tyN, mTy, List.replicate, List.getElem?_cons_zero, List.getElem?_cons_succ, List.set_cons_zero, List.set_cons_succ, List.map_cons, List.map_nil, List.cons_append, List.nil_append, List.all_cons, List.all_nil, Option.map_some, Option.map_none, Option.bind_some, Option.bind_none, if_true, if_false, ite_true, ite_false, List.length_cons, List.length_nil, ite_self, Nat.reduceAdd, Nat.reduceLeDiff, Nat.reduceLT, Nat.reduceMul, Int.reduceLT, Int.reduceLE, Int.reduceNeg, Int.reduceAdd, Int.reduceSub, Int.reduceMul, Int.reducePow, Int.reduceEq]
    rw [z_cons]
    simp only [BQ, q_ife, BZ, BO, BV, BL, tyN, mTy, List.replicate, List.getElem?_cons_zero, List.getElem?_cons_succ, List.set_cons_zero, List.set_cons_succ, List.map_cons, List.map_nil, List.cons_append, List.nil_append, List.all_cons, List.all_nil, Option.map_some, Option.map_none, Option.bind_some, Option.bind_none, if_true, if_false, ite_true, ite_false, List.length_cons, List.length_nil, ite_self, Nat.reduceAdd, Nat.reduceLeDiff, Nat.reduceLT, Nat.reduceMul, Int.reduceLT, Int.reduceLE, Int.reduceNeg, Int.reduceAdd, Int.reduceSub, Int.reduceMul, Int.reducePow, Int.reduceEq, leave_dr hA hA2 hc]
    exact ⟨hA2.mono (by omega), p, rfl, hp.mono hm⟩
  | false =>
    simp only [BQ, q_ife, BZ, BO, BV, BL, tyN, mTy, List.replicate, List.getElem?_cons_zero, List.getElem?_cons_succ, List.set_cons_zero, List.set_cons_succ, List.map_cons, List.map_nil, List.cons_append, List.nil_append, List.all_cons, List.all_nil, Option.map_some, Option.map_none, Option.bind_some, Option.bind_none, if_true, if_false, ite_true, ite_false, List.length_cons, List.length_nil, ite_self, Nat.reduceAdd, Nat.reduceLeDiff, Nat.reduceLT, Nat.reduceMul, Int.reduceLT, Int.reduceLE, Int.reduceNeg, Int.reduceAdd, Int.reduceSub, Int.reduceMul, Int.reducePow, Int.reduceEq]
    rw [z_cons]
    obtain ⟨N, rfl⟩ : ∃ k, N = k + 1 := ⟨N - 1, by omega⟩
    have hown := fun {Φ E} => lown_q (n := N) (Φ := Φ) (E := E) g.own hcl hp.1.form hp.2 (by decide)
    have hne := fit_leaf hp.1 hf
    cases ho : ownP p with
    | nil => exact (hne ho).elim
    | cons q qs =>
      obtain ⟨h1, h2⟩ := hp
      cases h1 with
      | mk a c =>
        rename_i m
        have hs := (own_sm h2 a).1
        simp only [BQ, q_ife, BZ, BO, BV, BL, tyN, mTy, List.replicate, List.getElem?_cons_zero, List.getElem?_cons_succ, List.set_cons_zero, List.set_cons_succ, List.map_cons, List.map_nil, List.cons_append, List.nil_append, List.all_cons, List.all_nil, Option.map_some, Option.map_none, Option.bind_some, Option.bind_none, if_true, if_false, ite_true, ite_false, List.length_cons, List.length_nil, ite_self, Nat.reduceAdd, Nat.reduceLeDiff, Nat.reduceLT, Nat.reduceMul, Int.reduceLT, Int.reduceLE, Int.reduceNeg, Int.reduceAdd, Int.reduceSub, Int.reduceMul, Int.reducePow, Int.reduceEq, hown, ho, at0]
        exact ⟨m, by omega, q, ⟨c q (by rw [ho]; simp), hs q (by rw [ho]; simp)⟩, by omega, rfl, rfl⟩
/-! ### parts of a tuple -/
theorem cutT {α : Type} {ps : List α} {i : Int} (h1 : 0 ≤ i) (h2 : i ≤ ps.length) : cut ps none (some i) = ps.take i.toNat := by
  unfold cut HT.sIx
  simp only [List.drop_zero, Nat.sub_zero]
  rw [if_neg (by omega)]
  congr 1
  omega
theorem cutD {α : Type} {ps : List α} {i : Int} (h1 : 0 ≤ i) (h2 : i ≤ ps.length) : cut ps (some i) none = ps.drop i.toNat := by
  unfold cut HT.sIx
  simp only
  rw [if_neg (by omega)]
  have e : min i.toNat ps.length = i.toNat := by omega
  rw [e]
  exact List.take_of_length_le (by rw [List.length_drop]; omega)
/-- small, not deep -/
def Sd (w D : Nat) (p : PyData) : Prop := smP w p = true ∧ PyData.depth p ≤ D
theorem sd_tup {w D : Nat} {ps : List PyData} (h1 : ps.length ≤ w) (h2 : ∀ p ∈ ps, Sd w D p) : Sd w (D + 1) (.tuple ps) := ⟨smP_tup.mpr ⟨h1, fun p hp => (h2 p hp).1⟩, dep_tup.mpr fun p hp => (h2 p hp).2⟩
theorem dep_lst {n : Nat} {ps : List PyData} : PyData.depth (.list ps) ≤ n + 1 ↔ ∀ p ∈ ps, PyData.depth p ≤ n := by
  rw [PyData.depth, ← dep_all]
  omega
theorem sd_lst {w D : Nat} {ps : List PyData} (h1 : ps.length ≤ w) (h2 : ∀ p ∈ ps, Sd w D p) : Sd w (D + 1) (.list ps) := ⟨smP_lst.mpr ⟨h1, fun p hp => (h2 p hp).1⟩, dep_lst.mpr fun p hp => (h2 p hp).2⟩
theorem Sd.mono {w v D F : Nat} {p : PyData} (h : Sd w D p) (h1 : w ≤ v) (h2 : D ≤ F) : Sd v F p := ⟨smP_mono h1 h.1, by have := h.2; omega⟩
theorem kd_sd {p : PyData} (h : Kd 6 p) : Sd 30 18 p := ⟨smP_mono (by decide) h.2, hf_dep h.1⟩
def fBent : Fn := ⟨"_law_bent", 2, 5, b__law_bent, false⟩
def fGrown : Fn := ⟨"_law_grown", 2, 8, b__law_grown, false⟩
theorem sd_int {w D : Nat} {i : Int} : Sd w D (.int i) := ⟨rfl, by rw [PyData.depth]; omega⟩
theorem sd_in {w D : Nat} {ps : List PyData} (h : Sd w D (.tuple ps)) : ps.length ≤ w ∧ 1 ≤ D ∧ ∀ p ∈ ps, Sd w (D - 1) p := by
  obtain ⟨h1, h2⟩ := h
  have h3 := smP_tup.mp h1
  have hD : 1 ≤ D := by rw [PyData.depth] at h2; omega
  refine ⟨h3.1, hD, fun p hp => ⟨h3.2 p hp, ?_⟩⟩
  have : PyData.depth (.tuple ps) ≤ (D - 1) + 1 := by omega
  exact dep_tup.mp this p hp
theorem sl_take {ps : List PyData} {i : Int} (h1 : 0 ≤ i) (h2 : i ≤ ps.length) : slO A (.d (.tuple ps)) none (some i) = some (.val (.d (.tuple (ps.take i.toNat)))) := by
  show some (dT _) = _
  rw [cutT h1 h2]
  rfl
theorem sl_drop {ps : List PyData} {i : Int} (h1 : 0 ≤ i) (h2 : i ≤ ps.length) : slO A (.d (.tuple ps)) (some i) none = some (.val (.d (.tuple (ps.drop i.toNat)))) := by
  show some (dT _) = _
  rw [cutD h1 h2]
  rfl
theorem sd_str {w D : Nat} {x : Str} (h : x.length ≤ 1000) : Sd w D (.str x) := ⟨by rw [smP]; exact decide_eq_true h, by rw [dep_str]; omega⟩
def lsOf : PyData → List PyData
  | .tuple ps => ps
  | p => [p]
theorem ls_ok {w D : Nat} {p : PyData} (hw : 4 ≤ w) (hp : Sd w D p) : Sd (w + 1) (D + 4) (.list (lsOf p)) := by
  cases p with
  | tuple ps =>
    obtain ⟨h1, h2, h3⟩ := sd_in hp
    exact (sd_lst (D := D) (by show ps.length ≤ _; omega) fun q hq => (h3 q hq).mono (by omega) (by omega)).mono (Nat.le_refl _) (by omega)
  | _ => exact (sd_lst (D := D) (by show 1 ≤ _; omega) fun q hq => by rw [List.mem_singleton.mp hq]; exact hp.mono (by omega) (Nat.le_refl _)).mono (Nat.le_refl _) (by omega)
theorem q_ls {G : Ge} {δ : Fr} {p : PyData} (hδ : δ[1]? = some (some (.d p))) : wq (ev G (.ife (.isi (.v 1) [(.inl "tuple")] false) (.bi "list" [(.v 1)]) (.lst [(.v 1)])) δ) A Φ E = Φ (.new (.lst (lsOf p))) A := by
  cases p with
  | tuple ps => simp only [BQ, q_ife, BZ, BO, BV, BL, tyN, mTy, List.replicate, List.getElem?_cons_zero, List.getElem?_cons_succ, List.set_cons_zero, List.set_cons_succ, List.map_cons, List.map_nil, List.cons_append, List.nil_append, List.all_cons, List.all_nil, Option.map_some, Option.map_none, Option.bind_some, Option.bind_none, if_true, if_false, ite_true, ite_false, List.length_cons, List.length_nil, ite_self, Nat.reduceAdd, Nat.reduceLeDiff, Nat.reduceLT, Nat.reduceMul, Int.reduceLT, Int.reduceLE, Int.reduceNeg, Int.reduceAdd, Int.reduceSub, Int.reduceMul, Int.reducePow, Int.reduceEq, hδ, y_isT, isT, lsOf]
  | _ => simp only [BQ, q_ife, BZ, BO, BV, BL, tyN, mTy, List.replicate, List.getElem?_cons_zero, List.getElem?_cons_succ, List.set_cons_zero, List.set_cons_succ, List.map_cons, List.map_nil, List.cons_append, List.nil_append, List.all_cons, List.all_nil, Option.map_some, Option.map_none, Option.bind_some, Option.bind_none, if_true, if_false, ite_true, ite_false, List.length_cons, List.length_nil, ite_self, Nat.reduceAdd, Nat.reduceLeDiff, Nat.reduceLT, Nat.reduceMul, Int.reduceLT, Int.reduceLE, Int.reduceNeg, Int.reduceAdd, Int.reduceSub, Int.reduceMul, Int.reducePow, Int.reduceEq, hδ, y_isT, isT, lsOf]
abbrev bentT : List S := [
  .iff (.and [(.isi (.v 1) [(.inl "int")] false), (.not (.isi (.v 1) [(.inl "bool")] false)), (.cmp .Eq (.call "_law_draw" [(.v 0), (.k (.int 2))]) (.k (.int 0)))]) [.ret (some (.bin .Add (.v 1) (.call "_law_one" [(.v 0), (.lst [(.k (.int 1)), (.neg (.k (.int 1)))])])))] [],
  .asg 2 (.lst [(.k .none), (.k (.bool true)), (.k (.bool false)), (.k (.int 0)), (.k (.int 5)), (.bin .Pow (.k (.int 10)) (.k (.int 30))), (.bin .Sub (.bin .Pow (.k (.int 10)) (.k (.int 30))) (.k (.int 1))), (.neg (.bin .Pow (.k (.int 10)) (.k (.int 30)))), (.k (.str "")), (.k (.str "A")), (.k (.str "a1")), (.k (.str "abcdefghi")), (.k (.str "q")), (.tup []), (.lst []), (.dic [] [])]) false,
  .asg 2 (.bin .Add (.v 2) (.lst [(.k (.str "any")), (.k (.str "fun")), (.k (.str "num")), (.tup [(.k (.str "any"))]), (.tup [(.k (.str "none")), (.tup [])]), (.tup [(.k (.str "any")), (.k (.str "any"))]), (.tup [(.k (.str "fun")), (.tup [(.k (.str "none"))]), (.tup [(.k (.str "any"))])])])) false,
  .asg 2 (.bin .Add (.v 2) (.lst [(.tup [(.k (.str "rec")), (.tup [(.tup [(.k (.str "b")), (.tup [(.k (.str "any"))])]), (.tup [(.k (.str "a")), (.tup [(.k (.str "any"))])])])]), (.tup [(.k (.str "rec")), (.tup [(.tup [(.k (.str "a")), (.tup [(.k (.str "any"))])]), (.tup [(.k (.str "a")), (.tup [(.k (.str "any"))])])])]), (.tup [(.k (.str "rec"))])])) false,
  .asg 2 (.bin .Add (.v 2) (.lst [(.tup [(.k (.str "num")), (.k (.int 5)), (.k (.int 4))]), (.tup [(.k (.str "num")), (.k .none), (.neg (.bin .Pow (.k (.int 10)) (.k (.int 30))))]), (.tup [(.k (.str "name")), (.k (.str "q"))]), (.tup [(.k (.str "not")), (.tup [(.k (.str "num")), (.k .none), (.k (.int 3))])]), (.tup [(.k (.str "and")), (.tup [(.k (.str "any"))])])])) false,
  .asg 2 (.bin .Add (.v 2) (.lst [(.ife (.isi (.v 1) [(.inl "tuple")] false) (.bi "list" [(.v 1)]) (.lst [(.v 1)])), (.tup [(.v 1)]), (.tup [(.k (.str "rec")), (.lst [(.tup [(.k (.str "a")), (.tup [(.k (.str "any"))])])])])])) false,
  .ret (some (.ix (.v 2) (.call "_law_draw" [(.v 0), (.bi "len" [(.v 2)])])))]
theorem ow_at {ps : List PyData} {i : Int} {F : PyData → Prop} (h1 : 0 ≤ i) (h2 : i < ps.length) (h : ∀ q ∈ ps, F q) : ow (atI ps i) F := by
  obtain ⟨q, hq, e⟩ := atI_of h1 h2
  rw [e]
  exact h q hq
theorem v_dict0 : toVal (.new (.dK (putAllU [] (([] : List Key).zip ([] : List U))))) = some (.d (.dict [])) := rfl
theorem sd_c {w D : Nat} {p : PyData} (hw : 4 ≤ w) (h : (smP 4 p && decide (PyData.depth p ≤ 4)) = true) : Sd (w + 1) (D + 4) p := by
  rw [Bool.and_eq_true, decide_eq_true_eq] at h
  exact ⟨smP_mono (by omega) h.1, by omega⟩
theorem bent_tail (g : GenA P) {w D N : Nat} {b B : Int} {A A1 : Hs} {p : PyData} {x y z : Option U} (hw : 4 ≤ w) (hN : 4 ≤ N) (hc : Clr rest) (hA : Dr C b rest A) (hA1 : Dr C (b + 1) rest A1) (hb : b + 100 < BIG) (hB : b + 8 ≤ B) (hp : Sd w D p) : wS (exs (geN P N bad) bentT [some (.obj 1), some (.d p), x, y, z] A1) (pst false A.length (DrR C B rest (Sd (w + 1) (D + 4))) NoE) := by
  have key : ∀ {b2 : Int} {A2 : Hs}, Dr C b2 rest A2 → b2 ≤ b + 3 → wS (exs (geN P N bad) bentT.tail [some (.obj 1), some (.d p), x, y, z] A2) (pst false A.length (DrR C B rest (Sd (w + 1) (D + 4))) NoE) := by
    intro b2 A2 hA2 hb2
    simp only [bentT, List.tail_cons]
    rw [z_cons]
    simp only [BQ, q_ife, BZ, BO, BV, BL, tyN, mTy, List.replicate, List.getElem?_cons_zero, List.getElem?_cons_succ, List.set_cons_zero, List.set_cons_succ, List.map_cons, List.map_nil, List.cons_append, List.nil_append, List.all_cons, List.all_nil, Option.map_some, Option.map_none, Option.bind_some, Option.bind_none, if_true, if_false, ite_true, ite_false, List.length_cons, List.length_nil, ite_self, Nat.reduceAdd, Nat.reduceLeDiff, Nat.reduceLT, Nat.reduceMul, Int.reduceLT, Int.reduceLE, Int.reduceNeg, Int.reduceAdd, Int.reduceSub, Int.reduceMul, Int.reducePow, Int.reduceEq, v_dict0]
    rw [z_cons]
    simp only [BQ, q_ife, BZ, BO, BV, BL, tyN, mTy, List.replicate, List.getElem?_cons_zero, List.getElem?_cons_succ, List.set_cons_zero, List.set_cons_succ, List.map_cons, List.map_nil, List.cons_append, List.nil_append, List.all_cons, List.all_nil, Option.map_some, Option.map_none, Option.bind_some, Option.bind_none, if_true, if_false, ite_true, ite_false, List.length_cons, List.length_nil, ite_self, Nat.reduceAdd, Nat.reduceLeDiff, Nat.reduceLT, Nat.reduceMul, Int.reduceLT, Int.reduceLE, Int.reduceNeg, Int.reduceAdd, Int.reduceSub, Int.reduceMul, Int.reducePow, Int.reduceEq]
    rw [z_cons]
    simp only [BQ, q_ife, BZ, BO, BV, BL, tyN, mTy, List.replicate, List.getElem?_cons_zero, List.getElem?_cons_succ, List.set_cons_zero, List.set_cons_succ, List.map_cons, List.map_nil, List.cons_append, List.nil_append, List.all_cons, List.all_nil, Option.map_some, Option.map_none, Option.bind_some, Option.bind_none, if_true, if_false, ite_true, ite_false, List.length_cons, List.length_nil, ite_self, Nat.reduceAdd, Nat.reduceLeDiff, Nat.reduceLT, Nat.reduceMul, Int.reduceLT, Int.reduceLE, Int.reduceNeg, Int.reduceAdd, Int.reduceSub, Int.reduceMul, Int.reducePow, Int.reduceEq]
    rw [z_cons]
    simp only [BQ, q_ife, BZ, BO, BV, BL, tyN, mTy, List.replicate, List.getElem?_cons_zero, List.getElem?_cons_succ, List.set_cons_zero, List.set_cons_succ, List.map_cons, List.map_nil, List.cons_append, List.nil_append, List.all_cons, List.all_nil, Option.map_some, Option.map_none, Option.bind_some, Option.bind_none, if_true, if_false, ite_true, ite_false, List.length_cons, List.length_nil, ite_self, Nat.reduceAdd, Nat.reduceLeDiff, Nat.reduceLT, Nat.reduceMul, Int.reduceLT, Int.reduceLE, Int.reduceNeg, Int.reduceAdd, Int.reduceSub, Int.reduceMul, Int.reducePow, Int.reduceEq]
    rw [z_cons]
    have hls := fun {A Φ E x y z} => q_ls (A := A) (Φ := Φ) (E := E) (G := geN P N bad) (δ := [some (.obj 1), some (.d p), x, y, z]) (p := p) rfl
    simp only [BQ, BZ, BO, BV, BL, tyN, mTy, List.replicate, List.getElem?_cons_zero, List.getElem?_cons_succ, List.set_cons_zero, List.set_cons_succ, List.map_cons, List.map_nil, List.cons_append, List.nil_append, List.all_cons, List.all_nil, Option.map_some, Option.map_none, Option.bind_some, Option.bind_none, if_true, if_false, ite_true, ite_false, List.length_cons, List.length_nil, ite_self, Nat.reduceAdd, Nat.reduceLeDiff, Nat.reduceLT, Nat.reduceMul, Int.reduceLT, Int.reduceLE, Int.reduceNeg, Int.reduceAdd, Int.reduceSub, Int.reduceMul, Int.reducePow, Int.reduceEq, hls]
    rw [z_cons]
    simp only [BQ, q_ife, BZ, BO, BV, BL, tyN, mTy, List.replicate, List.getElem?_cons_zero, List.getElem?_cons_succ, List.set_cons_zero, List.set_cons_succ, List.map_cons, List.map_nil, List.cons_append, List.nil_append, List.all_cons, List.all_nil, Option.map_some, Option.map_none, Option.bind_some, Option.bind_none, if_true, if_false, ite_true, ite_false, List.length_cons, List.length_nil, ite_self, Nat.reduceAdd, Nat.reduceLeDiff, Nat.reduceLT, Nat.reduceMul, Int.reduceLT, Int.reduceLE, Int.reduceNeg, Int.reduceAdd, Int.reduceSub, Int.reduceMul, Int.reducePow, Int.reduceEq]
    refine (draw_N g (by omega) hA2 hc (by decide) (by omega)).wq ?_
    rintro _ A3 ⟨hA3, _, rfl, i3, rfl, j3, k3⟩
    simp only [BQ, q_ife, BZ, BO, BV, BL, tyN, mTy, List.replicate, List.getElem?_cons_zero, List.getElem?_cons_succ, List.set_cons_zero, List.set_cons_succ, List.map_cons, List.map_nil, List.cons_append, List.nil_append, List.all_cons, List.all_nil, Option.map_some, Option.map_none, Option.bind_some, Option.bind_none, if_true, if_false, ite_true, ite_false, List.length_cons, List.length_nil, ite_self, Nat.reduceAdd, Nat.reduceLeDiff, Nat.reduceLT, Nat.reduceMul, Int.reduceLT, Int.reduceLE, Int.reduceNeg, Int.reduceAdd, Int.reduceSub, Int.reduceMul, Int.reducePow, Int.reduceEq]
    refine ow_at j3 (by simp only [List.length_cons, List.length_nil]; omega) fun q hq => ?_
    have fin : Sd (w + 1) (D + 4) q → ow (leave false A.length (.val (.d q)) A3) fun z => DrR C B rest (Sd (w + 1) (D + 4)) z.1 z.2 := fun h => by
      rw [leave_dr hA hA3 hc]
      exact ⟨hA3.mono (by omega), q, rfl, h⟩
    apply fin
    simp only [List.mem_cons, List.not_mem_nil, or_false] at hq
    rcases hq with rfl | rfl | rfl | rfl | rfl | rfl | rfl | rfl | rfl | rfl | rfl | rfl | rfl | rfl | rfl | rfl | rfl | rfl | rfl | rfl | rfl | rfl | rfl | rfl | rfl | rfl | rfl | rfl | rfl | rfl | rfl | rfl | rfl | rfl
    all_goals first
      | exact sd_c hw (by decide +kernel)
      | exact ls_ok hw hp
      | exact (sd_tup (D := D) (w := w + 1) (by simp only [List.length_cons, List.length_nil]; omega) fun q hq => by rw [List.mem_singleton.mp hq]; exact hp.mono (by omega) (Nat.le_refl _)).mono (Nat.le_refl _) (by omega)
  rw [bentT, z_cons]
  cases p with
  | int i =>
    simp only [BQ, q_ife, BZ, BO, BV, BL, tyN, mTy, List.replicate, List.getElem?_cons_zero, List.getElem?_cons_succ, List.set_cons_zero, List.set_cons_succ, List.map_cons, List.map_nil, List.cons_append, List.nil_append, List.all_cons, List.all_nil, Option.map_some, Option.map_none, Option.bind_some, Option.bind_none, if_true, if_false, ite_true, ite_false, List.length_cons, List.length_nil, ite_self, Nat.reduceAdd, Nat.reduceLeDiff, Nat.reduceLT, Nat.reduceMul, Int.reduceLT, Int.reduceLE, Int.reduceNeg, Int.reduceAdd, Int.reduceSub, Int.reduceMul, Int.reducePow, Int.reduceEq, y_isI, y_isB, isI, isBo]
    refine (draw_N g (by omega) hA1 hc (by decide) (by omega)).wq ?_
    rintro _ A2 ⟨hA2, _, rfl, i2, rfl, j2, k2⟩
    simp only [BQ, q_ife, BZ, BO, BV, BL, tyN, mTy, List.replicate, List.getElem?_cons_zero, List.getElem?_cons_succ, List.set_cons_zero, List.set_cons_succ, List.map_cons, List.map_nil, List.cons_append, List.nil_append, List.all_cons, List.all_nil, Option.map_some, Option.map_none, Option.bind_some, Option.bind_none, if_true, if_false, ite_true, ite_false, List.length_cons, List.length_nil, ite_self, Nat.reduceAdd, Nat.reduceLeDiff, Nat.reduceLT, Nat.reduceMul, Int.reduceLT, Int.reduceLE, Int.reduceNeg, Int.reduceAdd, Int.reduceSub, Int.reduceMul, Int.reducePow, Int.reduceEq]
    by_cases h0 : i2 = 0
    · simp only [BQ, q_ife, BZ, BO, BV, BL, tyN, mTy, List.replicate, List.getElem?_cons_zero, List.getElem?_cons_succ, List.set_cons_zero, List.set_cons_succ, List.map_cons, List.map_nil, List.cons_append, List.nil_append, List.all_cons, List.all_nil, Option.map_some, Option.map_none, Option.bind_some, Option.bind_none, if_true, if_false, ite_true, ite_false, List.length_cons, List.length_nil, ite_self, Nat.reduceAdd, Nat.reduceLeDiff, Nat.reduceLT, Nat.reduceMul, Int.reduceLT, Int.reduceLE, Int.reduceNeg, Int.reduceAdd, Int.reduceSub, Int.reduceMul, Int.reducePow, Int.reduceEq, h0]
      rw [z_cons]
      simp only [BQ, q_ife, BZ, BO, BV, BL, tyN, mTy, List.replicate, List.getElem?_cons_zero, List.getElem?_cons_succ, List.set_cons_zero, List.set_cons_succ, List.map_cons, List.map_nil, List.cons_append, List.nil_append, List.all_cons, List.all_nil, Option.map_some, Option.map_none, Option.bind_some, Option.bind_none, if_true, if_false, ite_true, ite_false, List.length_cons, List.length_nil, ite_self, Nat.reduceAdd, Nat.reduceLeDiff, Nat.reduceLT, Nat.reduceMul, Int.reduceLT, Int.reduceLE, Int.reduceNeg, Int.reduceAdd, Int.reduceSub, Int.reduceMul, Int.reducePow, Int.reduceEq]
      refine (one_N g (by omega) hA2 hc ⟨by simp, by simp⟩ (by omega)).wq ?_
      rintro _ A3 ⟨hA3, p3, rfl, h3⟩
      have h3 : ∃ k : Int, p3 = .int k := by
        simp only [List.mem_cons, List.not_mem_nil, or_false] at h3
        rcases h3 with rfl | rfl
        · exact ⟨_, rfl⟩
        · exact ⟨_, rfl⟩
      obtain ⟨k, rfl⟩ := h3
      simp only [BQ, q_ife, BZ, BO, BV, BL, tyN, mTy, List.replicate, List.getElem?_cons_zero, List.getElem?_cons_succ, List.set_cons_zero, List.set_cons_succ, List.map_cons, List.map_nil, List.cons_append, List.nil_append, List.all_cons, List.all_nil, Option.map_some, Option.map_none, Option.bind_some, Option.bind_none, if_true, if_false, ite_true, ite_false, List.length_cons, List.length_nil, ite_self, Nat.reduceAdd, Nat.reduceLeDiff, Nat.reduceLT, Nat.reduceMul, Int.reduceLT, Int.reduceLE, Int.reduceNeg, Int.reduceAdd, Int.reduceSub, Int.reduceMul, Int.reducePow, Int.reduceEq, leave_dr hA hA3 hc]
      exact ⟨hA3.mono (by omega), _, rfl, sd_int⟩
    · simp only [BQ, q_ife, BZ, BO, BV, BL, tyN, mTy, List.replicate, List.getElem?_cons_zero, List.getElem?_cons_succ, List.set_cons_zero, List.set_cons_succ, List.map_cons, List.map_nil, List.cons_append, List.nil_append, List.all_cons, List.all_nil, Option.map_some, Option.map_none, Option.bind_some, Option.bind_none, if_true, if_false, ite_true, ite_false, List.length_cons, List.length_nil, ite_self, Nat.reduceAdd, Nat.reduceLeDiff, Nat.reduceLT, Nat.reduceMul, Int.reduceLT, Int.reduceLE, Int.reduceNeg, Int.reduceAdd, Int.reduceSub, Int.reduceMul, Int.reducePow, Int.reduceEq, h0]
      exact key hA2 (by omega)
  | bool i =>
    simp only [BQ, q_ife, BZ, BO, BV, BL, tyN, mTy, List.replicate, List.getElem?_cons_zero, List.getElem?_cons_succ, List.set_cons_zero, List.set_cons_succ, List.map_cons, List.map_nil, List.cons_append, List.nil_append, List.all_cons, List.all_nil, Option.map_some, Option.map_none, Option.bind_some, Option.bind_none, if_true, if_false, ite_true, ite_false, List.length_cons, List.length_nil, ite_self, Nat.reduceAdd, Nat.reduceLeDiff, Nat.reduceLT, Nat.reduceMul, Int.reduceLT, Int.reduceLE, Int.reduceNeg, Int.reduceAdd, Int.reduceSub, Int.reduceMul, Int.reducePow, Int.reduceEq, y_isI, y_isB, isI, isBo]
    exact key hA1 (by omega)
  | _ =>
    simp only [BQ, q_ife, BZ, BO, BV, BL, tyN, mTy, List.replicate, List.getElem?_cons_zero, List.getElem?_cons_succ, List.set_cons_zero, List.set_cons_succ, List.map_cons, List.map_nil, List.cons_append, List.nil_append, List.all_cons, List.all_nil, Option.map_some, Option.map_none, Option.bind_some, Option.bind_none, if_true, if_false, ite_true, ite_false, List.length_cons, List.length_nil, ite_self, Nat.reduceAdd, Nat.reduceLeDiff, Nat.reduceLT, Nat.reduceMul, Int.reduceLT, Int.reduceLE, Int.reduceNeg, Int.reduceAdd, Int.reduceSub, Int.reduceMul, Int.reducePow, Int.reduceEq, y_isI, y_isB, isI, isBo]
    exact key hA1 (by omega)
theorem bent_ok (g : GenA P) (gb : fnd P.tab "_law_bent" = some fBent) {w : Nat} (hw : 4 ≤ w) (hw2 : w ≤ 1000) (hc : Clr rest) : ∀ {D N : Nat} {b : Int} {A : Hs} {p : PyData}, D + 5 ≤ N → Dr C b rest A → b + 10 * D + 100 < BIG → Sd w D p → Ret (callN P N "_law_bent" [.obj 1, .d p]) A (DrR C (b + 4 * D + 8) rest (Sd (w + 1) (D + 4))) := by
  intro D
  induction D with
  | zero =>
    intro N b A p hN hA hb hp
    obtain ⟨N, rfl⟩ : ∃ m, N = m + 1 := ⟨N - 1, by omega⟩
    apply wq.ret
    rw [wq_call gb rfl]
    simp only [fBent, b__law_bent]
    rw [z_cons]
    cases p with
    | tuple ps =>
      have := (sd_in hp).2.1
      omega
    | _ =>
      simp only [BQ, q_ife, BZ, BO, BV, BL, tyN, mTy, List.replicate, List.getElem?_cons_zero, List.getElem?_cons_succ, List.set_cons_zero, List.set_cons_succ, List.map_cons, List.map_nil, List.cons_append, List.nil_append, List.all_cons, List.all_nil, Option.map_some, Option.map_none, Option.bind_some, Option.bind_none, if_true, if_false, ite_true, ite_false, List.length_cons, List.length_nil, ite_self, Nat.reduceAdd, Nat.reduceLeDiff, Nat.reduceLT, Nat.reduceMul, Int.reduceLT, Int.reduceLE, Int.reduceNeg, Int.reduceAdd, Int.reduceSub, Int.reduceMul, Int.reducePow, Int.reduceEq, y_isT, isT]
      exact bent_tail g hw (by omega) hc hA (hA.mono (by omega)) (by omega) (by omega) hp
  | succ D ih =>
    intro N b A p hN hA hb hp
    obtain ⟨N, rfl⟩ : ∃ m, N = m + 1 := ⟨N - 1, by omega⟩
    apply wq.ret
    rw [wq_call gb rfl]
    simp only [fBent, b__law_bent]
    rw [z_cons]
    cases p with
    | tuple ps =>
      obtain ⟨s1, s2, s3⟩ := sd_in hp
      simp only [Nat.add_sub_cancel] at s3
      cases ps with
      | nil =>
        simp only [BQ, q_ife, BZ, BO, BV, BL, tyN, mTy, List.replicate, List.getElem?_cons_zero, List.getElem?_cons_succ, List.set_cons_zero, List.set_cons_succ, List.map_cons, List.map_nil, List.cons_append, List.nil_append, List.all_cons, List.all_nil, Option.map_some, Option.map_none, Option.bind_some, Option.bind_none, if_true, if_false, ite_true, ite_false, List.length_cons, List.length_nil, ite_self, Nat.reduceAdd, Nat.reduceLeDiff, Nat.reduceLT, Nat.reduceMul, Int.reduceLT, Int.reduceLE, Int.reduceNeg, Int.reduceAdd, Int.reduceSub, Int.reduceMul, Int.reducePow, Int.reduceEq, y_isT, isT]
        exact bent_tail g hw (by omega) hc hA (hA.mono (by omega)) (by omega) (by omega) hp
      | cons q0 qs =>
        have hl0 : (0 : Int) < ((qs.length + 1 : Nat) : Int) := by omega
        simp only [List.length_cons] at s1
        simp only [BQ, q_ife, BZ, BO, BV, BL, tyN, mTy, List.replicate, List.getElem?_cons_zero, List.getElem?_cons_succ, List.set_cons_zero, List.set_cons_succ, List.map_cons, List.map_nil, List.cons_append, List.nil_append, List.all_cons, List.all_nil, Option.map_some, Option.map_none, Option.bind_some, Option.bind_none, if_true, if_false, ite_true, ite_false, List.length_cons, List.length_nil, ite_self, Nat.reduceAdd, Nat.reduceLeDiff, Nat.reduceLT, Nat.reduceMul, Int.reduceLT, Int.reduceLE, Int.reduceNeg, Int.reduceAdd, Int.reduceSub, Int.reduceMul, Int.reducePow, Int.reduceEq, y_isT, isT, hl0]
        refine (draw_N g (by omega) hA hc (by decide) (by omega)).wq ?_
        rintro _ A1 ⟨hA1, _, rfl, i1, rfl, j1, k1⟩
        simp only [BQ, q_ife, BZ, BO, BV, BL, tyN, mTy, List.replicate, List.getElem?_cons_zero, List.getElem?_cons_succ, List.set_cons_zero, List.set_cons_succ, List.map_cons, List.map_nil, List.cons_append, List.nil_append, List.all_cons, List.all_nil, Option.map_some, Option.map_none, Option.bind_some, Option.bind_none, if_true, if_false, ite_true, ite_false, List.length_cons, List.length_nil, ite_self, Nat.reduceAdd, Nat.reduceLeDiff, Nat.reduceLT, Nat.reduceMul, Int.reduceLT, Int.reduceLE, Int.reduceNeg, Int.reduceAdd, Int.reduceSub, Int.reduceMul, Int.reducePow, Int.reduceEq]
        by_cases h0 : 0 < i1
        · simp only [BQ, q_ife, BZ, BO, BV, BL, tyN, mTy, List.replicate, List.getElem?_cons_zero, List.getElem?_cons_succ, List.set_cons_zero, List.set_cons_succ, List.map_cons, List.map_nil, List.cons_append, List.nil_append, List.all_cons, List.all_nil, Option.map_some, Option.map_none, Option.bind_some, Option.bind_none, if_true, if_false, ite_true, ite_false, List.length_cons, List.length_nil, ite_self, Nat.reduceAdd, Nat.reduceLeDiff, Nat.reduceLT, Nat.reduceMul, Int.reduceLT, Int.reduceLE, Int.reduceNeg, Int.reduceAdd, Int.reduceSub, Int.reduceMul, Int.reducePow, Int.reduceEq, h0]
          rw [z_cons]
          simp only [BQ, q_ife, BZ, BO, BV, BL, tyN, mTy, List.replicate, List.getElem?_cons_zero, List.getElem?_cons_succ, List.set_cons_zero, List.set_cons_succ, List.map_cons, List.map_nil, List.cons_append, List.nil_append, List.all_cons, List.all_nil, Option.map_some, Option.map_none, Option.bind_some, Option.bind_none, if_true, if_false, ite_true, ite_false, List.length_cons, List.length_nil, ite_self, Nat.reduceAdd, Nat.reduceLeDiff, Nat.reduceLT, Nat.reduceMul, Int.reduceLT, Int.reduceLE, Int.reduceNeg, Int.reduceAdd, Int.reduceSub, Int.reduceMul, Int.reducePow, Int.reduceEq]
          refine (draw_N g (by omega) hA1 hc (by omega) (by omega)).wq ?_
          rintro _ A2 ⟨hA2, _, rfl, i2, rfl, j2, k2⟩
          simp only [BQ, q_ife, BZ, BO, BV, BL, tyN, mTy, List.replicate, List.getElem?_cons_zero, List.getElem?_cons_succ, List.set_cons_zero, List.set_cons_succ, List.map_cons, List.map_nil, List.cons_append, List.nil_append, List.all_cons, List.all_nil, Option.map_some, Option.map_none, Option.bind_some, Option.bind_none, if_true, if_false, ite_true, ite_false, List.length_cons, List.length_nil, ite_self, Nat.reduceAdd, Nat.reduceLeDiff, Nat.reduceLT, Nat.reduceMul, Int.reduceLT, Int.reduceLE, Int.reduceNeg, Int.reduceAdd, Int.reduceSub, Int.reduceMul, Int.reducePow, Int.reduceEq]
          rw [z_cons]
          simp only [BQ, q_ife, BZ, BO, BV, BL, tyN, mTy, List.replicate, List.getElem?_cons_zero, List.getElem?_cons_succ, List.set_cons_zero, List.set_cons_succ, List.map_cons, List.map_nil, List.cons_append, List.nil_append, List.all_cons, List.all_nil, Option.map_some, Option.map_none, Option.bind_some, Option.bind_none, if_true, if_false, ite_true, ite_false, List.length_cons, List.length_nil, ite_self, Nat.reduceAdd, Nat.reduceLeDiff, Nat.reduceLT, Nat.reduceMul, Int.reduceLT, Int.reduceLE, Int.reduceNeg, Int.reduceAdd, Int.reduceSub, Int.reduceMul, Int.reducePow, Int.reduceEq]
          refine (draw_N g (by omega) hA2 hc (by decide) (by omega)).wq ?_
          rintro _ A3 ⟨hA3, _, rfl, i3, rfl, j3, k3⟩
          simp only [BQ, q_ife, BZ, BO, BV, BL, tyN, mTy, List.replicate, List.getElem?_cons_zero, List.getElem?_cons_succ, List.set_cons_zero, List.set_cons_succ, List.map_cons, List.map_nil, List.cons_append, List.nil_append, List.all_cons, List.all_nil, Option.map_some, Option.map_none, Option.bind_some, Option.bind_none, if_true, if_false, ite_true, ite_false, List.length_cons, List.length_nil, ite_self, Nat.reduceAdd, Nat.reduceLeDiff, Nat.reduceLT, Nat.reduceMul, Int.reduceLT, Int.reduceLE, Int.reduceNeg, Int.reduceAdd, Int.reduceSub, Int.reduceMul, Int.reducePow, Int.reduceEq]
          have hlen : (q0 :: qs).length = qs.length + 1 := rfl
          have t1 := fun {A : Hs} => sl_take (A := A) (ps := q0 :: qs) (i := i2) j2 (by rw [hlen]; omega)
          have t2 := fun {A : Hs} => sl_drop (A := A) (ps := q0 :: qs) (i := i2 + 1) (by omega) (by rw [hlen]; omega)
          have t3 := fun {A : Hs} => sl_drop (A := A) (ps := q0 :: qs) (i := i2) j2 (by rw [hlen]; omega)
          obtain ⟨x, hx, ex⟩ := atI_of (xs := q0 :: qs) j2 (by rw [hlen]; omega)
          have e1 : ((q0 :: qs).take i2.toNat).length = i2.toNat := by rw [List.length_take, hlen]; omega
          have e2 : ((q0 :: qs).drop (i2 + 1).toNat).length = qs.length - i2.toNat := by rw [List.length_drop, hlen]; omega
          have e3 : ((q0 :: qs).drop i2.toNat).length = qs.length + 1 - i2.toNat := by rw [List.length_drop, hlen]
          have m1 : ∀ y ∈ (q0 :: qs).take i2.toNat, Sd (w + 1) (D + 4) y := fun y hy => (s3 y (List.mem_of_mem_take hy)).mono (by omega) (by omega)
          have m2 : ∀ y ∈ (q0 :: qs).drop (i2 + 1).toNat, Sd (w + 1) (D + 4) y := fun y hy => (s3 y (List.mem_of_mem_drop hy)).mono (by omega) (by omega)
          have m3 : ∀ y ∈ (q0 :: qs).drop i2.toNat, Sd (w + 1) (D + 4) y := fun y hy => (s3 y (List.mem_of_mem_drop hy)).mono (by omega) (by omega)
          generalize hT : (q0 :: qs).take i2.toNat = T at t1 e1 m1
          generalize hU : (q0 :: qs).drop (i2 + 1).toNat = U1 at t2 e2 m2
          generalize hV : (q0 :: qs).drop i2.toNat = V1 at t3 e3 m3
          rw [z_cons]
          simp only [BQ, q_ife, BZ, BO, BV, BL, tyN, mTy, List.replicate, List.getElem?_cons_zero, List.getElem?_cons_succ, List.set_cons_zero, List.set_cons_succ, List.map_cons, List.map_nil, List.cons_append, List.nil_append, List.all_cons, List.all_nil, Option.map_some, Option.map_none, Option.bind_some, Option.bind_none, if_true, if_false, ite_true, ite_false, List.length_cons, List.length_nil, ite_self, Nat.reduceAdd, Nat.reduceLeDiff, Nat.reduceLT, Nat.reduceMul, Int.reduceLT, Int.reduceLE, Int.reduceNeg, Int.reduceAdd, Int.reduceSub, Int.reduceMul, Int.reducePow, Int.reduceEq]
          by_cases w0 : i3 = 0
          · simp only [BQ, q_ife, BZ, BO, BV, BL, tyN, mTy, List.replicate, List.getElem?_cons_zero, List.getElem?_cons_succ, List.set_cons_zero, List.set_cons_succ, List.map_cons, List.map_nil, List.cons_append, List.nil_append, List.all_cons, List.all_nil, Option.map_some, Option.map_none, Option.bind_some, Option.bind_none, if_true, if_false, ite_true, ite_false, List.length_cons, List.length_nil, ite_self, Nat.reduceAdd, Nat.reduceLeDiff, Nat.reduceLT, Nat.reduceMul, Int.reduceLT, Int.reduceLE, Int.reduceNeg, Int.reduceAdd, Int.reduceSub, Int.reduceMul, Int.reducePow, Int.reduceEq, w0]
            rw [z_cons]
            simp only [BQ, q_ife, BZ, BO, BV, BL, tyN, mTy, List.replicate, List.getElem?_cons_zero, List.getElem?_cons_succ, List.set_cons_zero, List.set_cons_succ, List.map_cons, List.map_nil, List.cons_append, List.nil_append, List.all_cons, List.all_nil, Option.map_some, Option.map_none, Option.bind_some, Option.bind_none, if_true, if_false, ite_true, ite_false, List.length_cons, List.length_nil, ite_self, Nat.reduceAdd, Nat.reduceLeDiff, Nat.reduceLT, Nat.reduceMul, Int.reduceLT, Int.reduceLE, Int.reduceNeg, Int.reduceAdd, Int.reduceSub, Int.reduceMul, Int.reducePow, Int.reduceEq, t1, t2]
            refine ⟨by omega, ?_⟩
            rw [leave_dr hA hA3 hc]
            refine ⟨hA3.mono (by omega), _, rfl, sd_tup (by rw [List.length_append]; omega) fun y hy => ?_⟩
            rcases List.mem_append.mp hy with u | u
            · exact m1 y u
            · exact m2 y u
          · simp only [BQ, q_ife, BZ, BO, BV, BL, tyN, mTy, List.replicate, List.getElem?_cons_zero, List.getElem?_cons_succ, List.set_cons_zero, List.set_cons_succ, List.map_cons, List.map_nil, List.cons_append, List.nil_append, List.all_cons, List.all_nil, Option.map_some, Option.map_none, Option.bind_some, Option.bind_none, if_true, if_false, ite_true, ite_false, List.length_cons, List.length_nil, ite_self, Nat.reduceAdd, Nat.reduceLeDiff, Nat.reduceLT, Nat.reduceMul, Int.reduceLT, Int.reduceLE, Int.reduceNeg, Int.reduceAdd, Int.reduceSub, Int.reduceMul, Int.reducePow, Int.reduceEq, w0]
            rw [z_cons]
            simp only [BQ, q_ife, BZ, BO, BV, BL, tyN, mTy, List.replicate, List.getElem?_cons_zero, List.getElem?_cons_succ, List.set_cons_zero, List.set_cons_succ, List.map_cons, List.map_nil, List.cons_append, List.nil_append, List.all_cons, List.all_nil, Option.map_some, Option.map_none, Option.bind_some, Option.bind_none, if_true, if_false, ite_true, ite_false, List.length_cons, List.length_nil, ite_self, Nat.reduceAdd, Nat.reduceLeDiff, Nat.reduceLT, Nat.reduceMul, Int.reduceLT, Int.reduceLE, Int.reduceNeg, Int.reduceAdd, Int.reduceSub, Int.reduceMul, Int.reducePow, Int.reduceEq]
            by_cases w1 : i3 = 1
            · simp only [BQ, q_ife, BZ, BO, BV, BL, tyN, mTy, List.replicate, List.getElem?_cons_zero, List.getElem?_cons_succ, List.set_cons_zero, List.set_cons_succ, List.map_cons, List.map_nil, List.cons_append, List.nil_append, List.all_cons, List.all_nil, Option.map_some, Option.map_none, Option.bind_some, Option.bind_none, if_true, if_false, ite_true, ite_false, List.length_cons, List.length_nil, ite_self, Nat.reduceAdd, Nat.reduceLeDiff, Nat.reduceLT, Nat.reduceMul, Int.reduceLT, Int.reduceLE, Int.reduceNeg, Int.reduceAdd, Int.reduceSub, Int.reduceMul, Int.reducePow, Int.reduceEq, w1]
              rw [z_cons]
              simp only [BQ, q_ife, BZ, BO, BV, BL, tyN, mTy, List.replicate, List.getElem?_cons_zero, List.getElem?_cons_succ, List.set_cons_zero, List.set_cons_succ, List.map_cons, List.map_nil, List.cons_append, List.nil_append, List.all_cons, List.all_nil, Option.map_some, Option.map_none, Option.bind_some, Option.bind_none, if_true, if_false, ite_true, ite_false, List.length_cons, List.length_nil, ite_self, Nat.reduceAdd, Nat.reduceLeDiff, Nat.reduceLT, Nat.reduceMul, Int.reduceLT, Int.reduceLE, Int.reduceNeg, Int.reduceAdd, Int.reduceSub, Int.reduceMul, Int.reducePow, Int.reduceEq, t1, t3, ex, List.length_append]
              refine ⟨by omega, by omega, ?_⟩
              rw [leave_dr hA hA3 hc]
              refine ⟨hA3.mono (by omega), _, rfl, sd_tup (by simp only [List.length_append, List.length_cons, List.length_nil]; omega) fun y hy => ?_⟩
              rcases List.mem_append.mp hy with u | u
              · rcases List.mem_append.mp u with v | v
                · exact m1 y v
                · rw [List.mem_singleton.mp v]
                  exact (s3 x hx).mono (by omega) (by omega)
              · exact m3 y u
            · simp only [BQ, q_ife, BZ, BO, BV, BL, tyN, mTy, List.replicate, List.getElem?_cons_zero, List.getElem?_cons_succ, List.set_cons_zero, List.set_cons_succ, List.map_cons, List.map_nil, List.cons_append, List.nil_append, List.all_cons, List.all_nil, Option.map_some, Option.map_none, Option.bind_some, Option.bind_none, if_true, if_false, ite_true, ite_false, List.length_cons, List.length_nil, ite_self, Nat.reduceAdd, Nat.reduceLeDiff, Nat.reduceLT, Nat.reduceMul, Int.reduceLT, Int.reduceLE, Int.reduceNeg, Int.reduceAdd, Int.reduceSub, Int.reduceMul, Int.reducePow, Int.reduceEq, w1]
              rw [z_cons]
              simp only [BQ, q_ife, BZ, BO, BV, BL, tyN, mTy, List.replicate, List.getElem?_cons_zero, List.getElem?_cons_succ, List.set_cons_zero, List.set_cons_succ, List.map_cons, List.map_nil, List.cons_append, List.nil_append, List.all_cons, List.all_nil, Option.map_some, Option.map_none, Option.bind_some, Option.bind_none, if_true, if_false, ite_true, ite_false, List.length_cons, List.length_nil, ite_self, Nat.reduceAdd, Nat.reduceLeDiff, Nat.reduceLT, Nat.reduceMul, Int.reduceLT, Int.reduceLE, Int.reduceNeg, Int.reduceAdd, Int.reduceSub, Int.reduceMul, Int.reducePow, Int.reduceEq, t1, ex]
              refine (ih (by omega) hA3 (by omega) (s3 x hx)).wq ?_
              rintro _ A4 ⟨hA4, p4, rfl, hp4⟩
              simp only [BQ, q_ife, BZ, BO, BV, BL, tyN, mTy, List.replicate, List.getElem?_cons_zero, List.getElem?_cons_succ, List.set_cons_zero, List.set_cons_succ, List.map_cons, List.map_nil, List.cons_append, List.nil_append, List.all_cons, List.all_nil, Option.map_some, Option.map_none, Option.bind_some, Option.bind_none, if_true, if_false, ite_true, ite_false, List.length_cons, List.length_nil, ite_self, Nat.reduceAdd, Nat.reduceLeDiff, Nat.reduceLT, Nat.reduceMul, Int.reduceLT, Int.reduceLE, Int.reduceNeg, Int.reduceAdd, Int.reduceSub, Int.reduceMul, Int.reducePow, Int.reduceEq, t2, List.length_append]
              refine ⟨by omega, by omega, ?_⟩
              rw [leave_dr hA hA4 hc]
              refine ⟨hA4.mono (by omega), _, rfl, sd_tup (by simp only [List.length_append, List.length_cons, List.length_nil]; omega) fun y hy => ?_⟩
              rcases List.mem_append.mp hy with u | u
              · rcases List.mem_append.mp u with v | v
                · exact m1 y v
                · rw [List.mem_singleton.mp v]
                  exact hp4
              · exact m2 y u
        · simp only [BQ, q_ife, BZ, BO, BV, BL, tyN, mTy, List.replicate, List.getElem?_cons_zero, List.getElem?_cons_succ, List.set_cons_zero, List.set_cons_succ, List.map_cons, List.map_nil, List.cons_append, List.nil_append, List.all_cons, List.all_nil, Option.map_some, Option.map_none, Option.bind_some, Option.bind_none, if_true, if_false, ite_true, ite_false, List.length_cons, List.length_nil, ite_self, Nat.reduceAdd, Nat.reduceLeDiff, Nat.reduceLT, Nat.reduceMul, Int.reduceLT, Int.reduceLE, Int.reduceNeg, Int.reduceAdd, Int.reduceSub, Int.reduceMul, Int.reducePow, Int.reduceEq, h0]
          exact bent_tail g hw (by omega) hc hA hA1 (by omega) (by omega) hp
    | _ =>
      simp only [BQ, q_ife, BZ, BO, BV, BL, tyN, mTy, List.replicate, List.getElem?_cons_zero, List.getElem?_cons_succ, List.set_cons_zero, List.set_cons_succ, List.map_cons, List.map_nil, List.cons_append, List.nil_append, List.all_cons, List.all_nil, Option.map_some, Option.map_none, Option.bind_some, Option.bind_none, if_true, if_false, ite_true, ite_false, List.length_cons, List.length_nil, ite_self, Nat.reduceAdd, Nat.reduceLeDiff, Nat.reduceLT, Nat.reduceMul, Int.reduceLT, Int.reduceLE, Int.reduceNeg, Int.reduceAdd, Int.reduceSub, Int.reduceMul, Int.reducePow, Int.reduceEq, y_isT, isT]
      exact bent_tail g hw (by omega) hc hA (hA.mono (by omega)) (by omega) (by omega) hp
end
end Kg
set_option Elab.async false
set_option linter.all false
set_option maxRecDepth 100000
set_option maxHeartbeats 1000000
/-! KgL: things made greater; the state is begun. -/
namespace Kg
open PySem L2 Mi TL
section
variable {P : Pr} {n N : Nat} {C : List Int} {b : Int} {rest A : Hs} {Φ : R → Hs → Prop} {E : Str → List (Str × PyData) → Hs → Prop}
def grInv (C : List Int) (rest : Hs) (b : Int) (D : Nat) (j : Nat) (δ : Fr) (A' : Hs) : Prop := ∃ p x y z u v w, Sd 30 (D + 3 * j) p ∧ Dr C (b + 2 + j) rest A' ∧ δ = [some (.obj 1), some (.d p), x, y, z, u, v, w]
theorem sd_any {D : Nat} : Sd 30 (D + 1) (.tuple [.str "any"]) := sd_tup (by simp) fun q hq => by rw [List.mem_singleton.mp hq]; exact sd_str (by decide)
theorem sd_fun {D : Nat} : Sd 30 (D + 2) (.tuple [.str "fun", .tuple [.str "none"], .tuple [.str "any"]]) := by
  refine sd_tup (by simp) fun q hq => ?_
  simp only [List.mem_cons, List.not_mem_nil, or_false] at hq
  rcases hq with rfl | rfl | rfl
  · exact sd_str (by decide)
  · exact sd_tup (by simp) fun q hq => by rw [List.mem_singleton.mp hq]; exact sd_str (by decide)
  · exact sd_any
theorem letter {k : Int} (h1 : 0 ≤ k) (h2 : k < 26) : ∃ x : Str, x.length ≤ 1000 ∧ ixO A (.d (.str "abcdefghijklmnopqrstuvwxyz")) (.d (.int k)) = some (.d (.str x)) := by
  obtain ⟨c, hc, e⟩ := atI_of (xs := (Str.ofString "abcdefghijklmnopqrstuvwxyz").cps.toList) h1 (by
    have : (Str.ofString "abcdefghijklmnopqrstuvwxyz").cps.toList.length = 26 := by decide
    rw [this]; exact h2)
  refine ⟨⟨#[c]⟩, by show 1 ≤ 1000; decide, ?_⟩
  rw [o_ixS, if_pos (by decide), e]
  rfl
theorem grown_ok (g : GenA P) (gg : fnd P.tab "_law_grown" = some fGrown) (hN : 6 ≤ N) (hA : Dr C b rest A) (hc : Clr rest) (hb : b + 100 < BIG) {D : Nat} {p : PyData} (hp : Sd 30 D p) : Ret (callN P N "_law_grown" [.obj 1, .d p]) A (DrR C (b + 10) rest (Sd 30 (D + 18))) := by
  obtain ⟨N, rfl⟩ : ∃ m, N = m + 1 := ⟨N - 1, by omega⟩
  apply wq.ret
  rw [wq_call gg rfl]
  simp only [fGrown, b__law_grown]
  rw [z_cons]
  simp only [BQ, q_ife, BZ, BO, BV, BL, tyN, mTy, List.replicate, List.getElem?_cons_zero, List.getElem?_cons_succ, List.set_cons_zero, List.set_cons_succ, List.map_cons, List.map_nil, List.cons_append, List.nil_append, List.all_cons, List.all_nil, Option.map_some, Option.map_none, Option.bind_some, Option.bind_none, if_true, if_false, ite_true, ite_false, List.length_cons, List.length_nil, ite_self, Nat.reduceAdd, Nat.reduceLeDiff, Nat.reduceLT, Nat.reduceMul, Int.reduceLT, Int.reduceLE, Int.reduceNeg, Int.reduceAdd, Int.reduceSub, Int.reduceMul, Int.reducePow, Int.reduceEq]
  refine (draw_N g (by omega) hA hc (by decide) (by omega)).wq ?_
  rintro _ A1 ⟨hA1, _, rfl, i1, rfl, j1, k1⟩
  simp only [BQ, q_ife, BZ, BO, BV, BL, tyN, mTy, List.replicate, List.getElem?_cons_zero, List.getElem?_cons_succ, List.set_cons_zero, List.set_cons_succ, List.map_cons, List.map_nil, List.cons_append, List.nil_append, List.all_cons, List.all_nil, Option.map_some, Option.map_none, Option.bind_some, Option.bind_none, if_true, if_false, ite_true, ite_false, List.length_cons, List.length_nil, ite_self, Nat.reduceAdd, Nat.reduceLeDiff, Nat.reduceLT, Nat.reduceMul, Int.reduceLT, Int.reduceLE, Int.reduceNeg, Int.reduceAdd, Int.reduceSub, Int.reduceMul, Int.reducePow, Int.reduceEq]
  rw [z_cons]
  simp only [BQ, q_ife, BZ, BO, BV, BL, tyN, mTy, List.replicate, List.getElem?_cons_zero, List.getElem?_cons_succ, List.set_cons_zero, List.set_cons_succ, List.map_cons, List.map_nil, List.cons_append, List.nil_append, List.all_cons, List.all_nil, Option.map_some, Option.map_none, Option.bind_some, Option.bind_none, if_true, if_false, ite_true, ite_false, List.length_cons, List.length_nil, ite_self, Nat.reduceAdd, Nat.reduceLeDiff, Nat.reduceLT, Nat.reduceMul, Int.reduceLT, Int.reduceLE, Int.reduceNeg, Int.reduceAdd, Int.reduceSub, Int.reduceMul, Int.reducePow, Int.reduceEq]
  by_cases w0 : i1 = 0
  · simp only [BQ, q_ife, BZ, BO, BV, BL, tyN, mTy, List.replicate, List.getElem?_cons_zero, List.getElem?_cons_succ, List.set_cons_zero, List.set_cons_succ, List.map_cons, List.map_nil, List.cons_append, List.nil_append, List.all_cons, List.all_nil, Option.map_some, Option.map_none, Option.bind_some, Option.bind_none, if_true, if_false, ite_true, ite_false, List.length_cons, List.length_nil, ite_self, Nat.reduceAdd, Nat.reduceLeDiff, Nat.reduceLT, Nat.reduceMul, Int.reduceLT, Int.reduceLE, Int.reduceNeg, Int.reduceAdd, Int.reduceSub, Int.reduceMul, Int.reducePow, Int.reduceEq, w0]
    rw [z_cons]
    simp only [BQ, q_ife, BZ, BO, BV, BL, tyN, mTy, List.replicate, List.getElem?_cons_zero, List.getElem?_cons_succ, List.set_cons_zero, List.set_cons_succ, List.map_cons, List.map_nil, List.cons_append, List.nil_append, List.all_cons, List.all_nil, Option.map_some, Option.map_none, Option.bind_some, Option.bind_none, if_true, if_false, ite_true, ite_false, List.length_cons, List.length_nil, ite_self, Nat.reduceAdd, Nat.reduceLeDiff, Nat.reduceLT, Nat.reduceMul, Int.reduceLT, Int.reduceLE, Int.reduceNeg, Int.reduceAdd, Int.reduceSub, Int.reduceMul, Int.reducePow, Int.reduceEq]
    refine (draw_N g (by omega) hA1 hc (by decide) (by omega)).wq ?_
    rintro _ A2 ⟨hA2, _, rfl, i2, rfl, j2, k2⟩
    simp only [BQ, q_ife, BZ, BO, BV, BL, tyN, mTy, List.replicate, List.getElem?_cons_zero, List.getElem?_cons_succ, List.set_cons_zero, List.set_cons_succ, List.map_cons, List.map_nil, List.cons_append, List.nil_append, List.all_cons, List.all_nil, Option.map_some, Option.map_none, Option.bind_some, Option.bind_none, if_true, if_false, ite_true, ite_false, List.length_cons, List.length_nil, ite_self, Nat.reduceAdd, Nat.reduceLeDiff, Nat.reduceLT, Nat.reduceMul, Int.reduceLT, Int.reduceLE, Int.reduceNeg, Int.reduceAdd, Int.reduceSub, Int.reduceMul, Int.reducePow, Int.reduceEq]
    refine ⟨by omega, ?_⟩
    have hlr : (rangeP 0 (1 + i2).toNat).length = (1 + i2).toNat := by simp [rangeP]
    refine fr_inv (I := grInv C rest b D) (i := 0) ⟨p, _, _, _, _, _, _, hp, hA2.mono (by omega), rfl⟩ (fun _ _ _ _ => rfl) ?_ ?_
    · rintro j q δ A' hj ⟨p', x, y, z, u, v, w, hp', hA', rfl⟩
      have hj6 : j < 6 := by
        have := (List.getElem?_eq_some_iff.mp hj).1
        rw [hlr] at this
        omega
      simp only [BQ, q_ife, BZ, BO, BV, BL, tyN, mTy, List.replicate, List.getElem?_cons_zero, List.getElem?_cons_succ, List.set_cons_zero, List.set_cons_succ, List.map_cons, List.map_nil, List.cons_append, List.nil_append, List.all_cons, List.all_nil, Option.map_some, Option.map_none, Option.bind_some, Option.bind_none, if_true, if_false, ite_true, ite_false, List.length_cons, List.length_nil, ite_self, Nat.reduceAdd, Nat.reduceLeDiff, Nat.reduceLT, Nat.reduceMul, Int.reduceLT, Int.reduceLE, Int.reduceNeg, Int.reduceAdd, Int.reduceSub, Int.reduceMul, Int.reducePow, Int.reduceEq]
      rw [z_cons]
      simp only [BQ, q_ife, BZ, BO, BV, BL, tyN, mTy, List.replicate, List.getElem?_cons_zero, List.getElem?_cons_succ, List.set_cons_zero, List.set_cons_succ, List.map_cons, List.map_nil, List.cons_append, List.nil_append, List.all_cons, List.all_nil, Option.map_some, Option.map_none, Option.bind_some, Option.bind_none, if_true, if_false, ite_true, ite_false, List.length_cons, List.length_nil, ite_self, Nat.reduceAdd, Nat.reduceLeDiff, Nat.reduceLT, Nat.reduceMul, Int.reduceLT, Int.reduceLE, Int.reduceNeg, Int.reduceAdd, Int.reduceSub, Int.reduceMul, Int.reducePow, Int.reduceEq]
      rw [z_cons]
      simp only [BQ, q_ife, BZ, BO, BV, BL, tyN, mTy, List.replicate, List.getElem?_cons_zero, List.getElem?_cons_succ, List.set_cons_zero, List.set_cons_succ, List.map_cons, List.map_nil, List.cons_append, List.nil_append, List.all_cons, List.all_nil, Option.map_some, Option.map_none, Option.bind_some, Option.bind_none, if_true, if_false, ite_true, ite_false, List.length_cons, List.length_nil, ite_self, Nat.reduceAdd, Nat.reduceLeDiff, Nat.reduceLT, Nat.reduceMul, Int.reduceLT, Int.reduceLE, Int.reduceNeg, Int.reduceAdd, Int.reduceSub, Int.reduceMul, Int.reducePow, Int.reduceEq]
      refine (one_N g (by omega) hA' hc ⟨by simp, by simp⟩ (by omega)).wq ?_
      rintro _ A3 ⟨hA3, p3, rfl, h3⟩
      simp only [BQ, q_ife, BZ, BO, BV, BL, tyN, mTy, List.replicate, List.getElem?_cons_zero, List.getElem?_cons_succ, List.set_cons_zero, List.set_cons_succ, List.map_cons, List.map_nil, List.cons_append, List.nil_append, List.all_cons, List.all_nil, Option.map_some, Option.map_none, Option.bind_some, Option.bind_none, if_true, if_false, ite_true, ite_false, List.length_cons, List.length_nil, ite_self, Nat.reduceAdd, Nat.reduceLeDiff, Nat.reduceLT, Nat.reduceMul, Int.reduceLT, Int.reduceLE, Int.reduceNeg, Int.reduceAdd, Int.reduceSub, Int.reduceMul, Int.reducePow, Int.reduceEq]
      refine ⟨p3, _, _, _, _, _, _, ?_, hA3.mono (by omega), rfl⟩
      have hp2 : Sd 30 (D + 3 * (0 + j)) p' := hp'
      simp only [List.mem_cons, List.not_mem_nil, or_false] at h3
      rcases h3 with rfl | rfl | rfl | rfl
      · refine (sd_tup (D := D + 3 * (0 + j)) (by simp) fun q hq => ?_).mono (Nat.le_refl _) (by omega)
        simp only [List.mem_cons, List.not_mem_nil, or_false] at hq
        rcases hq with rfl | rfl
        · exact sd_str (by decide)
        · exact hp2
      · refine (sd_tup (D := D + 3 * (0 + j) + 1) (by simp) fun q hq => ?_).mono (Nat.le_refl _) (by omega)
        simp only [List.mem_cons, List.not_mem_nil, or_false] at hq
        rcases hq with rfl | rfl | rfl
        · exact sd_str (by decide)
        · exact sd_any
        · exact hp2.mono (Nat.le_refl _) (by omega)
      · refine (sd_tup (D := D + 3 * (0 + j) + 2) (by simp) fun q hq => ?_).mono (Nat.le_refl _) (by omega)
        simp only [List.mem_cons, List.not_mem_nil, or_false] at hq
        rcases hq with rfl | rfl
        · exact sd_str (by decide)
        · refine sd_tup (by simp) fun q hq => ?_
          rw [List.mem_singleton.mp hq]
          refine sd_tup (by simp) fun q hq => ?_
          simp only [List.mem_cons, List.not_mem_nil, or_false] at hq
          rcases hq with rfl | rfl
          · exact sd_str (by decide)
          · exact hp2
      · refine (sd_tup (D := D + 3 * (0 + j) + 1) (by simp) fun q hq => ?_).mono (Nat.le_refl _) (by omega)
        simp only [List.mem_cons, List.not_mem_nil, or_false] at hq
        rcases hq with rfl | rfl | rfl
        · exact sd_str (by decide)
        · exact hp2.mono (Nat.le_refl _) (by omega)
        · exact sd_any
    · rintro δ A' ⟨p', x, y, z, u, v, w, hp', hA', rfl⟩
      rw [hlr] at hp' hA'
      simp only [BQ, q_ife, BZ, BO, BV, BL, tyN, mTy, List.replicate, List.getElem?_cons_zero, List.getElem?_cons_succ, List.set_cons_zero, List.set_cons_succ, List.map_cons, List.map_nil, List.cons_append, List.nil_append, List.all_cons, List.all_nil, Option.map_some, Option.map_none, Option.bind_some, Option.bind_none, if_true, if_false, ite_true, ite_false, List.length_cons, List.length_nil, ite_self, Nat.reduceAdd, Nat.reduceLeDiff, Nat.reduceLT, Nat.reduceMul, Int.reduceLT, Int.reduceLE, Int.reduceNeg, Int.reduceAdd, Int.reduceSub, Int.reduceMul, Int.reducePow, Int.reduceEq]
      rw [z_cons]
      simp only [BQ, q_ife, BZ, BO, BV, BL, tyN, mTy, List.replicate, List.getElem?_cons_zero, List.getElem?_cons_succ, List.set_cons_zero, List.set_cons_succ, List.map_cons, List.map_nil, List.cons_append, List.nil_append, List.all_cons, List.all_nil, Option.map_some, Option.map_none, Option.bind_some, Option.bind_none, if_true, if_false, ite_true, ite_false, List.length_cons, List.length_nil, ite_self, Nat.reduceAdd, Nat.reduceLeDiff, Nat.reduceLT, Nat.reduceMul, Int.reduceLT, Int.reduceLE, Int.reduceNeg, Int.reduceAdd, Int.reduceSub, Int.reduceMul, Int.reducePow, Int.reduceEq, leave_dr hA hA' hc]
      exact ⟨hA'.mono (by omega), p', rfl, hp'.mono (Nat.le_refl _) (by omega)⟩
  · simp only [BQ, q_ife, BZ, BO, BV, BL, tyN, mTy, List.replicate, List.getElem?_cons_zero, List.getElem?_cons_succ, List.set_cons_zero, List.set_cons_succ, List.map_cons, List.map_nil, List.cons_append, List.nil_append, List.all_cons, List.all_nil, Option.map_some, Option.map_none, Option.bind_some, Option.bind_none, if_true, if_false, ite_true, ite_false, List.length_cons, List.length_nil, ite_self, Nat.reduceAdd, Nat.reduceLeDiff, Nat.reduceLT, Nat.reduceMul, Int.reduceLT, Int.reduceLE, Int.reduceNeg, Int.reduceAdd, Int.reduceSub, Int.reduceMul, Int.reducePow, Int.reduceEq, w0]
    rw [z_cons]
    simp only [BQ, q_ife, BZ, BO, BV, BL, tyN, mTy, List.replicate, List.getElem?_cons_zero, List.getElem?_cons_succ, List.set_cons_zero, List.set_cons_succ, List.map_cons, List.map_nil, List.cons_append, List.nil_append, List.all_cons, List.all_nil, Option.map_some, Option.map_none, Option.bind_some, Option.bind_none, if_true, if_false, ite_true, ite_false, List.length_cons, List.length_nil, ite_self, Nat.reduceAdd, Nat.reduceLeDiff, Nat.reduceLT, Nat.reduceMul, Int.reduceLT, Int.reduceLE, Int.reduceNeg, Int.reduceAdd, Int.reduceSub, Int.reduceMul, Int.reducePow, Int.reduceEq]
    by_cases w1 : i1 = 1
    · simp only [BQ, q_ife, BZ, BO, BV, BL, tyN, mTy, List.replicate, List.getElem?_cons_zero, List.getElem?_cons_succ, List.set_cons_zero, List.set_cons_succ, List.map_cons, List.map_nil, List.cons_append, List.nil_append, List.all_cons, List.all_nil, Option.map_some, Option.map_none, Option.bind_some, Option.bind_none, if_true, if_false, ite_true, ite_false, List.length_cons, List.length_nil, ite_self, Nat.reduceAdd, Nat.reduceLeDiff, Nat.reduceLT, Nat.reduceMul, Int.reduceLT, Int.reduceLE, Int.reduceNeg, Int.reduceAdd, Int.reduceSub, Int.reduceMul, Int.reducePow, Int.reduceEq, w1]
      rw [z_cons]
      simp only [BQ, q_ife, BZ, BO, BV, BL, tyN, mTy, List.replicate, List.getElem?_cons_zero, List.getElem?_cons_succ, List.set_cons_zero, List.set_cons_succ, List.map_cons, List.map_nil, List.cons_append, List.nil_append, List.all_cons, List.all_nil, Option.map_some, Option.map_none, Option.bind_some, Option.bind_none, if_true, if_false, ite_true, ite_false, List.length_cons, List.length_nil, ite_self, Nat.reduceAdd, Nat.reduceLeDiff, Nat.reduceLT, Nat.reduceMul, Int.reduceLT, Int.reduceLE, Int.reduceNeg, Int.reduceAdd, Int.reduceSub, Int.reduceMul, Int.reducePow, Int.reduceEq]
      refine (one_N g (by omega) hA1 hc ⟨by simp, by simp⟩ (by omega)).wq ?_
      rintro _ A2 ⟨hA2, p2, rfl, h2⟩
      simp only [BQ, q_ife, BZ, BO, BV, BL, tyN, mTy, List.replicate, List.getElem?_cons_zero, List.getElem?_cons_succ, List.set_cons_zero, List.set_cons_succ, List.map_cons, List.map_nil, List.cons_append, List.nil_append, List.all_cons, List.all_nil, Option.map_some, Option.map_none, Option.bind_some, Option.bind_none, if_true, if_false, ite_true, ite_false, List.length_cons, List.length_nil, ite_self, Nat.reduceAdd, Nat.reduceLeDiff, Nat.reduceLT, Nat.reduceMul, Int.reduceLT, Int.reduceLE, Int.reduceNeg, Int.reduceAdd, Int.reduceSub, Int.reduceMul, Int.reducePow, Int.reduceEq, leave_dr hA hA2 hc]
      refine ⟨hA2.mono (by omega), p2, rfl, ?_⟩
      have two : ∀ {t : Str} {x y : PyData} {F : Nat}, t.length ≤ 1000 → Sd 30 F x → Sd 30 F y → Sd 30 (F + 1) (.tuple [.str t, x, y]) := fun {t x y F} h1 h2 h3 => by
        refine sd_tup (by simp) fun q hq => ?_
        simp only [List.mem_cons, List.not_mem_nil, or_false] at hq
        rcases hq with rfl | rfl | rfl
        · exact sd_str h1
        · exact h2
        · exact h3
      simp only [List.mem_cons, List.not_mem_nil, or_false] at h2
      rcases h2 with rfl | rfl | rfl
      · exact (two (by decide) hp hp).mono (Nat.le_refl _) (by omega)
      · refine (two (F := D + 1) (by decide) (hp.mono (Nat.le_refl _) (by omega)) ?_).mono (Nat.le_refl _) (by omega)
        refine sd_tup (by simp) fun q hq => ?_
        simp only [List.mem_cons, List.not_mem_nil, or_false] at hq
        rcases hq with rfl | rfl
        · exact sd_str (by decide)
        · exact hp
      · exact (two (F := D + 1) (by decide) (hp.mono (Nat.le_refl _) (by omega)) (two (by decide) hp hp)).mono (Nat.le_refl _) (by omega)
    · simp only [BQ, q_ife, BZ, BO, BV, BL, tyN, mTy, List.replicate, List.getElem?_cons_zero, List.getElem?_cons_succ, List.set_cons_zero, List.set_cons_succ, List.map_cons, List.map_nil, List.cons_append, List.nil_append, List.all_cons, List.all_nil, Option.map_some, Option.map_none, Option.bind_some, Option.bind_none, if_true, if_false, ite_true, ite_false, List.length_cons, List.length_nil, ite_self, Nat.reduceAdd, Nat.reduceLeDiff, Nat.reduceLT, Nat.reduceMul, Int.reduceLT, Int.reduceLE, Int.reduceNeg, Int.reduceAdd, Int.reduceSub, Int.reduceMul, Int.reducePow, Int.reduceEq, w1]
      rw [z_cons]
      simp only [BQ, q_ife, BZ, BO, BV, BL, tyN, mTy, List.replicate, List.getElem?_cons_zero, List.getElem?_cons_succ, List.set_cons_zero, List.set_cons_succ, List.map_cons, List.map_nil, List.cons_append, List.nil_append, List.all_cons, List.all_nil, Option.map_some, Option.map_none, Option.bind_some, Option.bind_none, if_true, if_false, ite_true, ite_false, List.length_cons, List.length_nil, ite_self, Nat.reduceAdd, Nat.reduceLeDiff, Nat.reduceLT, Nat.reduceMul, Int.reduceLT, Int.reduceLE, Int.reduceNeg, Int.reduceAdd, Int.reduceSub, Int.reduceMul, Int.reducePow, Int.reduceEq]
      rw [z_cons]
      simp only [BQ, q_ife, BZ, BO, BV, BL, tyN, mTy, List.replicate, List.getElem?_cons_zero, List.getElem?_cons_succ, List.set_cons_zero, List.set_cons_succ, List.map_cons, List.map_nil, List.cons_append, List.nil_append, List.all_cons, List.all_nil, Option.map_some, Option.map_none, Option.bind_some, Option.bind_none, if_true, if_false, ite_true, ite_false, List.length_cons, List.length_nil, ite_self, Nat.reduceAdd, Nat.reduceLeDiff, Nat.reduceLT, Nat.reduceMul, Int.reduceLT, Int.reduceLE, Int.reduceNeg, Int.reduceAdd, Int.reduceSub, Int.reduceMul, Int.reducePow, Int.reduceEq]
      refine (draw_N g (by omega) hA1 hc (by decide) (by omega)).wq ?_
      rintro _ A2 ⟨hA2, _, rfl, i2, rfl, j2, k2⟩
      simp only [BQ, q_ife, BZ, BO, BV, BL, tyN, mTy, List.replicate, List.getElem?_cons_zero, List.getElem?_cons_succ, List.set_cons_zero, List.set_cons_succ, List.map_cons, List.map_nil, List.cons_append, List.nil_append, List.all_cons, List.all_nil, Option.map_some, Option.map_none, Option.bind_some, Option.bind_none, if_true, if_false, ite_true, ite_false, List.length_cons, List.length_nil, ite_self, Nat.reduceAdd, Nat.reduceLeDiff, Nat.reduceLT, Nat.reduceMul, Int.reduceLT, Int.reduceLE, Int.reduceNeg, Int.reduceAdd, Int.reduceSub, Int.reduceMul, Int.reducePow, Int.reduceEq]
      rw [z_cons]
      simp only [BQ, q_ife, BZ, BO, BV, BL, tyN, mTy, List.replicate, List.getElem?_cons_zero, List.getElem?_cons_succ, List.set_cons_zero, List.set_cons_succ, List.map_cons, List.map_nil, List.cons_append, List.nil_append, List.all_cons, List.all_nil, Option.map_some, Option.map_none, Option.bind_some, Option.bind_none, if_true, if_false, ite_true, ite_false, List.length_cons, List.length_nil, ite_self, Nat.reduceAdd, Nat.reduceLeDiff, Nat.reduceLT, Nat.reduceMul, Int.reduceLT, Int.reduceLE, Int.reduceNeg, Int.reduceAdd, Int.reduceSub, Int.reduceMul, Int.reducePow, Int.reduceEq]
      by_cases w2 : i1 = 2
      · simp only [BQ, q_ife, BZ, BO, BV, BL, tyN, mTy, List.replicate, List.getElem?_cons_zero, List.getElem?_cons_succ, List.set_cons_zero, List.set_cons_succ, List.map_cons, List.map_nil, List.cons_append, List.nil_append, List.all_cons, List.all_nil, Option.map_some, Option.map_none, Option.bind_some, Option.bind_none, if_true, if_false, ite_true, ite_false, List.length_cons, List.length_nil, ite_self, Nat.reduceAdd, Nat.reduceLeDiff, Nat.reduceLT, Nat.reduceMul, Int.reduceLT, Int.reduceLE, Int.reduceNeg, Int.reduceAdd, Int.reduceSub, Int.reduceMul, Int.reducePow, Int.reduceEq, w2]
        rw [z_cons]
        simp only [BQ, q_ife, BZ, BO, BV, BL, tyN, mTy, List.replicate, List.getElem?_cons_zero, List.getElem?_cons_succ, List.set_cons_zero, List.set_cons_succ, List.map_cons, List.map_nil, List.cons_append, List.nil_append, List.all_cons, List.all_nil, Option.map_some, Option.map_none, Option.bind_some, Option.bind_none, if_true, if_false, ite_true, ite_false, List.length_cons, List.length_nil, ite_self, Nat.reduceAdd, Nat.reduceLeDiff, Nat.reduceLT, Nat.reduceMul, Int.reduceLT, Int.reduceLE, Int.reduceNeg, Int.reduceAdd, Int.reduceSub, Int.reduceMul, Int.reducePow, Int.reduceEq]
        refine ⟨by omega, ?_⟩
        have hlr : (rangeP 0 (20 + i2).toNat).length = (20 + i2).toNat := by simp [rangeP]
        refine (lc_inv (I := fun _ A' => A' = A2) (Q := Sd 30 (D + 2)) (i := 0) rfl (fun _ _ _ => rfl) (fun j q A' hq _ hj hI => ?_)).wq ?_
        · subst hI
          unfold rangeP at hq
          obtain ⟨k, hk, rfl⟩ := List.mem_map.mp hq
          have hk := List.mem_range.mp hk
          obtain ⟨x, hx, ex⟩ := letter (A := A') (k := 0 + (k : Int)) (by omega) (by omega)
          apply wq.ret
          simp only [BQ, q_ife, BZ, BO, BV, BL, tyN, mTy, List.replicate, List.getElem?_cons_zero, List.getElem?_cons_succ, List.set_cons_zero, List.set_cons_succ, List.map_cons, List.map_nil, List.cons_append, List.nil_append, List.all_cons, List.all_nil, Option.map_some, Option.map_none, Option.bind_some, Option.bind_none, if_true, if_false, ite_true, ite_false, List.length_cons, List.length_nil, ite_self, Nat.reduceAdd, Nat.reduceLeDiff, Nat.reduceLT, Nat.reduceMul, Int.reduceLT, Int.reduceLE, Int.reduceNeg, Int.reduceAdd, Int.reduceSub, Int.reduceMul, Int.reducePow, Int.reduceEq, ex]
          by_cases hz : 0 + (k : Int) = 20 + i2 - 1
          · simp only [BQ, q_ife, BZ, BO, BV, BL, tyN, mTy, List.replicate, List.getElem?_cons_zero, List.getElem?_cons_succ, List.set_cons_zero, List.set_cons_succ, List.map_cons, List.map_nil, List.cons_append, List.nil_append, List.all_cons, List.all_nil, Option.map_some, Option.map_none, Option.bind_some, Option.bind_none, if_true, if_false, ite_true, ite_false, List.length_cons, List.length_nil, ite_self, Nat.reduceAdd, Nat.reduceLeDiff, Nat.reduceLT, Nat.reduceMul, Int.reduceLT, Int.reduceLE, Int.reduceNeg, Int.reduceAdd, Int.reduceSub, Int.reduceMul, Int.reducePow, Int.reduceEq, hz, at1]
            refine ⟨_, rfl, ?_⟩
            refine (sd_tup (D := D + 1) (by simp) fun q hq => ?_)
            simp only [List.mem_cons, List.not_mem_nil, or_false] at hq
            rcases hq with rfl | rfl
            · exact sd_str hx
            · exact hp.mono (Nat.le_refl _) (by omega)
          · simp only [BQ, q_ife, BZ, BO, BV, BL, tyN, mTy, List.replicate, List.getElem?_cons_zero, List.getElem?_cons_succ, List.set_cons_zero, List.set_cons_succ, List.map_cons, List.map_nil, List.cons_append, List.nil_append, List.all_cons, List.all_nil, Option.map_some, Option.map_none, Option.bind_some, Option.bind_none, if_true, if_false, ite_true, ite_false, List.length_cons, List.length_nil, ite_self, Nat.reduceAdd, Nat.reduceLeDiff, Nat.reduceLT, Nat.reduceMul, Int.reduceLT, Int.reduceLE, Int.reduceNeg, Int.reduceAdd, Int.reduceSub, Int.reduceMul, Int.reducePow, Int.reduceEq, hz, at0]
            refine ⟨_, rfl, ?_⟩
            refine (sd_tup (D := D + 1) (by simp) fun q hq => ?_)
            simp only [List.mem_cons, List.not_mem_nil, or_false] at hq
            rcases hq with rfl | rfl
            · exact sd_str hx
            · exact sd_any
        · rintro rs A' ⟨rfl, l3, h3⟩
          rw [hlr] at l3
          refine ⟨by omega, ?_⟩
          simp only [BQ, q_ife, BZ, BO, BV, BL, tyN, mTy, List.replicate, List.getElem?_cons_zero, List.getElem?_cons_succ, List.set_cons_zero, List.set_cons_succ, List.map_cons, List.map_nil, List.cons_append, List.nil_append, List.all_cons, List.all_nil, Option.map_some, Option.map_none, Option.bind_some, Option.bind_none, if_true, if_false, ite_true, ite_false, List.length_cons, List.length_nil, ite_self, Nat.reduceAdd, Nat.reduceLeDiff, Nat.reduceLT, Nat.reduceMul, Int.reduceLT, Int.reduceLE, Int.reduceNeg, Int.reduceAdd, Int.reduceSub, Int.reduceMul, Int.reducePow, Int.reduceEq, leave_dr hA hA2 hc]
          refine ⟨hA2.mono (by omega), _, rfl, ?_⟩
          refine (sd_tup (D := D + 3) (by simp) fun q hq => ?_).mono (Nat.le_refl _) (by omega)
          simp only [List.mem_cons, List.not_mem_nil, or_false] at hq
          rcases hq with rfl | rfl
          · exact sd_str (by decide)
          · exact sd_tup (by omega) h3
      · simp only [BQ, q_ife, BZ, BO, BV, BL, tyN, mTy, List.replicate, List.getElem?_cons_zero, List.getElem?_cons_succ, List.set_cons_zero, List.set_cons_succ, List.map_cons, List.map_nil, List.cons_append, List.nil_append, List.all_cons, List.all_nil, Option.map_some, Option.map_none, Option.bind_some, Option.bind_none, if_true, if_false, ite_true, ite_false, List.length_cons, List.length_nil, ite_self, Nat.reduceAdd, Nat.reduceLeDiff, Nat.reduceLT, Nat.reduceMul, Int.reduceLT, Int.reduceLE, Int.reduceNeg, Int.reduceAdd, Int.reduceSub, Int.reduceMul, Int.reducePow, Int.reduceEq, w2]
        rw [z_cons]
        simp only [BQ, q_ife, BZ, BO, BV, BL, tyN, mTy, List.replicate, List.getElem?_cons_zero, List.getElem?_cons_succ, List.set_cons_zero, List.set_cons_succ, List.map_cons, List.map_nil, List.cons_append, List.nil_append, List.all_cons, List.all_nil, Option.map_some, Option.map_none, Option.bind_some, Option.bind_none, if_true, if_false, ite_true, ite_false, List.length_cons, List.length_nil, ite_self, Nat.reduceAdd, Nat.reduceLeDiff, Nat.reduceLT, Nat.reduceMul, Int.reduceLT, Int.reduceLE, Int.reduceNeg, Int.reduceAdd, Int.reduceSub, Int.reduceMul, Int.reducePow, Int.reduceEq]
        rw [z_cons]
        simp only [BQ, q_ife, BZ, BO, BV, BL, tyN, mTy, List.replicate, List.getElem?_cons_zero, List.getElem?_cons_succ, List.set_cons_zero, List.set_cons_succ, List.map_cons, List.map_nil, List.cons_append, List.nil_append, List.all_cons, List.all_nil, Option.map_some, Option.map_none, Option.bind_some, Option.bind_none, if_true, if_false, ite_true, ite_false, List.length_cons, List.length_nil, ite_self, Nat.reduceAdd, Nat.reduceLeDiff, Nat.reduceLT, Nat.reduceMul, Int.reduceLT, Int.reduceLE, Int.reduceNeg, Int.reduceAdd, Int.reduceSub, Int.reduceMul, Int.reducePow, Int.reduceEq]
        refine (draw_N g (by omega) hA2 hc (by decide) (by omega)).wq ?_
        rintro _ A3 ⟨hA3, _, rfl, i3, rfl, j3, k3⟩
        simp only [BQ, q_ife, BZ, BO, BV, BL, tyN, mTy, List.replicate, List.getElem?_cons_zero, List.getElem?_cons_succ, List.set_cons_zero, List.set_cons_succ, List.map_cons, List.map_nil, List.cons_append, List.nil_append, List.all_cons, List.all_nil, Option.map_some, Option.map_none, Option.bind_some, Option.bind_none, if_true, if_false, ite_true, ite_false, List.length_cons, List.length_nil, ite_self, Nat.reduceAdd, Nat.reduceLeDiff, Nat.reduceLT, Nat.reduceMul, Int.reduceLT, Int.reduceLE, Int.reduceNeg, Int.reduceAdd, Int.reduceSub, Int.reduceMul, Int.reducePow, Int.reduceEq]
        refine ⟨by omega, ?_⟩
        have hlr : (rangeP 0 (2 + i3).toNat).length = (2 + i3).toNat := by simp [rangeP]
        refine (lc_inv (I := fun _ A' => A' = A3) (Q := Sd 30 (D + 3)) (i := 0) rfl (fun _ _ _ => rfl) (fun j q A' hq _ hj hI => ?_)).wq ?_
        · subst hI
          unfold rangeP at hq
          obtain ⟨k, hk, rfl⟩ := List.mem_map.mp hq
          have hk := List.mem_range.mp hk
          obtain ⟨x, hx, ex⟩ := letter (A := A') (k := 0 + (k : Int)) (by omega) (by omega)
          apply wq.ret
          simp only [BQ, q_ife, BZ, BO, BV, BL, tyN, mTy, List.replicate, List.getElem?_cons_zero, List.getElem?_cons_succ, List.set_cons_zero, List.set_cons_succ, List.map_cons, List.map_nil, List.cons_append, List.nil_append, List.all_cons, List.all_nil, Option.map_some, Option.map_none, Option.bind_some, Option.bind_none, if_true, if_false, ite_true, ite_false, List.length_cons, List.length_nil, ite_self, Nat.reduceAdd, Nat.reduceLeDiff, Nat.reduceLT, Nat.reduceMul, Int.reduceLT, Int.reduceLE, Int.reduceNeg, Int.reduceAdd, Int.reduceSub, Int.reduceMul, Int.reducePow, Int.reduceEq, ex]
          refine ⟨_, rfl, ?_⟩
          refine (sd_tup (D := D + 2) (by simp) fun q hq => ?_)
          simp only [List.mem_cons, List.not_mem_nil, or_false] at hq
          rcases hq with rfl | rfl
          · exact sd_str hx
          · exact sd_fun
        · rintro rs A' ⟨rfl, l3, h3⟩
          rw [hlr] at l3
          refine ⟨by omega, by omega, ?_⟩
          simp only [BQ, q_ife, BZ, BO, BV, BL, tyN, mTy, List.replicate, List.getElem?_cons_zero, List.getElem?_cons_succ, List.set_cons_zero, List.set_cons_succ, List.map_cons, List.map_nil, List.cons_append, List.nil_append, List.all_cons, List.all_nil, Option.map_some, Option.map_none, Option.bind_some, Option.bind_none, if_true, if_false, ite_true, ite_false, List.length_cons, List.length_nil, ite_self, Nat.reduceAdd, Nat.reduceLeDiff, Nat.reduceLT, Nat.reduceMul, Int.reduceLT, Int.reduceLE, Int.reduceNeg, Int.reduceAdd, Int.reduceSub, Int.reduceMul, Int.reducePow, Int.reduceEq, leave_dr hA hA3 hc]
          refine ⟨hA3.mono (by omega), _, rfl, ?_⟩
          refine (sd_tup (D := D + 4) (by simp) fun q hq => ?_).mono (Nat.le_refl _) (by omega)
          simp only [List.mem_cons, List.not_mem_nil, or_false] at hq
          rcases hq with rfl | rfl
          · exact sd_str (by decide)
          · refine sd_tup (by rw [List.length_append]; simp only [List.length_cons, List.length_nil]; omega) fun q hq => ?_
            rcases List.mem_append.mp hq with u | u
            · exact h3 q u
            · rw [List.mem_singleton.mp u]
              refine (sd_tup (D := D) (by simp) fun q hq => ?_).mono (Nat.le_refl _) (by omega)
              simp only [List.mem_cons, List.not_mem_nil, or_false] at hq
              rcases hq with rfl | rfl
              · exact sd_str (by decide)
              · exact hp
end
end Kg
set_option Elab.async false
set_option linter.all false
set_option maxRecDepth 100000
set_option maxHeartbeats 4000000
/-! K01: the text as compact terms (printed by mip.py). -/
namespace K01
open PySem L2 Mi

def P : Program := PySem.Challenge.pw_setkinds_k01_kinds_looked_at
def st (i : Nat) : Stmt := P.main.body.getD i (.Pass ⟨0, 0, 0, 0⟩)
def cs (i j : Nat) : Stmt := match st i with
  | .ClassDef _ _ _ body _ _ _ _ _ _ _ => body.getD j (.Pass ⟨0, 0, 0, 0⟩)
  | _ => .Pass ⟨0, 0, 0, 0⟩

def t_is_number : Tx := ⟨"is_number", st 15, ["thing"], ["thing"], Kg.b_is_number, false, []⟩
def t_is_name : Tx := ⟨"is_name", st 16, ["thing"], ["thing", "letter"], Kg.b_is_name, false, []⟩
def t_is_bound : Tx := ⟨"is_bound", st 17, ["thing"], ["thing"], Kg.b_is_bound, false, []⟩
def t_are_bounds : Tx := ⟨"are_bounds", st 18, ["low", "high"], ["low", "high"], Kg.b_are_bounds, false, []⟩
def t_are_fields : Tx := ⟨"are_fields", st 19, ["thing"], ["thing", "ahead", "pair"], Kg.b_are_fields, false, []⟩
def t_has_form : Tx := ⟨"has_form", st 20, ["thing"], ["thing"], Kg.b_has_form, false, []⟩
def t_own_parts : Tx := ⟨"own_parts", st 21, ["kind"], ["kind", "label", "part"], Kg.b_own_parts, false, []⟩
def t_walked : Tx := ⟨"walked", st 22, ["thing"], ["thing", "found", "funs", "left", "some", "way", "part", "number"], Kg.b_walked, false, []⟩
def t_need_kind : Tx := ⟨"need_kind", st 23, ["thing"], ["thing"], Kg.b_need_kind, false, []⟩
def t_is_kind : Tx := ⟨"is_kind", st 24, ["thing"], ["thing"], Kg.b_is_kind, false, []⟩
def t__law_mixed : Tx := ⟨"_law_mixed", st 26, ["_law_cell", "_law_k"], ["_law_cell", "_law_k", "_law_number_here"], Kg.b__law_mixed, false, []⟩
def t__law_begun : Tx := ⟨"_law_begun", st 27, ["_law_script"], ["_law_script", "_law_cell"], Kg.b__law_begun, true, []⟩
def t__law_draw : Tx := ⟨"_law_draw", st 28, ["_law_state", "_law_many"], ["_law_state", "_law_many", "_law_k", "_law_at", "_law_number_here"], Kg.b__law_draw, false, []⟩
def t__law_one : Tx := ⟨"_law_one", st 29, ["_law_state", "_law_things"], ["_law_state", "_law_things"], Kg.b__law_one, false, []⟩
def t__law_word : Tx := ⟨"_law_word", st 30, ["_law_state"], ["_law_state", "_law_letters", "_law_k"], Kg.b__law_word, false, []⟩
def t__law_number : Tx := ⟨"_law_number", st 31, ["_law_state"], ["_law_state", "_law_great", "_law_number_here"], Kg.b__law_number, false, []⟩
def t__law_stretch : Tx := ⟨"_law_stretch", st 32, ["_law_state"], ["_law_state", "_law_near", "_law_one_here", "_law_other", "_law_least", "_law_most"], Kg.b__law_stretch, false, []⟩
def t__law_own : Tx := ⟨"_law_own", st 33, ["_law_kind_here"], ["_law_kind_here", "_law_label", "_law_part"], Kg.b__law_own, false, []⟩
def t__law_walk : Tx := ⟨"_law_walk", st 34, ["_law_kind_here"], ["_law_kind_here", "_law_found", "_law_number_here", "_law_part", "_law_way", "_law_inner"], Kg.b__law_walk, false, []⟩
def t__law_fits : Tx := ⟨"_law_fits", st 35, ["_law_kind_here"], ["_law_kind_here", "_law_parts", "_law_funs", "_law_way", "_law_part"], Kg.b__law_fits, false, []⟩
def t__law_fields : Tx := ⟨"_law_fields", st 36, ["_law_state", "_law_deep", "_law_many"], ["_law_state", "_law_deep", "_law_many", "_law_found", "_law_k", "_law_label"], Kg.b__law_fields, false, []⟩
def t__law_built : Tx := ⟨"_law_built", st 37, ["_law_state", "_law_deep"], ["_law_state", "_law_deep", "_law_way", "_law_some", "_law_left"], Kg.b__law_built, false, []⟩
def t__law_kind : Tx := ⟨"_law_kind", st 38, ["_law_state"], ["_law_state", "_law_kind_here"], Kg.b__law_kind, false, []⟩
def t__law_is_name : Tx := ⟨"_law_is_name", st 39, ["_law_thing"], ["_law_thing", "_law_sign"], Kg.b__law_is_name, false, []⟩
def t__law_are_fields : Tx := ⟨"_law_are_fields", st 40, ["_law_thing"], ["_law_thing", "_law_labels", "_law_pair", "_law_label"], Kg.b__law_are_fields, false, []⟩
def t__law_has_form : Tx := ⟨"_law_has_form", st 41, ["_law_thing"], ["_law_thing", "_law_longs", "_law_bound"], Kg.b__law_has_form, false, []⟩
def t__law_place : Tx := ⟨"_law_place", st 42, ["_law_thing"], ["_law_thing", "_law_left", "_law_met", "_law_funs", "_law_some", "_law_way", "_law_part", "_law_k"], Kg.b__law_place, false, []⟩
def t__law_bent : Tx := ⟨"_law_bent", st 43, ["_law_state", "_law_thing"], ["_law_state", "_law_thing", "_law_odd", "_law_at", "_law_way"], Kg.b__law_bent, false, []⟩
def t__law_grown : Tx := ⟨"_law_grown", st 44, ["_law_state", "_law_kind_here"], ["_law_state", "_law_kind_here", "_law_way", "_law_letters", "_law_many", "_law_tables", "_law_k", "_law_some"], Kg.b__law_grown, false, []⟩
def t__law_refused : Tx := ⟨"_law_refused", st 45, ["_law_deed"], ["_law_deed", "_law_caught", "error", "_law_names", "_law_words", "_law_word_here", "_law_is_it"], Kg.b__law_refused, false, []⟩
def t__law_right : Tx := ⟨"_law_right", st 46, ["_law_thing"], ["_law_thing", "_law_place_here"], Kg.b__law_right, false, ["_law_refused"]⟩
def t__law_deep_right : Tx := ⟨"_law_deep_right", st 47, ["_law_kind_here"], ["_law_kind_here", "_law_k", "_law_odd", "_law_deep", "_law_wide", "_law_tables", "_law_thing"], Kg.b__law_deep_right, false, []⟩
def t_law : Tx := ⟨"law", st 48, ["_law_script"], ["_law_script", "_law_state", "_law_turn", "_law_kind_here", "_law_bent_here", "_law_grown_here", "_law_thing"], Kg.b_law, false, []⟩
def ds : Ds where
  sub := mkSub [("BadKind", "ValueError"), ("BadWorth", "ValueError"), ("BadText", "ValueError"), ("BadClaim", "ValueError"), ("BadPaper", "ValueError"), ("BadQuestion", "ValueError"), ("NoDerivation", "LookupError")]
  fld := [("BadKind", ["place"]), ("BadWorth", ["place"]), ("BadText", ["place"]), ("BadClaim", ["place"]), ("BadPaper", ["place"]), ("BadQuestion", []), ("NoDerivation", ["worth"])]
  cls := ["BadKind", "BadWorth", "BadText", "BadClaim", "BadPaper", "BadQuestion", "NoDerivation"]
  gc := [("SMALL", (.str "abcdefghijklmnopqrstuvwxyz")), ("MOST_LETTERS", (.int 8)), ("MOST_PARTS", (.int 24)), ("MOST_FUNS", (.int 4)), ("MOST_WITHIN", (.int 5))]
  kd := [("LENGTHS", [("any", (.int 1)), ("none", (.int 1)), ("num", (.int 3)), ("name", (.int 2)), ("names", (.int 1)), ("rec", (.int 2)), ("fun", (.int 3)), ("and", (.int 3)), ("or", (.int 3)), ("not", (.int 2))])]
  xc := [("BadKind", "place")]
  lim := 1000
def ts : List Tx := [t_is_number, t_is_name, t_is_bound, t_are_bounds, t_are_fields, t_has_form, t_own_parts, t_walked, t_need_kind, t_is_kind, t__law_mixed, t__law_begun, t__law_draw, t__law_one, t__law_word, t__law_number, t__law_stretch, t__law_own, t__law_walk, t__law_fits, t__law_fields, t__law_built, t__law_kind, t__law_is_name, t__law_are_fields, t__law_has_form, t__law_place, t__law_bent, t__law_grown, t__law_refused, t__law_right, t__law_deep_right, t_law]
def xi : List Xi := [⟨"BadKind", "place", cs 1 0, ["self", "place"]⟩]
def L : Lw := ⟨ds, ts, xi⟩
theorem chk : (L.ts.all fun t => Tx.B L.n t) = true := by decide +kernel
theorem stat : L.stat "_law_script" = true := by decide +kernel
end K01
namespace K01
open PySem PySem.W PySem.Calls PyProof.Rows L2 Mi
set_option maxHeartbeats 0
abbrev R : PySem.W.OpenRow := PySem.W.OpenLaw.row PySem.Challenge.rw_setkinds_k01_kinds_looked_at
def nm0 : List PySem.Str := ["BadKind", "BadWorth", "BadText", "BadClaim", "BadPaper", "BadQuestion", "NoDerivation", "SMALL", "MOST_LETTERS", "MOST_PARTS", "MOST_FUNS", "MOST_WITHIN", "LENGTHS", "is_number", "is_name", "is_bound", "are_bounds", "are_fields", "has_form", "own_parts", "walked", "need_kind", "is_kind", "_law_mixed", "_law_begun", "_law_draw", "_law_one", "_law_word", "_law_number", "_law_stretch"]
def nm1 : List PySem.Str := ["_law_own", "_law_walk", "_law_fits", "_law_fields", "_law_built", "_law_kind", "_law_is_name", "_law_are_fields", "_law_has_form", "_law_place", "_law_bent", "_law_grown", "_law_refused", "_law_right", "_law_deep_right"]
def loose : List PySem.Str := nm0 ++ nm1
abbrev hk : PySem.W.Hook := L.hk 6
def ob (s : PySem.W.SharedT) : He.AlX := He.obsX 6 L.fa L.fn L.tb (mkrD L.ts) L.ex (HandSHeadRun.getT s)
theorem ob_eq (s : PySem.W.SharedT) : ob s = hk.obs s.abs := He.obsX_eq (HandSHeadRun.getT_eq s)
theorem run (w : World) : HandSHeadRun.RunEq R (PySem.W.view R.prog [48]) hk ob 6000 loose w := by
  revert w
  refine PySem.W.byRow2 "special-get-raises" (fun w => ?_) (fun w => ?_)
  · intro os
    kernel_rfl
  · intro os
    kernel_rfl
theorem from_key (key : ∀ ns : List Int, ns.length ≤ 63 → (∀ z ∈ ns, Builtin.Int.intBits z ≤ 1048576) → ∃ A', Mi.callN L.pr 70 "law" [.d (.list (ns.map .int))] [] = some (.ok (.val (.d (.bool true))), A')) : PySem.Challenge.rw_setkinds_k01_kinds_looked_at.Holds := by
  w_on; o_law
  refine HandSHeadRun.head_any (r := OpenLaw.row PySem.Challenge.rw_setkinds_k01_kinds_looked_at) (q := view (OpenLaw.row PySem.Challenge.rw_setkinds_k01_kinds_looked_at).prog [48]) (H := hk) (ob := ob) (M := 6000) (loose := loose) (d := HandSHeadRun.topDef (OpenLaw.row PySem.Challenge.rw_setkinds_k01_kinds_looked_at).prog 48) (kwd := []) ob_eq
    (by kernel_rfl) (fun s => by kernel_rfl) run (by kernel_rfl) (by kernel_rfl) (by kernel_rfl) (by rfl) (by first | assumption | decide +kernel) (by decide +kernel) ⟨rfl, rfl, rfl, rfl, rfl, by decide +kernel⟩ ?hw ?hc
  case hw => w_witness2
  case hc => exact Mi.Lw.walk (L := L) (lv := 70) (x := "_law_script") rfl (by kernel_rfl) (by kernel_rfl) ⟨rfl, by decide, by decide⟩ stat (fun t ht => List.all_eq_true.mp chk t ht) key
end K01
set_option Elab.async false
set_option linter.all false
set_option maxRecDepth 100000
set_option maxHeartbeats 1000000
/-! K01m: the law k01. -/
namespace Kg
open PySem L2 Mi TL
def fBegun : Fn := ⟨"_law_begun", 1, 2, b__law_begun, true⟩
def left0 (C : List Int) : List Int := C.map fun c => if 1000000000000000000 ≤ c then c else 0
section
variable {P : Pr} {n N : Nat} {C : List Int} {b : Int} {rest A : Hs} {Φ : R → Hs → Prop} {E : Str → List (Str × PyData) → Hs → Prop}
theorem sd_put0 {C : List Int} : putAllU [] (([.inr "cells", .inr "left", .inr "at"] : List Key).zip [.d (.list (C.map .int)), .obj 0, .d (.int 0)]) = sd C 0 := rfl
theorem begun_q (h : fnd P.tab "_law_begun" = some fBegun) (hC : C.length ≤ 1000) : wq (callN P (n + 1) "_law_begun" [.d (.list (C.map .int))]) [] Φ E = Φ (.new (.dK (sd C 0))) [.lst ((left0 C).map .int)] := by
  rw [wq_call h rfl]
  simp only [fBegun, b__law_begun]
  rw [z_cons]
  simp only [BQ, q_ife, BZ, BO, BV, BL, tyN, mTy, List.replicate, List.getElem?_cons_zero, List.getElem?_cons_succ, List.set_cons_zero, List.set_cons_succ, List.map_cons, List.map_nil, List.cons_append, List.nil_append, List.all_cons, List.all_nil, Option.map_some, Option.map_none, Option.bind_some, Option.bind_none, if_true, if_false, ite_true, ite_false, List.length_cons, List.length_nil, ite_self, Nat.reduceAdd, Nat.reduceLeDiff, Nat.reduceLT, Nat.reduceMul, Int.reduceLT, Int.reduceLE, Int.reduceNeg, Int.reduceAdd, Int.reduceSub, Int.reduceMul, Int.reducePow, Int.reduceEq]
  rw [lc_mapS (h := PyData.int) (g := fun c => .int (if 1000000000000000000 ≤ c then c else 0)) rfl]
  · have e : (C.map fun c => PyData.int (if 1000000000000000000 ≤ c then c else 0)) = (left0 C).map .int := by
      unfold left0
      rw [List.map_map]
      rfl
    have hl : (left0 C).length ≤ 16777216 := by unfold left0; rw [List.length_map]; omega
    rw [e]
    simp only [BQ, q_ife, BZ, BO, BV, BL, tyN, mTy, List.replicate, List.getElem?_cons_zero, List.getElem?_cons_succ, List.set_cons_zero, List.set_cons_succ, List.map_cons, List.map_nil, List.cons_append, List.nil_append, List.all_cons, List.all_nil, Option.map_some, Option.map_none, Option.bind_some, Option.bind_none, if_true, if_false, ite_true, ite_false, List.length_cons, List.length_nil, ite_self, Nat.reduceAdd, Nat.reduceLeDiff, Nat.reduceLT, Nat.reduceMul, Int.reduceLT, Int.reduceLE, Int.reduceNeg, Int.reduceAdd, Int.reduceSub, Int.reduceMul, Int.reducePow, Int.reduceEq, List.length_map, hl, sd_put0]
    rfl
  · intro c hc Φ
    by_cases z : 1000000000000000000 ≤ c
    · simp only [BQ, q_ife, BZ, BO, BV, BL, tyN, mTy, List.replicate, List.getElem?_cons_zero, List.getElem?_cons_succ, List.set_cons_zero, List.set_cons_succ, List.map_cons, List.map_nil, List.cons_append, List.nil_append, List.all_cons, List.all_nil, Option.map_some, Option.map_none, Option.bind_some, Option.bind_none, if_true, if_false, ite_true, ite_false, List.length_cons, List.length_nil, ite_self, Nat.reduceAdd, Nat.reduceLeDiff, Nat.reduceLT, Nat.reduceMul, Int.reduceLT, Int.reduceLE, Int.reduceNeg, Int.reduceAdd, Int.reduceSub, Int.reduceMul, Int.reducePow, Int.reduceEq, z]
    · simp only [BQ, q_ife, BZ, BO, BV, BL, tyN, mTy, List.replicate, List.getElem?_cons_zero, List.getElem?_cons_succ, List.set_cons_zero, List.set_cons_succ, List.map_cons, List.map_nil, List.cons_append, List.nil_append, List.all_cons, List.all_nil, Option.map_some, Option.map_none, Option.bind_some, Option.bind_none, if_true, if_false, ite_true, ite_false, List.length_cons, List.length_nil, ite_self, Nat.reduceAdd, Nat.reduceLeDiff, Nat.reduceLT, Nat.reduceMul, Int.reduceLT, Int.reduceLE, Int.reduceNeg, Int.reduceAdd, Int.reduceSub, Int.reduceMul, Int.reducePow, Int.reduceEq, z]
def fDeep : Fn := ⟨"_law_deep_right", 1, 7, b__law_deep_right, false⟩
structure Gen1 (P : Pr) : Prop where
  k : GenK P
  p : GenP P
  l : GenL P
  x : GenX P
  isKind : fnd P.tab "is_kind" = some fIsKind
  right : fnd P.tab "_law_right" = some fRight
  deep : fnd P.tab "_law_deep_right" = some fDeep
  begun : fnd P.tab "_law_begun" = some fBegun
  bent : fnd P.tab "_law_bent" = some fBent
  grown : fnd P.tab "_law_grown" = some fGrown
theorem right_N (g : Gen1 P) (hN : 8 ≤ N) (hA : Cl A) {p : PyData} (hp : smP 60 p = true) : wq (callN P N "_law_right" [.d p]) A Φ E = Φ (.val (.d (.bool true))) A := by
  obtain ⟨n, rfl⟩ : ∃ m, N = m + 8 := ⟨N - 8, by omega⟩
  exact right_q g.p g.l g.x g.isKind g.right hA hp
theorem sm_tup {w : Nat} {ps : List PyData} (h1 : ps.length ≤ w) (h2 : ∀ p ∈ ps, smP w p = true) : smP w (.tuple ps) = true := smP_tup.mpr ⟨h1, h2⟩
theorem sm_w {w : Nat} {x : Str} (h : x.length ≤ 1000) : smP w (.str x) = true := by rw [smP]; exact decide_eq_true h
theorem sm_two {t : Str} {p q : PyData} (ht : t.length ≤ 1000) (hp : smP 60 p = true) (hq : smP 60 q = true) : smP 60 (.tuple [.str t, p, q]) = true := sm_tup (by simp) fun z hz => by
  simp only [List.mem_cons, List.not_mem_nil, or_false] at hz
  rcases hz with rfl | rfl | rfl
  · exact sm_w ht
  · exact hp
  · exact hq
theorem sm_one {t : Str} {p : PyData} (ht : t.length ≤ 1000) (hp : smP 60 p = true) : smP 60 (.tuple [.str t, p]) = true := sm_tup (by simp) fun z hz => by
  simp only [List.mem_cons, List.not_mem_nil, or_false] at hz
  rcases hz with rfl | rfl
  · exact sm_w ht
  · exact hp
def d1Inv (k : PyData) (A : Hs) (j : Nat) (δ : Fr) (A' : Hs) : Prop := A' = A ∧ ∃ x y p q r z, smP 60 p = true ∧ smP 60 q = true ∧ smP 60 r = true ∧ δ = [some (.d k), x, y, some (.d p), some (.d q), some (.d r), z]
def d2Inv (k : PyData) (A : Hs) (j : Nat) (δ : Fr) (A' : Hs) : Prop := A' = A ∧ ∃ x y p q r z, δ = [some (.d k), x, y, p, q, r, z]
theorem deep_ok (g : Gen1 P) (hN : 9 ≤ N) (hA : Cl A) {k : PyData} (hk : smP 60 k = true) : Ret (callN P N "_law_deep_right" [.d k]) A fun r A' => r = .val (.d (.bool true)) ∧ A' = A := by
  obtain ⟨N, rfl⟩ : ∃ m, N = m + 1 := ⟨N - 1, by omega⟩
  apply wq.ret
  rw [wq_call g.deep rfl]
  simp only [fDeep, b__law_deep_right]
  rw [z_cons]
  simp only [BQ, q_ife, BZ, BO, BV, BL, tyN, mTy, List.replicate, List.getElem?_cons_zero, List.getElem?_cons_succ, List.set_cons_zero, List.set_cons_succ, List.map_cons, List.map_nil, List.cons_append, List.nil_append, List.all_cons, List.all_nil, Option.map_some, Option.map_none, Option.bind_some, Option.bind_none, if_true, if_false, ite_true, ite_false, List.length_cons, List.length_nil, ite_self, Nat.reduceAdd, Nat.reduceLeDiff, Nat.reduceLT, Nat.reduceMul, Int.reduceLT, Int.reduceLE, Int.reduceNeg, Int.reduceAdd, Int.reduceSub, Int.reduceMul, Int.reducePow, Int.reduceEq]
  rw [z_cons]
  simp only [BQ, q_ife, BZ, BO, BV, BL, tyN, mTy, List.replicate, List.getElem?_cons_zero, List.getElem?_cons_succ, List.set_cons_zero, List.set_cons_succ, List.map_cons, List.map_nil, List.cons_append, List.nil_append, List.all_cons, List.all_nil, Option.map_some, Option.map_none, Option.bind_some, Option.bind_none, if_true, if_false, ite_true, ite_false, List.length_cons, List.length_nil, ite_self, Nat.reduceAdd, Nat.reduceLeDiff, Nat.reduceLT, Nat.reduceMul, Int.reduceLT, Int.reduceLE, Int.reduceNeg, Int.reduceAdd, Int.reduceSub, Int.reduceMul, Int.reducePow, Int.reduceEq]
  generalize rangeP 0 (3000 : Int).toNat = ps
  refine fr_inv (I := d1Inv k A) (i := 0) ⟨rfl, _, _, _, _, _, _, hk, hk, hk, rfl⟩ (fun _ _ _ _ => rfl) ?_ ?_
  · rintro j v δ A' hj ⟨rfl, x, y, p, q, r, z, h1, h2, h3, rfl⟩
    simp only [BQ, q_ife, BZ, BO, BV, BL, tyN, mTy, List.replicate, List.getElem?_cons_zero, List.getElem?_cons_succ, List.set_cons_zero, List.set_cons_succ, List.map_cons, List.map_nil, List.cons_append, List.nil_append, List.all_cons, List.all_nil, Option.map_some, Option.map_none, Option.bind_some, Option.bind_none, if_true, if_false, ite_true, ite_false, List.length_cons, List.length_nil, ite_self, Nat.reduceAdd, Nat.reduceLeDiff, Nat.reduceLT, Nat.reduceMul, Int.reduceLT, Int.reduceLE, Int.reduceNeg, Int.reduceAdd, Int.reduceSub, Int.reduceMul, Int.reducePow, Int.reduceEq]
    rw [z_cons]
    simp only [BQ, q_ife, BZ, BO, BV, BL, tyN, mTy, List.replicate, List.getElem?_cons_zero, List.getElem?_cons_succ, List.set_cons_zero, List.set_cons_succ, List.map_cons, List.map_nil, List.cons_append, List.nil_append, List.all_cons, List.all_nil, Option.map_some, Option.map_none, Option.bind_some, Option.bind_none, if_true, if_false, ite_true, ite_false, List.length_cons, List.length_nil, ite_self, Nat.reduceAdd, Nat.reduceLeDiff, Nat.reduceLT, Nat.reduceMul, Int.reduceLT, Int.reduceLE, Int.reduceNeg, Int.reduceAdd, Int.reduceSub, Int.reduceMul, Int.reducePow, Int.reduceEq]
    exact ⟨rfl, _, _, _, _, _, _, sm_one (by decide) h1, h2, h3, rfl⟩
  rintro δ A' ⟨rfl, x, y, p, q, r, z, h1, h2, h3, rfl⟩
  simp only [BQ, q_ife, BZ, BO, BV, BL, tyN, mTy, List.replicate, List.getElem?_cons_zero, List.getElem?_cons_succ, List.set_cons_zero, List.set_cons_succ, List.map_cons, List.map_nil, List.cons_append, List.nil_append, List.all_cons, List.all_nil, Option.map_some, Option.map_none, Option.bind_some, Option.bind_none, if_true, if_false, ite_true, ite_false, List.length_cons, List.length_nil, ite_self, Nat.reduceAdd, Nat.reduceLeDiff, Nat.reduceLT, Nat.reduceMul, Int.reduceLT, Int.reduceLE, Int.reduceNeg, Int.reduceAdd, Int.reduceSub, Int.reduceMul, Int.reducePow, Int.reduceEq]
  rw [z_cons]
  simp only [BQ, q_ife, BZ, BO, BV, BL, tyN, mTy, List.replicate, List.getElem?_cons_zero, List.getElem?_cons_succ, List.set_cons_zero, List.set_cons_succ, List.map_cons, List.map_nil, List.cons_append, List.nil_append, List.all_cons, List.all_nil, Option.map_some, Option.map_none, Option.bind_some, Option.bind_none, if_true, if_false, ite_true, ite_false, List.length_cons, List.length_nil, ite_self, Nat.reduceAdd, Nat.reduceLeDiff, Nat.reduceLT, Nat.reduceMul, Int.reduceLT, Int.reduceLE, Int.reduceNeg, Int.reduceAdd, Int.reduceSub, Int.reduceMul, Int.reducePow, Int.reduceEq]
  generalize rangeP 0 (60 : Int).toNat = ps'
  refine fr_inv (I := d1Inv k A') (i := 0) ⟨rfl, _, _, _, _, _, _, h1, h2, h3, rfl⟩ (fun _ _ _ _ => rfl) ?_ ?_
  · rintro j v δ A' hj ⟨rfl, x, y, p, q, r, z, h1, h2, h3, rfl⟩
    simp only [BQ, q_ife, BZ, BO, BV, BL, tyN, mTy, List.replicate, List.getElem?_cons_zero, List.getElem?_cons_succ, List.set_cons_zero, List.set_cons_succ, List.map_cons, List.map_nil, List.cons_append, List.nil_append, List.all_cons, List.all_nil, Option.map_some, Option.map_none, Option.bind_some, Option.bind_none, if_true, if_false, ite_true, ite_false, List.length_cons, List.length_nil, ite_self, Nat.reduceAdd, Nat.reduceLeDiff, Nat.reduceLT, Nat.reduceMul, Int.reduceLT, Int.reduceLE, Int.reduceNeg, Int.reduceAdd, Int.reduceSub, Int.reduceMul, Int.reducePow, Int.reduceEq]
    rw [z_cons]
    simp only [BQ, q_ife, BZ, BO, BV, BL, tyN, mTy, List.replicate, List.getElem?_cons_zero, List.getElem?_cons_succ, List.set_cons_zero, List.set_cons_succ, List.map_cons, List.map_nil, List.cons_append, List.nil_append, List.all_cons, List.all_nil, Option.map_some, Option.map_none, Option.bind_some, Option.bind_none, if_true, if_false, ite_true, ite_false, List.length_cons, List.length_nil, ite_self, Nat.reduceAdd, Nat.reduceLeDiff, Nat.reduceLT, Nat.reduceMul, Int.reduceLT, Int.reduceLE, Int.reduceNeg, Int.reduceAdd, Int.reduceSub, Int.reduceMul, Int.reducePow, Int.reduceEq]
    rw [z_cons]
    simp only [BQ, q_ife, BZ, BO, BV, BL, tyN, mTy, List.replicate, List.getElem?_cons_zero, List.getElem?_cons_succ, List.set_cons_zero, List.set_cons_succ, List.map_cons, List.map_nil, List.cons_append, List.nil_append, List.all_cons, List.all_nil, Option.map_some, Option.map_none, Option.bind_some, Option.bind_none, if_true, if_false, ite_true, ite_false, List.length_cons, List.length_nil, ite_self, Nat.reduceAdd, Nat.reduceLeDiff, Nat.reduceLT, Nat.reduceMul, Int.reduceLT, Int.reduceLE, Int.reduceNeg, Int.reduceAdd, Int.reduceSub, Int.reduceMul, Int.reducePow, Int.reduceEq]
    exact ⟨rfl, _, _, _, _, _, _, h1, sm_two (by decide) h2 h2, sm_two (by decide) h3 h3, rfl⟩
  rintro δ A'' ⟨rfl, x, y, p, q, r, z, h1, h2, h3, rfl⟩
  simp only [BQ, q_ife, BZ, BO, BV, BL, tyN, mTy, List.replicate, List.getElem?_cons_zero, List.getElem?_cons_succ, List.set_cons_zero, List.set_cons_succ, List.map_cons, List.map_nil, List.cons_append, List.nil_append, List.all_cons, List.all_nil, Option.map_some, Option.map_none, Option.bind_some, Option.bind_none, if_true, if_false, ite_true, ite_false, List.length_cons, List.length_nil, ite_self, Nat.reduceAdd, Nat.reduceLeDiff, Nat.reduceLT, Nat.reduceMul, Int.reduceLT, Int.reduceLE, Int.reduceNeg, Int.reduceAdd, Int.reduceSub, Int.reduceMul, Int.reducePow, Int.reduceEq]
  rw [z_cons]
  simp only [BQ, q_ife, BZ, BO, BV, BL, tyN, mTy, List.replicate, List.getElem?_cons_zero, List.getElem?_cons_succ, List.set_cons_zero, List.set_cons_succ, List.map_cons, List.map_nil, List.cons_append, List.nil_append, List.all_cons, List.all_nil, Option.map_some, Option.map_none, Option.bind_some, Option.bind_none, if_true, if_false, ite_true, ite_false, List.length_cons, List.length_nil, ite_self, Nat.reduceAdd, Nat.reduceLeDiff, Nat.reduceLT, Nat.reduceMul, Int.reduceLT, Int.reduceLE, Int.reduceNeg, Int.reduceAdd, Int.reduceSub, Int.reduceMul, Int.reducePow, Int.reduceEq]
  refine fr_inv (I := d2Inv k A'') (i := 0) ⟨rfl, _, _, _, _, _, _, rfl⟩ (fun _ _ _ _ => rfl) ?_ ?_
  · rintro j v δ A' hj ⟨rfl, x, y, p', q', r', z, rfl⟩
    have hv : smP 60 v = true := by
      have := List.mem_of_getElem? hj
      simp only [List.mem_cons, List.not_mem_nil, or_false] at this
      rcases this with rfl | rfl | rfl
      · exact h1
      · exact h2
      · exact h3
    simp only [BQ, q_ife, BZ, BO, BV, BL, tyN, mTy, List.replicate, List.getElem?_cons_zero, List.getElem?_cons_succ, List.set_cons_zero, List.set_cons_succ, List.map_cons, List.map_nil, List.cons_append, List.nil_append, List.all_cons, List.all_nil, Option.map_some, Option.map_none, Option.bind_some, Option.bind_none, if_true, if_false, ite_true, ite_false, List.length_cons, List.length_nil, ite_self, Nat.reduceAdd, Nat.reduceLeDiff, Nat.reduceLT, Nat.reduceMul, Int.reduceLT, Int.reduceLE, Int.reduceNeg, Int.reduceAdd, Int.reduceSub, Int.reduceMul, Int.reducePow, Int.reduceEq]
    rw [z_cons]
    simp only [BQ, q_ife, BZ, BO, BV, BL, tyN, mTy, List.replicate, List.getElem?_cons_zero, List.getElem?_cons_succ, List.set_cons_zero, List.set_cons_succ, List.map_cons, List.map_nil, List.cons_append, List.nil_append, List.all_cons, List.all_nil, Option.map_some, Option.map_none, Option.bind_some, Option.bind_none, if_true, if_false, ite_true, ite_false, List.length_cons, List.length_nil, ite_self, Nat.reduceAdd, Nat.reduceLeDiff, Nat.reduceLT, Nat.reduceMul, Int.reduceLT, Int.reduceLE, Int.reduceNeg, Int.reduceAdd, Int.reduceSub, Int.reduceMul, Int.reducePow, Int.reduceEq]
    refine fr_inv (I := d2Inv k A') (i := 0) ⟨rfl, _, _, _, _, _, _, rfl⟩ (fun _ _ _ _ => rfl) ?_ ?_
    · rintro j2 v2 δ A2 hj2 ⟨rfl, x, y, p', q', r', z, rfl⟩
      have hv2 : smP 60 v2 = true := by
        have := List.mem_of_getElem? hj2
        simp only [List.mem_cons, List.not_mem_nil, or_false] at this
        rcases this with rfl | rfl | rfl | rfl | rfl | rfl
        · exact hv
        · exact sm_tup (by simp) fun z hz => by rw [List.mem_singleton.mp hz]; exact hv
        · exact sm_two (by decide) (by decide +kernel) hv
        · exact sm_one (by decide) (sm_tup (by simp) fun z hz => by rw [List.mem_singleton.mp hz]; exact sm_one (by decide) hv)
        · exact sm_two (by decide) hv rfl
        · exact sm_one (by decide) hv
      simp only [BQ, q_ife, BZ, BO, BV, BL, tyN, mTy, List.replicate, List.getElem?_cons_zero, List.getElem?_cons_succ, List.set_cons_zero, List.set_cons_succ, List.map_cons, List.map_nil, List.cons_append, List.nil_append, List.all_cons, List.all_nil, Option.map_some, Option.map_none, Option.bind_some, Option.bind_none, if_true, if_false, ite_true, ite_false, List.length_cons, List.length_nil, ite_self, Nat.reduceAdd, Nat.reduceLeDiff, Nat.reduceLT, Nat.reduceMul, Int.reduceLT, Int.reduceLE, Int.reduceNeg, Int.reduceAdd, Int.reduceSub, Int.reduceMul, Int.reducePow, Int.reduceEq]
      rw [z_cons]
      simp only [BQ, q_ife, BZ, BO, BV, BL, tyN, mTy, List.replicate, List.getElem?_cons_zero, List.getElem?_cons_succ, List.set_cons_zero, List.set_cons_succ, List.map_cons, List.map_nil, List.cons_append, List.nil_append, List.all_cons, List.all_nil, Option.map_some, Option.map_none, Option.bind_some, Option.bind_none, if_true, if_false, ite_true, ite_false, List.length_cons, List.length_nil, ite_self, Nat.reduceAdd, Nat.reduceLeDiff, Nat.reduceLT, Nat.reduceMul, Int.reduceLT, Int.reduceLE, Int.reduceNeg, Int.reduceAdd, Int.reduceSub, Int.reduceMul, Int.reducePow, Int.reduceEq, right_N g (show 8 ≤ N by omega) hA hv2]
      exact ⟨rfl, _, _, _, _, _, _, rfl⟩
    · rintro δ A2 ⟨rfl, x, y, p', q', r', z, rfl⟩
      simp only [BQ, q_ife, BZ, BO, BV, BL, tyN, mTy, List.replicate, List.getElem?_cons_zero, List.getElem?_cons_succ, List.set_cons_zero, List.set_cons_succ, List.map_cons, List.map_nil, List.cons_append, List.nil_append, List.all_cons, List.all_nil, Option.map_some, Option.map_none, Option.bind_some, Option.bind_none, if_true, if_false, ite_true, ite_false, List.length_cons, List.length_nil, ite_self, Nat.reduceAdd, Nat.reduceLeDiff, Nat.reduceLT, Nat.reduceMul, Int.reduceLT, Int.reduceLE, Int.reduceNeg, Int.reduceAdd, Int.reduceSub, Int.reduceMul, Int.reducePow, Int.reduceEq]
      exact ⟨rfl, _, _, _, _, _, _, rfl⟩
  · rintro δ A2 ⟨rfl, x, y, p', q', r', z, rfl⟩
    simp only [BQ, q_ife, BZ, BO, BV, BL, tyN, mTy, List.replicate, List.getElem?_cons_zero, List.getElem?_cons_succ, List.set_cons_zero, List.set_cons_succ, List.map_cons, List.map_nil, List.cons_append, List.nil_append, List.all_cons, List.all_nil, Option.map_some, Option.map_none, Option.bind_some, Option.bind_none, if_true, if_false, ite_true, ite_false, List.length_cons, List.length_nil, ite_self, Nat.reduceAdd, Nat.reduceLeDiff, Nat.reduceLT, Nat.reduceMul, Int.reduceLT, Int.reduceLE, Int.reduceNeg, Int.reduceAdd, Int.reduceSub, Int.reduceMul, Int.reducePow, Int.reduceEq]
    rw [z_cons]
    simp only [BQ, q_ife, BZ, BO, BV, BL, tyN, mTy, List.replicate, List.getElem?_cons_zero, List.getElem?_cons_succ, List.set_cons_zero, List.set_cons_succ, List.map_cons, List.map_nil, List.cons_append, List.nil_append, List.all_cons, List.all_nil, Option.map_some, Option.map_none, Option.bind_some, Option.bind_none, if_true, if_false, ite_true, ite_false, List.length_cons, List.length_nil, ite_self, Nat.reduceAdd, Nat.reduceLeDiff, Nat.reduceLT, Nat.reduceMul, Int.reduceLT, Int.reduceLE, Int.reduceNeg, Int.reduceAdd, Int.reduceSub, Int.reduceMul, Int.reducePow, Int.reduceEq, leave_self hA]
end
end Kg
set_option Elab.async false
set_option linter.all false
set_option maxRecDepth 100000
set_option maxHeartbeats 1000000
/-! K01n: the law k01, put together. -/
namespace Kg
open PySem L2 Mi TL
theorem k01_nd : (K01.L.ts.map (·.f)).Nodup := by decide +kernel
theorem k01_gen : Gen1 K01.L.pr := by
  have F : ∀ t ∈ K01.L.ts, fnd K01.L.pr.tab t.f = some t.fn := fun t ht => fnd_of k01_nd ht
  exact {
    k := {
      mixed := F K01.t__law_mixed (List.mem_of_getElem? (i := 10) rfl)
      draw := F K01.t__law_draw (List.mem_of_getElem? (i := 12) rfl)
      one := F K01.t__law_one (List.mem_of_getElem? (i := 13) rfl)
      word := F K01.t__law_word (List.mem_of_getElem? (i := 14) rfl)
      number := F K01.t__law_number (List.mem_of_getElem? (i := 15) rfl)
      stretch := F K01.t__law_stretch (List.mem_of_getElem? (i := 16) rfl)
      own := F K01.t__law_own (List.mem_of_getElem? (i := 17) rfl)
      walk := F K01.t__law_walk (List.mem_of_getElem? (i := 18) rfl)
      fits := F K01.t__law_fits (List.mem_of_getElem? (i := 19) rfl)
      fields := F K01.t__law_fields (List.mem_of_getElem? (i := 20) rfl)
      built := F K01.t__law_built (List.mem_of_getElem? (i := 21) rfl)
      kind := F K01.t__law_kind (List.mem_of_getElem? (i := 22) rfl)
      lim := by decide
      }
    p := {
      isNumber := F K01.t_is_number (List.mem_of_getElem? (i := 0) rfl)
      isName := F K01.t_is_name (List.mem_of_getElem? (i := 1) rfl)
      isBound := F K01.t_is_bound (List.mem_of_getElem? (i := 2) rfl)
      areBounds := F K01.t_are_bounds (List.mem_of_getElem? (i := 3) rfl)
      areFields := F K01.t_are_fields (List.mem_of_getElem? (i := 4) rfl)
      hasForm := F K01.t_has_form (List.mem_of_getElem? (i := 5) rfl)
      ownParts := F K01.t_own_parts (List.mem_of_getElem? (i := 6) rfl)
      walked := F K01.t_walked (List.mem_of_getElem? (i := 7) rfl)
      needKind := F K01.t_need_kind (List.mem_of_getElem? (i := 8) rfl)
      letters := rfl
      small := rfl
      parts := rfl
      funs := rfl
      within := rfl
      lens := rfl
      flds := by decide +kernel
      lim := by decide
      }
    l := {
      isName := F K01.t__law_is_name (List.mem_of_getElem? (i := 23) rfl)
      areFields := F K01.t__law_are_fields (List.mem_of_getElem? (i := 24) rfl)
      hasForm := F K01.t__law_has_form (List.mem_of_getElem? (i := 25) rfl)
      own := F K01.t__law_own (List.mem_of_getElem? (i := 17) rfl)
      place := F K01.t__law_place (List.mem_of_getElem? (i := 26) rfl)
      lim := by decide
      }
    x := {
      refused := F K01.t__law_refused (List.mem_of_getElem? (i := 29) rfl)
      kk := by decide +kernel
      kw := by decide +kernel
      kt := by decide +kernel
      kc := by decide +kernel
      kp := by decide +kernel
      kq := by decide +kernel
      kn := by decide +kernel
      kv := by decide +kernel
      kl := by decide +kernel
      flds := by decide +kernel
      }
    isKind := F K01.t_is_kind (List.mem_of_getElem? (i := 9) rfl)
    right := F K01.t__law_right (List.mem_of_getElem? (i := 30) rfl)
    deep := F K01.t__law_deep_right (List.mem_of_getElem? (i := 31) rfl)
    begun := F K01.t__law_begun (List.mem_of_getElem? (i := 11) rfl)
    bent := F K01.t__law_bent (List.mem_of_getElem? (i := 27) rfl)
    grown := F K01.t__law_grown (List.mem_of_getElem? (i := 28) rfl)
    }
def fLaw : Fn := ⟨"law", 1, 7, b_law, false⟩
def l1Inv (C : List Int) (ns : U) (j : Nat) (δ : Fr) (A' : Hs) : Prop := Dr C (100000 + 100000 * j) [] A' ∧ ∃ x y z u v, δ = [some ns, some (.obj 1), x, y, z, u, v]
def l2Inv (C : List Int) (ns : U) (b : Int) (A0 : Hs) (j : Nat) (δ : Fr) (A' : Hs) : Prop := A' = A0 ∧ ∃ x y z u v, δ = [some ns, some (.obj 1), x, y, z, u, v]
theorem law_ok {P : Pr} (g : Gen1 P) (h : fnd P.tab "law" = some fLaw) (ns : List Int) (hn : ns.length ≤ 63) : ∃ A', callN P 70 "law" [.d (.list (ns.map .int))] [] = some (.ok (.val (.d (.bool true))), A') := by
  have key : Ret (callN P 70 "law" [.d (.list (ns.map .int))]) [] fun r _ => r = .val (.d (.bool true)) := by
    apply wq.ret
    rw [wq_call (n := 69) h rfl]
    simp only [fLaw, b_law]
    rw [z_cons]
    simp only [BQ, q_ife, BZ, BO, BV, BL, tyN, mTy, List.replicate, List.getElem?_cons_zero, List.getElem?_cons_succ, List.set_cons_zero, List.set_cons_succ, List.map_cons, List.map_nil, List.cons_append, List.nil_append, List.all_cons, List.all_nil, Option.map_some, Option.map_none, Option.bind_some, Option.bind_none, if_true, if_false, ite_true, ite_false, List.length_cons, List.length_nil, ite_self, Nat.reduceAdd, Nat.reduceLeDiff, Nat.reduceLT, Nat.reduceMul, Int.reduceLT, Int.reduceLE, Int.reduceNeg, Int.reduceAdd, Int.reduceSub, Int.reduceMul, Int.reducePow, Int.reduceEq, begun_q (n := 68) g.begun (show ns.length ≤ 1000 by omega)]
    have hA0 : Dr ns 0 [] [Ob.lst ((left0 ns).map .int), .dK (sd ns 0)] := ⟨left0 ns, 0, rfl, by simp [left0], fun z hz => by
      unfold left0 at hz
      obtain ⟨c, hc, rfl⟩ := List.mem_map.mp hz
      split <;> omega, by omega, by omega⟩
    generalize ([Ob.lst ((left0 ns).map .int), Ob.dK (sd ns 0)] : List Ob) = A0 at hA0 ⊢
    have hc : Clr [] := Clr.nil
    have hbig : (100000000 : Int) < BIG := by decide
    have lv : ∀ {p : PyData} {A : Hs}, leave false 0 (.val (.d p)) A = some (.val (.d p), []) := fun {p A} => by
      rw [leave_d (by rfl)]
      rfl
    rw [z_cons]
    simp only [BQ, q_ife, BZ, BO, BV, BL, tyN, mTy, List.replicate, List.getElem?_cons_zero, List.getElem?_cons_succ, List.set_cons_zero, List.set_cons_succ, List.map_cons, List.map_nil, List.cons_append, List.nil_append, List.all_cons, List.all_nil, Option.map_some, Option.map_none, Option.bind_some, Option.bind_none, if_true, if_false, ite_true, ite_false, List.length_cons, List.length_nil, ite_self, Nat.reduceAdd, Nat.reduceLeDiff, Nat.reduceLT, Nat.reduceMul, Int.reduceLT, Int.reduceLE, Int.reduceNeg, Int.reduceAdd, Int.reduceSub, Int.reduceMul, Int.reducePow, Int.reduceEq]
    refine (kind_ok g.k (by decide) hA0 hc (by omega)).wq ?_
    rintro _ A1 ⟨hA1, k1, rfl, hk1⟩
    simp only [BQ, q_ife, BZ, BO, BV, BL, tyN, mTy, List.replicate, List.getElem?_cons_zero, List.getElem?_cons_succ, List.set_cons_zero, List.set_cons_succ, List.map_cons, List.map_nil, List.cons_append, List.nil_append, List.all_cons, List.all_nil, Option.map_some, Option.map_none, Option.bind_some, Option.bind_none, if_true, if_false, ite_true, ite_false, List.length_cons, List.length_nil, ite_self, Nat.reduceAdd, Nat.reduceLeDiff, Nat.reduceLT, Nat.reduceMul, Int.reduceLT, Int.reduceLE, Int.reduceNeg, Int.reduceAdd, Int.reduceSub, Int.reduceMul, Int.reducePow, Int.reduceEq]
    refine (deep_ok g (by decide) (hA1.cl hc) (smP_mono (by decide) hk1.2)).wq ?_
    rintro _ _ ⟨rfl, rfl⟩
    simp only [BQ, q_ife, BZ, BO, BV, BL, tyN, mTy, List.replicate, List.getElem?_cons_zero, List.getElem?_cons_succ, List.set_cons_zero, List.set_cons_succ, List.map_cons, List.map_nil, List.cons_append, List.nil_append, List.all_cons, List.all_nil, Option.map_some, Option.map_none, Option.bind_some, Option.bind_none, if_true, if_false, ite_true, ite_false, List.length_cons, List.length_nil, ite_self, Nat.reduceAdd, Nat.reduceLeDiff, Nat.reduceLT, Nat.reduceMul, Int.reduceLT, Int.reduceLE, Int.reduceNeg, Int.reduceAdd, Int.reduceSub, Int.reduceMul, Int.reducePow, Int.reduceEq]
    rw [z_cons]
    simp only [BQ, q_ife, BZ, BO, BV, BL, tyN, mTy, List.replicate, List.getElem?_cons_zero, List.getElem?_cons_succ, List.set_cons_zero, List.set_cons_succ, List.map_cons, List.map_nil, List.cons_append, List.nil_append, List.all_cons, List.all_nil, Option.map_some, Option.map_none, Option.bind_some, Option.bind_none, if_true, if_false, ite_true, ite_false, List.length_cons, List.length_nil, ite_self, Nat.reduceAdd, Nat.reduceLeDiff, Nat.reduceLT, Nat.reduceMul, Int.reduceLT, Int.reduceLE, Int.reduceNeg, Int.reduceAdd, Int.reduceSub, Int.reduceMul, Int.reducePow, Int.reduceEq, List.length_map]
    refine ⟨by omega, ?_⟩
    have hlr : ∀ {m : Nat}, (rangeP 0 m).length = m := by simp [rangeP]
    refine fr_inv (I := l1Inv ns (.d (.list (ns.map .int)))) (i := 0) ⟨hA1.mono (by omega), _, _, _, _, _, rfl⟩ (fun _ _ _ _ => rfl) ?_ ?_
    · rintro j v δ A' hj ⟨hA', x, y, z, u, w, rfl⟩
      have hj16 : j < 16 := by
        have := (List.getElem?_eq_some_iff.mp hj).1
        rw [hlr] at this
        split at this <;> omega
      simp only [BQ, q_ife, BZ, BO, BV, BL, tyN, mTy, List.replicate, List.getElem?_cons_zero, List.getElem?_cons_succ, List.set_cons_zero, List.set_cons_succ, List.map_cons, List.map_nil, List.cons_append, List.nil_append, List.all_cons, List.all_nil, Option.map_some, Option.map_none, Option.bind_some, Option.bind_none, if_true, if_false, ite_true, ite_false, List.length_cons, List.length_nil, ite_self, Nat.reduceAdd, Nat.reduceLeDiff, Nat.reduceLT, Nat.reduceMul, Int.reduceLT, Int.reduceLE, Int.reduceNeg, Int.reduceAdd, Int.reduceSub, Int.reduceMul, Int.reducePow, Int.reduceEq]
      rw [z_cons]
      simp only [BQ, q_ife, BZ, BO, BV, BL, tyN, mTy, List.replicate, List.getElem?_cons_zero, List.getElem?_cons_succ, List.set_cons_zero, List.set_cons_succ, List.map_cons, List.map_nil, List.cons_append, List.nil_append, List.all_cons, List.all_nil, Option.map_some, Option.map_none, Option.bind_some, Option.bind_none, if_true, if_false, ite_true, ite_false, List.length_cons, List.length_nil, ite_self, Nat.reduceAdd, Nat.reduceLeDiff, Nat.reduceLT, Nat.reduceMul, Int.reduceLT, Int.reduceLE, Int.reduceNeg, Int.reduceAdd, Int.reduceSub, Int.reduceMul, Int.reducePow, Int.reduceEq]
      refine (kind_ok g.k (by decide) hA' hc (by omega)).wq ?_
      rintro _ A2 ⟨hA2, p2, rfl, hp2⟩
      have hs2 := kd_sd hp2
      simp only [BQ, q_ife, BZ, BO, BV, BL, tyN, mTy, List.replicate, List.getElem?_cons_zero, List.getElem?_cons_succ, List.set_cons_zero, List.set_cons_succ, List.map_cons, List.map_nil, List.cons_append, List.nil_append, List.all_cons, List.all_nil, Option.map_some, Option.map_none, Option.bind_some, Option.bind_none, if_true, if_false, ite_true, ite_false, List.length_cons, List.length_nil, ite_self, Nat.reduceAdd, Nat.reduceLeDiff, Nat.reduceLT, Nat.reduceMul, Int.reduceLT, Int.reduceLE, Int.reduceNeg, Int.reduceAdd, Int.reduceSub, Int.reduceMul, Int.reducePow, Int.reduceEq]
      rw [z_cons]
      simp only [BQ, q_ife, BZ, BO, BV, BL, tyN, mTy, List.replicate, List.getElem?_cons_zero, List.getElem?_cons_succ, List.set_cons_zero, List.set_cons_succ, List.map_cons, List.map_nil, List.cons_append, List.nil_append, List.all_cons, List.all_nil, Option.map_some, Option.map_none, Option.bind_some, Option.bind_none, if_true, if_false, ite_true, ite_false, List.length_cons, List.length_nil, ite_self, Nat.reduceAdd, Nat.reduceLeDiff, Nat.reduceLT, Nat.reduceMul, Int.reduceLT, Int.reduceLE, Int.reduceNeg, Int.reduceAdd, Int.reduceSub, Int.reduceMul, Int.reducePow, Int.reduceEq]
      refine (bent_ok g.k.toGenA g.bent (by decide) (by decide) hc (by decide) hA2 (by omega) hs2).wq ?_
      rintro _ A3 ⟨hA3, p3, rfl, hp3⟩
      simp only [BQ, q_ife, BZ, BO, BV, BL, tyN, mTy, List.replicate, List.getElem?_cons_zero, List.getElem?_cons_succ, List.set_cons_zero, List.set_cons_succ, List.map_cons, List.map_nil, List.cons_append, List.nil_append, List.all_cons, List.all_nil, Option.map_some, Option.map_none, Option.bind_some, Option.bind_none, if_true, if_false, ite_true, ite_false, List.length_cons, List.length_nil, ite_self, Nat.reduceAdd, Nat.reduceLeDiff, Nat.reduceLT, Nat.reduceMul, Int.reduceLT, Int.reduceLE, Int.reduceNeg, Int.reduceAdd, Int.reduceSub, Int.reduceMul, Int.reducePow, Int.reduceEq]
      rw [z_cons]
      simp only [BQ, q_ife, BZ, BO, BV, BL, tyN, mTy, List.replicate, List.getElem?_cons_zero, List.getElem?_cons_succ, List.set_cons_zero, List.set_cons_succ, List.map_cons, List.map_nil, List.cons_append, List.nil_append, List.all_cons, List.all_nil, Option.map_some, Option.map_none, Option.bind_some, Option.bind_none, if_true, if_false, ite_true, ite_false, List.length_cons, List.length_nil, ite_self, Nat.reduceAdd, Nat.reduceLeDiff, Nat.reduceLT, Nat.reduceMul, Int.reduceLT, Int.reduceLE, Int.reduceNeg, Int.reduceAdd, Int.reduceSub, Int.reduceMul, Int.reducePow, Int.reduceEq]
      refine (grown_ok g.k.toGenA g.grown (by decide) hA3 hc (by omega) hs2).wq ?_
      rintro _ A4 ⟨hA4, p4, rfl, hp4⟩
      simp only [BQ, q_ife, BZ, BO, BV, BL, tyN, mTy, List.replicate, List.getElem?_cons_zero, List.getElem?_cons_succ, List.set_cons_zero, List.set_cons_succ, List.map_cons, List.map_nil, List.cons_append, List.nil_append, List.all_cons, List.all_nil, Option.map_some, Option.map_none, Option.bind_some, Option.bind_none, if_true, if_false, ite_true, ite_false, List.length_cons, List.length_nil, ite_self, Nat.reduceAdd, Nat.reduceLeDiff, Nat.reduceLT, Nat.reduceMul, Int.reduceLT, Int.reduceLE, Int.reduceNeg, Int.reduceAdd, Int.reduceSub, Int.reduceMul, Int.reducePow, Int.reduceEq]
      rw [z_cons]
      simp only [BQ, q_ife, BZ, BO, BV, BL, tyN, mTy, List.replicate, List.getElem?_cons_zero, List.getElem?_cons_succ, List.set_cons_zero, List.set_cons_succ, List.map_cons, List.map_nil, List.cons_append, List.nil_append, List.all_cons, List.all_nil, Option.map_some, Option.map_none, Option.bind_some, Option.bind_none, if_true, if_false, ite_true, ite_false, List.length_cons, List.length_nil, ite_self, Nat.reduceAdd, Nat.reduceLeDiff, Nat.reduceLT, Nat.reduceMul, Int.reduceLT, Int.reduceLE, Int.reduceNeg, Int.reduceAdd, Int.reduceSub, Int.reduceMul, Int.reducePow, Int.reduceEq]
      refine (bent_ok g.k.toGenA g.bent (by decide) (by decide) hc (by decide) hA4 (by omega) hp3).wq ?_
      rintro _ A5 ⟨hA5, p5, rfl, hp5⟩
      simp only [BQ, q_ife, BZ, BO, BV, BL, tyN, mTy, List.replicate, List.getElem?_cons_zero, List.getElem?_cons_succ, List.set_cons_zero, List.set_cons_succ, List.map_cons, List.map_nil, List.cons_append, List.nil_append, List.all_cons, List.all_nil, Option.map_some, Option.map_none, Option.bind_some, Option.bind_none, if_true, if_false, ite_true, ite_false, List.length_cons, List.length_nil, ite_self, Nat.reduceAdd, Nat.reduceLeDiff, Nat.reduceLT, Nat.reduceMul, Int.reduceLT, Int.reduceLE, Int.reduceNeg, Int.reduceAdd, Int.reduceSub, Int.reduceMul, Int.reducePow, Int.reduceEq]
      refine (bent_ok g.k.toGenA g.bent (by decide) (by decide) hc (by decide) hA5 (by omega) hp4).wq ?_
      rintro _ A6 ⟨hA6, p6, rfl, hp6⟩
      simp only [BQ, q_ife, BZ, BO, BV, BL, tyN, mTy, List.replicate, List.getElem?_cons_zero, List.getElem?_cons_succ, List.set_cons_zero, List.set_cons_succ, List.map_cons, List.map_nil, List.cons_append, List.nil_append, List.all_cons, List.all_nil, Option.map_some, Option.map_none, Option.bind_some, Option.bind_none, if_true, if_false, ite_true, ite_false, List.length_cons, List.length_nil, ite_self, Nat.reduceAdd, Nat.reduceLeDiff, Nat.reduceLT, Nat.reduceMul, Int.reduceLT, Int.reduceLE, Int.reduceNeg, Int.reduceAdd, Int.reduceSub, Int.reduceMul, Int.reducePow, Int.reduceEq]
      refine (grown_ok g.k.toGenA g.grown (by decide) hA6 hc (by omega) hp4).wq ?_
      rintro _ A7 ⟨hA7, p7, rfl, hp7⟩
      simp only [BQ, q_ife, BZ, BO, BV, BL, tyN, mTy, List.replicate, List.getElem?_cons_zero, List.getElem?_cons_succ, List.set_cons_zero, List.set_cons_succ, List.map_cons, List.map_nil, List.cons_append, List.nil_append, List.all_cons, List.all_nil, Option.map_some, Option.map_none, Option.bind_some, Option.bind_none, if_true, if_false, ite_true, ite_false, List.length_cons, List.length_nil, ite_self, Nat.reduceAdd, Nat.reduceLeDiff, Nat.reduceLT, Nat.reduceMul, Int.reduceLT, Int.reduceLE, Int.reduceNeg, Int.reduceAdd, Int.reduceSub, Int.reduceMul, Int.reducePow, Int.reduceEq]
      refine fr_inv (I := l2Inv ns (.d (.list (ns.map .int))) 0 A7) (i := 0) ⟨rfl, _, _, _, _, _, rfl⟩ (fun _ _ _ _ => rfl) ?_ ?_
      · rintro j2 v2 δ A8 hj2 ⟨rfl, x, y, z, u, w, rfl⟩
        have hv2 : smP 60 v2 = true := by
          have := List.mem_of_getElem? hj2
          simp only [List.mem_cons, List.not_mem_nil, or_false] at this
          rcases this with rfl | rfl | rfl | rfl | rfl | rfl
          · exact smP_mono (by decide) hs2.1
          · exact smP_mono (by decide) hp3.1
          · exact smP_mono (by decide) hp5.1
          · exact smP_mono (by decide) hp4.1
          · exact smP_mono (by decide) hp6.1
          · exact smP_mono (by decide) hp7.1
        simp only [BQ, q_ife, BZ, BO, BV, BL, tyN, mTy, List.replicate, List.getElem?_cons_zero, List.getElem?_cons_succ, List.set_cons_zero, List.set_cons_succ, List.map_cons, List.map_nil, List.cons_append, List.nil_append, List.all_cons, List.all_nil, Option.map_some, Option.map_none, Option.bind_some, Option.bind_none, if_true, if_false, ite_true, ite_false, List.length_cons, List.length_nil, ite_self, Nat.reduceAdd, Nat.reduceLeDiff, Nat.reduceLT, Nat.reduceMul, Int.reduceLT, Int.reduceLE, Int.reduceNeg, Int.reduceAdd, Int.reduceSub, Int.reduceMul, Int.reducePow, Int.reduceEq]
        rw [z_cons]
        simp only [BQ, q_ife, BZ, BO, BV, BL, tyN, mTy, List.replicate, List.getElem?_cons_zero, List.getElem?_cons_succ, List.set_cons_zero, List.set_cons_succ, List.map_cons, List.map_nil, List.cons_append, List.nil_append, List.all_cons, List.all_nil, Option.map_some, Option.map_none, Option.bind_some, Option.bind_none, if_true, if_false, ite_true, ite_false, List.length_cons, List.length_nil, ite_self, Nat.reduceAdd, Nat.reduceLeDiff, Nat.reduceLT, Nat.reduceMul, Int.reduceLT, Int.reduceLE, Int.reduceNeg, Int.reduceAdd, Int.reduceSub, Int.reduceMul, Int.reducePow, Int.reduceEq, right_N g (N := 69) (by decide) (hA7.cl hc) hv2]
        exact ⟨rfl, _, _, _, _, _, rfl⟩
      · rintro δ A8 ⟨rfl, x, y, z, u, w, rfl⟩
        simp only [BQ, q_ife, BZ, BO, BV, BL, tyN, mTy, List.replicate, List.getElem?_cons_zero, List.getElem?_cons_succ, List.set_cons_zero, List.set_cons_succ, List.map_cons, List.map_nil, List.cons_append, List.nil_append, List.all_cons, List.all_nil, Option.map_some, Option.map_none, Option.bind_some, Option.bind_none, if_true, if_false, ite_true, ite_false, List.length_cons, List.length_nil, ite_self, Nat.reduceAdd, Nat.reduceLeDiff, Nat.reduceLT, Nat.reduceMul, Int.reduceLT, Int.reduceLE, Int.reduceNeg, Int.reduceAdd, Int.reduceSub, Int.reduceMul, Int.reducePow, Int.reduceEq]
        exact ⟨hA7.mono (by omega), _, _, _, _, _, rfl⟩
    · rintro δ A' ⟨hA', x, y, z, u, w, rfl⟩
      simp only [BQ, q_ife, BZ, BO, BV, BL, tyN, mTy, List.replicate, List.getElem?_cons_zero, List.getElem?_cons_succ, List.set_cons_zero, List.set_cons_succ, List.map_cons, List.map_nil, List.cons_append, List.nil_append, List.all_cons, List.all_nil, Option.map_some, Option.map_none, Option.bind_some, Option.bind_none, if_true, if_false, ite_true, ite_false, List.length_cons, List.length_nil, ite_self, Nat.reduceAdd, Nat.reduceLeDiff, Nat.reduceLT, Nat.reduceMul, Int.reduceLT, Int.reduceLE, Int.reduceNeg, Int.reduceAdd, Int.reduceSub, Int.reduceMul, Int.reducePow, Int.reduceEq]
      rw [z_cons]
      simp only [BQ, q_ife, BZ, BO, BV, BL, tyN, mTy, List.replicate, List.getElem?_cons_zero, List.getElem?_cons_succ, List.set_cons_zero, List.set_cons_succ, List.map_cons, List.map_nil, List.cons_append, List.nil_append, List.all_cons, List.all_nil, Option.map_some, Option.map_none, Option.bind_some, Option.bind_none, if_true, if_false, ite_true, ite_false, List.length_cons, List.length_nil, ite_self, Nat.reduceAdd, Nat.reduceLeDiff, Nat.reduceLT, Nat.reduceMul, Int.reduceLT, Int.reduceLE, Int.reduceNeg, Int.reduceAdd, Int.reduceSub, Int.reduceMul, Int.reducePow, Int.reduceEq, lv]
  obtain ⟨r, A', e, rfl⟩ := key
  exact ⟨A', e⟩
end Kg
open PySem PySem.W PySem.Calls PyProof.Rows
theorem PySem.Challenge.cw_setkinds_k01_kinds_looked_at_holds : PySem.Challenge.rw_setkinds_k01_kinds_looked_at.Holds := by
  exact K01.from_key fun ns hn _ => Kg.law_ok Kg.k01_gen (Mi.fnd_of Kg.k01_nd (List.mem_of_getElem? (i := 32) (a := K01.t_law) rfl)) ns hn
