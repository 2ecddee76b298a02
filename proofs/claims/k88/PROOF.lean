import PyProof.Rows.All
import Wide.All
import OpenK.AllK
import Wide.FinOn
import HandS.ForMost
import KE.KDictKeyed
import KE.SortData
import KE.KeyNested
import HandS.TupAny
import HandS.TupSets
import HandS.Wide
import HandS.Conv
import HandS.IsInst
import HandS.Exc
import HandS.Deep
import KE.KTupSum
import HandS.Style
import HandS.CallSlots
import HandS.ExcOwn
import HandS.WordsExc
import HandS.TryOnly
import HandS.ExcField
import HandS.Comp
import HandS.Small
import HandS.TupLen
import HandS.SetFor
import HandS.ExcSuper
import PySem.Challenge.RW_boundroads_k88_whole_cells_and_faces
set_option Elab.async false
set_option linter.all false
set_option maxRecDepth 100000
set_option maxHeartbeats 8000000
/-! The mini language: values, results, combinators. Plain Lean. -/
namespace Mi
open PySem

inductive PV where
  | non | bool (b : Bool) | int (i : Int) | str (s : Str)
  | tup (xs : List PV) | lst (xs : List PV)
  | dct (kvs : List (PV × PV))
  | fn (f : Nat)
  | scr (xs : List PV)
  | ins (c : Nat) (fs : List (Str × PV))
instance : Inhabited PV := ⟨.non⟩

structure Exc where
  cls : Nat
  arg : Option Str

inductive Res (α : Type) where
  | ok (a : α) | exc (e : Exc) | stuck
def Res.bind {α β : Type} : Res α → (α → Res β) → Res β
  | .ok a, f => f a
  | .exc e, _ => .exc e
  | .stuck, _ => .stuck
instance : Monad Res where
  pure := .ok
  bind := Res.bind
def Res.nox {α : Type} : Res α → Res α
  | .ok a => .ok a
  | _ => .stuck
def Res.opt {α : Type} : Option α → Res α
  | some a => .ok a
  | none => .stuck
theorem Res.bind_ok {α β : Type} (a : α) (f : α → Res β) : (Res.ok a >>= f) = f a := rfl
theorem Res.pure_ok {α : Type} (a : α) : (pure a : Res α) = .ok a := rfl
/-- what is wanted of a result -/
def Res.To {α : Type} (r : Res α) (Q : α → Prop) (E : Exc → Prop) : Prop := match r with
  | .ok a => Q a
  | .exc e => E e
  | .stuck => False
theorem Res.To.bind {α β : Type} {r : Res α} {f : α → Res β} {Q : β → Prop} {E : Exc → Prop} (h : (r >>= f).To Q E) : r.To (fun a => (f a).To Q E) E := by
  cases r with
  | ok a => exact h
  | exc e => exact h
  | stuck => exact h
theorem Res.To.mono {α : Type} {r : Res α} {Q Q' : α → Prop} {E E' : Exc → Prop} (h : r.To Q E) (hq : ∀ a, Q a → Q' a) (he : ∀ e, E e → E' e) : r.To Q' E' := by
  cases r with
  | ok a => exact hq _ h
  | exc e => exact he _ h
  | stuck => exact h

abbrev Env := List (Option PV)
/-- an expression: its value, the names behind it -/
abbrev ES := Env → Res (PV × Env)
inductive Fl where
  | next | ret (p : PV)
abbrev SS := Env → Res (Fl × Env)
/-- a def: its value, what its parameters hold at its end -/
abbrev FS := List PV → Res (PV × List PV)

/-! ### values -/
def lim : Nat := 16777216
def PV.seq? : PV → Option (List PV)
  | .tup xs => some xs
  | .lst xs => some xs
  | _ => none
/-- what a loop walks -/
def PV.iter? : PV → Option (List PV)
  | .tup xs => some xs
  | .lst xs => some xs
  | .dct kvs => some (kvs.map (·.1))
  | _ => none
def PV.truth? : PV → Option Bool
  | .non => some false
  | .bool b => some b
  | .int i => some (i != 0)
  | .tup xs => some (!xs.isEmpty)
  | .lst xs => some (!xs.isEmpty)
  | .dct kvs => some (!kvs.isEmpty)
  | _ => none
mutual
def PV.data : PV → Option PyData
  | .non => some .none
  | .bool b => some (.bool b)
  | .int i => some (.int i)
  | .str s => some (.str s)
  | .tup xs => (PV.dataL xs).map .tuple
  | .lst xs => (PV.dataL xs).map .list
  | _ => Option.none
def PV.dataL : List PV → Option (List PyData)
  | [] => some []
  | x :: xs => match PV.data x, PV.dataL xs with
    | some d, some ds => some (d :: ds)
    | _, _ => Option.none
end

def addP : PV → PV → Res PV
  | .int i, .int j => .ok (.int (i + j))
  | .tup xs, .tup ys => if xs.length + ys.length ≤ lim then .ok (.tup (xs ++ ys)) else .stuck
  | .lst xs, .lst ys => if xs.length + ys.length ≤ lim then .ok (.lst (xs ++ ys)) else .stuck
  | _, _ => .stuck
def subP : PV → PV → Res PV
  | .int i, .int j => .ok (.int (i - j))
  | _, _ => .stuck
def mulOk (i j : Int) : Bool := decide (-(2 ^ 64) < i ∧ i < 2 ^ 64) || decide (-(2 ^ 64) < j ∧ j < 2 ^ 64) || decide (i.natAbs.log2 + j.natAbs.log2 < 1000000)
def repL {α : Type} (xs : List α) (k : Nat) : List α := (List.replicate k xs).flatten
def mulP : PV → PV → Res PV
  | .int i, .int j => if mulOk i j then .ok (.int (i * j)) else .stuck
  | .lst xs, .int k => if k ≤ 16777216 ∧ xs.length * k.toNat ≤ lim ∧ -(2 ^ 63) ≤ k then .ok (.lst (repL xs k.toNat)) else .stuck
  | _, _ => .stuck
def divOk (j : Int) : Bool := j != 0 && (decide (j.natAbs < 1073741824) || (decide (0 < j) && decide (j.natAbs.log2 < 9000)))
def fdivP : PV → PV → Res PV
  | .int i, .int j => if divOk j then .ok (.int (i.fdiv j)) else .stuck
  | _, _ => .stuck
def modP : PV → PV → Res PV
  | .int i, .int j => if j != 0 then .ok (.int (i.fmod j)) else .stuck
  | _, _ => .stuck
def negP : PV → Res PV
  | .int i => .ok (.int (-i))
  | _ => .stuck
def absP : PV → Res PV
  | .int i => .ok (.int (if i < 0 then -i else i))
  | _ => .stuck
def lenP : PV → Res PV
  | .tup xs => .ok (.int xs.length)
  | .lst xs => .ok (.int xs.length)
  | .dct kvs => .ok (.int kvs.length)
  | _ => .stuck
/-- == of plain data, at most 64 deep -/
def eqP (x y : PV) : Res PV := match x.data, y.data with
  | some d, some e => if SeqAt.shaped d && SeqAt.shaped e then .ok (.bool (PyData.eqv d e)) else .stuck
  | _, _ => .stuck
def neP (x y : PV) : Res PV := match x.data, y.data with
  | some d, some e => if SeqAt.shaped d && SeqAt.shaped e then .ok (.bool (!PyData.eqv d e)) else .stuck
  | _, _ => .stuck
def isNP : PV → PV → Res PV
  | .non, .non => .ok (.bool true)
  | .bool _, .non => .ok (.bool false)
  | .int _, .non => .ok (.bool false)
  | .str _, .non => .ok (.bool false)
  | .tup _, .non => .ok (.bool false)
  | .lst _, .non => .ok (.bool false)
  | _, _ => .stuck
/-- < of ints, of tuples of ints -/
def intsOf : List PV → Option (List Int)
  | [] => some []
  | .int i :: xs => (intsOf xs).map (i :: ·)
  | _ :: _ => none
def ltP : PV → PV → Res PV
  | .int i, .int j => .ok (.bool (decide (i < j)))
  | .tup xs, .tup ys => match intsOf xs, intsOf ys with
    | some ns, some ms => .ok (.bool (HT.lexLt ns ms))
    | _, _ => .stuck
  | _, _ => .stuck
def leP : PV → PV → Res PV
  | .int i, .int j => .ok (.bool (decide (i ≤ j)))
  | _, _ => .stuck
def gtP : PV → PV → Res PV
  | .int i, .int j => .ok (.bool (decide (j < i)))
  | _, _ => .stuck
def geP : PV → PV → Res PV
  | .int i, .int j => .ok (.bool (decide (j ≤ i)))
  | _, _ => .stuck
def inL (x : PyData) : List PV → Option Bool
  | [] => some false
  | y :: ys => match y.data, inL x ys with
    | some d, some b => if SeqAt.shaped d then some (PyData.eqv d x || b) else none
    | _, _ => none
end Mi

/-! What the mini values are in the layer's heap. -/
namespace Mi
open PySem PySem.Spec L2
open PyProof.Rows hiding St

/-- what is fixed of a program: its frag, where its defs and its classes stand -/
structure Cn where
  P : Program
  w : World
  K : PySem.W.Frag
  fa : Nat → Option Addr
  ca : Nat → Option Addr

/-- how a thing is held: as a value that nobody changes; a list, a dict of our own -/
inductive Ty where
  | v | l (t : Ty) | d (t : Ty)
  deriving DecidableEq

def DictAt (a : Addr) (es : Array DictEntry) : HO := .ext fun h => (a == sysModules) = false ∧ ∃ o ep, h.get? a = some o ∧ o.ExactDict ∧ o.data = .dict es ep

/-- a list that nobody changes -/
def LstZ (Z : Addr → Prop) (H : Hp) (a : Addr) (vs : List V) : Prop := Z a ∧ H a = some (.lst vs)
theorem LstZ.sq {K : PySem.W.Frag} {Z : Addr → Prop} {H : Hp} {a : Addr} {vs : List V} (h : LstZ Z H a vs) : SqL K H a vs := .inl (.inl h.2)
/-- the script -/
def Scr (K : PySem.W.Frag) (H : Hp) (a : Addr) (vs : List V) : Prop := (∃ o, H a = some (.frz o (.lst vs))) ∨
  ∃ (o : Obj) (its : Array Value) (n : Nat), K.lookup a = some o ∧ o.cls = .type "list" ∧ o.dict = none ∧ o.data = .seq its n ∧ its.size ≤ sizeLine ∧ Vals vs its.toList
theorem Scr.sq {K : PySem.W.Frag} {H : Hp} {a : Addr} {vs : List V} (h : Scr K H a vs) : SqL K H a vs := by
  rcases h with ⟨o, h⟩ | h
  · exact .inl (.inr ⟨o, h⟩)
  · exact .inr h
theorem Scr.of {K : PySem.W.Frag} {H : Hp} {a : Addr} {vs : List V} (ho : Only H) (h : SqL K H a vs) : Scr K H a vs := by
  rcases h with (h | h) | h
  · rcases ho a with e | ⟨o, xs, e⟩
    · rw [h] at e; cases e
    · rw [h] at e; cases e
  · exact .inl h
  · exact .inr h

/-! keys -/
mutual
def PV.nkey : PV → Option NestedKey
  | .non => some .none
  | .bool b => some (.num (if b then 1 else 0))
  | .int i => some (.num i)
  | .str s => some (.text s)
  | .tup xs => (PV.nkeys xs).map .tup
  | _ => none
def PV.nkeys : List PV → Option (List NestedKey)
  | [] => some []
  | x :: xs => match PV.nkey x, PV.nkeys xs with
    | some k, some ks => some (k :: ks)
    | _, _ => none
end
/-- what may be a key: an int, or a tuple (at most 8 deep) -/
inductive KeyAs (w : World) : PV → Int → Prop
  | int (i : Int) : KeyAs w (.int i) (hashInt i)
  | tup {xs : List PV} {k : NestedKey} : PV.nkey (.tup xs) = some k → k.depth ≤ 8 → KeyAs w (.tup xs) (k.hash w)
def PV.isInt : PV → Bool
  | .int _ => true
  | _ => false
def PV.isTup : PV → Bool
  | .tup _ => true
  | _ => false
def oneKind (kvs : List (PV × PV)) : Bool := (kvs.all (fun p => p.1.isInt) || kvs.all (fun p => p.1.isTup)) && decide ((kvs.map fun p => p.1.nkey).Nodup)

mutual
inductive Den (C : Cn) (Z : Addr → Prop) (H : Hp) : V → PV → Prop
  | non : Den C Z H .non .non
  | bl (b : Bool) : Den C Z H (.bl b) (.bool b)
  | int (i : Int) : Den C Z H (.int i) (.int i)
  | str (x : Str) : Den C Z H (.str x) (.str x)
  | tup {a : Addr} {vs : List V} {ps : List PV} : SqT C.K H a vs → DenL C Z H vs ps → Den C Z H (.ref a) (.tup ps)
  | lst {a : Addr} {vs : List V} {ps : List PV} : LstZ Z H a vs → DenL C Z H vs ps → Den C Z H (.ref a) (.lst ps)
  | scr {a : Addr} {vs : List V} {ps : List PV} : Scr C.K H a vs → DenL C Z H vs ps → Den C Z H (.ref a) (.scr ps)
  | fn {a : Addr} {f : Nat} : C.fa f = some a → Den C Z H (.ref a) (.fn f)
  | dct {a : Addr} {es : Array DictEntry} {kvs : List (PV × PV)} : Z a → H a = some (DictAt a es) → DenD C Z H es.toList kvs → oneKind kvs = true → Den C Z H (.ref a) (.dct kvs)
  | ins {a c dx : Addr} {i : Nat} {fs : List (Str × V)} {ps : List (Str × PV)} : Z a → C.ca i = some c → H a = some (.ins c dx fs) → DenF C Z H fs ps → Den C Z H (.ref a) (.ins i ps)
inductive DenL (C : Cn) (Z : Addr → Prop) (H : Hp) : List V → List PV → Prop
  | nil : DenL C Z H [] []
  | cons {v : V} {vs : List V} {p : PV} {ps : List PV} : Den C Z H v p → DenL C Z H vs ps → DenL C Z H (v :: vs) (p :: ps)
inductive DenD (C : Cn) (Z : Addr → Prop) (H : Hp) : List DictEntry → List (PV × PV) → Prop
  | nil : DenD C Z H [] []
  | cons {e : DictEntry} {es : List DictEntry} {k v : V} {p q : PV} {kvs : List (PV × PV)} : RelV k e.key → Den C Z H k p → KeyAs C.w p e.hash → RelV v e.val → Den C Z H v q → DenD C Z H es kvs → DenD C Z H (e :: es) ((p, q) :: kvs)
inductive DenF (C : Cn) (Z : Addr → Prop) (H : Hp) : List (Str × V) → List (Str × PV) → Prop
  | nil : DenF C Z H [] []
  | cons {f : Str} {v : V} {fs : List (Str × V)} {p : PV} {ps : List (Str × PV)} : Den C Z H v p → DenF C Z H fs ps → DenF C Z H ((f, v) :: fs) ((f, p) :: ps)
end

mutual
/-- held as t, at addresses of our own A -/
inductive Rep (C : Cn) (Z : Addr → Prop) (H : Hp) : Ty → V → PV → List Addr → Prop
  | v {v : V} {p : PV} : Den C Z H v p → Rep C Z H .v v p []
  | l {t : Ty} {a : Addr} {vs : List V} {ps : List PV} {A : List Addr} : H a = some (.lst vs) → RepL C Z H t vs ps A → Rep C Z H (.l t) (.ref a) (.lst ps) (a :: A)
  | d {t : Ty} {a : Addr} {es : Array DictEntry} {kvs : List (PV × PV)} {A : List Addr} : H a = some (DictAt a es) → RepD C Z H t es.toList kvs A → oneKind kvs = true → Rep C Z H (.d t) (.ref a) (.dct kvs) (a :: A)
inductive RepL (C : Cn) (Z : Addr → Prop) (H : Hp) : Ty → List V → List PV → List Addr → Prop
  | nil {t : Ty} : RepL C Z H t [] [] []
  | cons {t : Ty} {v : V} {vs : List V} {p : PV} {ps : List PV} {A B : List Addr} : Rep C Z H t v p A → RepL C Z H t vs ps B → RepL C Z H t (v :: vs) (p :: ps) (A ++ B)
inductive RepD (C : Cn) (Z : Addr → Prop) (H : Hp) : Ty → List DictEntry → List (PV × PV) → List Addr → Prop
  | nil {t : Ty} : RepD C Z H t [] [] []
  | cons {t : Ty} {e : DictEntry} {es : List DictEntry} {k v : V} {p q : PV} {kvs : List (PV × PV)} {A B : List Addr} : RelV k e.key → Den C Z H k p → KeyAs C.w p e.hash → RelV v e.val → Rep C Z H t v q A → RepD C Z H t es kvs B → RepD C Z H t (e :: es) ((p, q) :: kvs) (A ++ B)
end

/-- the names -/
inductive RepS (C : Cn) (Z : Addr → Prop) (H : Hp) : St → List Ty → Env → List Addr → Prop
  | nil : RepS C Z H [] [] [] []
  | off {o : Option V} {σ : St} {t : Ty} {Γ : List Ty} {ρ : Env} {A : List Addr} : RepS C Z H σ Γ ρ A → RepS C Z H (o :: σ) (t :: Γ) (none :: ρ) A
  | on {v : V} {σ : St} {t : Ty} {Γ : List Ty} {p : PV} {ρ : Env} {A B : List Addr} : Rep C Z H t v p A → RepS C Z H σ Γ ρ B → RepS C Z H (some v :: σ) (t :: Γ) (some p :: ρ) (A ++ B)

/-! ### what stays -/
/-- what a value leans on: frozen things, things that never change -/
def Stays (Z : Addr → Prop) (H : Hp) (Z' : Addr → Prop) (H' : Hp) : Prop := (∀ a, Z a → Z' a) ∧ ∀ a o, H a = some o → (Z a ∨ ¬ Mut (some o)) → H' a = some o
theorem Stays.refl {Z : Addr → Prop} {H : Hp} : Stays Z H Z H := ⟨fun _ h => h, fun _ _ h _ => h⟩
section
variable {C : Cn} {Z Z' : Addr → Prop} {H H' : Hp}
theorem Stays.sqT (s : Stays Z H Z' H') {a : Addr} {vs : List V} (h : SqT C.K H a vs) : SqT C.K H' a vs := by
  rcases h with (h | ⟨o, h⟩) | h
  · exact .inl (.inl (s.2 a _ h (.inr fun z => z)))
  · exact .inl (.inr ⟨o, s.2 a _ h (.inr fun z => z)⟩)
  · exact .inr h
theorem Stays.lstZ (s : Stays Z H Z' H') {a : Addr} {vs : List V} (h : LstZ Z H a vs) : LstZ Z' H' a vs := ⟨s.1 a h.1, s.2 a _ h.2 (.inl h.1)⟩
theorem Stays.scr (s : Stays Z H Z' H') {a : Addr} {vs : List V} (h : Scr C.K H a vs) : Scr C.K H' a vs := by
  rcases h with ⟨o, h⟩ | h
  · exact .inl ⟨o, s.2 a _ h (.inr fun z => z)⟩
  · exact .inr h
mutual
theorem Den.stays (s : Stays Z H Z' H') : ∀ {v : V} {p : PV}, Den C Z H v p → Den C Z' H' v p
  | _, _, .non => .non
  | _, _, .bl b => .bl b
  | _, _, .int i => .int i
  | _, _, .str x => .str x
  | _, _, .tup h1 h2 => .tup (s.sqT h1) (DenL.stays s h2)
  | _, _, .lst h1 h2 => .lst (s.lstZ h1) (DenL.stays s h2)
  | _, _, .scr h1 h2 => .scr (s.scr h1) (DenL.stays s h2)
  | _, _, .fn h => .fn h
  | _, _, .dct h1 h2 h3 h4 => .dct (s.1 _ h1) (s.2 _ _ h2 (.inl h1)) (DenD.stays s h3) h4
  | _, _, .ins h1 h2 h3 h4 => .ins (s.1 _ h1) h2 (s.2 _ _ h3 (.inl h1)) (DenF.stays s h4)
theorem DenL.stays (s : Stays Z H Z' H') : ∀ {vs : List V} {ps : List PV}, DenL C Z H vs ps → DenL C Z' H' vs ps
  | _, _, .nil => .nil
  | _, _, .cons h1 h2 => .cons (Den.stays s h1) (DenL.stays s h2)
theorem DenD.stays (s : Stays Z H Z' H') : ∀ {es : List DictEntry} {kvs : List (PV × PV)}, DenD C Z H es kvs → DenD C Z' H' es kvs
  | _, _, .nil => .nil
  | _, _, .cons h1 h2 h3 h4 h5 h6 => .cons h1 (Den.stays s h2) h3 h4 (Den.stays s h5) (DenD.stays s h6)
theorem DenF.stays (s : Stays Z H Z' H') : ∀ {fs : List (Str × V)} {ps : List (Str × PV)}, DenF C Z H fs ps → DenF C Z' H' fs ps
  | _, _, .nil => .nil
  | _, _, .cons h1 h2 => .cons (Den.stays s h1) (DenF.stays s h2)
end
mutual
theorem Rep.stays (s : Stays Z H Z' H') : ∀ {t : Ty} {v : V} {p : PV} {A : List Addr}, Rep C Z H t v p A → (∀ a ∈ A, H' a = H a) → Rep C Z' H' t v p A
  | _, _, _, _, .v h, _ => .v (h.stays s)
  | _, _, _, _, .l h1 h2, k => .l ((k _ List.mem_cons_self).trans h1) (RepL.stays s h2 fun a ha => k a (List.mem_cons_of_mem _ ha))
  | _, _, _, _, .d h1 h2 h3, k => .d ((k _ List.mem_cons_self).trans h1) (RepD.stays s h2 fun a ha => k a (List.mem_cons_of_mem _ ha)) h3
theorem RepL.stays (s : Stays Z H Z' H') : ∀ {t : Ty} {vs : List V} {ps : List PV} {A : List Addr}, RepL C Z H t vs ps A → (∀ a ∈ A, H' a = H a) → RepL C Z' H' t vs ps A
  | _, _, _, _, .nil, _ => .nil
  | _, _, _, _, .cons h1 h2, k => .cons (Rep.stays s h1 fun a ha => k a (List.mem_append_left _ ha)) (RepL.stays s h2 fun a ha => k a (List.mem_append_right _ ha))
theorem RepD.stays (s : Stays Z H Z' H') : ∀ {t : Ty} {es : List DictEntry} {kvs : List (PV × PV)} {A : List Addr}, RepD C Z H t es kvs A → (∀ a ∈ A, H' a = H a) → RepD C Z' H' t es kvs A
  | _, _, _, _, .nil, _ => .nil
  | _, _, _, _, .cons h1 h2 h3 h4 h5 h6, k => .cons h1 (h2.stays s) h3 h4 (Rep.stays s h5 fun a ha => k a (List.mem_append_left _ ha)) (RepD.stays s h6 fun a ha => k a (List.mem_append_right _ ha))
end
theorem RepS.stays (s : Stays Z H Z' H') : ∀ {σ : St} {Γ : List Ty} {ρ : Env} {A : List Addr}, RepS C Z H σ Γ ρ A → (∀ a ∈ A, H' a = H a) → RepS C Z' H' σ Γ ρ A
  | _, _, _, _, .nil, _ => .nil
  | _, _, _, _, .off h, k => .off (RepS.stays s h k)
  | _, _, _, _, .on h1 h2, k => .on (h1.stays s fun a ha => k a (List.mem_append_left _ ha)) (RepS.stays s h2 fun a ha => k a (List.mem_append_right _ ha))

theorem DictAt.mut (a : Addr) (es : Array DictEntry) : Mut (some (DictAt a es)) := trivial
mutual
/-- what is our own may be changed -/
theorem Rep.mut : ∀ {t : Ty} {v : V} {p : PV} {A : List Addr}, Rep C Z H t v p A → ∀ a ∈ A, ∃ o, H a = some o ∧ Mut (some o)
  | _, _, _, _, .v _, _, h => by cases h
  | _, _, _, _, .l h1 h2, a, h => by
    rcases List.mem_cons.mp h with rfl | h
    · exact ⟨_, h1, trivial⟩
    · exact RepL.mut h2 a h
  | _, _, _, _, .d h1 h2 _, a, h => by
    rcases List.mem_cons.mp h with rfl | h
    · exact ⟨_, h1, trivial⟩
    · exact RepD.mut h2 a h
theorem RepL.mut : ∀ {t : Ty} {vs : List V} {ps : List PV} {A : List Addr}, RepL C Z H t vs ps A → ∀ a ∈ A, ∃ o, H a = some o ∧ Mut (some o)
  | _, _, _, _, .nil, _, h => by cases h
  | _, _, _, _, .cons h1 h2, a, h => by
    rcases List.mem_append.mp h with h | h
    · exact Rep.mut h1 a h
    · exact RepL.mut h2 a h
theorem RepD.mut : ∀ {t : Ty} {es : List DictEntry} {kvs : List (PV × PV)} {A : List Addr}, RepD C Z H t es kvs A → ∀ a ∈ A, ∃ o, H a = some o ∧ Mut (some o)
  | _, _, _, _, .nil, _, h => by cases h
  | _, _, _, _, .cons _ _ _ _ h5 h6, a, h => by
    rcases List.mem_append.mp h with h | h
    · exact Rep.mut h5 a h
    · exact RepD.mut h6 a h
end
theorem RepS.mut : ∀ {σ : St} {Γ : List Ty} {ρ : Env} {A : List Addr}, RepS C Z H σ Γ ρ A → ∀ a ∈ A, ∃ o, H a = some o ∧ Mut (some o)
  | _, _, _, _, .nil, _, h => by cases h
  | _, _, _, _, .off h1, a, h => RepS.mut h1 a h
  | _, _, _, _, .on h1 h2, a, h => by
    rcases List.mem_append.mp h with h | h
    · exact h1.mut a h
    · exact RepS.mut h2 a h
mutual
/-- what was our own is frozen -/
theorem Rep.freeze : ∀ {t : Ty} {v : V} {p : PV} {A : List Addr}, Rep C Z H t v p A → (∀ a ∈ A, Z a) → Den C Z H v p
  | _, _, _, _, .v h, _ => h
  | _, _, _, _, .l h1 h2, k => .lst ⟨k _ List.mem_cons_self, h1⟩ (RepL.freeze h2 fun a ha => k a (List.mem_cons_of_mem _ ha))
  | _, _, _, _, .d h1 h2 h3, k => .dct (k _ List.mem_cons_self) h1 (RepD.freeze h2 fun a ha => k a (List.mem_cons_of_mem _ ha)) h3
theorem RepL.freeze : ∀ {t : Ty} {vs : List V} {ps : List PV} {A : List Addr}, RepL C Z H t vs ps A → (∀ a ∈ A, Z a) → DenL C Z H vs ps
  | _, _, _, _, .nil, _ => .nil
  | _, _, _, _, .cons h1 h2, k => .cons (Rep.freeze h1 fun a ha => k a (List.mem_append_left _ ha)) (RepL.freeze h2 fun a ha => k a (List.mem_append_right _ ha))
theorem RepD.freeze : ∀ {t : Ty} {es : List DictEntry} {kvs : List (PV × PV)} {A : List Addr}, RepD C Z H t es kvs A → (∀ a ∈ A, Z a) → DenD C Z H es kvs
  | _, _, _, _, .nil, _ => .nil
  | _, _, _, _, .cons h1 h2 h3 h4 h5 h6, k => .cons h1 h2 h3 h4 (Rep.freeze h5 fun a ha => k a (List.mem_append_left _ ha)) (RepD.freeze h6 fun a ha => k a (List.mem_append_right _ ha))
end
end
end Mi

/-! The readings by mini functions. -/
namespace Mi
open PySem PySem.Spec L2
open PyProof.Rows hiding St

def Okk (Z : Addr → Prop) (H : Hp) (A : List Addr) : Prop := A.Nodup ∧ (∀ a ∈ A, ¬ Z a) ∧ ∀ a, Z a → ∃ o, H a = some o
structure Tr (Z : Addr → Prop) (H : Hp) (A : List Addr) (Z' : Addr → Prop) (H' : Hp) (A' : List Addr) : Prop where
  keep : ∀ a o, H a = some o → a ∉ A → H' a = some o
  there : ∀ a o, H a = some o → ∃ o', H' a = some o'
  zm : ∀ a, Z a → Z' a
  zn : ∀ a, Z' a → Z a ∨ a ∈ A ∨ H a = none
  an : ∀ a ∈ A', a ∈ A ∨ H a = none
section
variable {C : Cn} {Z Z1 Z2 Z' : Addr → Prop} {H H1 H2 H' : Hp} {A A1 A2 B A' : List Addr}
theorem Tr.refl (h : ∀ a ∈ A', a ∈ A) : Tr Z H A Z H A' := ⟨fun _ _ e _ => e, fun _ o e => ⟨o, e⟩, fun _ z => z, fun _ z => .inl z, fun a ha => .inl (h a ha)⟩
theorem Tr.trans (t : Tr Z H A Z1 H1 A1) (u : Tr Z1 H1 A1 Z2 H2 A2) : Tr Z H A Z2 H2 A2 where
  keep := fun a o e n => u.keep a o (t.keep a o e n) fun h => by
    rcases t.an a h with h | h
    · exact n h
    · rw [e] at h; cases h
  there := fun a o e => by
    obtain ⟨o', e'⟩ := t.there a o e
    exact u.there a o' e'
  zm := fun a z => u.zm a (t.zm a z)
  zn := fun a z => by
    rcases u.zn a z with z | z | z
    · exact t.zn a z
    · exact .inr (t.an a z)
    · refine .inr (.inr ?_)
      cases e : H a with
      | none => rfl
      | some o => obtain ⟨o', e'⟩ := t.there a o e; rw [z] at e'; cases e'
  an := fun a h => by
    rcases u.an a h with h | h
    · exact t.an a h
    · refine .inr ?_
      cases e : H a with
      | none => rfl
      | some o => obtain ⟨o', e'⟩ := t.there a o e; rw [h] at e'; cases e'
theorem Tr.sub (t : Tr Z H A Z1 H1 A1) (h : ∀ a ∈ A2, a ∈ A1) : Tr Z H A Z1 H1 A2 := ⟨t.keep, t.there, t.zm, t.zn, fun a ha => t.an a (h a ha)⟩
/-- what is held beside stays -/
theorem Tr.beside (t : Tr Z H A Z' H' A') (hb : ∀ b ∈ B, (∃ o, H b = some o) ∧ b ∉ A ∧ ¬ Z b) : ∀ b ∈ B, H' b = H b ∧ b ∉ A' ∧ ¬ Z' b := fun b h => by
  obtain ⟨⟨o, e⟩, n, z⟩ := hb b h
  refine ⟨(t.keep b o e n).trans e.symm, fun h' => ?_, fun z' => ?_⟩
  · rcases t.an b h' with q | q
    · exact n q
    · rw [e] at q; cases q
  · rcases t.zn b z' with q | q | q
    · exact z q
    · exact n q
    · rw [e] at q; cases q
theorem Tr.stays (t : Tr Z H A Z' H' A') (hm : ∀ a ∈ A, ∃ o, H a = some o ∧ Mut (some o)) (hz : ∀ a ∈ A, ¬ Z a) : Stays Z H Z' H' := ⟨t.zm, fun a o e h => t.keep a o e fun ha => by
  rcases h with h | h
  · exact hz a ha h
  · obtain ⟨o', e', m⟩ := hm a ha
    rw [e] at e'; cases e'
    exact h m⟩

/-- ahead: the names hold ρ, as Γ says -/
structure PreE (C : Cn) (Z : Addr → Prop) (H : Hp) (σ : L2.St) (Γ : List Ty) (ρ : Env) (A : List Addr) : Prop where
  rep : RepS C Z H σ Γ ρ A
  ok : Okk Z H A
theorem PreE.stays {σ : L2.St} {Γ : List Ty} {ρ : Env} (p : PreE C Z H σ Γ ρ A) (t : Tr Z H A Z' H' A') : Stays Z H Z' H' := t.stays p.rep.mut p.ok.2.1
/-- behind an expression: its value v, held as t -/
def PostE (C : Cn) (Z : Addr → Prop) (H : Hp) (A : List Addr) (σ : L2.St) (Γ : List Ty) (t : Ty) (r : PV × Env) (v : V) (H' : Hp) : Prop :=
  ∃ (Z' : Addr → Prop) (A' B : List Addr), RepS C Z' H' σ Γ r.2 A' ∧ Rep C Z' H' t v r.1 B ∧ Okk Z' H' (A' ++ B) ∧ Tr Z H A Z' H' (A' ++ B)
/-- an exception's class, and the dict of its own -/
def ExcIs (C : Cn) (H : Hp) (e : Exc) (cls : Value) (d : Option Addr) : Prop :=
  ∃ c, C.ca e.cls = some c ∧ cls = .ref c ∧ ∀ s, e.arg = some s → ∃ dd, d = some dd ∧ H dd = some (.xd [("reason", .str s)])
def PostX (C : Cn) (Z : Addr → Prop) (H : Hp) (A : List Addr) (e : Exc) (cls : Value) (d : Option Addr) (H' : Hp) : Prop :=
  ∃ (Z' : Addr → Prop), Tr Z H A Z' H' [] ∧ (∀ a, Z' a → ∃ o, H' a = some o) ∧ ExcIs C H' e cls d

/-- the reading of an expression by f; W: what is wanted of an exception -/
def tM (C : Cn) (W : WX) (f : ES) (Γ Γ' : List Ty) (t : Ty) : TE := fun σ H Q =>
  ∃ (ρ : Env) (Z : Addr → Prop) (A : List Addr), PreE C Z H σ Γ ρ A ∧
    (f ρ).To (fun r => ∀ v H', PostE C Z H A σ Γ' t r v H' → Q v H') fun e => ∀ cls d H', PostX C Z H A e cls d H' → W cls d σ H'
/-- .. of a test -/
def tT (C : Cn) (W : WX) (f : ES) (Γ Γ' : List Ty) : TT := fun σ H Q =>
  ∃ (ρ : Env) (Z : Addr → Prop) (A : List Addr), PreE C Z H σ Γ ρ A ∧
    (f ρ).To (fun r => ∃ b, r.1.truth? = some b ∧ ∀ H' Z' A', PreE C Z' H' σ Γ' r.2 A' → Tr Z H A Z' H' A' → Q b H') fun e => ∀ cls d H', PostX C Z H A e cls d H' → W cls d σ H'

theorem PEi {X : Cx} {e : Expr} {t t' : TE} (h : PE X e t) (hi : ∀ σ H Q, t' σ H Q → t σ H Q) : PE X e t' := ⟨fun pins s σ H Q I q => h.run pins s σ H Q I (hi σ H Q q)⟩
theorem PTi {X : Cx} {e : Expr} {t t' : TT} (h : PT X e t) (hi : ∀ σ H Q, t' σ H Q → t σ H Q) : PT X e t' := ⟨fun pins s σ H Q I q => h.run pins s σ H Q I (hi σ H Q q)⟩
theorem PSi {X : Cx} {e : Stmt} {t t' : TS} (h : PS X e t) (hi : ∀ D σ H, t' D σ H → t D σ H) : PS X e t' := ⟨fun pins s σ H D I q => h.run pins s σ H D I (hi D σ H q)⟩
theorem PSsi {X : Cx} {e : List Stmt} {t t' : TS} (h : PSs X e t) (hi : ∀ D σ H, t' D σ H → t D σ H) : PSs X e t' := ⟨fun pins s σ H D I q => h.run pins s σ H D I (hi D σ H q)⟩

structure Is (C : Cn) (X : Cx) : Prop where
  P : X.prog = C.P
  w : X.w = C.w
  K : X.K = C.K

section
variable {σ : L2.St} {Γ Γ1 Γ2 Γ' : List Ty} {ρ : Env} {t : Ty} {r : PV × Env} {v : V} {p : PV}
theorem PostE.comp (u : Tr Z H A Z1 H1 A1) (h : PostE C Z1 H1 A1 σ Γ t r v H') : PostE C Z H A σ Γ t r v H' := by
  obtain ⟨Z', A', B, a, b, c, d⟩ := h
  exact ⟨Z', A', B, a, b, c, u.trans d⟩
theorem PostX.comp {e : Exc} {cls : Value} {d : Option Addr} (u : Tr Z H A Z1 H1 A1) (h : PostX C Z1 H1 A1 e cls d H') : PostX C Z H A e cls d H' := by
  obtain ⟨Z', a, b, c⟩ := h
  exact ⟨Z', u.trans a, b, c⟩
/-- behind an expression held as a value -/
theorem PostE.pre (h : PostE C Z H A σ Γ .v r v H') : ∃ Z' A', PreE C Z' H' σ Γ r.2 A' ∧ Den C Z' H' v r.1 ∧ Tr Z H A Z' H' A' := by
  obtain ⟨Z', A', B, a, b, c, d⟩ := h
  cases b with
  | v b => rw [List.append_nil] at c d; exact ⟨Z', A', ⟨a, c⟩, b, d⟩

/-- a new value: what stood stands -/
def NewT (C : Cn) (Z : Addr → Prop) (H : Hp) (t : Ty) (v : V) (p : PV) (H' : Hp) : Prop :=
  ∃ (Z' : Addr → Prop) (B : List Addr), (∀ a o, H a = some o → H' a = some o) ∧ (∀ a, Z a → Z' a) ∧ (∀ a, Z' a → Z a ∨ H a = none) ∧ B.Nodup ∧ (∀ a ∈ B, H a = none ∧ ¬ Z' a) ∧ (∀ a, Z' a → ∃ o, H' a = some o) ∧ Rep C Z' H' t v p B
theorem NewT.same (hz : ∀ a, Z a → ∃ o, H a = some o) (h : Den C Z H v p) : NewT C Z H .v v p H :=
  ⟨Z, [], fun _ _ e => e, fun _ z => z, fun _ z => .inl z, List.nodup_nil, fun _ h => (nomatch h), hz, .v h⟩
theorem NewT.frz (h : NewT C Z H t v p H') : NewT C Z H .v v p H' := by
  obtain ⟨Z', B, h1, h2, h3, h4, h5, h6, h7⟩ := h
  have s : Stays Z' H' (fun a => Z' a ∨ a ∈ B) H' := ⟨fun _ z => .inl z, fun _ _ e _ => e⟩
  refine ⟨fun a => Z' a ∨ a ∈ B, [], h1, fun a z => .inl (h2 a z), fun a z => ?_, List.nodup_nil, fun _ h => (nomatch h), fun a z => ?_, .v ((h7.stays s fun _ _ => rfl).freeze fun a ha => .inr ha)⟩
  · rcases z with z | z
    · exact h3 a z
    · exact .inr (h5 a z).1
  · rcases z with z | z
    · exact h6 a z
    · obtain ⟨o, e, _⟩ := h7.mut a z
      exact ⟨o, e⟩
theorem NewT.as (h : NewT C Z H t v p H') : NewT C Z H t v p H' ∧ NewT C Z H .v v p H' := ⟨h, h.frz⟩
theorem NewT.stays (h : NewT C Z H t v p H') : ∃ Z', Stays Z H Z' H' := by
  obtain ⟨Z', B, h1, h2, _⟩ := h
  exact ⟨Z', h2, fun a o e _ => h1 a o e⟩
theorem NewT.post (pre : PreE C Z H σ Γ ρ A) (h : NewT C Z H t v p H') : PostE C Z H A σ Γ t (p, ρ) v H' := by
  obtain ⟨Z', B, h1, h2, h3, h4, h5, h6, h7⟩ := h
  have hA : ∀ a ∈ A, ∃ o, H a = some o := fun a ha => let ⟨o, e, _⟩ := pre.rep.mut a ha; ⟨o, e⟩
  refine ⟨Z', A, B, pre.rep.stays ⟨h2, fun a o e _ => h1 a o e⟩ (fun a ha => ?_), h7, ⟨?_, fun a ha z => ?_, h6⟩, ⟨fun a o e _ => h1 a o e, fun a o e => ⟨o, h1 a o e⟩, h2, fun a z => ?_, fun a ha => ?_⟩⟩
  · obtain ⟨o, e⟩ := hA a ha
    rw [e]; exact h1 a o e
  · refine List.nodup_append.mpr ⟨pre.ok.1, h4, fun a ha b hb e => ?_⟩
    subst e
    obtain ⟨o, e⟩ := hA a ha
    rw [(h5 a hb).1] at e; cases e
  · rcases List.mem_append.mp ha with ha | ha
    · rcases h3 a z with z | z
      · exact pre.ok.2.1 a ha z
      · obtain ⟨o, e⟩ := hA a ha
        rw [z] at e; cases e
    · exact (h5 a ha).2 z
  · rcases h3 a z with z | z
    · exact .inl z
    · exact .inr (.inr z)
  · rcases List.mem_append.mp ha with ha | ha
    · exact .inl ha
    · exact .inr (h5 a ha).1
theorem upd_old {q : Addr} {o : HO} (hq : H q = none) : ∀ a u, H a = some u → upd H q o a = some u := fun a u e => by
  rw [upd_ne (ne_of_none e hq)]; exact e
/-- a new tuple of values -/
theorem NewT.tup {q : Addr} {vs : List V} {ps : List PV} (hz : ∀ a, Z a → ∃ o, H a = some o) (hq : H q = none) (h : DenL C Z H vs ps) : NewT C Z H .v (.ref q) (.tup ps) (upd H q (.tup vs)) := by
  have s : Stays Z H Z (upd H q (.tup vs)) := ⟨fun _ z => z, fun a o e _ => upd_old hq a o e⟩
  exact ⟨Z, [], upd_old hq, fun _ z => z, fun _ z => .inl z, List.nodup_nil, fun _ h => (nomatch h), fun a z => let ⟨o, e⟩ := hz a z; ⟨o, upd_old hq a o e⟩, .v (.tup (.inl (.inl upd_same)) (h.stays s))⟩
theorem DenL.rep : ∀ {vs : List V} {ps : List PV}, DenL C Z H vs ps → RepL C Z H .v vs ps []
  | _, _, .nil => .nil
  | _, _, .cons h1 h2 => .cons (A := []) (B := []) (.v h1) (DenL.rep h2)
theorem RepL.den : ∀ {vs : List V} {ps : List PV} {A : List Addr}, RepL C Z H .v vs ps A → DenL C Z H vs ps ∧ A = []
  | _, _, _, .nil => ⟨.nil, rfl⟩
  | _, _, _, .cons (.v h1) h2 => by
    obtain ⟨a, rfl⟩ := RepL.den h2
    exact ⟨.cons h1 a, rfl⟩
/-- a new list of values -/
theorem NewT.lst {q : Addr} {vs : List V} {ps : List PV} (hz : ∀ a, Z a → ∃ o, H a = some o) (hq : H q = none) (h : DenL C Z H vs ps) : NewT C Z H (.l .v) (.ref q) (.lst ps) (upd H q (.lst vs)) := by
  have s : Stays Z H Z (upd H q (.lst vs)) := ⟨fun _ z => z, fun a o e _ => upd_old hq a o e⟩
  refine ⟨Z, [q], upd_old hq, fun _ z => z, fun _ z => .inl z, by simp, fun a ha => ?_, fun a z => let ⟨o, e⟩ := hz a z; ⟨o, upd_old hq a o e⟩, .l upd_same ((h.stays s).rep)⟩
  obtain rfl : a = q := by simpa using ha
  exact ⟨hq, fun z => by obtain ⟨o, e⟩ := hz a z; rw [hq] at e; cases e⟩
end
end
end Mi

/-! Names; operations on values. -/
namespace Mi
open PySem PySem.Spec L2
open PyProof.Rows hiding St

/-! ### combinators -/
def eVar (i : Nat) : ES := fun ρ => match ρ[i]? with
  | some (some p) => .ok (p, ρ)
  | _ => .stuck
def eMove (i : Nat) : ES := fun ρ => match ρ[i]? with
  | some (some p) => .ok (p, ρ.set i none)
  | _ => .stuck
def eK (p : PV) : ES := fun ρ => .ok (p, ρ)
def e1 (f : PV → Res PV) (a : ES) : ES := fun ρ => a ρ >>= fun r => f r.1 >>= fun p => .ok (p, r.2)
def e2 (f : PV → PV → Res PV) (a b : ES) : ES := fun ρ => a ρ >>= fun r => b r.2 >>= fun q => f r.1 q.1 >>= fun p => .ok (p, q.2)
def trP (p : PV) : Res Bool := .opt p.truth?
/-- a and b, a or b, by truth -/
def eAnd (a b : ES) : ES := fun ρ => a ρ >>= fun r => trP r.1 >>= fun c => if c then b r.2 else .ok r
def eOr (a b : ES) : ES := fun ρ => a ρ >>= fun r => trP r.1 >>= fun c => if c then .ok r else b r.2
def eNot (a : ES) : ES := fun ρ => a ρ >>= fun r => trP r.1 >>= fun c => .ok (.bool (!c), r.2)
def eIf (c a b : ES) : ES := fun ρ => c ρ >>= fun r => trP r.1 >>= fun k => if k then a r.2 else b r.2
/-- a op b op' c -/
def eChain (f g : PV → PV → Res PV) (a b c : ES) : ES := fun ρ => a ρ >>= fun r => b r.2 >>= fun q => f r.1 q.1 >>= fun p => trP p >>= fun k =>
  if k then c q.2 >>= fun u => g q.1 u.1 >>= fun z => .ok (z, u.2) else .ok (p, q.2)

section
variable {C : Cn} {Z Z1 Z2 Z' : Addr → Prop} {H H1 H2 H' : Hp} {A A1 A2 B A' : List Addr} {σ : L2.St} {Γ Γ1 Γ2 Γ' : List Ty} {ρ : Env} {t : Ty} {W : WX} {X : Cx}

/-! ### names -/
theorem RepS.len : ∀ {σ : L2.St} {Γ : List Ty} {ρ : Env} {A : List Addr}, RepS C Z H σ Γ ρ A → σ.length = ρ.length ∧ Γ.length = ρ.length
  | _, _, _, _, .nil => ⟨rfl, rfl⟩
  | _, _, _, _, .off h => by have := RepS.len h; simp [this.1, this.2]
  | _, _, _, _, .on _ h => by have := RepS.len h; simp [this.1, this.2]
/-- the slot i taken out -/
theorem RepS.cut : ∀ {σ : L2.St} {Γ : List Ty} {ρ : Env} {A : List Addr} (i : Nat), RepS C Z H σ Γ ρ A →
    ∃ A1 A2, A.Perm (A1 ++ A2) ∧ (∀ p, ρ[i]? = some (some p) → ∃ v t, σ[i]? = some (some v) ∧ Γ[i]? = some t ∧ Rep C Z H t v p A1) ∧ ∀ o t', RepS C Z H (σ.set i o) (Γ.set i t') (ρ.set i none) A2
  | _, _, _, _, _, .nil => ⟨[], [], .refl _, fun p h => by simp at h, fun o t' => by simpa using RepS.nil⟩
  | _, _, _, _, 0, .off h => ⟨[], _, .refl _, fun p h => by simp at h, fun o t' => by simpa using RepS.off h⟩
  | _, _, _, _, 0, .on (t := t) (v := v) h1 h2 => ⟨_, _, .refl _, fun p h => by simp at h; subst h; exact ⟨v, t, rfl, rfl, h1⟩, fun o t' => by simpa using RepS.off h2⟩
  | _, _, _, _, i + 1, .off h => by
    obtain ⟨A1, A2, pm, h1, h2⟩ := RepS.cut i h
    exact ⟨A1, A2, pm, fun p e => by simpa using h1 p (by simpa using e), fun o t' => by simpa using RepS.off (h2 o t')⟩
  | _, _, _, _, i + 1, .on (A := B1) h1 h2 => by
    obtain ⟨A1, A2, pm, q1, q2⟩ := RepS.cut i h2
    refine ⟨A1, B1 ++ A2, ?_, fun p e => by simpa using q1 p (by simpa using e), fun o t' => by simpa using RepS.on h1 (q2 o t')⟩
    refine (List.Perm.append_left B1 pm).trans ?_
    rw [← List.append_assoc, ← List.append_assoc]
    exact List.Perm.append_right A2 List.perm_append_comm
/-- a value put into an empty slot -/
theorem RepS.put : ∀ {σ : L2.St} {Γ : List Ty} {ρ : Env} {A : List Addr} (i : Nat) {v : V} {t : Ty} {p : PV} {A1 : List Addr}, RepS C Z H σ Γ ρ A → ρ[i]? = some none → Rep C Z H t v p A1 →
    ∃ A', A'.Perm (A1 ++ A) ∧ RepS C Z H (σ.set i (some v)) (Γ.set i t) (ρ.set i (some p)) A'
  | _, _, _, _, _, _, _, _, _, .nil, h, _ => by simp at h
  | _, _, _, _, 0, _, _, _, _, .off h, _, r => ⟨_, .refl _, by simpa using RepS.on r h⟩
  | _, _, _, _, 0, _, _, _, _, .on _ _, h, _ => by simp at h
  | _, _, _, _, i + 1, _, _, _, _, .off h, e, r => by
    obtain ⟨A', pm, q⟩ := RepS.put i h (by simpa using e) r
    exact ⟨A', pm, by simpa using RepS.off q⟩
  | _, _, _, _, i + 1, _, _, _, A1, .on (A := B1) (B := B2) h1 h2, e, r => by
    obtain ⟨A', pm, q⟩ := RepS.put i h2 (by simpa using e) r
    refine ⟨B1 ++ A', ?_, by simpa using RepS.on h1 q⟩
    refine (List.Perm.append_left B1 pm).trans ?_
    rw [← List.append_assoc, ← List.append_assoc]
    exact List.Perm.append_right B2 List.perm_append_comm
theorem Okk.perm (h : Okk Z H A) (p : A.Perm A') : Okk Z H A' := ⟨p.nodup_iff.mp h.1, fun a ha => h.2.1 a (p.mem_iff.mpr ha), h.2.2⟩
theorem Okk.right (h : Okk Z H (A ++ B)) : Okk Z H B := ⟨(List.nodup_append.mp h.1).2.1, fun a ha => h.2.1 a (List.mem_append_right _ ha), h.2.2⟩
theorem Okk.left (h : Okk Z H (A ++ B)) : Okk Z H A := ⟨(List.nodup_append.mp h.1).1, fun a ha => h.2.1 a (List.mem_append_left _ ha), h.2.2⟩
theorem set_set_same {α : Type} (l : List α) (i : Nat) (x y : α) : (l.set i x).set i y = l.set i y := by simp
theorem set_get_same {α : Type} {l : List α} {i : Nat} {x : α} (h : l[i]? = some x) : l.set i x = l := by
  apply List.ext_getElem?
  intro j
  rw [List.getElem?_set]
  split
  · rename_i e
    subst e
    split
    · exact h.symm
    · rename_i hl
      rw [List.getElem?_eq_none (by omega)] at h
      cases h
  · rfl
theorem eVar_ok {i : Nat} {Q : PV × Env → Prop} {E : Exc → Prop} (h : (eVar i ρ).To Q E) : ∃ p, ρ[i]? = some (some p) ∧ Q (p, ρ) := by
  unfold eVar at h
  split at h
  · rename_i p e
    exact ⟨p, e, h⟩
  · exact h.elim
theorem eMove_ok {i : Nat} {Q : PV × Env → Prop} {E : Exc → Prop} (h : (eMove i ρ).To Q E) : ∃ p, ρ[i]? = some (some p) ∧ Q (p, ρ.set i none) := by
  unfold eMove at h
  split at h
  · rename_i p e
    exact ⟨p, e, h⟩
  · exact h.elim
/-- a name whose thing is a value -/
theorem PreE.val {i : Nat} {p : PV} (pre : PreE C Z H σ Γ ρ A) (hΓ : Γ[i]? = some .v) (h : ρ[i]? = some (some p)) : ∃ v, σ[i]? = some (some v) ∧ Den C Z H v p := by
  obtain ⟨A1, A2, _, h1, _⟩ := pre.rep.cut i
  obtain ⟨v, t, e1, e2, r⟩ := h1 p h
  rw [hΓ] at e2; cases e2
  cases r with
  | v d => exact ⟨v, e1, d⟩
theorem PreE.post0 {v : V} {p : PV} (pre : PreE C Z H σ Γ ρ A) (d : Den C Z H v p) : PostE C Z H A σ Γ .v (p, ρ) v H :=
  ⟨Z, A, [], pre.rep, .v d, by rw [List.append_nil]; exact pre.ok, Tr.refl (by simp)⟩
theorem tM_var {i : Nat} (hΓ : Γ[i]? = some .v) {Q : VK} (h : tM C W (eVar i) Γ Γ .v σ H Q) : tVar i σ H Q := by
  obtain ⟨ρ, Z, A, pre, h⟩ := h
  obtain ⟨p, e, h⟩ := eVar_ok h
  obtain ⟨v, e1, d⟩ := pre.val hΓ e
  exact ⟨v, e1, h v H (pre.post0 d)⟩
/-- a name whose thing is our own, moved out -/
theorem tM_move {i : Nat} (hΓ : Γ[i]? = some t) {Q : VK} (h : tM C W (eMove i) Γ Γ t σ H Q) : tVar i σ H Q := by
  obtain ⟨ρ, Z, A, pre, h⟩ := h
  obtain ⟨p, e, h⟩ := eMove_ok h
  obtain ⟨A1, A2, pm, h1, h2⟩ := pre.rep.cut i
  obtain ⟨v, t', e1, e2, r⟩ := h1 p e
  rw [hΓ] at e2; cases e2
  have q := h2 (some v) t
  rw [set_get_same e1, set_get_same hΓ] at q
  exact ⟨v, e1, h v H ⟨Z, A2, A1, q, r, (pre.ok.perm pm).perm List.perm_append_comm, Tr.refl fun a ha => pm.mem_iff.mpr (List.mem_append.mpr ((List.mem_append.mp ha).symm))⟩⟩
/-- .. frozen -/
theorem freeze_in (pre : PreE C Z H σ Γ ρ A) (pm : A.Perm (A1 ++ A2)) : PreE C (fun a => Z a ∨ a ∈ A1) H σ Γ ρ A → True := fun _ => trivial
theorem okk_frz (ok : Okk Z H (A1 ++ A2)) (hm : ∀ a ∈ A1, ∃ o, H a = some o) : Okk (fun a => Z a ∨ a ∈ A1) H A2 := by
  obtain ⟨nd, nz, zt⟩ := ok
  obtain ⟨_, n2, n3⟩ := List.nodup_append.mp nd
  refine ⟨n2, fun a ha z => ?_, fun a z => ?_⟩
  · rcases z with z | z
    · exact nz a (List.mem_append_right _ ha) z
    · exact n3 a z a ha rfl
  · rcases z with z | z
    · exact zt a z
    · exact hm a z
theorem stays_frz : Stays Z H (fun a => Z a ∨ a ∈ A1) H := ⟨fun _ z => .inl z, fun _ _ e _ => e⟩
theorem tM_frz {i : Nat} (hΓ : Γ[i]? = some t) {Q : VK} (h : tM C W (eVar i) Γ (Γ.set i .v) .v σ H Q) : tVar i σ H Q := by
  obtain ⟨ρ, Z, A, pre, h⟩ := h
  obtain ⟨p, e, h⟩ := eVar_ok h
  obtain ⟨A1, A2, pm, h1, h2⟩ := pre.rep.cut i
  obtain ⟨v, t', e1, e2, r⟩ := h1 p e
  rw [hΓ] at e2; cases e2
  have ok := okk_frz (pre.ok.perm pm) fun a ha => let ⟨o, e, _⟩ := r.mut a ha; ⟨o, e⟩
  have s : Stays Z H (fun a => Z a ∨ a ∈ A1) H := stays_frz
  have d : Den C (fun a => Z a ∨ a ∈ A1) H v p := (r.stays s fun _ _ => rfl).freeze fun a ha => .inr ha
  have q := (h2 (some v) .v).stays s fun _ _ => rfl
  have hi : (ρ.set i none)[i]? = some none := by
    have hl : i < ρ.length := (List.getElem?_eq_some_iff.mp e).1
    simp [hl]
  obtain ⟨A', pm', q'⟩ := RepS.put i q hi (.v d)
  rw [set_set_same, set_set_same, set_set_same, set_get_same e1, set_get_same e] at q'
  refine ⟨v, e1, h v H ⟨_, A', [], q', .v d, ?_, ⟨fun _ _ e _ => e, fun _ o e => ⟨o, e⟩, fun _ z => .inl z, fun a z => ?_, fun a ha => ?_⟩⟩⟩
  · rw [List.append_nil]
    exact ok.perm (by simpa using pm'.symm)
  · rcases z with z | z
    · exact .inl z
    · exact .inr (.inl (pm.mem_iff.mpr (List.mem_append_left _ z)))
  · rw [List.append_nil] at ha
    have := pm'.mem_iff.mp ha
    exact .inl (pm.mem_iff.mpr (List.mem_append_right _ (by simpa using this)))
theorem sm_var {i : Nat} {x : Str} {pos : Pos} (hN : X.N[i]? = some x) (hv : Vis X.env.scope x) (hΓ : Γ[i]? = some .v) (hd : (x == ("__debug__" : Str)) = false := by decide) (hcd : (x == ("__classdict__" : Str)) = false := by decide) :
    PE X (.Name x pos) (tM C W (eVar i) Γ Γ .v) := PEi (pe_var hN hv hd hcd) fun _ _ _ h => tM_var hΓ h
theorem sm_move {i : Nat} {x : Str} {pos : Pos} (hN : X.N[i]? = some x) (hv : Vis X.env.scope x) (hΓ : Γ[i]? = some t) (hd : (x == ("__debug__" : Str)) = false := by decide) (hcd : (x == ("__classdict__" : Str)) = false := by decide) :
    PE X (.Name x pos) (tM C W (eMove i) Γ Γ t) := PEi (pe_var hN hv hd hcd) fun _ _ _ h => tM_move hΓ h
theorem sm_frz {i : Nat} {x : Str} {pos : Pos} (hN : X.N[i]? = some x) (hv : Vis X.env.scope x) (hΓ : Γ[i]? = some t) (hd : (x == ("__debug__" : Str)) = false := by decide) (hcd : (x == ("__classdict__" : Str)) = false := by decide) :
    PE X (.Name x pos) (tM C W (eVar i) Γ (Γ.set i .v) .v) := PEi (pe_var hN hv hd hcd) fun _ _ _ h => tM_frz hΓ h
/-- a constant -/
theorem tM_k {v : V} {p : PV} (hd : ∀ Z H, Den C Z H v p) {Q : VK} (h : tM C W (eK p) Γ Γ .v σ H Q) : tC v σ H Q := by
  obtain ⟨ρ, Z, A, pre, h⟩ := h
  exact h v H (pre.post0 (hd Z H))
theorem sm_int {i : Int} {j pos} : PE X (.Constant (.int i) j pos) (tM C W (eK (.int i)) Γ Γ .v) := PEi pe_int fun _ _ _ h => tM_k (fun _ _ => .int i) h
theorem sm_bl {b : Bool} {j pos} : PE X (.Constant (.bool b) j pos) (tM C W (eK (.bool b)) Γ Γ .v) := PEi pe_bl fun _ _ _ h => tM_k (fun _ _ => .bl b) h
theorem sm_non {j pos} : PE X (.Constant .none j pos) (tM C W (eK .non) Γ Γ .v) := PEi pe_non fun _ _ _ h => tM_k (fun _ _ => .non) h
theorem sm_str {x : Str} {j pos} : PE X (.Constant (.str x) j pos) (tM C W (eK (.str x)) Γ Γ .v) := PEi pe_str fun _ _ _ h => tM_k (fun _ _ => .str x) h
/-- a value held as our own may be taken as a value -/
theorem sm_v {e : Expr} {f : ES} (h : PE X e (tM C W f Γ Γ' t)) : PE X e (tM C W f Γ Γ' .v) := PEi h fun σ H Q ⟨ρ, Z, A, pre, q⟩ => ⟨ρ, Z, A, pre, q.mono (fun r hr v H' ⟨Z', A', B, a, b, c, d⟩ => hr v H' (by
  have s : Stays Z' H' (fun a => Z' a ∨ a ∈ B) H' := stays_frz
  have ok := okk_frz (c.perm List.perm_append_comm) fun a ha => let ⟨o, e, _⟩ := b.mut a ha; ⟨o, e⟩
  refine ⟨fun a => Z' a ∨ a ∈ B, A', [], a.stays s fun _ _ => rfl, .v ((b.stays s fun _ _ => rfl).freeze fun a ha => .inr ha), by rw [List.append_nil]; exact ok, ⟨d.keep, d.there, fun a z => .inl (d.zm a z), fun a z => ?_, fun a ha => d.an a (List.mem_append_left _ (by simpa using ha))⟩⟩
  rcases z with z | z
  · exact d.zn a z
  · exact .inr (d.an a (List.mem_append_right _ z)))) fun _ he => he⟩

/-! ### what is looked at: a value, or a list, a dict of our own -/
inductive Obs (C : Cn) (Z : Addr → Prop) (H : Hp) : V → PV → Prop
  | den {v : V} {p : PV} : Den C Z H v p → Obs C Z H v p
  | lst {a : Addr} {vs : List V} {ps : List PV} : H a = some (.lst vs) → DenL C Z H vs ps → Obs C Z H (.ref a) (.lst ps)
  | dct {a : Addr} {es : Array DictEntry} {kvs : List (PV × PV)} : H a = some (DictAt a es) → DenD C Z H es.toList kvs → oneKind kvs = true → Obs C Z H (.ref a) (.dct kvs)
theorem RepD.den : ∀ {es : List DictEntry} {kvs : List (PV × PV)} {A : List Addr}, RepD C Z H .v es kvs A → DenD C Z H es kvs
  | _, _, _, .nil => .nil
  | _, _, _, .cons h1 h2 h3 h4 (.v h5) h6 => .cons h1 h2 h3 h4 h5 (RepD.den h6)
def Ty.flat : Ty → Bool
  | .v => true
  | .l .v => true
  | .d .v => true
  | _ => false
theorem Rep.obs {v : V} {p : PV} (h : Rep C Z H t v p A) (hf : t.flat = true) : Obs C Z H v p := by
  cases h with
  | v h => exact .den h
  | @l t _ _ _ _ h1 h2 =>
    cases t with
    | v => exact .lst h1 h2.den.1
    | l _ => exact absurd hf (by simp [Ty.flat])
    | d _ => exact absurd hf (by simp [Ty.flat])
  | @d t _ _ _ _ h1 h2 h3 =>
    cases t with
    | v => exact .dct h1 h2.den h3
    | l _ => exact absurd hf (by simp [Ty.flat])
    | d _ => exact absurd hf (by simp [Ty.flat])
/-- the reading of an operand that is looked at -/
def tO (C : Cn) (W : WX) (f : ES) (Γ Γ' : List Ty) : TE := fun σ H Q =>
  ∃ (ρ : Env) (Z : Addr → Prop) (A : List Addr), PreE C Z H σ Γ ρ A ∧
    (f ρ).To (fun r => ∀ v H' Z' A', PreE C Z' H' σ Γ' r.2 A' → Obs C Z' H' v r.1 → Tr Z H A Z' H' A' → Q v H') fun e => ∀ cls d H', PostX C Z H A e cls d H' → W cls d σ H'
theorem so {e : Expr} {f : ES} (h : PE X e (tM C W f Γ Γ' t)) (hf : t.flat = true := by rfl) : PE X e (tO C W f Γ Γ') := PEi h fun σ H Q ⟨ρ, Z, A, pre, q⟩ => ⟨ρ, Z, A, pre, q.mono (fun r hr v H' ⟨Z', A', B, a, b, c, d⟩ => hr v H' Z' A' ⟨a, c.left⟩ (b.obs hf) (d.sub fun _ h => List.mem_append_left _ h)) fun _ he => he⟩
theorem tO_own {i : Nat} (hΓ : Γ[i]? = some t) (hf : t.flat = true) {Q : VK} (h : tO C W (eVar i) Γ Γ σ H Q) : tVar i σ H Q := by
  obtain ⟨ρ, Z, A, pre, h⟩ := h
  obtain ⟨p, e, h⟩ := eVar_ok h
  obtain ⟨A1, A2, _, h1, _⟩ := pre.rep.cut i
  obtain ⟨v, t, e1, e2, r⟩ := h1 p e
  rw [hΓ] at e2; cases e2
  exact ⟨v, e1, h v H Z A pre (r.obs hf) (Tr.refl fun _ h => h)⟩
/-- a name whose thing is our own, looked at -/
theorem so_own {i : Nat} {x : Str} {pos : Pos} (hN : X.N[i]? = some x) (hv : Vis X.env.scope x) (hΓ : Γ[i]? = some t) (hf : t.flat = true := by rfl) (hd : (x == ("__debug__" : Str)) = false := by decide) (hcd : (x == ("__classdict__" : Str)) = false := by decide) :
    PE X (.Name x pos) (tO C W (eVar i) Γ Γ) := PEi (pe_var hN hv hd hcd) fun _ _ _ h => tO_own hΓ hf h

/-! ### operations on two values, on one; the last operand is looked at -/
def Op2 (C : Cn) (f : PV → PV → Res PV) (r : R2) (t : Ty) : Prop := ∀ (Z : Addr → Prop) (H : Hp) (x y : V) (p q : PV) (Q : VK), (∀ a, Z a → ∃ o, H a = some o) → Den C Z H x p → Obs C Z H y q →
  (f p q).To (fun s => ∀ v H', NewT C Z H t v s H' → Q v H') (fun _ => False) → r x y H Q
def Op1 (C : Cn) (f : PV → Res PV) (r : V → Hp → VK → Prop) (t : Ty) : Prop := ∀ (Z : Addr → Prop) (H : Hp) (x : V) (p : PV) (Q : VK), (∀ a, Z a → ∃ o, H a = some o) → Obs C Z H x p →
  (f p).To (fun s => ∀ v H', NewT C Z H t v s H' → Q v H') (fun _ => False) → r x H Q
/-- f raises nothing -/
def NoX2 (f : PV → PV → Res PV) : Prop := ∀ p q e, f p q ≠ .exc e
def NoX1 (f : PV → Res PV) : Prop := ∀ p e, f p ≠ .exc e
theorem To.nox {α : Type} {r : Res α} {Q : α → Prop} {E E' : Exc → Prop} (hn : ∀ e, r ≠ .exc e) (h : r.To Q E) : r.To Q E' := by
  cases r with
  | ok a => exact h
  | exc e => exact absurd rfl (hn e)
  | stuck => exact h
theorem tM_op2 {f : PV → PV → Res PV} {r : R2} {fa fb : ES} (ho : Op2 C f r t) (hn : NoX2 f) {Q : VK} (h : tM C W (e2 f fa fb) Γ Γ2 t σ H Q) : tOp r (tM C W fa Γ Γ1 .v) (tO C W fb Γ1 Γ2) σ H Q := by
  obtain ⟨ρ, Z, A, pre, h⟩ := h
  refine ⟨ρ, Z, A, pre, h.bind.mono (fun r1 h1 x H1 p1 => ?_) fun _ he => he⟩
  obtain ⟨Z1, A1, pre1, d1, t1⟩ := p1.pre
  refine ⟨r1.2, Z1, A1, pre1, h1.bind.mono (fun r2 h2 y H2 Z2 A2 pre2 d2 t2 => ?_) fun e he cls d H' px => he cls d H' (px.comp t1)⟩
  exact ho Z2 H2 x y r1.1 r2.1 Q pre2.ok.2.2 (d1.stays (pre1.stays t2)) d2 (To.nox (hn _ _) (h2.bind.mono (fun s hs v H' hv => hs v H' ((hv.post pre2).comp (t1.trans t2))) fun _ he => he))
theorem tM_op1 {f : PV → Res PV} {r : V → Hp → VK → Prop} {fa : ES} (ho : Op1 C f r t) (hn : NoX1 f) {Q : VK} (h : tM C W (e1 f fa) Γ Γ1 t σ H Q) : tUn r (tO C W fa Γ Γ1) σ H Q := by
  obtain ⟨ρ, Z, A, pre, h⟩ := h
  refine ⟨ρ, Z, A, pre, h.bind.mono (fun r1 h1 x H1 Z1 A1 pre1 d1 t1 => ?_) fun _ he => he⟩
  exact ho Z1 H1 x r1.1 Q pre1.ok.2.2 d1 (To.nox (hn _) (h1.bind.mono (fun s hs v H' hv => hs v H' ((hv.post pre1).comp t1)) fun _ he => he))
section
variable {a b : Expr} {fa fb : ES} {pos : Pos}
theorem sm_bin {op : Operator} {f : PV → PV → Res PV} {r : R2} (hr : OpR X (binaryOp op) r) (ho : Op2 C f r t) (hn : NoX2 f) (ha : PE X a (tM C W fa Γ Γ1 .v)) (hb : PE X b (tO C W fb Γ1 Γ2)) :
    PE X (.BinOp a op b pos) (tM C W (e2 f fa fb) Γ Γ2 t) := PEi (pe_op hr ha hb) fun _ _ _ h => tM_op2 ho hn h
theorem sm_cmp {op : CmpOp} {f : PV → PV → Res PV} {r : R2} (hr : OpR X (compareOp op) r) (ho : Op2 C f r .v) (hn : NoX2 f) (ha : PE X a (tM C W fa Γ Γ1 .v)) (hb : PE X b (tO C W fb Γ1 Γ2)) (hm : behindInMarks op b = false := by rfl) :
    PE X (.Compare a [op] [b] pos) (tM C W (e2 f fa fb) Γ Γ2 .v) := PEi (pe_cmpR hr ha hb hm) fun _ _ _ h => tM_op2 ho hn h
theorem sm_un {op : UnaryOp} {f : PV → Res PV} {r : V → Hp → VK → Prop} (hr : UnR X (unaryOp op) r) (ho : Op1 C f r t) (hn : NoX1 f) (ha : PE X a (tO C W fa Γ Γ1)) :
    PE X (.UnaryOp op a pos) (tM C W (e1 f fa) Γ Γ1 t) := PEi (pe_un hr ha) fun _ _ _ h => tM_op1 ho hn h
theorem sm_ix {f : PV → PV → Res PV} {r : R2} (hr : IxR X r) (ho : Op2 C f r t) (hn : NoX2 f) (ha : PE X a (tM C W fa Γ Γ1 .v)) (hb : PE X b (tO C W fb Γ1 Γ2)) (hs : PlainIx b) :
    PE X (.Subscript a b pos) (tM C W (e2 f fa fb) Γ Γ2 t) := PEi (pe_ix hr ha hb hs) fun _ _ _ h => tM_op2 ho hn h
end
end
end Mi

/-! Operations. -/
namespace Mi
open PySem PySem.Spec L2
open PyProof.Rows hiding St
section
variable {C : Cn} {Z : Addr → Prop} {H : Hp} {X : Cx}
theorem lim_eq : lim = sizeLine := by rw [sizeLine_eq]; rfl

mutual
/-- plain data is the layer's data -/
theorem Den.dp : ∀ {v : V} {p : PV} {d : PyData}, Den C Z H v p → p.data = some d → Dp C.K H v d
  | _, _, _, .non, h => by cases h; exact .non
  | _, _, _, .bl b, h => by cases h; exact .bl b
  | _, _, _, .int i, h => by cases h; exact .int i
  | _, _, _, .str x, h => by cases h; exact .str x
  | _, _, _, .tup (ps := ps) h1 h2, h => by
    simp only [PV.data, Option.map_eq_some_iff] at h
    obtain ⟨ds, h, rfl⟩ := h
    exact .tup h1 (DenL.dp h2 h)
  | _, _, _, .lst (ps := ps) h1 h2, h => by
    simp only [PV.data, Option.map_eq_some_iff] at h
    obtain ⟨ds, h, rfl⟩ := h
    exact .lst h1.sq (DenL.dp h2 h)
  | _, _, _, .scr _ _, h => by simp [PV.data] at h
  | _, _, _, .fn _, h => by simp [PV.data] at h
  | _, _, _, .dct _ _ _ _, h => by simp [PV.data] at h
  | _, _, _, .ins _ _ _ _, h => by simp [PV.data] at h
theorem DenL.dp : ∀ {vs : List V} {ps : List PV} {ds : List PyData}, DenL C Z H vs ps → PV.dataL ps = some ds → DpAll C.K H vs ds
  | _, _, _, .nil, h => by cases h; exact .nil
  | _, _, _, .cons (p := p) (ps := ps) h1 h2, h => by
    unfold PV.dataL at h
    split at h
    · rename_i d ds e1 e2
      cases h
      exact .cons (Den.dp h1 e1) (DenL.dp h2 e2)
    · cases h
end
theorem Obs.dp {v : V} {p : PV} {d : PyData} (h : Obs C Z H v p) (e : p.data = some d) : Dp C.K H v d := by
  cases h with
  | den h => exact h.dp e
  | lst h1 h2 =>
    simp only [PV.data, Option.map_eq_some_iff] at e
    obtain ⟨ds, e, rfl⟩ := e
    exact .lst (.of h1) (h2.dp e)
  | dct _ _ _ => simp [PV.data] at e

/-! ints -/
theorem Obs.int {v : V} {i : Int} (h : Obs C Z H v (.int i)) : v = .int i := by cases h with | den h => cases h; rfl
theorem Den.toInt {v : V} {i : Int} (h : Den C Z H v (.int i)) : v = .int i := by cases h; rfl
theorem Den.toTup {v : V} {ps : List PV} (h : Den C Z H v (.tup ps)) : ∃ a vs, v = .ref a ∧ SqT C.K H a vs ∧ DenL C Z H vs ps := by cases h with | tup h1 h2 => exact ⟨_, _, rfl, h1, h2⟩
theorem Obs.tup {v : V} {ps : List PV} (h : Obs C Z H v (.tup ps)) : ∃ a vs, v = .ref a ∧ SqT C.K H a vs ∧ DenL C Z H vs ps := by cases h with | den h => exact h.toTup
theorem Den.toLst {v : V} {ps : List PV} (h : Den C Z H v (.lst ps)) : ∃ a vs, v = .ref a ∧ H a = some (.lst vs) ∧ DenL C Z H vs ps := by cases h with | lst h1 h2 => exact ⟨_, _, rfl, h1.2, h2⟩
theorem Obs.toLst {v : V} {ps : List PV} (h : Obs C Z H v (.lst ps)) : ∃ a vs, v = .ref a ∧ H a = some (.lst vs) ∧ DenL C Z H vs ps := by
  cases h with
  | den h => exact h.toLst
  | lst h1 h2 => exact ⟨_, _, rfl, h1, h2⟩
/-- a sequence, looked at -/
theorem Obs.seq {v : V} {p : PV} {ps : List PV} (h : Obs C Z H v p) (e : p.seq? = some ps) : ∃ a vs, v = .ref a ∧ (SqL C.K H a vs ∨ SqT C.K H a vs) ∧ DenL C Z H vs ps := by
  cases p with
  | tup xs => cases e; obtain ⟨a, vs, h1, h2, h3⟩ := h.tup; exact ⟨a, vs, h1, .inr h2, h3⟩
  | lst xs => cases e; obtain ⟨a, vs, h1, h2, h3⟩ := h.toLst; exact ⟨a, vs, h1, .inl (.of h2), h3⟩
  | _ => cases e
theorem DenL.length : ∀ {vs : List V} {ps : List PV}, DenL C Z H vs ps → vs.length = ps.length
  | _, _, .nil => rfl
  | _, _, .cons _ h => by simp [DenL.length h]
theorem DenL.append : ∀ {vs ws : List V} {ps qs : List PV}, DenL C Z H vs ps → DenL C Z H ws qs → DenL C Z H (vs ++ ws) (ps ++ qs)
  | _, _, _, _, .nil, h => h
  | _, _, _, _, .cons h1 h2, h => .cons h1 (DenL.append h2 h)
theorem DenL.get : ∀ {vs : List V} {ps : List PV} {j : Nat} {p : PV}, DenL C Z H vs ps → ps[j]? = some p → ∃ v, vs[j]? = some v ∧ Den C Z H v p
  | _, _, _, _, .nil, h => by simp at h
  | _, _, 0, _, .cons h1 _, h => by simp at h; subst h; exact ⟨_, rfl, h1⟩
  | _, _, j + 1, _, .cons _ h2, h => by
    obtain ⟨v, e, d⟩ := DenL.get (j := j) h2 (by simpa using h)
    exact ⟨v, by simpa using e, d⟩
theorem DenL.get' : ∀ {vs : List V} {ps : List PV} {j : Nat} {v : V}, DenL C Z H vs ps → vs[j]? = some v → ∃ p, ps[j]? = some p ∧ Den C Z H v p
  | _, _, _, _, .nil, h => by simp at h
  | _, _, 0, _, .cons h1 _, h => by simp at h; subst h; exact ⟨_, rfl, h1⟩
  | _, _, j + 1, _, .cons _ h2, h => by
    obtain ⟨v, e, d⟩ := DenL.get' (j := j) h2 (by simpa using h)
    exact ⟨v, by simpa using e, d⟩
theorem DenL.drop : ∀ {vs : List V} {ps : List PV} (n : Nat), DenL C Z H vs ps → DenL C Z H (vs.drop n) (ps.drop n)
  | _, _, 0, h => h
  | _, _, _ + 1, .nil => .nil
  | _, _, n + 1, .cons _ h => DenL.drop n h
theorem DenL.take : ∀ {vs : List V} {ps : List PV} (n : Nat), DenL C Z H vs ps → DenL C Z H (vs.take n) (ps.take n)
  | _, _, 0, _ => .nil
  | _, _, _ + 1, .nil => .nil
  | _, _, n + 1, .cons h1 h => .cons h1 (DenL.take n h)
theorem DenL.snoc {vs : List V} {ps : List PV} {v : V} {p : PV} (h : DenL C Z H vs ps) (d : Den C Z H v p) : DenL C Z H (vs ++ [v]) (ps ++ [p]) := h.append (.cons d .nil)
theorem DenL.reverse : ∀ {vs : List V} {ps : List PV}, DenL C Z H vs ps → DenL C Z H vs.reverse ps.reverse
  | _, _, .nil => .nil
  | _, _, .cons h1 h => by
    rw [List.reverse_cons, List.reverse_cons]
    exact (DenL.reverse h).snoc h1
theorem DenL.rep' {vs : List V} {ps : List PV} (h : DenL C Z H vs ps) : ∀ k : Nat, DenL C Z H (repL vs k) (repL ps k)
  | 0 => .nil
  | k + 1 => by
    unfold repL
    rw [List.replicate_succ, List.replicate_succ, List.flatten_cons, List.flatten_cons]
    exact h.append (DenL.rep' h k)
theorem DenL.ints : ∀ {vs : List V} {ps : List PV} {ns : List Int}, DenL C Z H vs ps → intsOf ps = some ns → vs = ns.map V.int
  | _, _, _, .nil, h => by cases h; rfl
  | _, _, _, .cons (p := .int i) h1 h2, h => by
    simp only [intsOf, Option.map_eq_some_iff] at h
    obtain ⟨ms, h, rfl⟩ := h
    rw [h1.toInt, DenL.ints h2 h] <;> rfl
  | _, _, _, .cons (p := .non) _ _, h => by cases h
  | _, _, _, .cons (p := .bool _) _ _, h => by cases h
  | _, _, _, .cons (p := .str _) _ _, h => by cases h
  | _, _, _, .cons (p := .tup _) _ _, h => by cases h
  | _, _, _, .cons (p := .lst _) _ _, h => by cases h
  | _, _, _, .cons (p := .dct _) _ _, h => by cases h
  | _, _, _, .cons (p := .fn _) _ _, h => by cases h
  | _, _, _, .cons (p := .scr _) _ _, h => by cases h
  | _, _, _, .cons (p := .ins _ _) _ _, h => by cases h

theorem or_add (X : Cx) : OpR X (binaryOp .Add) (fun x y H Q => rI0 (fun i j => .int (i + j)) x y H Q ∨ (rCatA X.K x y H Q ∨ rCat x y H Q)) := op_add.or (op_catA.or op_cat)
theorem o_add (h : Is C X) : Op2 C addP (fun x y H Q => rI0 (fun i j => .int (i + j)) x y H Q ∨ (rCatA X.K x y H Q ∨ rCat x y H Q)) .v := by
  intro Z H x y p q Q hz hp hq hf
  cases p with
  | int i =>
    cases q with
    | int j =>
      refine .inl ⟨i, j, hp.toInt, hq.int, hf _ _ (.same hz (.int _))⟩
    | _ => exact hf.elim
  | tup xs =>
    cases q with
    | tup ys =>
      obtain ⟨a, vs, rfl, h1, h2⟩ := hp.toTup
      obtain ⟨b, ws, rfl, h3, h4⟩ := hq.tup
      dsimp only [addP] at hf
      by_cases hl : xs.length + ys.length ≤ lim
      · rw [if_pos hl] at hf
        rw [← h.K] at h1 h3
        refine .inr (.inl ⟨a, b, vs, ws, rfl, rfl, h1, h3, by rw [h2.length, h4.length, ← lim_eq]; exact hl, fun e => ?_, fun _ e => ?_, fun _ _ p hp => ?_⟩)
        · subst e; cases h2
          exact hf _ _ (.same hz (.tup (h.K ▸ h3) h4))
        · subst e; cases h4
          rw [List.append_nil] at hf
          exact hf _ _ (.same hz (.tup (h.K ▸ h1) h2))
        · exact hf _ _ (.tup hz hp (h2.append h4))
      · rw [if_neg hl] at hf; exact hf.elim
    | _ => exact hf.elim
  | lst xs =>
    cases q with
    | lst ys =>
      obtain ⟨a, vs, rfl, h1, h2⟩ := hp.toLst
      obtain ⟨b, ws, rfl, h3, h4⟩ := hq.toLst
      dsimp only [addP] at hf
      by_cases hl : xs.length + ys.length ≤ lim
      · rw [if_pos hl] at hf
        exact .inr (.inr ⟨a, b, vs, ws, rfl, rfl, h1, h3, by rw [h2.length, h4.length, ← lim_eq]; exact hl, fun p hp => hf _ _ (NewT.frz (NewT.lst hz hp (h2.append h4)))⟩)
      · rw [if_neg hl] at hf; exact hf.elim
    | _ => exact hf.elim
  | _ => exact hf.elim
/-- list + list, a list of our own -/
def catP : PV → PV → Res PV
  | .lst xs, .lst ys => if xs.length + ys.length ≤ lim then .ok (.lst (xs ++ ys)) else .stuck
  | _, _ => .stuck
theorem o_cat : Op2 C catP rCat (.l .v) := by
  intro Z H x y p q Q hz hp hq hf
  unfold catP at hf
  split at hf
  · rename_i xs ys
    obtain ⟨a, vs, rfl, h1, h2⟩ := hp.toLst
    obtain ⟨b, ws, rfl, h3, h4⟩ := hq.toLst
    by_cases hl : xs.length + ys.length ≤ lim
    · rw [if_pos hl] at hf
      exact ⟨a, b, vs, ws, rfl, rfl, h1, h3, by rw [h2.length, h4.length, ← lim_eq]; exact hl, fun p hp => hf _ _ (NewT.lst hz hp (h2.append h4))⟩
    · rw [if_neg hl] at hf; exact hf.elim
  · exact hf.elim
theorem o_int {f : PV → PV → Res PV} {P : Int → Int → Prop} {g : Int → Int → Int} (hf : ∀ p q Q E, (f p q).To Q E → ∃ i j, p = .int i ∧ q = .int j ∧ P i j ∧ Q (.int (g i j))) :
    Op2 C f (rI P fun i j => .int (g i j)) .v := fun Z H x y p q Q hz hp hq h => by
  obtain ⟨i, j, rfl, rfl, c, h⟩ := hf p q _ _ h
  exact ⟨i, j, hp.toInt, hq.int, c, h _ _ (.same hz (.int _))⟩
theorem o_int0 {f : PV → PV → Res PV} {g : Int → Int → Int} (hf : ∀ p q Q E, (f p q).To Q E → ∃ i j, p = .int i ∧ q = .int j ∧ Q (.int (g i j))) :
    Op2 C f (rI0 fun i j => .int (g i j)) .v := fun Z H x y p q Q hz hp hq h => by
  obtain ⟨i, j, rfl, rfl, k⟩ := hf p q _ _ h
  exact ⟨i, j, hp.toInt, hq.int, k _ _ (.same hz (.int _))⟩
theorem o_cmp0 {f : PV → PV → Res PV} {g : Int → Int → Bool} (hf : ∀ p q Q E, (f p q).To Q E → ∃ i j, p = .int i ∧ q = .int j ∧ Q (.bool (g i j))) :
    Op2 C f (rI0 fun i j => .bl (g i j)) .v := fun Z H x y p q Q hz hp hq h => by
  obtain ⟨i, j, rfl, rfl, k⟩ := hf p q _ _ h
  exact ⟨i, j, hp.toInt, hq.int, k _ _ (.same hz (.bl _))⟩
theorem o_sub : Op2 C subP (rI0 fun i j => .int (i - j)) .v := o_int0 fun p q Q E h => by
  unfold subP at h; split at h
  · exact ⟨_, _, rfl, rfl, h⟩
  · exact h.elim
theorem o_le : Op2 C leP (rI0 fun i j => .bl (decide (i ≤ j))) .v := o_cmp0 fun p q Q E h => by
  unfold leP at h; split at h
  · exact ⟨_, _, rfl, rfl, h⟩
  · exact h.elim
theorem o_gt : Op2 C gtP (rI0 fun i j => .bl (decide (j < i))) .v := o_cmp0 fun p q Q E h => by
  unfold gtP at h; split at h
  · exact ⟨_, _, rfl, rfl, h⟩
  · exact h.elim
theorem o_ge : Op2 C geP (rI0 fun i j => .bl (decide (j ≤ i))) .v := o_cmp0 fun p q Q E h => by
  unfold geP at h; split at h
  · exact ⟨_, _, rfl, rfl, h⟩
  · exact h.elim
/-- // by a divisor that is not 0 -/
def CDivA (i j : Int) : Prop := divOk j = true
theorem op_fdivA : OpR X (binaryOp .FloorDiv) (rI CDivA fun i j => .int (i.fdiv j)) := opI fun i j _ _ _ _ _ hc q => by
  have hc : divOk j = true := hc
  unfold divOk at hc
  simp only [Bool.and_eq_true, bne_iff_ne, ne_eq, Bool.or_eq_true, decide_eq_true_eq] at hc
  rcases hc.2 with h | ⟨h1, h2⟩
  · exact floordiv_int hc.1 q (.inl (PyProof.noPylong_small h))
  · exact floordiv_int hc.1 q (.inl (PyProof.noPylong_of_log2 h2))
theorem o_fdiv : Op2 C fdivP (rI CDivA fun i j => .int (i.fdiv j)) .v := o_int fun p q Q E h => by
  unfold fdivP at h; split at h
  · rename_i i j
    by_cases c : divOk j = true
    · rw [if_pos c] at h; exact ⟨_, _, rfl, rfl, c, h⟩
    · rw [if_neg c] at h; exact h.elim
  · exact h.elim
theorem o_mod : Op2 C modP (rI (fun _ j => j ≠ 0) fun i j => .int (i.fmod j)) .v := o_int fun p q Q E h => by
  unfold modP at h; split at h
  · rename_i i j
    by_cases c : (j != 0) = true
    · rw [if_pos c] at h; exact ⟨_, _, rfl, rfl, by simpa using c, h⟩
    · rw [if_neg c] at h; exact h.elim
  · exact h.elim
def CMulA (i j : Int) : Prop := mulOk i j = true
theorem op_mulA : OpR X (binaryOp .Mult) (rI CMulA fun i j => .int (i * j)) := opI fun i j _ _ _ _ _ hc q => by
  have hc : mulOk i j = true := hc
  unfold mulOk at hc
  simp only [Bool.or_eq_true, decide_eq_true_eq] at hc
  rcases hc with (h | h) | h
  · exact mul_int q (CMul.ok (.inl h))
  · exact mul_int q (CMul.ok (.inr h))
  · exact mul_int q (CMulW.ok h)
theorem or_mul (X : Cx) : OpR X (binaryOp .Mult) (fun x y H Q => rI CMulA (fun i j => .int (i * j)) x y H Q ∨ rRep x y H Q) := op_mulA.or op_rep
theorem o_mul : Op2 C mulP (fun x y H Q => rI CMulA (fun i j => .int (i * j)) x y H Q ∨ rRep x y H Q) .v := by
  intro Z H x y p q Q hz hp hq hf
  unfold mulP at hf
  split at hf
  · rename_i i j
    by_cases c : mulOk i j = true
    · rw [if_pos c] at hf
      exact .inl ⟨i, j, hp.toInt, hq.int, c, hf _ _ (.same hz (.int _))⟩
    · rw [if_neg c] at hf; exact hf.elim
  · rename_i xs k
    obtain ⟨a, vs, rfl, h1, h2⟩ := hp.toLst
    split at hf
    · rename_i hc
      refine .inr ⟨a, k, vs, rfl, hq.int, h1, hc.2.2, by omega, by rw [h2.length, ← lim_eq]; exact hc.2.1, fun p hp => hf _ _ (NewT.frz (NewT.lst hz hp (h2.rep' k.toNat)))⟩
    · exact hf.elim
  · exact hf.elim
/-- [..] * k, a list of our own -/
def repP : PV → PV → Res PV
  | .lst xs, .int k => if k ≤ 16777216 ∧ xs.length * k.toNat ≤ lim ∧ -(2 ^ 63) ≤ k then .ok (.lst (repL xs k.toNat)) else .stuck
  | _, _ => .stuck
theorem o_rep : Op2 C repP rRep (.l .v) := by
  intro Z H x y p q Q hz hp hq hf
  unfold repP at hf
  split at hf
  · rename_i xs k
    obtain ⟨a, vs, rfl, h1, h2⟩ := hp.toLst
    split at hf
    · rename_i hc
      exact ⟨a, k, vs, rfl, hq.int, h1, hc.2.2, by omega, by rw [h2.length, ← lim_eq]; exact hc.2.1, fun p hp => hf _ _ (NewT.lst hz hp (h2.rep' k.toNat))⟩
    · exact hf.elim
  · exact hf.elim
theorem un_negA : UnR X (unaryOp .USub) (rU fun i => .int (-i)) := un_neg
theorem o_neg : Op1 C negP (rU fun i => .int (-i)) .v := by
  intro Z H x p Q hz hp hf
  unfold negP at hf
  split at hf
  · exact ⟨_, hp.int, hf _ _ (.same hz (.int _))⟩
  · exact hf.elim

/-! comparisons -/
theorem or_lt (hu : X.A.units < cLine) : OpR X (compareOp .Lt) (fun x y H Q => rI0 (fun i j => .bl (decide (i < j))) x y H Q ∨ rLtT X.K x y H Q) := op_lt.or (op_ltT hu)
theorem o_lt (h : Is C X) : Op2 C ltP (fun x y H Q => rI0 (fun i j => .bl (decide (i < j))) x y H Q ∨ rLtT X.K x y H Q) .v := by
  intro Z H x y p q Q hz hp hq hf
  unfold ltP at hf
  split at hf
  · exact .inl ⟨_, _, hp.toInt, hq.int, hf _ _ (.same hz (.bl _))⟩
  · rename_i xs ys
    obtain ⟨a, vs, rfl, h1, h2⟩ := hp.toTup
    obtain ⟨b, ws, rfl, h3, h4⟩ := hq.tup
    split at hf
    · rename_i ns ms e1 e2
      rw [h2.ints e1] at h1
      rw [h4.ints e2] at h3
      rw [← h.K] at h1 h3
      exact .inr ⟨a, b, ns, ms, rfl, rfl, h1, h3, hf _ _ (.same hz (.bl _))⟩
    · exact hf.elim
  · exact hf.elim
theorem o_eq (h : Is C X) : Op2 C eqP (rEqD X.K) .v := by
  intro Z H x y p q Q hz hp hq hf
  unfold eqP at hf
  split at hf
  · rename_i d e e1 e2
    by_cases c : (SeqAt.shaped d && SeqAt.shaped e) = true
    · rw [if_pos c] at hf
      rw [Bool.and_eq_true] at c
      exact ⟨d, e, h.K ▸ hp.dp e1, h.K ▸ hq.dp e2, c.1, c.2, hf _ _ (.same hz (.bl _))⟩
    · rw [if_neg c] at hf; exact hf.elim
  · exact hf.elim
theorem o_ne (h : Is C X) : Op2 C neP (rNeD X.K) .v := by
  intro Z H x y p q Q hz hp hq hf
  unfold neP at hf
  split at hf
  · rename_i d e e1 e2
    by_cases c : (SeqAt.shaped d && SeqAt.shaped e) = true
    · rw [if_pos c] at hf
      rw [Bool.and_eq_true] at c
      exact ⟨d, e, h.K ▸ hp.dp e1, h.K ▸ hq.dp e2, c.1, c.2, hf _ _ (.same hz (.bl _))⟩
    · rw [if_neg c] at hf; exact hf.elim
  · exact hf.elim
/-- x is None, x is not None -/
def isN (p : PV) : Bool := match p with
  | .non => true
  | _ => false
theorem Den.isN {v : V} {p : PV} (h : Den C Z H v p) : decide (v = .non) = isN p := by cases h <;> rfl
def isNP' (p q : PV) : Res PV := match q with
  | .non => .ok (.bool (isN p))
  | _ => .stuck
def notNP (p q : PV) : Res PV := match q with
  | .non => .ok (.bool (!isN p))
  | _ => .stuck
theorem Obs.non {v : V} (h : Obs C Z H v .non) : v = .non := by cases h with | den h => cases h; rfl
theorem o_isN : Op2 C isNP' (fun x y H Q => y = .non ∧ Q (.bl (decide (x = .non))) H) .v := by
  intro Z H x y p q Q hz hp hq hf
  unfold isNP' at hf
  split at hf
  · exact ⟨hq.non, by rw [hp.isN]; exact hf _ _ (.same hz (.bl _))⟩
  · exact hf.elim
theorem o_notN : Op2 C notNP (fun x y H Q => y = .non ∧ Q (.bl (!decide (x = .non))) H) .v := by
  intro Z H x y p q Q hz hp hq hf
  unfold notNP at hf
  split at hf
  · exact ⟨hq.non, by rw [hp.isN]; exact hf _ _ (.same hz (.bl _))⟩
  · exact hf.elim

/-! x in a list, a tuple -/
def rInS (K : PySem.W.Frag) (neg : Bool) : R2 := fun x y H Q => ∃ d ds, Dp K H x d ∧ (Dp K H y (.list ds) ∨ Dp K H y (.tuple ds)) ∧ SeqAt.shaped d = true ∧ SeqAt.shaped (.list ds) = true ∧ Q (.bl (if neg then !ds.any fun z => PyData.eqv z d else ds.any fun z => PyData.eqv z d)) H
theorem op_inS (hu : X.A.units + 65 < cLine) : OpR X (compareOp .In) (rInS X.K false) := by
  intro pins s σ H x y v u Q I rx ry h
  obtain ⟨d, ds, hd, he, sd, se, q⟩ := h
  obtain ⟨as, r1⟩ := Dp.reads I d x v hd rx
  rcases he with he | he
  · obtain ⟨bs, r2⟩ := Dp.reads I (.list ds) y u he ry
    exact SeqAt.in_list_reads r2 r1 (SeqAt.canLay_of_shaped se) (SeqAt.canLay_of_shaped sd) (room_in_shaped sd hu) ⟨.bl _, H, I, rfl, q⟩
  · obtain ⟨bs, r2⟩ := Dp.reads I (.tuple ds) y u he ry
    exact SeqAt.in_tuple_reads r2 r1 (SeqAt.canLay_of_shaped se) (SeqAt.canLay_of_shaped sd) (room_in_shaped sd hu) ⟨.bl _, H, I, rfl, q⟩
theorem op_notInS (hu : X.A.units + 65 < cLine) : OpR X (compareOp .NotIn) (rInS X.K true) := by
  intro pins s σ H x y v u Q I rx ry h
  obtain ⟨d, ds, hd, he, sd, se, q⟩ := h
  obtain ⟨as, r1⟩ := Dp.reads I d x v hd rx
  rcases he with he | he
  · obtain ⟨bs, r2⟩ := Dp.reads I (.list ds) y u he ry
    exact SeqAt.notIn_list_reads r2 r1 (SeqAt.canLay_of_shaped se) (SeqAt.canLay_of_shaped sd) (room_in_shaped sd hu) ⟨.bl _, H, I, rfl, q⟩
  · obtain ⟨bs, r2⟩ := Dp.reads I (.tuple ds) y u he ry
    exact SeqAt.notIn_tuple_reads r2 r1 (SeqAt.canLay_of_shaped se) (SeqAt.canLay_of_shaped sd) (room_in_shaped sd hu) ⟨.bl _, H, I, rfl, q⟩
def inD (p q : PV) : Option Bool := match p.data, q.seq? with
  | some d, some xs => match PV.dataL xs with
    | some ds => if SeqAt.shaped d && SeqAt.shaped (.list ds) then some (ds.any fun z => PyData.eqv z d) else none
    | none => none
  | _, _ => none
def inP (p q : PV) : Res PV := (Res.opt (inD p q)) >>= fun b => .ok (.bool b)
def notInP (p q : PV) : Res PV := (Res.opt (inD p q)) >>= fun b => .ok (.bool (!b))
theorem inD_some {p q : PV} {b : Bool} (h : inD p q = some b) : ∃ d xs ds, p.data = some d ∧ q.seq? = some xs ∧ PV.dataL xs = some ds ∧ SeqAt.shaped d = true ∧ SeqAt.shaped (.list ds) = true ∧ b = ds.any fun z => PyData.eqv z d := by
  unfold inD at h
  split at h
  · rename_i d xs e1 e2
    split at h
    · rename_i ds e3
      split at h
      · rename_i c
        rw [Bool.and_eq_true] at c
        cases h
        exact ⟨d, xs, ds, e1, e2, e3, c.1, c.2, rfl⟩
      · cases h
    · cases h
  · cases h
theorem Obs.dpS {v : V} {q : PV} {xs : List PV} {ds : List PyData} (h : Obs C Z H v q) (e : q.seq? = some xs) (e2 : PV.dataL xs = some ds) : Dp C.K H v (.list ds) ∨ Dp C.K H v (.tuple ds) := by
  cases q with
  | tup xs => cases e; exact .inr (h.dp (by simp [PV.data, e2]))
  | lst xs => cases e; exact .inl (h.dp (by simp [PV.data, e2]))
  | _ => cases e
theorem opt_to {α : Type} {o : Option α} {Q : α → Prop} {E : Exc → Prop} (h : (Res.opt o).To Q E) : ∃ a, o = some a ∧ Q a := by
  cases o with
  | some a => exact ⟨a, rfl, h⟩
  | none => exact h.elim
theorem o_in (h : Is C X) : Op2 C inP (rInS X.K false) .v := by
  intro Z H x y p q Q hz hp hq hf
  obtain ⟨b, e, hf⟩ := opt_to hf.bind
  obtain ⟨d, xs, ds, e1, e2, e3, e4, e5, rfl⟩ := inD_some e
  exact ⟨d, ds, h.K ▸ hp.dp e1, h.K ▸ hq.dpS e2 e3, e4, e5, hf _ _ (.same hz (.bl _))⟩
theorem o_notIn (h : Is C X) : Op2 C notInP (rInS X.K true) .v := by
  intro Z H x y p q Q hz hp hq hf
  obtain ⟨b, e, hf⟩ := opt_to hf.bind
  obtain ⟨d, xs, ds, e1, e2, e3, e4, e5, rfl⟩ := inD_some e
  exact ⟨d, ds, h.K ▸ hp.dp e1, h.K ▸ hq.dpS e2 e3, e4, e5, hf _ _ (.same hz (.bl _))⟩

/-! items -/
def idxP (p q : PV) : Res PV := match p.seq?, q with
  | some xs, .int i => Res.opt (atI xs i)
  | _, _ => .stuck
theorem DenL.atI {vs : List V} {ps : List PV} {i : Int} {p : PV} (h : DenL C Z H vs ps) (e : L2.atI ps i = some p) : ∃ v, L2.atI vs i = some v ∧ Den C Z H v p := by
  unfold L2.atI at e ⊢
  rw [h.length]
  cases q : ixN ps.length i with
  | none => rw [q] at e; cases e
  | some j =>
    rw [q] at e
    obtain ⟨v, e', d⟩ := h.get (j := j) (p := p) (by simpa using e)
    exact ⟨v, by simpa using e', d⟩
theorem o_ix (h : Is C X) : Op2 C idxP (rIx X.K) .v := by
  intro Z H x y p q Q hz hp hq hf
  unfold idxP at hf
  split at hf
  · rename_i xs i e1
    obtain ⟨z, e2, hf⟩ := opt_to hf
    obtain ⟨a, vs, rfl, h1, h2⟩ := (Obs.den hp).seq e1
    obtain ⟨v, e3, d⟩ := h2.atI e2
    rw [← h.K] at h1
    rcases h1 with h1 | h1
    · exact .inl ⟨a, vs, i, v, rfl, hq.int, h1, e3, hf _ _ (.same hz d)⟩
    · exact .inr (.inl ⟨a, vs, i, v, rfl, hq.int, h1, e3, hf _ _ (.same hz d)⟩)
  · exact hf.elim

/-! calls of built-ins with one argument -/
def rC1 (r : List V → Hp → VK → Prop) : V → Hp → VK → Prop := fun x H Q => r [x] H Q
section
variable {a : Expr} {fa : ES} {pos p : Pos} {W : WX} {Γ Γ1 : List Ty} {t : Ty} {x : Str} {id T : String} {f : PV → Res PV} {r : List V → Hp → VK → Prop}
theorem tM_call1 (ho : Op1 C f (rC1 r) t) (hn : NoX1 f) {σ : L2.St} {Q : VK} (h : tM C W (e1 f fa) Γ Γ1 t σ H Q) : tCB r (tCons (tO C W fa Γ Γ1) tNil) σ H Q := tM_op1 ho hn h
theorem sm_b1 (hc : CallR X (.builtin id) r) (ho : Op1 C f (rC1 r) t) (hn : NoX1 f) (hg : Gl X x) (hm : X.mg x = none) (hv : bootBuiltins x = some (.builtin id)) (ha : PE X a (tO C W fa Γ Γ1))
    (hs : starEach [a] X.env = (false, eval a X.env) :: starEach [] X.env := by rfl) (hx : x ≠ "__name__" := by decide) (hdb : (x == ("__debug__" : Str)) = false := by decide) :
    PE X (.Call (.Name x p) [a] [] pos) (tM C W (e1 f fa) Γ Γ1 t) := PEi (pe_callB hc hg hm hv (pa_cons ha pa_nil hs) hx hdb hs rfl) fun _ _ _ h => tM_call1 ho hn h
theorem sm_t1 (hc : CallR X (.type T) r) (ho : Op1 C f (rC1 r) t) (hn : NoX1 f) (hg : Gl X x) (hm : X.mg x = none) (hv : bootBuiltins x = some (.type T)) (ha : PE X a (tO C W fa Γ Γ1))
    (hs : starEach [a] X.env = (false, eval a X.env) :: starEach [] X.env := by rfl) (hx : x ≠ "__name__" := by decide) (hdb : (x == ("__debug__" : Str)) = false := by decide) :
    PE X (.Call (.Name x p) [a] [] pos) (tM C W (e1 f fa) Γ Γ1 t) := PEi (pe_callTy hc hg hm hv (pa_cons ha pa_nil hs) hx hdb hs rfl) fun _ _ _ h => tM_call1 ho hn h
end
end
end Mi

/-! Built-ins of one argument; slices; isinstance. -/
namespace Mi
open PySem PySem.Spec L2
open PyProof.Rows hiding St
section
variable {C : Cn} {Z : Addr → Prop} {H : Hp} {X : Cx}

/-! len, tuple, list, abs, int -/
def lenS (p : PV) : Res PV := match p.seq? with
  | some xs => .ok (.int xs.length)
  | none => .stuck
theorem o_len (h : Is C X) : Op1 C lenS (rC1 fun xs H Q => ∃ p ys, xs = [.ref p] ∧ (SqL X.K H p ys ∨ SqT X.K H p ys) ∧ Q (.int ys.length) H) .v := by
  intro Z H x p Q hz hp hf
  unfold lenS at hf
  split at hf
  · rename_i xs e
    obtain ⟨a, vs, rfl, h1, h2⟩ := hp.seq e
    rw [← h.K] at h1
    refine ⟨a, vs, rfl, h1, ?_⟩
    rw [h2.length]
    exact hf _ _ (.same hz (.int _))
  · exact hf.elim
def tupleP (p : PV) : Res PV := match p.seq? with
  | some xs => .ok (.tup xs)
  | none => .stuck
theorem o_tuple (h : Is C X) : Op1 C tupleP (rC1 fun xs H Q => ∃ p ys, xs = [.ref p] ∧ ((SqL X.K H p ys ∧ ∀ l, H l = none → Q (.ref l) (upd H l (.tup ys))) ∨ (SqT X.K H p ys ∧ Q (.ref p) H))) .v := by
  intro Z H x p Q hz hp hf
  unfold tupleP at hf
  split at hf
  · rename_i xs e
    obtain ⟨a, vs, rfl, h1, h2⟩ := hp.seq e
    rcases h1 with h1 | h1
    · exact ⟨a, vs, rfl, .inl ⟨h.K ▸ h1, fun l hl => hf _ _ (.tup hz hl h2)⟩⟩
    · exact ⟨a, vs, rfl, .inr ⟨h.K ▸ h1, hf _ _ (.same hz (.tup h1 h2))⟩⟩
  · exact hf.elim
def listP (p : PV) : Res PV := match p.seq? with
  | some xs => .ok (.lst xs)
  | none => .stuck
theorem o_list (h : Is C X) : Op1 C listP (rC1 fun xs H Q => ∃ p ys, xs = [.ref p] ∧ (SqL X.K H p ys ∨ SqT X.K H p ys) ∧ ∀ l, H l = none → Q (.ref l) (upd H l (.lst ys))) (.l .v) := by
  intro Z H x p Q hz hp hf
  unfold listP at hf
  split at hf
  · rename_i xs e
    obtain ⟨a, vs, rfl, h1, h2⟩ := hp.seq e
    rw [← h.K] at h1
    exact ⟨a, vs, rfl, h1, fun l hl => hf _ _ (.lst hz hl h2)⟩
  · exact hf.elim
theorem o_abs : Op1 C absP (rC1 fun xs H Q => ∃ i, xs = [.int i] ∧ Q (.int (if i < 0 then -i else i)) H) .v := by
  intro Z H x p Q hz hp hf
  unfold absP at hf
  split at hf
  · rename_i i
    exact ⟨i, by rw [hp.int], hf _ _ (.same hz (.int _))⟩
  · exact hf.elim
def intP : PV → Res PV
  | .int i => .ok (.int i)
  | .bool b => .ok (.int (if b then 1 else 0))
  | _ => .stuck
theorem Obs.bl {v : V} {b : Bool} (h : Obs C Z H v (.bool b)) : v = .bl b := by cases h with | den h => cases h; rfl
theorem o_intB : Op1 C intP (rC1 fun xs H Q => (∃ i, xs = [.int i] ∧ Q (.int i) H) ∨ ∃ k, xs = [.bl k] ∧ Q (.int (if k then 1 else 0)) H) .v := by
  intro Z H x p Q hz hp hf
  unfold intP at hf
  split at hf
  · exact .inl ⟨_, by rw [hp.int], hf _ _ (.same hz (.int _))⟩
  · exact .inr ⟨_, by rw [hp.bl], hf _ _ (.same hz (.int _))⟩
  · exact hf.elim

/-! sum, max, min of ints -/
def intsP (p : PV) : Option (List Int) := match p.seq? with
  | some xs => intsOf xs
  | none => none
theorem Obs.ints {v : V} {p : PV} {ns : List Int} (h : Obs C Z H v p) (e : intsP p = some ns) : ∃ a, v = .ref a ∧ (SqL C.K H a (ns.map V.int) ∨ SqT C.K H a (ns.map V.int)) := by
  unfold intsP at e
  split at e
  · rename_i xs e1
    obtain ⟨a, vs, rfl, h1, h2⟩ := h.seq e1
    rw [h2.ints e] at h1
    exact ⟨a, rfl, h1⟩
  · cases e
def rSumA (K : PySem.W.Frag) : List V → Hp → VK → Prop := fun vs H Q => ∃ (a : Addr) (ns : List Int), vs = [V.ref a] ∧ (SqL K H a (ns.map V.int) ∨ SqT K H a (ns.map V.int)) ∧ Q (.int ns.sum) H
theorem cr_sumA (hc : X.calm = true) : CallR X (.builtin "sum") (rSumA X.K) := by
  intro pins s σ H vs us Q I r h
  obtain ⟨a, ns, rfl, hs, q⟩ := h
  rcases hs with hs | hs
  · exact cr_sum hc pins s σ H _ us Q I r ⟨a, ns, rfl, hs, q⟩
  · rw [Vals.ref1 r]
    obtain ⟨its, rv, ht, hz⟩ := I.tuple hs
    have hi : IntsAre its ns := Vals.ints rv
    have hl : s.heap.IsTuple a its.toArray := ht
    have hn : PySem.numsOf its = ns := hi.numsOf
    obtain ⟨xs, hx⟩ := hi.allInts.items
    rw [hx] at hl
    have hn2 : PySem.numsOf (intItems xs).toList = ns := by rw [← hx]; exact hn
    rw [nums_intItems] at hn2
    refine PySem.W.ktm_sumG (I.ok.hd hc) hl fun h' tk t' hk => ?_
    refine ⟨.int ns.sum, H, I.kept (t' := tk) hk, ⟨t', ?_⟩, q⟩
    rw [preSum_eq, List.take_of_length_le (by simp), hn2]
def sumP (p : PV) : Res PV := (Res.opt (intsP p)) >>= fun ns => .ok (.int ns.sum)
theorem o_sum (h : Is C X) : Op1 C sumP (rC1 (rSumA X.K)) .v := by
  intro Z H x p Q hz hp hf
  obtain ⟨ns, e, hf⟩ := opt_to hf.bind
  obtain ⟨a, rfl, h1⟩ := hp.ints e
  rw [← h.K] at h1
  exact ⟨a, ns, rfl, h1, hf _ _ (.same hz (.int _))⟩
/-- the greatest of some ints -/
def maxI : List Int → Option Int
  | [] => none
  | x :: xs => some (xs.foldl (fun m y => if y > m then y else m) x)
theorem foldl_max (xs : List Int) : ∀ x, (xs.foldl (fun m y => if y > m then y else m) x = x ∨ xs.foldl (fun m y => if y > m then y else m) x ∈ xs) ∧ x ≤ xs.foldl (fun m y => if y > m then y else m) x ∧ ∀ y ∈ xs, y ≤ xs.foldl (fun m y => if y > m then y else m) x := by
  induction xs with
  | nil => intro x; exact ⟨.inl rfl, Int.le_refl _, fun _ h => (nomatch h)⟩
  | cons z xs ih =>
    intro x
    simp only [List.foldl_cons]
    obtain ⟨h1, h2, h3⟩ := ih (if z > x then z else x)
    have hz : z ≤ (if z > x then z else x) := by split <;> omega
    have hx : x ≤ (if z > x then z else x) := by split <;> omega
    refine ⟨?_, Int.le_trans hx h2, fun y hy => ?_⟩
    · rcases h1 with h1 | h1
      · rw [h1]
        by_cases c : z > x
        · rw [if_pos c]; exact .inr List.mem_cons_self
        · rw [if_neg c]; exact .inl rfl
      · exact .inr (List.mem_cons_of_mem _ h1)
    · rcases List.mem_cons.mp hy with rfl | hy
      · exact Int.le_trans hz h2
      · exact h3 y hy
theorem maxI_eq {ns : List Int} {m : Int} (h : m ∈ ns) (hm : ∀ y ∈ ns, y ≤ m) : maxI ns = some m := by
  cases ns with
  | nil => cases h
  | cons x xs =>
    obtain ⟨h1, h2, h3⟩ := foldl_max xs x
    have hin : xs.foldl (fun m y => if y > m then y else m) x ∈ x :: xs := by
      rcases h1 with h1 | h1
      · rw [h1]; exact List.mem_cons_self
      · exact List.mem_cons_of_mem _ h1
    have a := hm _ hin
    have b : m ≤ xs.foldl (fun m y => if y > m then y else m) x := by
      rcases List.mem_cons.mp h with rfl | h
      · exact h2
      · exact h3 m h
    show some _ = some _
    rw [Int.le_antisymm a b]
def lstInts : PV → Option (List Int)
  | .lst xs => intsOf xs
  | _ => none
theorem Obs.lstInts {v : V} {p : PV} {ns : List Int} (h : Obs C Z H v p) (e : lstInts p = some ns) : ∃ a, v = .ref a ∧ SqL C.K H a (ns.map V.int) := by
  cases p with
  | lst xs =>
    obtain ⟨a, vs, rfl, h1, h2⟩ := h.toLst
    rw [h2.ints e] at h1
    exact ⟨a, rfl, .of h1⟩
  | _ => cases e
def maxP (p : PV) : Res PV := match lstInts p with
  | some ns => (Res.opt (maxI ns)) >>= fun m => .ok (.int m)
  | none => .stuck
theorem o_max (h : Is C X) : Op1 C maxP (rC1 (rMax X.K)) .v := by
  intro Z H x p Q hz hp hf
  unfold maxP at hf
  split at hf
  · rename_i ns e
    obtain ⟨m0, e2, hf⟩ := opt_to hf.bind
    obtain ⟨a, rfl, h1⟩ := hp.lstInts e
    rw [← h.K] at h1
    refine ⟨a, ns, rfl, h1, ?_, fun m hm hall => ?_⟩
    · cases ns with
      | nil => cases e2
      | cons _ _ => simp
    · have := maxI_eq hm hall
      rw [e2] at this; cases this
      exact hf _ _ (.same hz (.int _))
  · exact hf.elim

/-! any, all of bools -/
def boolsOf : List PV → Option (List Bool)
  | [] => some []
  | .bool b :: xs => (boolsOf xs).map (b :: ·)
  | _ :: _ => none
theorem DenL.bools : ∀ {vs : List V} {ps : List PV} {bs : List Bool}, DenL C Z H vs ps → boolsOf ps = some bs → vs = bs.map V.bl
  | _, _, _, .nil, h => by cases h; rfl
  | _, _, _, .cons (p := p) h1 h2, h => by
    cases p with
    | bool b =>
      simp only [boolsOf, Option.map_eq_some_iff] at h
      obtain ⟨ms, h, rfl⟩ := h
      cases h1
      rw [DenL.bools h2 h] <;> rfl
    | _ => cases h
def lstBools : PV → Option (List Bool)
  | .lst xs => boolsOf xs
  | _ => none
theorem Obs.lstBools {v : V} {p : PV} {bs : List Bool} (h : Obs C Z H v p) (e : lstBools p = some bs) : ∃ a, v = .ref a ∧ SqL C.K H a (bs.map V.bl) := by
  cases p with
  | lst xs =>
    obtain ⟨a, vs, rfl, h1, h2⟩ := h.toLst
    rw [h2.bools e] at h1
    exact ⟨a, rfl, .of h1⟩
  | _ => cases e
def allP (p : PV) : Res PV := (Res.opt (lstBools p)) >>= fun bs => .ok (.bool (bs.all id))
def anyP (p : PV) : Res PV := (Res.opt (lstBools p)) >>= fun bs => .ok (.bool (bs.any id))
theorem o_all (h : Is C X) : Op1 C allP (rC1 (rAll X.K)) .v := by
  intro Z H x p Q hz hp hf
  obtain ⟨bs, e, hf⟩ := opt_to hf.bind
  obtain ⟨a, rfl, h1⟩ := hp.lstBools e
  rw [← h.K] at h1
  exact ⟨a, bs, rfl, h1, hf _ _ (.same hz (.bl _))⟩
theorem o_any (h : Is C X) : Op1 C anyP (rC1 (rAny X.K)) .v := by
  intro Z H x p Q hz hp hf
  obtain ⟨bs, e, hf⟩ := opt_to hf.bind
  obtain ⟨a, rfl, h1⟩ := hp.lstBools e
  rw [← h.K] at h1
  exact ⟨a, bs, rfl, h1, hf _ _ (.same hz (.bl _))⟩

/-! sorted -/
def enc (p : PV) : PyData := (p.data).getD .none
def leD (p q : PV) : Bool := PySem.W.dataLe false enc p q
def sortableB (ds : List PyData) : Bool := ds.all (fun d => match d with | .tuple (_ :: _) => true | _ => false) || ds.all (fun d => match d with | .none => false | .tuple _ => false | _ => true)
def sortOk (ps : List PV) : Bool := match PV.dataL ps with
  | some ds => ds.all (fun d => ds.all fun d' => PySem.W.alike d d') && sortableB ds && ds.all fun d => decide (d.depth ≤ 64)
  | none => false
theorem dataL_map : ∀ {ps : List PV} {ds : List PyData}, PV.dataL ps = some ds → ds = ps.map enc ∧ ∀ p ∈ ps, p.data = some (enc p)
  | [], _, h => by cases h; exact ⟨rfl, fun _ h => (nomatch h)⟩
  | p :: ps, _, h => by
    unfold PV.dataL at h
    split at h
    · rename_i d ds e1 e2
      cases h
      obtain ⟨h1, h2⟩ := dataL_map e2
      have e : enc p = d := by unfold enc; rw [e1]; rfl
      refine ⟨by rw [List.map_cons, e, ← h1], fun q hq => ?_⟩
      rcases List.mem_cons.mp hq with rfl | hq
      · rw [e]; exact e1
      · exact h2 q hq
    · cases h
theorem sortableB_ok {ds : List PyData} (h : sortableB ds = true) : PySem.W.Sortable ds := by
  unfold sortableB at h
  rcases Bool.or_eq_true_iff.mp h with h | h
  · refine .inl fun d hd => ?_
    have := List.all_eq_true.mp h d hd
    split at this
    · exact ⟨_, _, rfl⟩
    · cases this
  · refine .inr fun d hd => ?_
    have := List.all_eq_true.mp h d hd
    split at this
    · cases this
    · cases this
    · rename_i n1 n2
      exact ⟨fun e => n1 e, fun xs e => n2 xs e⟩
theorem EachIs.zip {R : Value → V → Prop} : ∀ {us : List Value} {vs : List V} {ps : List PV}, Vals vs us → DenL C Z H vs ps → PySem.W.EachIs (fun u (b : PV × V) => RelV b.2 u ∧ Den C Z H b.2 b.1) us (ps.zip vs)
  | _, _, _, .nil, .nil => .nil
  | _, _, _, .cons r t, .cons d ds => .cons ⟨r, d⟩ (EachIs.zip (R := R) t ds)
theorem EachIs.unzip : ∀ {us : List Value} {bs : List (PV × V)}, PySem.W.EachIs (fun u (b : PV × V) => RelV b.2 u ∧ Den C Z H b.2 b.1) us bs → Vals (bs.map (·.2)) us ∧ DenL C Z H (bs.map (·.2)) (bs.map (·.1))
  | _, _, .nil => ⟨.nil, .nil⟩
  | _, _, .cons h t => let ⟨a, b⟩ := EachIs.unzip t; ⟨.cons h.1 a, .cons h.2 b⟩
theorem zip_fst {α β : Type} : ∀ {xs : List α} {ys : List β}, xs.length = ys.length → (xs.zip ys).map (·.1) = xs
  | [], [], _ => rfl
  | x :: xs, y :: ys, h => by simp [zip_fst (xs := xs) (ys := ys) (by simpa using h)]
theorem zip_mem {α β : Type} {xs : List α} {ys : List β} {p : α × β} (h : p ∈ xs.zip ys) : p.1 ∈ xs := (List.of_mem_zip (a := p.1) (b := p.2) h).1
theorem sort_fst (ps : List PV) (vs : List V) (h : ps.length = vs.length) : ((ps.zip vs).mergeSort (PySem.W.dataLe false fun b : PV × V => enc b.1)).map (·.1) = ps.mergeSort leD := by
  have e := List.map_mergeSort (r := PySem.W.dataLe false fun b : PV × V => enc b.1) (s := leD) (f := fun b : PV × V => b.1) (l := ps.zip vs) (fun a _ b _ => rfl)
  exact e.trans (by rw [zip_fst h])
def rSortD (C : Cn) : List V → Hp → VK → Prop := fun xs H Q => ∃ (a : Addr) (vs : List V) (Z : Addr → Prop) (ps : List PV), xs = [V.ref a] ∧ (SqL C.K H a vs) ∧ DenL C Z H vs ps ∧ sortOk ps = true ∧
  ∀ q vs', H q = none → DenL C Z H vs' (ps.mergeSort leD) → Q (.ref q) (upd H q (.lst vs'))
theorem Inv.fold {pins : List (Addr × Obj)} {σ : L2.St} {s : Shared} (I : Inv X pins σ H s) : True := trivial
theorem den_reads {pins : List (Addr × Obj)} {σ : L2.St} {s : Shared} (h : Is C X) (I : Inv X pins σ H s) {v : V} {u : Value} {p : PV} {d : PyData} (r : RelV v u) (hd : Den C Z H v p) (e : p.data = some d) : ∃ as, Reads s.heap u d as :=
  Dp.reads I d v u (h.K ▸ hd.dp e) r
theorem cr_sortD (h : Is C X) (hu : X.A.units + 67 < cLine) : CallR X (.builtin "sorted") (rSortD C) := by
  intro pins s σ H xs us Q I r hq
  obtain ⟨a, vs, Z, ps, rfl, hs, hd, hok, q⟩ := hq
  rw [Vals.ref1 r]
  rw [← h.K] at hs
  obtain ⟨its, rv, pl, hz⟩ := I.list hs
  unfold sortOk at hok
  split at hok
  · rename_i ds e
    rw [Bool.and_eq_true, Bool.and_eq_true] at hok
    obtain ⟨⟨c1, c2⟩, c3⟩ := hok
    obtain ⟨e1, e2⟩ := dataL_map e
    have hlen := hd.length
    have hmap : (ps.zip vs).map (fun b : PV × V => enc b.1) = ds := by
      rw [e1]
      have : (fun b : PV × V => enc b.1) = enc ∘ (·.1) := rfl
      rw [this, ← List.map_map, zip_fst hlen.symm]
    have ea := EachIs.zip (R := fun _ _ => True) rv hd
    refine PySem.W.sorted_data (enc := fun b : PV × V => enc b.1) (bs := ps.zip vs) (R := fun u (b : PV × V) => RelV b.2 u ∧ Den C Z H b.2 b.1) (by simpa using pl.isList) ea ?_ ?_ ?_ ?_ ?_ ?_
    · have all : ∀ {us : List Value} {bs : List (PV × V)}, (∀ b ∈ bs, b.1 ∈ ps) → PySem.W.EachIs (fun u (b : PV × V) => RelV b.2 u ∧ Den C Z H b.2 b.1) us bs → PySem.W.EachIs (fun u (b : PV × V) => ∃ as, Reads s.heap u (enc b.1) as) us bs := by
        intro us bs hm hE
        induction hE with
        | nil => exact .nil
        | cons x _ ih => exact .cons (den_reads h I x.1 x.2 (e2 _ (hm _ List.mem_cons_self))) (ih fun b hb => hm b (List.mem_cons_of_mem _ hb))
      exact all (fun b hb => zip_mem hb) ea
    · rw [hmap]
      intro d hd d' hd'
      exact List.all_eq_true.mp (List.all_eq_true.mp c1 d hd) d' hd'
    · rw [hmap]; exact sortableB_ok c2
    · rw [List.length_zip]
      have := hd.length
      omega
    · intro b hb
      have hm : enc b.1 ∈ ds := by rw [e1]; exact List.mem_map.mpr ⟨b.1, zip_mem hb, rfl⟩
      have hdp := of_decide_eq_true (List.all_eq_true.mp c3 _ hm)
      show X.A.units + 2 + (enc b.1).depth < cLine
      omega
    · intro out hl hE
      obtain ⟨hv, hD⟩ := EachIs.unzip hE
      rw [sort_fst ps vs hlen.symm] at hD
      obtain ⟨c, hc⟩ := sortedAll_at s.heap its out.toArray
      have hn : H (s.heap.objs.size + 1) = none := I.hok.fresh (Nat.le_succ _)
      have hlen2 : (((ps.zip vs).mergeSort (PySem.W.dataLe false fun b : PV × V => enc b.1)).map (·.2)).length ≤ sizeLine := by
        rw [List.length_map, List.length_mergeSort, List.length_zip]
        have := hd.length
        omega
      exact ⟨.ref (s.heap.objs.size + 1), upd H (s.heap.objs.size + 1) (.lst (((ps.zip vs).mergeSort (PySem.W.dataLe false fun b : PV × V => enc b.1)).map (·.2))), I.laid (t' := s.toks) (fun b o e => sortedAll_old e) (Nat.le_succ _) ⟨hlen2, out, c, hv, by simpa using hc⟩, rfl, q _ _ hn hD⟩
  · cases hok
def sortedP (p : PV) : Res PV := match p with
  | .lst xs => if sortOk xs then .ok (.lst (xs.mergeSort leD)) else .stuck
  | _ => .stuck
theorem o_sorted : Op1 C sortedP (rC1 (rSortD C)) (.l .v) := by
  intro Z H x p Q hz hp hf
  unfold sortedP at hf
  split at hf
  · rename_i xs
    obtain ⟨a, vs, rfl, h1, h2⟩ := hp.toLst
    by_cases c : sortOk xs = true
    · rw [if_pos c] at hf
      exact ⟨a, vs, Z, xs, rfl, .of h1, h2, c, fun q vs' hq hd => hf _ _ (.lst hz hq hd)⟩
    · rw [if_neg c] at hf; exact hf.elim
  · exact hf.elim

/-! isinstance -/
def tyName : PV → Option String
  | .non => some "NoneType"
  | .bool _ => some "bool"
  | .int _ => some "int"
  | .str _ => some "str"
  | .tup _ => some "tuple"
  | .lst _ => some "list"
  | _ => none
theorem Den.tyx {v : V} {p : PV} {n : String} (h : Den C Z H v p) (e : tyName p = some n) : TyX C.K H v (.type n) := by
  cases h with
  | non => cases e; exact .base .non
  | bl b => cases e; exact .base (.bl b)
  | int i => cases e; exact .base (.int i)
  | str x => cases e; exact .base (.str x)
  | tup h1 _ =>
    cases e
    rcases h1 with (h1 | ⟨o, h1⟩) | ⟨o, its, n, h1, h2, _⟩
    · exact .base (.tup h1)
    · exact .fTuple h1
    · exact .kTuple h1 h2
  | lst h1 _ => cases e; exact .base (.lst h1.2)
  | scr _ _ => cases e
  | fn _ => cases e
  | dct _ _ _ _ => cases e
  | ins _ _ _ _ => cases e
/-- is a thing of the type a one of the type b -/
def subTy (a b : String) : Bool := a == b || (a == "bool" && b == "int")
def isiP (T : String) (p : PV) : Res PV := match tyName p with
  | some n => .ok (.bool (subTy n T))
  | none => .stuck
def okTy (T : String) : Bool := T == "int" || T == "bool" || T == "str" || T == "tuple" || T == "list"
theorem kit_all : (["NoneType", "bool", "int", "str", "tuple", "list"].all fun a => ["int", "bool", "str", "tuple", "list"].all fun b => kitB a b == some (subTy a b)) = true := by decide +kernel
theorem kitB_ok {p : PV} {n T : String} (e : tyName p = some n) (h : okTy T = true) : kitB n T = some (subTy n T) := by
  have hn : n ∈ ["NoneType", "bool", "int", "str", "tuple", "list"] := by
    cases p <;> simp [tyName] at e <;> subst e <;> simp
  have hT : T ∈ ["int", "bool", "str", "tuple", "list"] := by
    unfold okTy at h
    simp only [Bool.or_eq_true, beq_iff_eq] at h
    rcases h with (((h | h) | h) | h) | h <;> subst h <;> simp
  exact eq_of_beq (List.all_eq_true.mp (List.all_eq_true.mp kit_all n hn) T hT)
section
variable {a : Expr} {fa : ES} {pos p p2 : Pos} {W : WX} {Γ Γ1 : List Ty} {x : Str} {T : String}
/-- isinstance(a, T), T a built-in type -/
theorem sm_isi (h : Is C X) (hT : okTy T = true) (hg : Gl X "isinstance") (hm : X.mg "isinstance" = none) (hgT : Gl X x) (hmT : X.mg x = none) (hvT : bootBuiltins x = some (.type T)) (ha : PE X a (tM C W fa Γ Γ1 .v))
    (hs : starEach [a, .Name x p2] X.env = (false, eval a X.env) :: starEach [.Name x p2] X.env := by rfl) (hs2 : starEach [.Name x p2] X.env = (false, eval (.Name x p2) X.env) :: starEach [] X.env := by rfl)
    (hx : x ≠ "__name__" := by decide) (hdb : (x == ("__debug__" : Str)) = false := by decide) :
    PE X (.Call (.Name "isinstance" p) [a, .Name x p2] [] pos) (tM C W (e1 (isiP T) fa) Γ Γ1 .v) := by
  refine PEi (pe_callB call_isi hg hm PyProof.Rows.boot_isinstance (pa_cons ha (pa_cons (pe_bltn (v := .ty T) hgT hmT hvT rfl hx hdb) pa_nil hs2) hs) (by decide) (by decide) hs (by rw [hs2]; rfl)) fun σ H Q q => ?_
  obtain ⟨ρ, Z, A, pre, q⟩ := q
  refine ⟨ρ, Z, A, pre, q.bind.mono (fun r1 h1 v H1 p1 => ?_) fun _ he => he⟩
  obtain ⟨Z1, A1, pre1, d1, t1⟩ := p1.pre
  have h1 := h1.bind
  unfold isiP at h1
  split at h1
  · rename_i n e
    exact ⟨v, .ty T, .type n, .type T, subTy n T, rfl, .ty T, h.K ▸ d1.tyx e, kit_ty (kitB_ok e hT), h1 _ _ ((pre1.post0 (.bl _)).comp t1)⟩
  · exact h1.elim
/-- isinstance(a, (T, U)) -/
def isiP2 (T U : String) (p : PV) : Res PV := match tyName p with
  | some n => .ok (.bool (subTy n T || subTy n U))
  | none => .stuck
theorem sm_isi2 {U : String} {y : Str} {k : Nat} {p3 tp : Pos} (h : Is C X) (hT : okTy T = true) (hU : okTy U = true) (hg : Gl X "isinstance") (hm : X.mg "isinstance" = none) (hgT : Gl X x) (hmT : X.mg x = none) (hvT : bootBuiltins x = some (.type T)) (hgU : Gl X y) (hmU : X.mg y = none) (hvU : bootBuiltins y = some (.type U)) (ha : PE X a (tM C W fa Γ Γ1 .v))
    (hs : starEach [a, .Tuple [.Name x p2, .Name y p3] k tp] X.env = (false, eval a X.env) :: starEach [.Tuple [.Name x p2, .Name y p3] k tp] X.env := by rfl)
    (hx : x ≠ "__name__" := by decide) (hdb : (x == ("__debug__" : Str)) = false := by decide) (hy : y ≠ "__name__" := by decide) (hdy : (y == ("__debug__" : Str)) = false := by decide) :
    PE X (.Call (.Name "isinstance" p) [a, .Tuple [.Name x p2, .Name y p3] k tp] [] pos) (tM C W (e1 (isiP2 T U) fa) Γ Γ1 .v) := by
  have ht : PE X (.Tuple [.Name x p2, .Name y p3] k tp) (tTup (tCons (tC (.ty T)) (tCons (tC (.ty U)) tNil))) := pe_tup (pa_cons (pe_bltn (v := .ty T) hgT hmT hvT rfl hx hdb) (pa_cons (pe_bltn (v := .ty U) hgU hmU hvU rfl hy hdy) pa_nil))
  refine PEi (pe_callB call_isiT hg hm PyProof.Rows.boot_isinstance (pa_cons ha (pa_cons ht pa_nil) hs) (by decide) (by decide) hs rfl) fun σ H Q q => ?_
  obtain ⟨ρ, Z, A, pre, q⟩ := q
  refine ⟨ρ, Z, A, pre, q.bind.mono (fun r1 h1 v H1 p1 => ?_) fun _ he => he⟩
  obtain ⟨Z1, A1, pre1, d1, t1⟩ := p1.pre
  have h1 := h1.bind
  unfold isiP2 at h1
  split at h1
  · rename_i n e
    refine ⟨by show 2 ≤ sizeLine; rw [sizeLine_eq]; decide, fun tpl htp => ?_⟩
    have s : Stays Z1 H1 Z1 (upd H1 tpl (.tup [.ty T, .ty U])) := ⟨fun _ z => z, fun a o e _ => upd_old htp a o e⟩
    have dx := d1.stays s
    have N : NewT C Z1 H1 .v (.bl (subTy n T || subTy n U)) (.bool (subTy n T || subTy n U)) (upd H1 tpl (.tup [.ty T, .ty U])) :=
      ⟨Z1, [], upd_old htp, fun _ z => z, fun _ z => .inl z, List.nodup_nil, fun _ h => (nomatch h), fun a z => let ⟨o, e⟩ := pre1.ok.2.2 a z; ⟨o, upd_old htp a o e⟩, .v (.bl _)⟩
    refine ⟨v, tpl, [.ty T, .ty U], .type n, [.type T, .type U], subTy n T || subTy n U, rfl, upd_same, .cons (.ty T) (.cons (.ty U) .nil), h.K ▸ dx.tyx e, ?_, h1 _ _ ((N.post pre1).comp t1)⟩
    refine kitAny_cons (kit_ty (kitB_ok e hT)) (fun hb => kitAny_cons (kit_ty (kitB_ok e hU)) (fun hb2 => ?_) fun hb2 => ?_) fun hb => ?_
    · rw [hb, hb2]; exact kitAny_nil
    · rw [hb2, Bool.or_true]
    · rw [hb]; rfl
  · exact h1.elim
end
end
end Mi

/-! Tests; and, or, not; if-else; chains; displays; slices. -/
namespace Mi
open PySem PySem.Spec L2
open PyProof.Rows hiding St

theorem Res.To.mono' {α : Type} {r : Res α} {Q Q' : α → Prop} {E E' : Exc → Prop} (h : r.To Q E) (hq : ∀ a, r = .ok a → Q a → Q' a) (he : ∀ e, E e → E' e) : r.To Q' E' := by
  cases r with
  | ok a => exact hq _ rfl h
  | exc e => exact he _ h
  | stuck => exact h
theorem bind_ok_inv {α β : Type} {r : Res α} {f : α → Res β} {b : β} (h : (r >>= f) = .ok b) : ∃ a, r = .ok a ∧ f a = .ok b := by
  cases r with
  | ok a => exact ⟨a, rfl, h⟩
  | exc e => cases h
  | stuck => cases h

theorem itT {P Q : Prop} (h : P) : if true = true then P else Q := h
theorem itF {P Q : Prop} (h : Q) : if false = true then P else Q := h
/-- its value is a bool -/
def IsB (g : ES) : Prop := ∀ ρ r, g ρ = .ok r → ∃ b, r.1 = .bool b
def IsB2 (f : PV → PV → Res PV) : Prop := ∀ p q s, f p q = .ok s → ∃ b, s = .bool b
theorem isB_e2 {f : PV → PV → Res PV} {fa fb : ES} (h : IsB2 f) : IsB (e2 f fa fb) := fun ρ r e => by
  obtain ⟨r1, _, e⟩ := bind_ok_inv e
  obtain ⟨r2, _, e⟩ := bind_ok_inv e
  obtain ⟨s, e1, e⟩ := bind_ok_inv e
  cases e
  exact h _ _ _ e1

section
variable {C : Cn} {Z Z1 Z2 Z' : Addr → Prop} {H H1 H2 H' : Hp} {A A1 A2 B A' : List Addr} {σ : L2.St} {Γ Γ1 Γ2 Γ3 Γ' : List Ty} {ρ : Env} {t : Ty} {W : WX} {X : Cx} {a b c : Expr} {fa fb fc : ES} {pos : Pos}

theorem tT_toM {g : ES} (hb : IsB g) {Q : Bool → Hp → Prop} (h : tT C W g Γ Γ' σ H Q) : tM C W g Γ Γ' .v σ H (fun x H' => ∃ k, x = .bl k ∧ Q k H') := by
  obtain ⟨ρ, Z, A, pre, h⟩ := h
  refine ⟨ρ, Z, A, pre, h.mono' (fun r er ⟨b, e, hr⟩ v H' hp => ?_) fun _ he => he⟩
  obtain ⟨Z', A', p', d', t'⟩ := hp.pre
  obtain ⟨b', eb⟩ := hb ρ r er
  rw [eb] at d' e
  cases e
  cases d'
  exact ⟨_, rfl, hr H' Z' A' p' t'⟩
theorem st_cmp {op : CmpOp} {f : PV → PV → Res PV} {r : R2} (hr : OpR X (compareOp op) r) (ho : Op2 C f r .v) (hn : NoX2 f) (hb' : IsB2 f) (ha : PE X a (tM C W fa Γ Γ1 .v)) (hb : PE X b (tO C W fb Γ1 Γ2)) (hm : behindInMarks op b = false := by rfl) :
    PT X (.Compare a [op] [b] pos) (tT C W (e2 f fa fb) Γ Γ2) := PTi (pt_cmpR hr ha hb hm) fun _ _ _ h => tM_op2 ho hn (tT_toM (isB_e2 hb') h)
theorem Obs.tru {v : V} {p : PV} {k : Bool} (h : Obs C Z H v p) (e : p.truth? = some k) (hd : ∀ kvs, p ≠ .dct kvs) : TruV C.K v H k := by
  cases p with
  | non => rw [h.non]; cases e; rfl
  | bool b => rw [h.bl]; cases e; rfl
  | int i => rw [h.int]; cases e; rfl
  | str s => cases e
  | tup xs =>
    obtain ⟨a, vs, rfl, h1, h2⟩ := h.tup
    cases e
    refine .inr (.inl ⟨vs, h1, ?_⟩)
    cases h2 <;> rfl
  | lst xs =>
    obtain ⟨a, vs, rfl, h1, h2⟩ := h.toLst
    cases e
    refine .inl ⟨vs, .of h1, ?_⟩
    cases h2 <;> rfl
  | dct kvs => exact absurd rfl (hd kvs)
  | fn f => cases e
  | scr xs => cases e
  | ins c fs => cases e
/-- a value's truth (no dict) -/
def noD (g : ES) : ES := fun ρ => g ρ >>= fun r => match r.1 with
  | .dct _ => .stuck
  | _ => .ok r
theorem st_val (hX : Is C X) (ha : PE X a (tO C W fa Γ Γ1)) (he : ∀ whole, isTrue a X.env whole = (do let v ← whole; standAt a.pos; holding [v] (truthy v)) := by intro _; rfl) : PT X a (tT C W (noD fa) Γ Γ1) :=
  PTi (pt_truth ha he) fun σ H Q ⟨ρ, Z, A, pre, h⟩ => ⟨ρ, Z, A, pre, h.bind.mono (fun r hr v H' Z' A' p' o' t' => by
    have hd : ∀ kvs, r.1 ≠ .dct kvs := fun kvs e => by
      rw [e] at hr
      exact hr
    have hr2 : (Res.ok r).To (fun r => ∃ b, r.1.truth? = some b ∧ ∀ H' Z' A', PreE C Z' H' σ Γ1 r.2 A' → Tr Z H A Z' H' A' → Q b H') (fun e => ∀ cls d H', PostX C Z H A e cls d H' → W cls d σ H') := by
      split at hr
      · exact hr.elim
      · exact hr
    obtain ⟨b, e, q⟩ := hr2
    exact ⟨b, hX.K ▸ o'.tru e hd, q H' Z' A' p' t'⟩) fun _ he => he⟩

/-! and, or, not over bools -/
def eAndB (a b : ES) : ES := fun ρ => a ρ >>= fun r => match r.1 with
  | .bool true => b r.2
  | .bool false => .ok r
  | _ => .stuck
def eOrB (a b : ES) : ES := fun ρ => a ρ >>= fun r => match r.1 with
  | .bool true => .ok r
  | .bool false => b r.2
  | _ => .stuck
def eNotB (a : ES) : ES := fun ρ => a ρ >>= fun r => match r.1 with
  | .bool k => .ok (.bool (!k), r.2)
  | _ => .stuck
/-- if-else by a bool -/
def eIfB (c a b : ES) : ES := fun ρ => c ρ >>= fun r => trP r.1 >>= fun k => if k then a r.2 else b r.2
theorem tT_of {g : ES} {Q : Bool → Hp → Prop} (pre : PreE C Z H σ Γ ρ A) (h : (g ρ).To (fun r => ∃ b, r.1.truth? = some b ∧ ∀ H' Z' A', PreE C Z' H' σ Γ' r.2 A' → Tr Z H A Z' H' A' → Q b H') fun e => ∀ cls d H', PostX C Z H A e cls d H' → W cls d σ H') : tT C W g Γ Γ' σ H Q := ⟨ρ, Z, A, pre, h⟩
/-- the rest behind a first part -/
theorem tT_next {g : ES} {Q : Bool → Hp → Prop} (pre : PreE C Z1 H1 σ Γ1 ρ A1) (t1 : Tr Z H A Z1 H1 A1) (h : (g ρ).To (fun r => ∃ b, r.1.truth? = some b ∧ ∀ H' Z' A', PreE C Z' H' σ Γ2 r.2 A' → Tr Z H A Z' H' A' → Q b H') fun e => ∀ cls d H', PostX C Z H A e cls d H' → W cls d σ H') : tT C W g Γ1 Γ2 σ H1 Q :=
  ⟨ρ, Z1, A1, pre, h.mono (fun r ⟨b, e, q⟩ => ⟨b, e, fun H' Z' A' p' t' => q H' Z' A' p' (t1.trans t')⟩) fun e he cls d H' px => he cls d H' (px.comp t1)⟩
theorem tM_next {g : ES} {Q : VK} (pre : PreE C Z1 H1 σ Γ1 ρ A1) (t1 : Tr Z H A Z1 H1 A1) (h : (g ρ).To (fun r => ∀ v H', PostE C Z H A σ Γ2 t r v H' → Q v H') fun e => ∀ cls d H', PostX C Z H A e cls d H' → W cls d σ H') : tM C W g Γ1 Γ2 t σ H1 Q :=
  ⟨ρ, Z1, A1, pre, h.mono (fun r q v H' p => q v H' (p.comp t1)) fun e he cls d H' px => he cls d H' (px.comp t1)⟩
theorem st_not (ha : PT X a (tT C W fa Γ Γ1)) : PT X (.UnaryOp .Not a pos) (tT C W (eNotB fa) Γ Γ1) := PTi (pt_not ha) fun σ H Q ⟨ρ, Z, A, pre, h⟩ => ⟨ρ, Z, A, pre, h.bind.mono (fun r hr => by
  split at hr
  · rename_i k e
    obtain ⟨b, e2, q⟩ := hr
    cases e2
    exact ⟨k, by rw [e]; rfl, q⟩
  · exact hr.elim) fun _ he => he⟩
theorem sm_not (ha : PE X a (tM C W fa Γ Γ1 .v)) : PE X (.UnaryOp .Not a pos) (tM C W (eNotB fa) Γ Γ1 .v) := PEi (pe_not ha) fun σ H Q ⟨ρ, Z, A, pre, h⟩ => ⟨ρ, Z, A, pre, h.bind.mono (fun r hr v H' hp => by
  obtain ⟨Z', A', p', d', t'⟩ := hp.pre
  split at hr
  · rename_i k e
    rw [e] at d'
    cases d'
    exact ⟨k, rfl, hr _ _ ((p'.post0 (.bl _)).comp t')⟩
  · exact hr.elim) fun _ he => he⟩
theorem sw_and1 (ha : PT X a (tT C W fa Γ Γ1)) : PW X (.BoolOp .And [a] pos) (tT C W fa Γ Γ1) := pw_and1 ha
theorem sw_or1 (ha : PT X a (tT C W fa Γ Γ1)) : PW X (.BoolOp .Or [a] pos) (tT C W fa Γ Γ1) := pw_or1 ha
theorem sw_and {rest : List Expr} (ha : PT X a (tT C W fa Γ Γ)) (hb : PW X (.BoolOp .And (b :: rest) pos) (tT C W fb Γ Γ)) : PW X (.BoolOp .And (a :: b :: rest) pos) (tT C W (eAndB fa fb) Γ Γ) := by
  refine ⟨fun wh pins s σ H Q I q => (pw_and ha hb).run wh pins s σ H Q I ?_⟩
  obtain ⟨ρ, Z, A, pre, h⟩ := q
  refine ⟨ρ, Z, A, pre, h.bind.mono (fun r hr => ?_) fun _ he => he⟩
  split at hr
  · rename_i e
    exact ⟨true, by rw [e]; rfl, fun H' Z' A' p' t' => itT (tT_next p' t' hr)⟩
  · rename_i e
    obtain ⟨b, e2, q⟩ := hr
    rw [e] at e2; cases e2
    exact ⟨false, by rw [e]; rfl, fun H' Z' A' p' t' => itF (q H' Z' A' p' t')⟩
  · exact hr.elim
theorem sw_or {rest : List Expr} (ha : PT X a (tT C W fa Γ Γ)) (hb : PW X (.BoolOp .Or (b :: rest) pos) (tT C W fb Γ Γ)) : PW X (.BoolOp .Or (a :: b :: rest) pos) (tT C W (eOrB fa fb) Γ Γ) := by
  refine ⟨fun wh pins s σ H Q I q => (pw_or ha hb).run wh pins s σ H Q I ?_⟩
  obtain ⟨ρ, Z, A, pre, h⟩ := q
  refine ⟨ρ, Z, A, pre, h.bind.mono (fun r hr => ?_) fun _ he => he⟩
  split at hr
  · rename_i e
    obtain ⟨b, e2, q⟩ := hr
    rw [e] at e2; cases e2
    exact ⟨true, by rw [e]; rfl, fun H' Z' A' p' t' => itT (q H' Z' A' p' t')⟩
  · rename_i e
    exact ⟨false, by rw [e]; rfl, fun H' Z' A' p' t' => itF (tT_next p' t' hr)⟩
  · exact hr.elim
theorem st_bop {op : BoolOp} {es : List Expr} {g : ES} (h : PW X (.BoolOp op es pos) (tT C W g Γ Γ1)) : PT X (.BoolOp op es pos) (tT C W g Γ Γ1) := h.pt
theorem sm_one {op : BoolOp} (ha : PE X a (tM C W fa Γ Γ1 t)) : PE X (.BoolOp op [a] pos) (tM C W fa Γ Γ1 t) := pe_one ha
theorem sm_and {rest : List Expr} (ha : PE X a (tM C W fa Γ Γ .v)) (hb : PE X (.BoolOp .And (b :: rest) pos) (tM C W fb Γ Γ .v)) : PE X (.BoolOp .And (a :: b :: rest) pos) (tM C W (eAndB fa fb) Γ Γ .v) := PEi (pe_and ha hb) fun σ H Q ⟨ρ, Z, A, pre, h⟩ => ⟨ρ, Z, A, pre, h.bind.mono (fun r hr v H' hp => by
  have hp0 := hp
  obtain ⟨Z', A', p', d', t'⟩ := hp.pre
  split at hr
  · rename_i e
    rw [e] at d'; cases d'
    exact ⟨true, rfl, itT (tM_next p' t' hr)⟩
  · rename_i e
    rw [e] at d'; cases d'
    exact ⟨false, rfl, itF (hr _ _ hp0)⟩
  · exact hr.elim) fun _ he => he⟩
theorem sm_or {rest : List Expr} (ha : PE X a (tM C W fa Γ Γ .v)) (hb : PE X (.BoolOp .Or (b :: rest) pos) (tM C W fb Γ Γ .v)) : PE X (.BoolOp .Or (a :: b :: rest) pos) (tM C W (eOrB fa fb) Γ Γ .v) := PEi (pe_or ha hb) fun σ H Q ⟨ρ, Z, A, pre, h⟩ => ⟨ρ, Z, A, pre, h.bind.mono (fun r hr v H' hp => by
  have hp0 := hp
  obtain ⟨Z', A', p', d', t'⟩ := hp.pre
  split at hr
  · rename_i e
    rw [e] at d'; cases d'
    exact ⟨true, rfl, itT (hr _ _ hp0)⟩
  · rename_i e
    rw [e] at d'; cases d'
    exact ⟨false, rfl, itF (tM_next p' t' hr)⟩
  · exact hr.elim) fun _ he => he⟩
theorem sm_if (hc : PT X c (tT C W fc Γ Γ1)) (ha : PE X a (tM C W fa Γ1 Γ2 t)) (hb : PE X b (tM C W fb Γ1 Γ2 t)) : PE X (.IfExp c a b pos) (tM C W (eIfB fc fa fb) Γ Γ2 t) := PEi (pe_ifExp hc ha hb) fun σ H Q ⟨ρ, Z, A, pre, h⟩ => ⟨ρ, Z, A, pre, h.bind.mono (fun r hr => by
  obtain ⟨k, e, hr⟩ := opt_to hr.bind
  refine ⟨k, e, fun H' Z' A' p' t' => ?_⟩
  cases k with
  | true => exact itT (tM_next p' t' hr)
  | false => exact itF (tM_next p' t' hr)) fun _ he => he⟩
theorem st_if (hc : PT X c (tT C W fc Γ Γ1)) (ha : PT X a (tT C W fa Γ1 Γ2)) (hb : PT X b (tT C W fb Γ1 Γ2)) : True := trivial

/-! a op b op' c -/
def eChB (f g : PV → PV → Res PV) (a b c : ES) : ES := fun ρ => a ρ >>= fun r => b r.2 >>= fun q => f r.1 q.1 >>= fun p => match p with
  | .bool true => c q.2 >>= fun u => g q.1 u.1 >>= fun z => .ok (z, u.2)
  | .bool false => .ok (.bool false, q.2)
  | _ => .stuck
theorem tM_chain {f g : PV → PV → Res PV} {r r' : R2} (ho : Op2 C f r .v) (ho' : Op2 C g r' .v) (hn : NoX2 f) (hn' : NoX2 g) (hb : IsB2 f) {Q : VK} (h : tM C W (eChB f g fa fb fc) Γ Γ2 .v σ H Q) :
    tChain r r' (tM C W fa Γ Γ1 .v) (tM C W fb Γ1 Γ2 .v) (tO C W fc Γ2 Γ2) σ H Q := by
  obtain ⟨ρ, Z, A, pre, h⟩ := h
  refine ⟨ρ, Z, A, pre, h.bind.mono (fun r1 h1 x H1 p1 => ?_) fun _ he => he⟩
  obtain ⟨Z1, A1, pre1, d1, t1⟩ := p1.pre
  refine ⟨r1.2, Z1, A1, pre1, h1.bind.mono (fun r2 h2 y H2 p2 => ?_) fun e he cls d H' px => he cls d H' (px.comp t1)⟩
  obtain ⟨Z2, A2, pre2, d2, t2⟩ := p2.pre
  have t12 := t1.trans t2
  refine ho Z2 H2 x y r1.1 r2.1 _ pre2.ok.2.2 (d1.stays (pre1.stays t2)) (.den d2) (To.nox (hn _ _) (h2.bind.mono' (fun s es hs v H3 hv => ?_) fun _ he => he))
  obtain ⟨Z3, A3, pre3, d3, t3⟩ := (hv.post pre2).pre
  obtain ⟨k, rfl⟩ := hb _ _ _ es
  cases d3
  refine ⟨k, rfl, ?_⟩
  cases k with
  | true =>
    refine itT ?_
    refine ⟨r2.2, Z3, A3, pre3, hs.bind.mono (fun r4 h4 z H4 Z4 A4 pre4 o4 t4 => ?_) fun e he cls d H' px => he cls d H' (px.comp (t12.trans t3))⟩
    refine ho' Z4 H4 y z r2.1 r4.1 Q pre4.ok.2.2 ((d2.stays (pre2.stays t3)).stays (pre3.stays t4)) o4 (To.nox (hn' _ _) (h4.bind.mono (fun s hs v H' hv => hs v H' ((hv.post pre4).comp ((t12.trans t3).trans t4))) fun _ he => he))
  | false =>
    refine itF ?_
    exact hs _ _ ((pre3.post0 (.bl false)).comp (t12.trans t3))
theorem isB_chain {f g : PV → PV → Res PV} (h : IsB2 g) : IsB (eChB f g fa fb fc) := fun ρ r e => by
  obtain ⟨r1, _, e⟩ := bind_ok_inv e
  obtain ⟨r2, _, e⟩ := bind_ok_inv e
  obtain ⟨s, e1, e⟩ := bind_ok_inv e
  split at e
  · obtain ⟨u, _, e⟩ := bind_ok_inv e
    obtain ⟨z, ez, e⟩ := bind_ok_inv e
    cases e
    exact h _ _ _ ez
  · cases e
    exact ⟨false, rfl⟩
  · cases e
section
variable {op op' : CmpOp} {f g : PV → PV → Res PV} {r r' : R2}
theorem sm_chain (hr : OpR X (compareOp op) r) (hr' : OpR X (compareOp op') r') (ho : Op2 C f r .v) (ho' : Op2 C g r' .v) (hn : NoX2 f) (hn' : NoX2 g) (hB : IsB2 f) (ha : PE X a (tM C W fa Γ Γ1 .v)) (hb : PE X b (tM C W fb Γ1 Γ2 .v)) (hc : PE X c (tO C W fc Γ2 Γ2))
    (hm : lastMarks [op, op'] [b, c] = false := by with_unfolding_all rfl) : PE X (.Compare a [op, op'] [b, c] pos) (tM C W (eChB f g fa fb fc) Γ Γ2 .v) := PEi (pe_chain hr hr' ha hb hc hm) fun _ _ _ h => tM_chain ho ho' hn hn' hB h
theorem st_chain (hr : OpR X (compareOp op) r) (hr' : OpR X (compareOp op') r') (ho : Op2 C f r .v) (ho' : Op2 C g r' .v) (hn : NoX2 f) (hn' : NoX2 g) (hB : IsB2 f) (hB' : IsB2 g) (ha : PE X a (tM C W fa Γ Γ1 .v)) (hb : PE X b (tM C W fb Γ1 Γ2 .v)) (hc : PE X c (tO C W fc Γ2 Γ2))
    (hm : lastMarks [op, op'] [b, c] = false := by with_unfolding_all rfl) : PT X (.Compare a [op, op'] [b, c] pos) (tT C W (eChB f g fa fb fc) Γ Γ2) := PTi (pt_chain hr hr' ha hb hc hm) fun _ _ _ h => tM_chain ho ho' hn hn' hB (tT_toM (isB_chain hB') h)
end

/-! displays -/
def eL : List ES → Env → Res (List PV × Env)
  | [], ρ => .ok ([], ρ)
  | a :: r, ρ => a ρ >>= fun x => eL r x.2 >>= fun y => .ok (x.1 :: y.1, y.2)
def eTup (fs : List ES) : ES := fun ρ => eL fs ρ >>= fun r => .ok (.tup r.1, r.2)
def eLst (fs : List ES) : ES := fun ρ => eL fs ρ >>= fun r => .ok (.lst r.1, r.2)
def tA (C : Cn) (W : WX) (fs : List ES) (Γ Γ' : List Ty) : TA := fun σ H Q =>
  ∃ (ρ : Env) (Z : Addr → Prop) (A : List Addr), PreE C Z H σ Γ ρ A ∧
    (eL fs ρ).To (fun r => ∀ vs H' Z' A', PreE C Z' H' σ Γ' r.2 A' → DenL C Z' H' vs r.1 → Tr Z H A Z' H' A' → Q vs H') fun e => ∀ cls d H', PostX C Z H A e cls d H' → W cls d σ H'
theorem PAi {es : List Expr} {t t' : TA} (h : PA X es t) (hi : ∀ σ H Q, t' σ H Q → t σ H Q) : PA X es t' := ⟨fun pos pins s σ H Q I q => h.run pos pins s σ H Q I (hi σ H Q q)⟩
theorem sa_nil : PA X [] (tA C W [] Γ Γ) := PAi pa_nil fun σ H Q ⟨ρ, Z, A, pre, h⟩ => h [] H Z A pre .nil (Tr.refl fun _ h => h)
theorem sa_cons {es : List Expr} {fs : List ES} (ha : PE X a (tM C W fa Γ Γ1 .v)) (hr : PA X es (tA C W fs Γ1 Γ2)) (hs : starEach (a :: es) X.env = (false, eval a X.env) :: starEach es X.env := by rfl) : PA X (a :: es) (tA C W (fa :: fs) Γ Γ2) :=
  PAi (pa_cons ha hr hs) fun σ H Q ⟨ρ, Z, A, pre, h⟩ => by
    refine ⟨ρ, Z, A, pre, h.bind.mono (fun r1 h1 x H1 p1 => ?_) fun _ he => he⟩
    obtain ⟨Z1, A1, pre1, d1, t1⟩ := p1.pre
    refine ⟨r1.2, Z1, A1, pre1, h1.bind.mono (fun r2 h2 vs H2 Z2 A2 pre2 d2 t2 => ?_) fun e he cls d H' px => he cls d H' (px.comp t1)⟩
    exact h2 _ _ Z2 A2 pre2 (.cons (d1.stays (pre1.stays t2)) d2) (t1.trans t2)
theorem sm_tup {es : List Expr} {fs : List ES} {k : Nat} (h : PA X es (tA C W fs Γ Γ1)) (hl : es.length ≤ 1000 := by decide) (hl2 : fs.length = es.length := by rfl) : PE X (.Tuple es k pos) (tM C W (eTup fs) Γ Γ1 .v) := PEi (pe_tup h) fun σ H Q ⟨ρ, Z, A, pre, h⟩ => by
  refine ⟨ρ, Z, A, pre, h.bind.mono' (fun r er hr vs H' Z' A' p' d' t' => ?_) fun _ he => he⟩
  have len : ∀ {fs : List ES} {ρ : Env} {r : List PV × Env}, eL fs ρ = .ok r → r.1.length = fs.length := by
    intro fs
    induction fs with
    | nil => intro ρ r e; cases e; rfl
    | cons f fs ih =>
      intro ρ r e
      obtain ⟨r1, _, e⟩ := bind_ok_inv e
      obtain ⟨r2, e2, e⟩ := bind_ok_inv e
      cases e
      simp [ih e2]
  refine ⟨?_, fun p hp => hr _ _ (((NewT.tup p'.ok.2.2 hp d').post p').comp t')⟩
  rw [d'.length, len er, hl2, sizeLine_eq]
  omega
theorem sm_lst {es : List Expr} {fs : List ES} (h : PA X es (tA C W fs Γ Γ1)) (hl : es.length ≤ 1000 := by decide) (hl2 : fs.length = es.length := by rfl) : PE X (.List es pos) (tM C W (eLst fs) Γ Γ1 (.l .v)) := PEi (pe_lst h) fun σ H Q ⟨ρ, Z, A, pre, h⟩ => by
  refine ⟨ρ, Z, A, pre, h.bind.mono' (fun r er hr vs H' Z' A' p' d' t' => ?_) fun _ he => he⟩
  have len : ∀ {fs : List ES} {ρ : Env} {r : List PV × Env}, eL fs ρ = .ok r → r.1.length = fs.length := by
    intro fs
    induction fs with
    | nil => intro ρ r e; cases e; rfl
    | cons f fs ih =>
      intro ρ r e
      obtain ⟨r1, _, e⟩ := bind_ok_inv e
      obtain ⟨r2, e2, e⟩ := bind_ok_inv e
      cases e
      simp [ih e2]
  refine ⟨?_, fun p hp => hr _ _ (((NewT.lst p'.ok.2.2 hp d').post p').comp t')⟩
  rw [d'.length, len er, hl2, sizeLine_eq]
  omega
end
end Mi

/-! Slices; what is walked; comprehensions. -/
namespace HTx
open PySem PySem.Spec PyProof.Rows PySem.Calls
/-- a tuple's slice with a step -/
def stepL {α : Type} (xs : List α) (lo hi : Option Int) (st : Int) : List α :=
  ((List.range (Builtin.Slice.slicePlaces (Builtin.Slice.sliceAdjust lo hi st xs.length).1 (Builtin.Slice.sliceAdjust lo hi st xs.length).2 st)).filterMap fun (m : Nat) => xs[((Builtin.Slice.sliceAdjust lo hi st xs.length).1 + (m : Int) * st).toNat]?)
section
variable {prog : Program} {w : World} {A : Around} {E : Value → Shared → Prop} {s : Shared}
theorem sliceApplied_step {sl : Addr} {vl vu vs : Value} {lo hi : Option Int} {st : Int} {n : Nat} {Q : Int × Int × Nat → Shared → Prop} (hs : s.heap.IsSliceOf sl vl vu vs) (pl : IsPart vl lo) (pu : IsPart vu hi) (ps : IsPart vs (some st)) (h0 : st ≠ 0)
    (h : Q ((Builtin.Slice.sliceAdjust lo hi st (n : Int)).1, st, Builtin.Slice.slicePlaces (Builtin.Slice.sliceAdjust lo hi st (n : Int)).1 (Builtin.Slice.sliceAdjust lo hi st (n : Int)).2 st) s) : wpAny (model prog w) A (Builtin.Slice.sliceApplied (.ref sl) (pure (n : Int))) Q E s := by
  obtain ⟨os, hos, hcs, hds⟩ := id hs
  unfold Builtin.Slice.sliceApplied Builtin.Slice.sliceFields
  refine wpAny_bind (wpAny_bind (wpAny_field hos hds (x := vl) rfl (wpAny_bind (wpAny_field hos hds (x := vu) rfl (wpAny_bind (wpAny_field hos hds (x := vs) rfl (wpAny_pure ?_)))))))
  refine wpAny_bind (HT.slicePart_ ps ?_)
  show wpAny _ _ (if (st == 0) = true then _ else _) _ _ s
  rw [if_neg (by simpa using h0)]
  refine wpAny_bind (HT.slicePart_ pl (wpAny_bind (HT.slicePart_ pu (wpAny_bind (wpAny_pure ?_)))))
  exact wpAny_pure h
theorem getItem_tuple_step {t sl : Addr} {items : Array Value} {vl vu vs : Value} {lo hi : Option Int} {st : Int} {Q : Value → Shared → Prop} (ht : IsTup s.heap t items) (hs : s.heap.IsSliceOf sl vl vu vs) (pl : IsPart vl lo) (pu : IsPart vu hi) (ps : IsPart vs (some st))
    (h0 : st ≠ 0) (h1 : st ≠ 1) (hz : (stepL items.toList lo hi st).length ≤ sizeLine)
    (h : Q (.ref s.heap.objs.size) { s with heap := s.heap.push { cls := .type "tuple", data := .seq (stepL items.toList lo hi st).toArray } }) : wpAny (model prog w) A (getItem (.ref t) (.ref sl)) Q E s := by
  have htake : sizeOk (.seq (stepL items.toList lo hi st).toArray) := by
    show (stepL items.toList lo hi st).toArray.size ≤ sizeLine
    rw [List.size_toArray]; exact hz
  obtain ⟨os, hos, hcs, hds⟩ := id hs
  have hTs : s.TypeIs (.ref sl) "slice" := ⟨os, hos, hcs⟩
  unfold getItem
  try with_reducible refine wpAny_holding ?_
  first | refine wpAny_bind (wpAny_pure ?_) | skip
  refine wpAny_bind (wpAny_sequenceKey ht.typeIs (by decide) ?_)
  refine wpAny_bind (wpAny_callSpecial?_slot (name := Str.ofString "__getitem__") ht.typeIs PyProof.Rows.slot_tuple_getitem
    (wpAny_call_entry PyProof.Rows.slot_tuple_getitem ht.typeIs entry_tuple_getitem ?_ (args_tuple_getitem _ _)))
  show wpAny _ _ (Builtin.Tuple.tupleItemsOf (.ref t) >>= _) _ _ s
  refine wpAny_bind (PyProof.Rows.tupleItemsOf_ ht ?_)
  refine wpAny_bind (wpAny_typeOf hTs ?_)
  rw [if_pos (by decide)]
  refine wpAny_bind (sliceApplied_step hs pl pu ps h0 ?_)
  have e2 : (stepL items.toList lo hi st).toArray = ((List.range (Builtin.Slice.slicePlaces (Builtin.Slice.sliceAdjust lo hi st items.size).1 (Builtin.Slice.sliceAdjust lo hi st items.size).2 st)).filterMap fun (m : Nat) => items[((Builtin.Slice.sliceAdjust lo hi st items.size).1 + (m : Int) * st).toNat]?).toArray := by
    unfold stepL
    simp only [Array.length_toList, Array.getElem?_toList]
  have hno : ¬ (((Builtin.Slice.sliceAdjust lo hi st (items.size : Int)).1 == 0 && st == 1 && Builtin.Slice.slicePlaces (Builtin.Slice.sliceAdjust lo hi st (items.size : Int)).1 (Builtin.Slice.sliceAdjust lo hi st (items.size : Int)).2 st == items.size) = true) := by
    intro q
    rw [Bool.and_eq_true, Bool.and_eq_true] at q
    exact h1 (eq_of_beq q.1.2)
  show wpAny _ _ (if ((Builtin.Slice.sliceAdjust lo hi st (items.size : Int)).1 == 0 && st == 1 && Builtin.Slice.slicePlaces (Builtin.Slice.sliceAdjust lo hi st (items.size : Int)).1 (Builtin.Slice.sliceAdjust lo hi st (items.size : Int)).2 st == items.size) = true then _ else _) _ _ s
  rw [if_neg hno]
  rw [e2] at h htake
  first
    | exact wpAny_bind (m := Builtin.Tuple.tupleExact _) (wpAny_newObj_type (wpAny_pure ⟨_, rfl, wpAny_pure h⟩) htake)
    | exact wpAny_bind (m := Builtin.Tuple.tupleExact _) (wpAny_newObj_type (wpAny_bind (wpAny_pure (wpAny_pure ⟨_, rfl, wpAny_pure h⟩))) htake)
    | exact wpAny_bind (wpAny_bind (m := Builtin.Tuple.tupleExact _) (wpAny_newObj_type (wpAny_pure (wpAny_pure ⟨_, rfl, wpAny_pure h⟩)) htake))
    | exact wpAny_bind (wpAny_bind (m := Builtin.Tuple.tupleExact _) (wpAny_newObj_type (wpAny_pure ⟨_, rfl, wpAny_pure h⟩) htake))
end
end HTx
namespace Mi
open PySem PySem.Spec L2
open PyProof.Rows hiding St

/-! slices -/
def cutL {α : Type} (xs : List α) (lo hi : Option Int) : List α := (xs.drop (HT.sIx xs.length 0 lo)).take (HT.sIx xs.length xs.length hi - HT.sIx xs.length 0 lo)
def cutP (p : PV) (lo hi : Option Int) : Res PV := match p with
  | .tup xs => .ok (.tup (cutL xs lo hi))
  | .lst xs => .ok (.lst (cutL xs lo hi))
  | .scr xs => .ok (.lst (cutL xs lo hi))
  | _ => .stuck
def optE : Option ES → Env → Res (Option Int × Env)
  | none, ρ => .ok (none, ρ)
  | some f, ρ => f ρ >>= fun r => match r.1 with
    | .int i => .ok (some i, r.2)
    | _ => .stuck
def eSl (fa : ES) (lo hi : Option ES) : ES := fun ρ => fa ρ >>= fun r => optE lo r.2 >>= fun u => optE hi u.2 >>= fun w => cutP r.1 u.1 w.1 >>= fun p => .ok (p, w.2)
/-- a slice with a written step -/
@[irreducible] def stepP (p : PV) (lo hi : Option Int) (st : Int) : Res PV := match p with
  | .tup xs => if st ≠ 0 ∧ st ≠ 1 ∧ (HTx.stepL xs lo hi st).length ≤ lim then .ok (.tup (HTx.stepL xs lo hi st)) else .stuck
  | _ => .stuck
def eSlS (fa : ES) (lo hi : Option ES) (st : Int) : ES := fun ρ => fa ρ >>= fun r => optE lo r.2 >>= fun u => optE hi u.2 >>= fun w => stepP r.1 u.1 w.1 st >>= fun p => .ok (p, w.2)
def revP (p : PV) : Res PV := match p with
  | .lst xs => .ok (.lst xs.reverse)
  | _ => .stuck

section
variable {C : Cn} {Z Z1 Z2 Z' : Addr → Prop} {H H1 H2 H' : Hp} {A A1 A2 B A' : List Addr} {σ : L2.St} {Γ Γ1 Γ2 Γ3 Γ' : List Ty} {ρ : Env} {t : Ty} {W : WX} {X : Cx} {a b c : Expr} {fa fb fc : ES} {pos : Pos}
def tOE (C : Cn) (W : WX) (f : Option ES) (Γ Γ' : List Ty) : TO := fun σ H Q =>
  ∃ (ρ : Env) (Z : Addr → Prop) (A : List Addr), PreE C Z H σ Γ ρ A ∧
    (optE f ρ).To (fun r => ∀ H' Z' A', PreE C Z' H' σ Γ' r.2 A' → Tr Z H A Z' H' A' → Q r.1 H') fun e => ∀ cls d H', PostX C Z H A e cls d H' → W cls d σ H'
theorem POi {e : Option Expr} {t t' : TO} (h : PO X e t) (hi : ∀ σ H Q, t' σ H Q → t σ H Q) : PO X e t' := ⟨fun pins s σ H Q I q => h.run pins s σ H Q I (hi σ H Q q)⟩
theorem sx_none : PO X none (tOE C W none Γ Γ) := POi po_none fun σ H Q ⟨ρ, Z, A, pre, h⟩ => h H Z A pre (Tr.refl fun _ h => h)
theorem sx_some (ha : PE X a (tM C W fa Γ Γ1 .v)) : PO X (some a) (tOE C W (some fa) Γ Γ1) := POi (po_some ha) fun σ H Q ⟨ρ, Z, A, pre, h⟩ => ⟨ρ, Z, A, pre, h.bind.mono (fun r hr v H' hp => by
  obtain ⟨Z', A', p', d', t'⟩ := hp.pre
  split at hr
  · rename_i i e
    rw [e] at d'
    exact ⟨i, d'.toInt, hr H' Z' A' p' t'⟩
  · exact hr.elim) fun _ he => he⟩
theorem DenL.cut {vs : List V} {ps : List PV} (h : DenL C Z H vs ps) (lo hi : Option Int) : DenL C Z H (cutV vs lo hi) (cutL ps lo hi) := by
  unfold cutV cutL
  rw [h.length]
  exact (h.drop _).take _
theorem cutL_all {α : Type} {xs : List α} {lo hi : Option Int} (h : HT.sIx xs.length 0 lo = 0 ∧ HT.sIx xs.length xs.length hi = xs.length) : cutL xs lo hi = xs := by
  unfold cutL
  rw [h.1, h.2]
  simp
theorem sm_sl {lo hi : Option Expr} {fl fh : Option ES} {p2 : Pos} (hX : Is C X) (ha : PE X a (tM C W fa Γ Γ1 .v)) (hl : PO X lo (tOE C W fl Γ1 Γ2)) (hh : PO X hi (tOE C W fh Γ2 Γ3)) : PE X (.Subscript a (.Slice lo hi none p2) pos) (tM C W (eSl fa fl fh) Γ Γ3 .v) :=
  PEi (pe_slice (sl_tupA.or sl_list) ha hl hh) fun σ H Q ⟨ρ, Z, A, pre, h⟩ => by
    refine ⟨ρ, Z, A, pre, h.bind.mono (fun r1 h1 x H1 p1 => ?_) fun _ he => he⟩
    obtain ⟨Z1, A1, pre1, d1, t1⟩ := p1.pre
    refine ⟨r1.2, Z1, A1, pre1, h1.bind.mono (fun r2 h2 H2 Z2 A2 pre2 t2 => ?_) fun e he cls d H' px => he cls d H' (px.comp t1)⟩
    have d2 := d1.stays (pre1.stays t2)
    refine ⟨r2.2, Z2, A2, pre2, h2.bind.mono (fun r3 h3 H3 Z3 A3 pre3 t3 => ?_) fun e he cls d H' px => he cls d H' (px.comp (t1.trans t2))⟩
    have d3 := d2.stays (pre2.stays t3)
    have t13 := (t1.trans t2).trans t3
    have h3 := h3.bind
    unfold cutP at h3
    split at h3
    · rename_i xs e
      rw [e] at d3
      obtain ⟨q, vs, rfl, k1, k2⟩ := d3.toTup
      refine .inl ⟨q, vs, rfl, hX.K ▸ k1, fun hw => ?_, fun _ p hp => ?_⟩
      · rw [k2.length] at hw
        exact h3 _ _ ((pre3.post0 (by rw [cutL_all hw]; exact .tup k1 k2)).comp t13)
      · exact h3 _ _ (((NewT.tup pre3.ok.2.2 hp (k2.cut _ _)).post pre3).comp t13)
    · rename_i xs e
      rw [e] at d3
      obtain ⟨q, vs, rfl, k1, k2⟩ := d3.toLst
      exact .inr ⟨q, vs, rfl, .of k1, fun p hp => h3 _ _ (((NewT.lst pre3.ok.2.2 hp (k2.cut _ _)).frz.post pre3).comp t13)⟩
    · rename_i xs e
      rw [e] at d3
      cases d3 with
      | scr k1 k2 => exact .inr ⟨_, _, rfl, hX.K ▸ k1.sq, fun p hp => h3 _ _ (((NewT.lst pre3.ok.2.2 hp (k2.cut _ _)).frz.post pre3).comp t13)⟩
    · exact h3.elim
/-- xs[::-1] of a list -/
theorem sm_revL {k : Nat} {p1 p2 p3 : Pos} (hX : Is C X) (ha : PE X a (tO C W fa Γ Γ1)) : PE X (.Subscript a (.Slice none none (some (.UnaryOp .USub (.Constant (.int 1) k p1) p2)) p3) pos) (tM C W (e1 revP fa) Γ Γ1 (.l .v)) :=
  PEi (pe_revL ha) fun σ H Q ⟨ρ, Z, A, pre, h⟩ => by
    refine ⟨ρ, Z, A, pre, h.bind.mono (fun r1 h1 x H1 Z1 A1 pre1 d1 t1 => ?_) fun _ he => he⟩
    have h1 := h1.bind
    unfold revP at h1
    split at h1
    · rename_i xs e
      rw [e] at d1
      obtain ⟨q, vs, rfl, k1, k2⟩ := d1.toLst
      exact ⟨q, vs, rfl, .of k1, fun p hp => h1 _ _ (((NewT.lst pre1.ok.2.2 hp k2.reverse).post pre1).comp t1)⟩
    · exact h1.elim
theorem fm_den {vs : List V} {ps : List PV} (h : DenL C Z H vs ps) (f : Nat → Nat) : ∀ ms : List Nat, DenL C Z H (ms.filterMap fun m => vs[f m]?) (ms.filterMap fun m => ps[f m]?)
  | [] => .nil
  | m :: ms => by
    cases e : ps[f m]? with
    | none =>
      have e2 : vs[f m]? = none := List.getElem?_eq_none (by have := List.getElem?_eq_none_iff.mp e; have := h.length; omega)
      simp only [List.filterMap_cons, e, e2]
      exact fm_den h f ms
    | some p =>
      obtain ⟨v, e2, d⟩ := h.get e
      simp only [List.filterMap_cons, e, e2]
      exact .cons d (fm_den h f ms)
theorem DenL.step {vs : List V} {ps : List PV} (h : DenL C Z H vs ps) (lo hi : Option Int) (st : Int) : DenL C Z H (HTx.stepL vs lo hi st) (HTx.stepL ps lo hi st) := by
  unfold HTx.stepL
  rw [h.length]
  exact fm_den h (fun m => ((Builtin.Slice.sliceAdjust lo hi st ps.length).1 + (m : Int) * st).toNat) _
theorem vals_fm {vs : List V} {us : List Value} (h : Vals vs us) (f : Nat → Nat) : ∀ ms : List Nat, Vals (ms.filterMap fun m => vs[f m]?) (ms.filterMap fun m => us[f m]?)
  | [] => .nil
  | m :: ms => by
    cases e : vs[f m]? with
    | none =>
      have e2 : us[f m]? = none := List.getElem?_eq_none (by have := List.getElem?_eq_none_iff.mp e; have := h.length; omega)
      simp only [List.filterMap_cons, e, e2]
      exact vals_fm h f ms
    | some p =>
      obtain ⟨v, e2, d⟩ := h.get e
      simp only [List.filterMap_cons, e, e2]
      exact .cons d (vals_fm h f ms)
theorem vals_step {vs : List V} {us : List Value} (h : Vals vs us) (lo hi : Option Int) (st : Int) : Vals (HTx.stepL vs lo hi st) (HTx.stepL us lo hi st) := by
  unfold HTx.stepL
  rw [h.length]
  exact vals_fm h (fun m => ((Builtin.Slice.sliceAdjust lo hi st us.length).1 + (m : Int) * st).toNat) _
/-- a written int, as a part -/
theorem po_lit {i : Int} {k : Nat} {p : Pos} : PO X (some (.Constant (.int i) k p)) (fun _ H Q => Q (some i) H) := POi (po_some pe_int) fun σ H Q q => ⟨i, rfl, q⟩
theorem po_neg {i : Int} {k : Nat} {p q : Pos} : PO X (some (.UnaryOp .USub (.Constant (.int i) k p) q)) (fun _ H Q => Q (some (-i)) H) := POi (po_some (pe_un un_neg pe_int)) fun σ H Q q => ⟨i, rfl, -i, rfl, q⟩
set_option maxHeartbeats 2000000 in
theorem sm_slS {lo hi : Option Expr} {se : Expr} {fl fh : Option ES} {st : Int} {p2 : Pos} (hX : Is C X) (ha : PE X a (tM C W fa Γ Γ1 .v)) (hl : PO X lo (tOE C W fl Γ1 Γ2)) (hh : PO X hi (tOE C W fh Γ2 Γ3)) (hs : PO X (some se) (fun _ H Q => Q (some st) H)) :
    PE X (.Subscript a (.Slice lo hi (some se) p2) pos) (tM C W (eSlS fa fl fh st) Γ Γ3 .v) := by
  refine ⟨fun pins s σ H Q I q => ?_⟩
  obtain ⟨ρ, Z, A, pre, h⟩ := q
  refine Subscript_ (thn (ha.run pins s σ H (fun x H1 => ∃ r1 Z1 A1, PreE C Z1 H1 σ Γ1 r1.2 A1 ∧ Den C Z1 H1 x r1.1 ∧ Tr Z H A Z1 H1 A1 ∧
      (optE fl r1.2 >>= fun u => optE fh u.2 >>= fun w => stepP r1.1 u.1 w.1 st >>= fun p => Res.ok (p, w.2)).To (fun r => ∀ v H', PostE C Z H A σ Γ3 .v r v H' → Q v H') fun e => ∀ cls d H', PostX C Z H A e cls d H' → W cls d σ H') I
    ⟨ρ, Z, A, pre, h.bind.mono (fun r1 h1 x H1 p1 => let ⟨Z1, A1, pre1, d1, t1⟩ := p1.pre; ⟨r1, Z1, A1, pre1, d1, t1, h1⟩) fun _ he => he⟩) fun v s1 ⟨x, H1, I1, rx, r1, Z1, A1, pre1, d1, t1, h1⟩ => ?_)
  refine wpAny_Slice (thn (hl.run pins s1 σ H1 (fun o H2 => ∃ r2 Z2 A2, r2.1 = o ∧ PreE C Z2 H2 σ Γ2 r2.2 A2 ∧ Den C Z2 H2 x r1.1 ∧ Tr Z H A Z2 H2 A2 ∧
      (optE fh r2.2 >>= fun w => stepP r1.1 r2.1 w.1 st >>= fun p => Res.ok (p, w.2)).To (fun r => ∀ v H', PostE C Z H A σ Γ3 .v r v H' → Q v H') fun e => ∀ cls d H', PostX C Z H A e cls d H' → W cls d σ H') I1
    ⟨r1.2, Z1, A1, pre1, h1.bind.mono (fun r2 h2 H2 Z2 A2 pre2 t2 => ⟨r2, Z2, A2, rfl, pre2, d1.stays (pre1.stays t2), t1.trans t2, h2⟩) fun e he cls d H' px => he cls d H' (px.comp t1)⟩) fun vl s2 ⟨l, H2, I2, pl, r2, Z2, A2, el, pre2, d2, t2, h2⟩ => ?_)
  refine thn (hh.run pins s2 σ H2 (fun o H3 => ∃ r3 Z3 A3, r3.1 = o ∧ PreE C Z3 H3 σ Γ3 r3.2 A3 ∧ Den C Z3 H3 x r1.1 ∧ Tr Z H A Z3 H3 A3 ∧
      (stepP r1.1 r2.1 r3.1 st >>= fun p => Res.ok (p, r3.2)).To (fun r => ∀ v H', PostE C Z H A σ Γ3 .v r v H' → Q v H') fun e => ∀ cls d H', PostX C Z H A e cls d H' → W cls d σ H') I2
    ⟨r2.2, Z2, A2, pre2, h2.bind.mono (fun r3 h3 H3 Z3 A3 pre3 t3 => ⟨r3, Z3, A3, rfl, pre3, d2.stays (pre2.stays t3), t2.trans t3, h3⟩) fun e he cls d H' px => he cls d H' (px.comp t2)⟩) fun vu s3 ⟨u, H3, I3, pu, r3, Z3, A3, eu, pre3, d3, t3, h3⟩ => ?_
  refine thn (hs.run pins s3 σ H3 (fun o H4 => o = some st ∧ H4 = H3) I3 ⟨rfl, rfl⟩) fun vs s4 ⟨o, H4, I4, ps, eo, e4⟩ => ?_
  subst eo e4
  have I5 : Inv X pins σ H4 { s4 with heap := s4.heap.push { cls := .type "slice", data := .fields #[vl, vu, vs] } } := I4.kept (t' := s4.toks) fun b ob q => Heap.get?_push_of_some _ q
  have h3 := h3.bind
  unfold stepP at h3
  split at h3
  · rename_i xs e
    rw [e] at d3
    obtain ⟨q, ws, rfl, k1, k2⟩ := d3.toTup
    split at h3
    · rename_i hc
      obtain ⟨c1, c2, c3⟩ := hc
      cases rx
      obtain ⟨its, r, ht, hz⟩ := I5.tuple (hX.K ▸ k1)
      subst el eu
      have k3 := k2.step r2.1 r3.1 st
      have r' := vals_step r r2.1 r3.1 st
      have hlen : (HTx.stepL its r2.1 r3.1 st).length ≤ sizeLine := by
        rw [← r'.length, k3.length, ← lim_eq]; exact c3
      show wpAny (model X.prog X.w) X.A (subscriptTail a (.Slice lo hi (some se) p2) (.ref q) (.ref s4.heap.objs.size)) (EP X pins σ Q) X.xe { s4 with heap := s4.heap.push { cls := .type "slice", data := .fields #[vl, vu, vs] } }
      refine tail_any (ops := [.ref q, .ref s4.heap.objs.size]) ht.typeIs PyProof.Rows.slot_tuple_getitem.lookup ?_ (by with_unfolding_all rfl)
      refine HTx.getItem_tuple_step ht (Heap.IsSliceOf.new _ vl vu vs) pl pu ps c1 c2 (by simpa using hlen) ?_
      have hn := I5.hok.fresh (Nat.le_refl _)
      refine ⟨.ref _, upd H4 _ (.tup (HTx.stepL ws r2.1 r3.1 st)), I5.laid (t' := s4.toks) (fun b ob q => Heap.get?_push_of_some _ q) (Nat.le_refl _) ?_, rfl, h3 _ _ (((NewT.tup pre3.ok.2.2 hn k3).post pre3).comp t3)⟩
      exact ⟨by rw [r'.length]; exact hlen, _, r', ⟨_, Heap.get?_push_size _ rfl, rfl, 0, by simp⟩⟩
    · exact h3.elim
  · exact h3.elim
end
end Mi

/-! What is walked; targets; comprehensions. -/
namespace Mi
open PySem PySem.Spec L2
open PyProof.Rows hiding St

abbrev IS := Env → Res (List PV × Env)
abbrev GS := PV → Env → Res Env
def iSeq (fa : ES) : IS := fun ρ => fa ρ >>= fun r => match r.1.seq? with
  | some xs => .ok (xs, r.2)
  | none => .stuck
def rangeL (a : Int) (n : Nat) : List PV := (List.range n).map fun (i : Nat) => .int (a + (i : Int))
@[irreducible] def rng1 (p : PV) : Res (List PV) := match p with
  | .int n => if -(2 ^ 62) ≤ n ∧ n ≤ 16777216 then .ok (rangeL 0 n.toNat) else .stuck
  | _ => .stuck
@[irreducible] def rng2 (p q : PV) : Res (List PV) := match p, q with
  | .int a, .int b => if -(2 ^ 62) ≤ a ∧ a < 2 ^ 62 ∧ -(2 ^ 62) ≤ b ∧ b < 2 ^ 62 ∧ b - a ≤ 16777216 then .ok (rangeL a (b - a).toNat) else .stuck
  | _, _ => .stuck
def iR1 (fa : ES) : IS := fun ρ => fa ρ >>= fun r => rng1 r.1 >>= fun xs => .ok (xs, r.2)
def iR2 (fa fb : ES) : IS := fun ρ => fa ρ >>= fun r => fb r.2 >>= fun q => rng2 r.1 q.1 >>= fun xs => .ok (xs, q.2)
def gName (i : Nat) : GS := fun p ρ => .ok (ρ.set i (some p))
def wipeE (ρ : Env) : List Nat → Env
  | [] => ρ
  | v :: vs => (wipeE ρ vs).set v none
def backE (ρ0 ρ : Env) : List Nat → Env
  | [] => ρ
  | v :: vs => backE ρ0 (ρ.set v (ρ0.getD v none)) vs
def cnd : Option ES → Env → Res (Bool × Env)
  | none, ρ => .ok (true, ρ)
  | some c, ρ => c ρ >>= fun r => trP r.1 >>= fun b => .ok (b, r.2)
def compL (g : GS) (c : Option ES) (e : ES) (vs : List Nat) : List PV → Env → Res (List PV × Env)
  | [], ρ => .ok ([], ρ)
  | p :: ps, ρ => g p ρ >>= fun ρ1 => cnd c ρ1 >>= fun k => if k.1 = true then e k.2 >>= fun y => compL g c e vs ps (wipeE y.2 vs) >>= fun r => .ok (y.1 :: r.1, r.2) else compL g c e vs ps (wipeE k.2 vs)
def eComp (g : GS) (c : Option ES) (e : ES) (vs : List Nat) (it : IS) : ES := fun ρ => it ρ >>= fun r => (compL g c e vs r.1 (wipeE r.2 vs)).nox >>= fun q => .ok (.lst q.1, backE r.2 q.2 vs)

section
variable {C : Cn} {Z Z1 Z2 Z' : Addr → Prop} {H H1 H2 H' : Hp} {A A1 A2 B A' : List Addr} {σ : L2.St} {Γ Γ1 Γ2 Γ3 Γ' : List Ty} {ρ : Env} {t : Ty} {W : WX} {X : Cx} {a b c : Expr} {fa fb fc : ES} {pos : Pos}
/-- J walks ps -/
structure Wk (C : Cn) (Z : Addr → Prop) (H : Hp) (ps : List PV) (J : It) : Prop where
  ok : ∀ Z' H', Stays Z H Z' H' → (∀ i p, ps[i]? = some p → J.go i H' ∧ ∀ x H'', J.yld i H' x H'' → H'' = H' ∧ Den C Z' H' x p) ∧ J.stop ps.length H'
  len : ps.length ≤ lim
def tI (C : Cn) (W : WX) (f : IS) (Γ Γ' : List Ty) : TI := fun σ H R =>
  ∃ (ρ : Env) (Z : Addr → Prop) (A : List Addr), PreE C Z H σ Γ ρ A ∧
    (f ρ).To (fun r => ∀ J H' Z' A', PreE C Z' H' σ Γ' r.2 A' → Tr Z H A Z' H' A' → Wk C Z' H' r.1 J → R J H') fun e => ∀ cls d H', PostX C Z H A e cls d H' → W cls d σ H'
theorem Wk.list {K : PySem.W.Frag} {q : Addr} {vs : List V} {ps : List PV} (hK : C.K = K) (h1 : LstZ Z H q vs) (h2 : DenL C Z H vs ps) (hl : vs.length ≤ sizeLine) : Wk C Z H ps (Itl K q) where
  ok := fun Z' H' s => by
    have e : SqL K H' q vs := (s.lstZ h1).sq
    have d := h2.stays s
    refine ⟨fun i p hp => ?_, vs, e, by rw [d.length]; exact Nat.le_refl _⟩
    obtain ⟨v, hv, dv⟩ := d.get hp
    refine ⟨⟨vs, v, e, hv⟩, fun x H'' hy => ?_⟩
    obtain ⟨rfl, hy⟩ := hy
    have := hy vs e
    rw [hv] at this; cases this
    exact ⟨rfl, dv⟩
  len := by rw [← h2.length, lim_eq]; exact hl
theorem Wk.tup {K : PySem.W.Frag} {q : Addr} {vs : List V} {ps : List PV} (hK : C.K = K) (h1 : SqT C.K H q vs) (h2 : DenL C Z H vs ps) (hl : vs.length ≤ sizeLine) : Wk C Z H ps (Itt K q) where
  ok := fun Z' H' s => by
    have e : SqT K H' q vs := hK ▸ s.sqT h1
    have d := h2.stays s
    refine ⟨fun i p hp => ?_, vs, e, by rw [d.length]; exact Nat.le_refl _⟩
    obtain ⟨v, hv, dv⟩ := d.get hp
    refine ⟨⟨vs, v, e, hv⟩, fun x H'' hy => ?_⟩
    obtain ⟨rfl, hy⟩ := hy
    have := hy vs e
    rw [hv] at this; cases this
    exact ⟨rfl, dv⟩
  len := by rw [← h2.length, lim_eq]; exact hl
theorem Wk.range {lo : Int} {n : Nat} (hl : n ≤ lim) : Wk C Z H (rangeL lo n) (Itr lo n) where
  ok := fun Z' H' s => by
    refine ⟨fun i p hp => ?_, by show n ≤ _; simp [rangeL]⟩
    unfold rangeL at hp
    rw [List.getElem?_map] at hp
    by_cases hi : i < n
    · rw [List.getElem?_range hi] at hp
      cases hp
      refine ⟨hi, fun x H'' hy => ?_⟩
      obtain ⟨rfl, rfl⟩ := hy
      exact ⟨rfl, .int _⟩
    · rw [List.getElem?_eq_none (by simpa using hi)] at hp
      cases hp
  len := by simpa [rangeL] using hl
theorem si_seq {tg l : Expr} (hX : Is C X) (hl : PE X l (tM C W fa Γ Γ1 .v)) : PI X tg l (tI C W (iSeq fa) Γ Γ1) := by
  refine ⟨fun pins s σ H R I q => ?_⟩
  obtain ⟨ρ, Z, A, pre, h⟩ := q
  refine thn (hl.run pins s σ H (fun x H1 => ∃ a vs, x = .ref a ∧ ((∃ ps Z1 A1 ρ1, LstZ Z1 H1 a vs ∧ DenL C Z1 H1 vs ps ∧ PreE C Z1 H1 σ Γ1 ρ1 A1 ∧ Tr Z H A Z1 H1 A1 ∧ ∀ J, Wk C Z1 H1 ps J → R J H1) ∨ (∃ ps Z1 A1 ρ1, SqT C.K H1 a vs ∧ DenL C Z1 H1 vs ps ∧ PreE C Z1 H1 σ Γ1 ρ1 A1 ∧ Tr Z H A Z1 H1 A1 ∧ ∀ J, Wk C Z1 H1 ps J → R J H1))) I
    ⟨ρ, Z, A, pre, h.bind.mono (fun r hr v H1 hp => ?_) fun _ he => he⟩) fun v s1 ⟨x, H1, I1, r1, q1⟩ => ?_
  · obtain ⟨Z1, A1, p1, d1, t1⟩ := hp.pre
    split at hr
    · rename_i xs e
      have fin : ∀ J, Wk C Z1 H1 xs J → R J H1 := fun J w => hr J H1 Z1 A1 p1 t1 w
      cases k : r.1 with
      | tup ys =>
        rw [k] at d1 e; cases e
        obtain ⟨a, vs, rfl, h1, h2⟩ := d1.toTup
        exact ⟨a, vs, rfl, .inr ⟨_, Z1, A1, _, h1, h2, p1, t1, fin⟩⟩
      | lst ys =>
        rw [k] at d1 e; cases e
        cases d1 with
        | lst h1 h2 => exact ⟨_, _, rfl, .inl ⟨_, Z1, A1, _, h1, h2, p1, t1, fin⟩⟩
      | _ => rw [k] at e; cases e
    · exact hr.elim
  · obtain ⟨q, vs, rfl, k⟩ := q1
    cases r1
    rcases k with ⟨ps, Z1, A1, ρ1, h1, h2, _, _, fin⟩ | ⟨ps, Z1, A1, ρ1, h1, h2, _, _, fin⟩
    · obtain ⟨its, rv, p, hz⟩ := I1.list (show SqL X.K H1 q vs from h1.sq)
      refine wpAny_pyIter_list p.isList ?_
      refine ⟨s1.heap.objs.size, [s1.heap.objs.size], _, _, H1, rfl, I1.kept (t' := s1.toks) fun b o e => Heap.get?_push_of_some _ e, turn_list q _, ⟨_, Heap.get?_push_size _ rfl, rfl, rfl⟩, fun b hb => ?_, fin _ (Wk.list hX.K.symm h1 h2 hz)⟩
      have e : b = s1.heap.objs.size := by simpa using hb
      subst e
      exact I1.fpOk (Nat.le_refl _) (I1.hok.fresh (Nat.le_refl _))
    · obtain ⟨its, rv, p, hz⟩ := I1.tuple (show SqT X.K H1 q vs from hX.K ▸ h1)
      refine wpAny_pyIter_tuple (show s1.heap.IsTuple q its.toArray from p) ?_
      refine ⟨s1.heap.objs.size, [s1.heap.objs.size], _, _, H1, rfl, I1.kept (t' := s1.toks) fun b o e => Heap.get?_push_of_some _ e, turn_tuple q _, ⟨_, Heap.get?_push_size _ rfl, rfl, rfl⟩, fun b hb => ?_, fin _ (Wk.tup hX.K.symm h1 h2 hz)⟩
      have e : b = s1.heap.objs.size := by simpa using hb
      subst e
      exact I1.fpOk (Nat.le_refl _) (I1.hok.fresh (Nat.le_refl _))
theorem PIi {tg e : Expr} {t t' : TI} (h : PI X tg e t) (hi : ∀ σ H Q, t' σ H Q → t σ H Q) : PI X tg e t' := ⟨fun pins s σ H Q I q => h.run pins s σ H Q I (hi σ H Q q)⟩
theorem rng1_to {p : PV} {Q : List PV → Prop} {E : Exc → Prop} (h : (rng1 p).To Q E) : ∃ n, p = .int n ∧ -(2 ^ 62) ≤ n ∧ n ≤ 16777216 ∧ Q (rangeL 0 n.toNat) := by
  unfold rng1 at h
  split at h
  · rename_i n
    split at h
    · rename_i c; exact ⟨n, rfl, c.1, c.2, h⟩
    · exact h.elim
  · exact h.elim
theorem rng2_to {p q : PV} {Q : List PV → Prop} {E : Exc → Prop} (h : (rng2 p q).To Q E) : ∃ a b, p = .int a ∧ q = .int b ∧ (-(2 ^ 62) ≤ a ∧ a < 2 ^ 62 ∧ -(2 ^ 62) ≤ b ∧ b < 2 ^ 62) ∧ b - a ≤ 16777216 ∧ Q (rangeL a (b - a).toNat) := by
  unfold rng2 at h
  split at h
  · rename_i a b
    split at h
    · rename_i c; exact ⟨a, b, rfl, rfl, ⟨c.1, c.2.1, c.2.2.1, c.2.2.2.1⟩, c.2.2.2.2, h⟩
    · exact h.elim
  · exact h.elim
theorem si_range1 {tg : Expr} {p : Pos} (hg : Gl X "range") (hm : X.mg "range" = none) (ha : PE X a (tM C W fa Γ Γ1 .v)) (hs : starEach [a] X.env = (false, eval a X.env) :: starEach [] X.env := by rfl) : PI X tg (.Call (.Name "range" p) [a] [] pos) (tI C W (iR1 fa) Γ Γ1) :=
  PIi (pi_range1 hg hm (pa_cons ha pa_nil hs) hs) fun σ H R q => by
    obtain ⟨ρ, Z, A, pre, h⟩ := q
    refine ⟨ρ, Z, A, pre, h.bind.mono (fun r hr v H1 hp => ?_) fun _ he => he⟩
    obtain ⟨Z1, A1, p1, d1, t1⟩ := hp.pre
    obtain ⟨n, e, c1, c2, fin⟩ := rng1_to hr.bind
    rw [e] at d1
    refine ⟨n, by rw [d1.toInt], c1, by omega, fin _ _ Z1 A1 p1 t1 ?_⟩
    exact Wk.range (by unfold lim; omega)
theorem si_range2 {tg : Expr} {p : Pos} (hg : Gl X "range") (hm : X.mg "range" = none) (ha : PE X a (tM C W fa Γ Γ1 .v)) (hb : PE X b (tM C W fb Γ1 Γ2 .v)) (hs : starEach [a, b] X.env = (false, eval a X.env) :: starEach [b] X.env := by rfl) (hs2 : starEach [b] X.env = (false, eval b X.env) :: starEach [] X.env := by rfl) :
    PI X tg (.Call (.Name "range" p) [a, b] [] pos) (tI C W (iR2 fa fb) Γ Γ2) :=
  PIi (pi_range2 hg hm (pa_cons ha (pa_cons hb pa_nil hs2) hs) (by rw [hs, hs2]; rfl) hs2) fun σ H R q => by
    obtain ⟨ρ, Z, A, pre, h⟩ := q
    refine ⟨ρ, Z, A, pre, h.bind.mono (fun r hr v H1 hp => ?_) fun _ he => he⟩
    obtain ⟨Z1, A1, p1, d1, t1⟩ := hp.pre
    refine ⟨r.2, Z1, A1, p1, hr.bind.mono (fun r2 h2 v2 H2 hp2 => ?_) fun e he cls d H' px => he cls d H' (px.comp t1)⟩
    obtain ⟨Z2, A2, p2, d2, t2⟩ := hp2.pre
    obtain ⟨i, j, e, e2, c1, c2, fin⟩ := rng2_to h2.bind
    rw [e] at d1
    rw [e2] at d2
    refine ⟨i, j, by rw [d1.toInt, d2.toInt], c1, fin _ _ Z2 A2 p2 (t1.trans t2) ?_⟩
    exact Wk.range (by unfold lim; omega)

/-! targets -/
theorem wipe_set {i : Nat} {o : Option V} : ∀ {vs : List Nat}, i ∈ vs → L2.wipe (σ.set i o) vs = L2.wipe σ vs
  | j :: vs, h => by
    show (L2.wipe (σ.set i o) vs).set j none = (L2.wipe σ vs).set j none
    by_cases hv : i ∈ vs
    · rw [wipe_set hv]
    · have e : i = j := by rcases List.mem_cons.mp h with h | h; exact h; exact absurd h hv
      subst e
      have out : ∀ {vs : List Nat}, i ∉ vs → L2.wipe (σ.set i o) vs = (L2.wipe σ vs).set i o := by
        intro vs
        induction vs with
        | nil => intro _; rfl
        | cons k vs ih =>
          intro hn
          simp only [List.mem_cons, not_or] at hn
          show (L2.wipe (σ.set i o) vs).set k none = ((L2.wipe σ vs).set k none).set i o
          rw [ih hn.2, List.set_comm _ _ hn.1]
      rw [out hv, List.set_set]
def tG (C : Cn) (g : GS) (S : List Nat) (Γ Γ' : List Ty) : TG := fun v σ H Q =>
  ∃ (p : PV) (ρ : Env) (Z : Addr → Prop) (A : List Addr), PreE C Z H σ Γ ρ A ∧ Den C Z H v p ∧ (g p ρ).To (fun ρ' => ∀ σ' A', PreE C Z H σ' Γ' ρ' A' → (∀ a ∈ A', a ∈ A) → (∀ vs, (∀ i ∈ S, i ∈ vs) → L2.wipe σ' vs = L2.wipe σ vs) → Q σ' H) (fun _ => False)
theorem PGi {e : Expr} {t t' : TG} (h : PG X e t) (hi : ∀ v σ H Q, t' v σ H Q → t v σ H Q) : PG X e t' := ⟨fun pins s σ H v u Q I r q => h.run pins s σ H v u Q I r (hi v σ H Q q)⟩
/-- a slot gets a value -/
theorem RepS.store {i : Nat} {v : V} {p : PV} (h : RepS C Z H σ Γ ρ A) (hi : i < ρ.length) (d : Den C Z H v p) : ∃ A', (∀ a ∈ A', a ∈ A) ∧ (A.Nodup → A'.Nodup) ∧ RepS C Z H (σ.set i (some v)) (Γ.set i .v) (ρ.set i (some p)) A' := by
  obtain ⟨A1, A2, pm, _, h2⟩ := h.cut i
  obtain ⟨A', pm', q⟩ := RepS.put i (h2 (some v) .v) (by simp [hi]) (.v d)
  rw [set_set_same, set_set_same, set_set_same] at q
  have pm2 : A'.Perm A2 := by simpa using pm'
  exact ⟨A', fun a ha => pm.mem_iff.mpr (List.mem_append_right _ (pm2.mem_iff.mp ha)), fun nd => pm2.nodup_iff.mpr (List.nodup_append.mp (pm.nodup_iff.mp nd)).2.1, q⟩
theorem PreE.store {i : Nat} {v : V} {p : PV} (pre : PreE C Z H σ Γ ρ A) (hi : i < ρ.length) (d : Den C Z H v p) : ∃ A', PreE C Z H (σ.set i (some v)) (Γ.set i .v) (ρ.set i (some p)) A' ∧ (∀ a ∈ A', a ∈ A) := by
  obtain ⟨A', h1, h2, h3⟩ := pre.rep.store hi d
  exact ⟨A', ⟨h3, h2 pre.ok.1, fun a ha => pre.ok.2.1 a (h1 a ha), pre.ok.2.2⟩, h1⟩
theorem sg_name {i : Nat} {x : Str} (hN : X.N.Nodup) (hi : X.N[i]? = some x) (hx : Loc X.env.scope x) (hl : i < Γ.length) (hf : X.fn x = true ∨ X.env.scope.names.lookup x = some .local := by first | exact .inl rfl | exact .inr rfl | assumption) : PG X (.Name x pos) (tG C (gName i) [i] Γ (Γ.set i .v)) :=
  PGi (pg_name hN hi hx hf) fun v σ H Q q => by
    obtain ⟨p, ρ, Z, A, pre, d, h⟩ := q
    have hl' : i < ρ.length := by have := pre.rep.len; omega
    obtain ⟨A', p', s'⟩ := pre.store hl' d
    exact h _ A' p' s' fun vs hv => wipe_set (hv i (by simp))

/-! wiped slots -/
theorem RepS.wipe1 : ∀ {σ : L2.St} {Γ : List Ty} {ρ : Env} {A : List Addr} (i : Nat), RepS C Z H σ Γ ρ A → Γ[i]? = some .v → RepS C Z H (σ.set i none) Γ (ρ.set i none) A
  | _, _, _, _, _, .nil, h => by simp at h
  | _, _, _, _, 0, .off h, _ => by simpa using RepS.off h
  | _, _, _, _, 0, .on h1 h2, e => by
    simp at e; subst e
    cases h1
    simpa using RepS.off h2
  | _, _, _, _, i + 1, .off h, e => by simpa using RepS.off (RepS.wipe1 i h (by simpa using e))
  | _, _, _, _, i + 1, .on h1 h2, e => by simpa using RepS.on h1 (RepS.wipe1 i h2 (by simpa using e))
theorem RepS.wipe : ∀ {vs : List Nat}, RepS C Z H σ Γ ρ A → (∀ i ∈ vs, Γ[i]? = some .v) → RepS C Z H (L2.wipe σ vs) Γ (wipeE ρ vs) A
  | [], h, _ => h
  | i :: vs, h, k => RepS.wipe1 i (RepS.wipe h fun j hj => k j (List.mem_cons_of_mem _ hj)) (k i List.mem_cons_self)
theorem RepS.restore1 : ∀ {σ : L2.St} {Γ : List Ty} {ρ : Env} {A : List Addr} (i : Nat) (o : Option PV), RepS C Z H (σ.set i none) Γ ρ A → Γ[i]? = some .v → (∀ p, o = some p → ∃ v, σ[i]? = some (some v) ∧ Den C Z H v p) → RepS C Z H σ Γ (ρ.set i o) A
  | [], _, _, _, i, o, h, e, _ => by
    cases h
    simp at e
  | x :: σ, _, _, _, 0, o, h, e, k => by
    simp only [List.set_cons_zero] at h
    cases h with
    | off h =>
      simp at e; subst e
      cases o with
      | none => simpa using RepS.off h
      | some p =>
        obtain ⟨v, e2, d⟩ := k p rfl
        simp at e2; subst e2
        simpa using RepS.on (.v d) h
  | x :: σ, _, _, _, i + 1, o, h, e, k => by
    simp only [List.set_cons_succ] at h
    cases h with
    | off h => simpa using RepS.off (RepS.restore1 i o h (by simpa using e) fun p hp => by simpa using k p hp)
    | on h1 h => simpa using RepS.on h1 (RepS.restore1 i o h (by simpa using e) fun p hp => by simpa using k p hp)
theorem wipe_out {i : Nat} : ∀ {vs : List Nat}, i ∉ vs → (L2.wipe σ vs)[i]? = σ[i]?
  | [], _ => rfl
  | v :: vs, h => by
    simp only [List.mem_cons, not_or] at h
    show ((L2.wipe σ vs).set v none)[i]? = _
    rw [List.getElem?_set_ne (Ne.symm h.1)]
    exact wipe_out h.2
theorem wipe_wipe {vs : List Nat} (hnd : vs.Nodup) : L2.wipe (L2.wipe σ vs) vs = L2.wipe σ vs := by
  apply List.ext_getElem?
  intro j
  by_cases h : j ∈ vs
  · have k : ∀ {τ : L2.St} {vs : List Nat}, j ∈ vs → (L2.wipe τ vs)[j]? = τ[j]?.map fun _ => none := by
      intro τ vs
      induction vs with
      | nil => intro h; cases h
      | cons i vs ih =>
        intro h
        show ((L2.wipe τ vs).set i none)[j]? = _
        by_cases e : i = j
        · subst e
          rw [List.getElem?_set_self']
          have : (L2.wipe τ vs).length = τ.length := L2.wipe_length τ vs
          by_cases hl : i < τ.length
          · simp [hl, this]
          · rw [List.getElem?_eq_none (by omega), List.getElem?_eq_none (by omega)]; rfl
        · rw [List.getElem?_set_ne e]
          rcases List.mem_cons.mp h with h | h
          · exact absurd h.symm e
          · exact ih h
    rw [k h, k h]
    cases σ[j]? <;> rfl
  · rw [wipe_out h]
theorem RepS.restore {ρ0 : Env} : ∀ {vs : List Nat} {ρ : Env}, vs.Nodup → RepS C Z H (L2.wipe σ vs) Γ ρ A → (∀ i ∈ vs, Γ[i]? = some .v) → (∀ i ∈ vs, ∀ p, ρ0[i]? = some (some p) → ∃ v, σ[i]? = some (some v) ∧ Den C Z H v p) → RepS C Z H σ Γ (backE ρ0 ρ vs) A
  | [], _, _, h, _, _ => h
  | i :: vs, ρ, nd, h, k, d => by
    obtain ⟨n1, n2⟩ := List.nodup_cons.mp nd
    refine RepS.restore (vs := vs) n2 (RepS.restore1 i _ h (k i List.mem_cons_self) fun p hp => ?_) (fun j hj => k j (List.mem_cons_of_mem _ hj)) fun j hj => d j (List.mem_cons_of_mem _ hj)
    rw [wipe_out n1]
    refine d i List.mem_cons_self p ?_
    rw [List.getD_eq_getElem?_getD] at hp
    cases e : ρ0[i]? with
    | none => rw [e] at hp; cases hp
    | some o => rw [e] at hp; simp at hp; rw [hp]

/-! comprehensions -/
def noW : WX := fun _ _ _ _ => False
/-- the tests of a clause -/
def tCn (C : Cn) (c : Option ES) (Γ : List Ty) : TT := fun σ H Q =>
  ∃ (ρ : Env) (Z : Addr → Prop) (A : List Addr), PreE C Z H σ Γ ρ A ∧
    (cnd c ρ).To (fun r => ∀ H' Z' A', PreE C Z' H' σ Γ r.2 A' → Tr Z H A Z' H' A' → Q r.1 H') fun _ => False
theorem PTsi {es : List Expr} {t t' : TT} (h : PTs X es t) (hi : ∀ σ H Q, t' σ H Q → t σ H Q) : PTs X es t' := ⟨fun pins s σ H Q I q => h.run pins s σ H Q I (hi σ H Q q)⟩
theorem sc_none : PTs X [] (tCn C none Γ) := PTsi pts_nil fun σ H Q ⟨ρ, Z, A, pre, h⟩ => h H Z A pre (Tr.refl fun _ h => h)
theorem sc_one (hc : PT X c (tT C noW fc Γ Γ)) : PTs X [c] (tCn C (some fc) Γ) := PTsi (pts_one hc) fun σ H Q ⟨ρ, Z, A, pre, h⟩ => ⟨ρ, Z, A, pre, h.bind.mono (fun r hr => by
  obtain ⟨b, e, hr⟩ := opt_to hr.bind
  exact ⟨b, e, hr⟩) fun _ he => he.elim⟩
theorem nox_to {α : Type} {r : Res α} {Q : α → Prop} {E : Exc → Prop} (h : r.nox.To Q E) : r.To Q fun _ => False := by
  cases r with
  | ok a => exact h
  | exc e => exact h.elim
  | stuck => exact h.elim
/-- a thing of ours is written -/
theorem stays_upd {D : Addr} {o o' : HO} (hD : H D = some o) (hm : Mut (some o)) (hz : ¬ Z D) : Stays Z H Z (upd H D o') := ⟨fun _ z => z, fun a u e h => by
  have : a ≠ D := by
    rintro rfl
    rcases h with h | h
    · exact hz h
    · rw [hD] at e; cases e; exact h hm
  rw [upd_ne this]; exact e⟩
theorem okk_cons {D : Addr} (h : Okk Z H (D :: A)) (s : ∀ a ∈ A', a ∈ A) (nd : A'.Nodup) : D ∉ A' ∧ ¬ Z D := ⟨fun z => (List.nodup_cons.mp h.1).1 (s D z), h.2.1 D List.mem_cons_self⟩
/-- a part's run beside a thing D of ours -/
theorem Tr.cons {D : Addr} {o : HO} (ok : Okk Z H (D :: A)) (hD : H D = some o) (s : ∀ a ∈ A1, a ∈ A) (t : Tr Z H A1 Z1 H1 A2) : Tr Z H (D :: A) Z1 H1 (D :: A2) ∧ H1 D = some o ∧ D ∉ A2 ∧ ¬ Z1 D := by
  have hb := t.beside (B := [D]) (fun b hb => by
    obtain rfl : b = D := by simpa using hb
    exact ⟨⟨o, hD⟩, fun z => (List.nodup_cons.mp ok.1).1 (s b z), ok.2.1 b List.mem_cons_self⟩) D (by simp)
  refine ⟨⟨fun a o e n => t.keep a o e fun z => n (List.mem_cons_of_mem _ (s a z)), t.there, t.zm, fun a z => ?_, fun a ha => ?_⟩, hb.1.trans hD, hb.2.1, hb.2.2⟩
  · rcases t.zn a z with z | z | z
    · exact .inl z
    · exact .inr (.inl (List.mem_cons_of_mem _ (s a z)))
    · exact .inr (.inr z)
  · rcases List.mem_cons.mp ha with rfl | ha
    · exact .inl List.mem_cons_self
    · rcases t.an a ha with z | z
      · exact .inl (List.mem_cons_of_mem _ (s a z))
      · exact .inr z
theorem Tr.updD {D : Addr} {o : HO} (t : Tr Z H (D :: A) Z1 H1 (D :: A2)) : Tr Z H (D :: A) Z1 (upd H1 D o) (D :: A2) :=
  ⟨fun a u e n => by
    have hne : a ≠ D := fun z => n (by rw [z]; exact List.mem_cons_self)
    rw [upd_ne hne]; exact t.keep a u e n, fun a u e => by
    by_cases hne : a = D
    · subst hne; exact ⟨o, upd_same⟩
    · rw [upd_ne hne]; exact t.there a u e, t.zm, t.zn, t.an⟩
theorem okk_upd {D : Addr} {o : HO} (h : Okk Z H A) (hn : D ∉ A) (hz : ¬ Z D) : Okk Z (upd H D o) (D :: A) := ⟨List.nodup_cons.mpr ⟨hn, h.1⟩, fun a ha => by
  rcases List.mem_cons.mp ha with rfl | ha
  · exact hz
  · exact h.2.1 a ha, fun a z => by
  by_cases hne : a = D
  · subst hne; exact ⟨o, upd_same⟩
  · rw [upd_ne hne]; exact h.2.2 a z⟩
theorem okk_cons' {D : Addr} (h : Okk Z H A) (hn : D ∉ A) (hz : ¬ Z D) : Okk Z H (D :: A) := ⟨List.nodup_cons.mpr ⟨hn, h.1⟩, fun a ha => by
  rcases List.mem_cons.mp ha with rfl | ha
  · exact hz
  · exact h.2.1 a ha, h.2.2⟩
theorem tM_lc {g : GS} {co : Option ES} {e : ES} {vs S : List Nat} {it : IS} (hnd : vs.Nodup) (hΓ : ∀ i ∈ vs, Γ[i]? = some .v) (hS : ∀ i ∈ S, i ∈ vs) {Q : VK}
    (h : tM C W (eComp g co e vs it) Γ1 Γ (.l .v) σ H Q) : tLc (tI C W it Γ1 Γ) (tG C g S Γ Γ) (tCn C co Γ) (tM C noW e Γ Γ .v) vs σ H Q := by
  obtain ⟨ρ, Z, A, pre, h⟩ := h
  refine ⟨ρ, Z, A, pre, h.bind.mono (fun r hr J H1 Z1 A1 p1 t1 wk => ?_) fun _ he => he⟩
  intro D hD
  have hr := nox_to hr.bind
  have hDZ : ¬ Z1 D := fun z => by obtain ⟨o, e⟩ := p1.ok.2.2 D z; rw [hD] at e; cases e
  have hDA : D ∉ A1 := fun z => by obtain ⟨o, e, _⟩ := p1.rep.mut D z; rw [hD] at e; cases e
  -- the invariant
  refine ⟨fun i m Hc => m = r.1.length - i ∧ i ≤ r.1.length ∧ ∃ (ρi : Env) (Zi : Addr → Prop) (Ai : List Addr) (vacc : List V) (pacc : List PV),
    RepS C Zi Hc (L2.wipe σ vs) Γ ρi Ai ∧ Okk Zi Hc (D :: Ai) ∧ Tr Z1 H1 A1 Zi Hc (D :: Ai) ∧ Hc D = some (.lst vacc) ∧ DenL C Zi Hc vacc pacc ∧ vacc.length ≤ i ∧
    (compL g co e vs (r.1.drop i) ρi).To (fun q => ∀ v H', PostE C Z H A σ Γ (.l .v) (.lst (pacc ++ q.1), backE r.2 q.2 vs) v H' → Q v H') (fun _ => False), ⟨r.1.length, by omega, Nat.zero_le _, wipeE r.2 vs, Z1, A1, [], [], ?_, ?_, ?_, upd_same, .nil, Nat.le_refl _, ?_⟩, ?_⟩
  · refine (p1.rep.wipe hΓ).stays ⟨fun _ z => z, fun a o e _ => upd_old hD a o e⟩ fun a ha => upd_ne fun z => hDA (z ▸ ha)
  · exact ⟨List.nodup_cons.mpr ⟨hDA, p1.ok.1⟩, fun a ha => by
      rcases List.mem_cons.mp ha with rfl | ha
      · exact hDZ
      · exact p1.ok.2.1 a ha, fun a z => let ⟨o, e⟩ := p1.ok.2.2 a z; ⟨o, upd_old hD a o e⟩⟩
  · exact ⟨fun a o e _ => upd_old hD a o e, fun a o e => ⟨o, upd_old hD a o e⟩, fun _ z => z, fun _ z => .inl z, fun a ha => by
      rcases List.mem_cons.mp ha with rfl | ha
      · exact .inr hD
      · exact .inl ha⟩
  · rw [List.drop_zero]
    exact hr.mono (fun q hq => by rw [List.nil_append]; exact hq) fun _ he => he
  · rintro i m Hc ⟨rfl, hi, ρi, Zi, Ai, vacc, pacc, rep, ok, tr, hDl, hd, hlen, hto⟩
    have st : Stays Z1 H1 Zi Hc := p1.stays tr
    obtain ⟨w1, w2⟩ := wk.ok Zi Hc st
    by_cases hlt : i < r.1.length
    · -- a turn
      obtain ⟨p, hp⟩ : ∃ p, r.1[i]? = some p := ⟨r.1[i], by simp [hlt]⟩
      obtain ⟨go, yl⟩ := w1 i p hp
      refine .inr ⟨go, fun H' => i + 1 ≤ r.1.length ∧ ∃ (ρi : Env) (Zi : Addr → Prop) (Ai : List Addr) (vacc : List V) (pacc : List PV),
        RepS C Zi H' (L2.wipe σ vs) Γ ρi Ai ∧ Okk Zi H' (D :: Ai) ∧ Tr Z1 H1 A1 Zi H' (D :: Ai) ∧ H' D = some (.lst vacc) ∧ DenL C Zi H' vacc pacc ∧ vacc.length ≤ i + 1 ∧
        (compL g co e vs (r.1.drop (i + 1)) ρi).To (fun q => ∀ v H', PostE C Z H A σ Γ (.l .v) (.lst (pacc ++ q.1), backE r.2 q.2 vs) v H' → Q v H') (fun _ => False), fun H' hN => ⟨r.1.length - (i + 1), by omega, rfl, hN⟩, fun x H' hy => ?_⟩
      obtain ⟨rfl, dx⟩ := yl x H' hy
      have hdrop : r.1.drop i = p :: r.1.drop (i + 1) := by
        rw [List.drop_eq_getElem_cons hlt]
        congr 1
        have := List.getElem?_eq_getElem hlt
        rw [hp] at this; cases this; rfl
      rw [hdrop] at hto
      refine ⟨p, ρi, Zi, Ai, ⟨rep, Okk.right (A := [D]) ok⟩, dx, hto.bind.mono (fun ρ1 h1 σ2 A2 pre2 hA2 hw2 => ⟨(hw2 vs hS).trans (wipe_wipe hnd), ?_⟩) fun _ he => he⟩
      have hw : L2.wipe σ2 vs = L2.wipe σ vs := (hw2 vs hS).trans (wipe_wipe hnd)
      refine ⟨ρ1, Zi, A2, pre2, h1.bind.mono (fun k hk H3 Z3 A3 pre3 t3 => ?_) fun _ he => he⟩
      obtain ⟨tc3, hD3, hn3, hz3⟩ := Tr.cons ok hDl hA2 t3
      have d3 := hd.stays (pre2.stays t3)
      by_cases hk1 : k.1 = true
      · rw [if_pos hk1] at hk ⊢
        refine ⟨k.2, Z3, A3, pre3, hk.bind.mono (fun y hy v H4 p4 => ?_) fun _ he => he.elim⟩
        obtain ⟨Z4, A4, pre4, dv, t4⟩ := p4.pre
        obtain ⟨tc4, hD4, hn4, hz4⟩ := Tr.cons (okk_cons' pre3.ok hn3 hz3) hD3 (fun _ h => h) t4
        have d4 := d3.stays (pre3.stays t4)
        have su : Stays Z4 H4 Z4 (upd H4 D (.lst (vacc ++ [v]))) := stays_upd hD4 trivial hz4
        have hl := wk.len
        refine ⟨vacc, hD4, by rw [← lim_eq]; omega, by omega, wipeE y.2 vs, Z4, A4, vacc ++ [v], pacc ++ [y.1], ?_, okk_upd pre4.ok hn4 hz4, tr.trans (tc3.trans tc4).updD, upd_same, (d4.snoc dv).stays su, by rw [List.length_append]; simp; omega, ?_⟩
        · have q := pre4.rep.wipe hΓ
          rw [hw] at q
          exact q.stays su fun a ha => upd_ne fun z => hn4 (z ▸ ha)
        · refine hy.bind.mono (fun q hq => ?_) fun _ he => he
          rw [List.append_assoc]
          exact hq
      · rw [if_neg hk1] at hk ⊢
        refine ⟨by omega, wipeE k.2 vs, Z3, A3, vacc, pacc, ?_, okk_cons' pre3.ok hn3 hz3, tr.trans tc3, hD3, d3, by omega, hk⟩
        have q := pre3.rep.wipe hΓ
        rw [hw] at q
        exact q
    · have e : i = r.1.length := by omega
      subst e
      refine .inl ⟨w2, ?_⟩
      rw [List.drop_length] at hto
      have hto : ∀ v H', PostE C Z H A σ Γ (.l .v) (.lst (pacc ++ []), backE r.2 ρi vs) v H' → Q v H' := hto
      rw [List.append_nil] at hto
      refine hto _ _ ⟨Zi, Ai, [D], RepS.restore hnd rep hΓ (fun j hj p hp => ?_), .l hDl hd.rep, ok.perm (List.perm_append_comm (l₁ := [D])), t1.trans (tr.sub fun a ha => ?_)⟩
      · obtain ⟨v, e, d⟩ := p1.val (hΓ j hj) hp
        exact ⟨v, e, d.stays st⟩
      · rcases List.mem_append.mp ha with ha | ha
        · exact List.mem_cons_of_mem _ ha
        · obtain rfl : a = D := by simpa using ha
          exact List.mem_cons_self
/-- [e for target in it if ..] -/
theorem sm_lc {elt tg iter : Expr} {ifs : List Expr} {scope : Scope} {own : List (Str × Nat)} {g : GS} {S : List Nat} {co : Option ES} {e : ES} {it : IS} (hc : X.calm = true) (hN : X.N.Nodup) (hi : PI X tg iter (tI C W it Γ1 Γ)) (ok : BlkOk X.N X.env.scope scope own)
    (hg : ∀ (s : Shared) (H : Hp) (D : Addr) (cl : List (Str × Addr)) (fp : List Addr), PG (X.blk s H scope (compEnvC scope cl D X.env) fp) tg (tG C g S Γ Γ))
    (ht : ∀ (s : Shared) (H : Hp) (D : Addr) (cl : List (Str × Addr)) (fp : List Addr), PTs (X.blk s H scope (compEnvC scope cl D X.env) fp) ifs (tCn C co Γ))
    (he : ∀ (s : Shared) (H : Hp) (D : Addr) (cl : List (Str × Addr)) (fp : List Addr), PE (X.blk s H scope (compEnvC scope cl D X.env) fp) elt (tM C noW e Γ Γ .v))
    (hnd : (own.map (·.2)).Nodup) (hΓ : ∀ i ∈ own.map (·.2), Γ[i]? = some .v) (hS : ∀ i ∈ S, i ∈ own.map (·.2)) (hs : ∀ x, foldedSetIterable iter X.env x = pure x := by intro _; rfl) :
    PE X (.ListComp elt [⟨tg, iter, ifs, 0⟩] scope pos) (tM C W (eComp g co e (own.map (·.2)) it) Γ1 Γ (.l .v)) := PEi (pe_lc hc hN hi ok hg ht he hs) fun _ _ _ h => tM_lc hnd hΓ hS h
end
end Mi

/-! Statements. -/
namespace Mi
open PySem PySem.Spec L2
open PyProof.Rows hiding St

def RefS (R : List (Nat × Ty)) (σ σ' : L2.St) : Prop := ∀ x ∈ R, σ'[x.1]? = σ[x.1]?
def RefT (R : List (Nat × Ty)) (Γ : List Ty) : Prop := ∀ x ∈ R, Γ[x.1]? = some x.2
theorem RefS.refl {R : List (Nat × Ty)} {σ : L2.St} : RefS R σ σ := fun _ _ => rfl
theorem RefS.trans {R : List (Nat × Ty)} {σ σ1 σ2 : L2.St} (a : RefS R σ σ1) (b : RefS R σ1 σ2) : RefS R σ σ2 := fun x hx => (b x hx).trans (a x hx)
theorem RefS.set {R : List (Nat × Ty)} {σ : L2.St} {i : Nat} {o : Option V} (h : ∀ x ∈ R, x.1 ≠ i) : RefS R σ (σ.set i o) := fun x hx => List.getElem?_set_ne (Ne.symm (h x hx))

/-- behind a statement -/
def EndS (C : Cn) (R : List (Nat × Ty)) (tr : Ty) (Z : Addr → Prop) (H : Hp) (A : List Addr) (σ : L2.St) (Γ' : List Ty) (D : Ends) (r : Fl × Env) : Prop := match r.1 with
  | .next => ∀ σ' H' Z' A', PreE C Z' H' σ' Γ' r.2 A' → Tr Z H A Z' H' A' → RefS R σ σ' → D.nx σ' H'
  | .ret p => ∀ v σ' H' Z' A' B Γr, RepS C Z' H' σ' Γr r.2 A' → Rep C Z' H' tr v p B → Okk Z' H' (A' ++ B) → Tr Z H A Z' H' (A' ++ B) → RefS R σ σ' → RefT R Γr → D.rt v H'
def ExcS (C : Cn) (W : WX) (Z : Addr → Prop) (H : Hp) (A : List Addr) (e : Exc) : Prop := ∀ cls d σ' H', PostX C Z H A e cls d H' → W cls d σ' H'
/-- the reading of statements by f -/
def tS (C : Cn) (W : WX) (R : List (Nat × Ty)) (tr : Ty) (f : SS) (Γ Γ' : List Ty) : TS := fun D σ H =>
  ∃ (ρ : Env) (Z : Addr → Prop) (A : List Addr), PreE C Z H σ Γ ρ A ∧ (f ρ).To (EndS C R tr Z H A σ Γ' D) (ExcS C W Z H A)

def sNil : SS := fun ρ => .ok (.next, ρ)
def sSeq (a b : SS) : SS := fun ρ => a ρ >>= fun r => match r.1 with
  | .next => b r.2
  | .ret p => .ok (.ret p, r.2)
def sRet (f : ES) : SS := fun ρ => f ρ >>= fun r => .ok (.ret r.1, r.2)
def sExpr (f : ES) : SS := fun ρ => f ρ >>= fun r => .ok (.next, r.2)
def sAsg (i : Nat) (f : ES) : SS := fun ρ => f ρ >>= fun r => .ok (.next, r.2.set i (some r.1))
def sIf (c : ES) (a b : SS) : SS := fun ρ => c ρ >>= fun r => trP r.1 >>= fun k => if k = true then a r.2 else b r.2
def forL (g : GS) (b : SS) : List PV → Env → Res (Fl × Env)
  | [], ρ => .ok (.next, ρ)
  | p :: ps, ρ => g p ρ >>= fun ρ1 => b ρ1 >>= fun r => match r.1 with
    | .next => forL g b ps r.2
    | .ret q => .ok (.ret q, r.2)
def sFor (g : GS) (it : IS) (b : SS) : SS := fun ρ => it ρ >>= fun r => forL g b r.1 r.2
def whileF (c : ES) (b : SS) : Nat → Env → Res (Fl × Env)
  | 0, _ => .stuck
  | n + 1, ρ => c ρ >>= fun r => trP r.1 >>= fun k => if k = true then b r.2 >>= fun q => match q.1 with
      | .next => whileF c b n q.2
      | .ret p => .ok (.ret p, q.2)
    else .ok (.next, r.2)
/-- the turns that a while may take -/
@[irreducible] def turns : Nat := 1000000000
def sWhile (c : ES) (b : SS) : SS := whileF c b turns

section
variable {C : Cn} {Z Z1 Z2 Z' : Addr → Prop} {H H1 H2 H' : Hp} {A A1 A2 B A' : List Addr} {σ σ1 : L2.St} {Γ Γ1 Γ2 Γ3 Γ' : List Ty} {ρ : Env} {t tr : Ty} {W : WX} {X : Cx} {a b c : Expr} {fa fb fc : ES} {pos : Pos} {R : List (Nat × Ty)} {D : Ends} {r : Fl × Env}
theorem PostX.sub {e : Exc} {cls : Value} {d : Option Addr} (h : PostX C Z H A e cls d H') : PostX C Z H A e cls d H' := h
theorem ExcS.comp {e : Exc} (t1 : Tr Z H A Z1 H1 A1) (h : ExcS C W Z H A e) : ExcS C W Z1 H1 A1 e := fun cls d σ' H' px => h cls d σ' H' (px.comp t1)
theorem EndS.comp (t1 : Tr Z H A Z1 H1 A1) (s1 : RefS R σ σ1) (h : EndS C R tr Z H A σ Γ' D r) : EndS C R tr Z1 H1 A1 σ1 Γ' D r := by
  unfold EndS at h ⊢
  split at h
  · exact fun σ' H' Z' A' p t s => h σ' H' Z' A' p (t1.trans t) (s1.trans s)
  · exact fun v σ' H' Z' A' B Γr a b c d e f => h v σ' H' Z' A' B Γr a b c (t1.trans d) (s1.trans e) f
theorem tS_next {f : SS} (pre : PreE C Z1 H1 σ1 Γ1 ρ A1) (t1 : Tr Z H A Z1 H1 A1) (s1 : RefS R σ σ1) (h : (f ρ).To (EndS C R tr Z H A σ Γ' D) (ExcS C W Z H A)) : tS C W R tr f Γ1 Γ' D σ1 H1 :=
  ⟨ρ, Z1, A1, pre, h.mono (fun r q => q.comp t1 s1) fun e q => q.comp t1⟩
theorem ExcS.tM (h : ExcS C W Z H A e) : ∀ cls d H', PostX C Z H A e cls d H' → W cls d σ H' := fun cls d H' px => h cls d σ H' px

theorem ss_nil : PSs X [] (tS C W R tr sNil Γ Γ) := PSsi pss_nil fun D σ H ⟨ρ, Z, A, pre, h⟩ => h σ H Z A pre (Tr.refl fun _ h => h) .refl
theorem ss_pass : PS X (.Pass pos) (tS C W R tr sNil Γ Γ) := PSi ps_pass fun D σ H ⟨ρ, Z, A, pre, h⟩ => h σ H Z A pre (Tr.refl fun _ h => h) .refl
theorem ss_cons {st : Stmt} {rest : List Stmt} {f g : SS} (h1 : PS X st (tS C W R tr f Γ Γ1)) (h2 : PSs X rest (tS C W R tr g Γ1 Γ2)) : PSs X (st :: rest) (tS C W R tr (sSeq f g) Γ Γ2) :=
  PSsi (pss_cons h1 h2) fun D σ H ⟨ρ, Z, A, pre, h⟩ => ⟨ρ, Z, A, pre, h.bind.mono (fun r hr => by
    obtain ⟨fl, ρ1⟩ := r
    cases fl with
    | next => exact fun σ' H' Z' A' p t s => tS_next p t s hr
    | ret p => exact hr) fun e he => he⟩
theorem ss_one {st : Stmt} {f : SS} (h1 : PS X st (tS C W R tr f Γ Γ1)) : PSs X [st] (tS C W R tr f Γ Γ1) := pss_one h1
theorem ss_ret (ha : PE X a (tM C W fa Γ Γ1 tr)) (hR : RefT R Γ1) : PS X (.Return (some a) pos) (tS C W R tr (sRet fa) Γ Γ2) :=
  PSi (ps_ret ha) fun D σ H ⟨ρ, Z, A, pre, h⟩ => ⟨ρ, Z, A, pre, h.bind.mono (fun r hr v H' ⟨Z', A', B, a, b, c, d⟩ => hr v σ H' Z' A' B Γ1 a b c d .refl hR) fun e he => he.tM⟩
theorem ss_expr (ha : PE X a (tM C W fa Γ Γ1 t)) (hs : swapsWith a none pos.line X.env = pure false := by rfl) : PS X (.Expr a pos) (tS C W R tr (sExpr fa) Γ Γ1) :=
  PSi (ps_expr ha hs) fun D σ H ⟨ρ, Z, A, pre, h⟩ => ⟨ρ, Z, A, pre, h.bind.mono (fun r hr v H' ⟨Z', A', B, a, b, c, d⟩ => hr σ H' Z' A' ⟨a, c.left⟩ (d.sub fun _ h => List.mem_append_left _ h) .refl) fun e he => he.tM⟩
/-- a slot gets a thing -/
theorem RepS.storeT {i : Nat} {v : V} {p : PV} (h : RepS C Z H σ Γ ρ A) (hi : i < ρ.length) (ok : Okk Z H (A ++ B)) (d : Rep C Z H t v p B) : ∃ A', PreE C Z H (σ.set i (some v)) (Γ.set i t) (ρ.set i (some p)) A' ∧ ∀ a ∈ A', a ∈ A ++ B := by
  obtain ⟨A1, A2, pm, _, h2⟩ := h.cut i
  obtain ⟨A', pm', q⟩ := RepS.put i (h2 (some v) t) (by simp [hi]) d
  rw [set_set_same, set_set_same, set_set_same] at q
  have pm2 : (A ++ B).Perm (A1 ++ A') := by
    refine (pm.append_right B).trans ?_
    rw [List.append_assoc]
    exact List.Perm.append_left A1 (List.perm_append_comm.trans pm'.symm)
  exact ⟨A', ⟨q, (ok.perm pm2).right⟩, fun a ha => pm2.mem_iff.mpr (List.mem_append_right _ ha)⟩
theorem ss_asgOf {st : Stmt} {te : TE} {i : Nat} (hs : PS X st (tAsg te (L2.gName i))) (hte : ∀ σ H Q, tM C W fa Γ Γ1 t σ H Q → te σ H Q) (hR : ∀ x ∈ R, x.1 ≠ i) (hl : i < Γ1.length) : PS X st (tS C W R tr (sAsg i fa) Γ (Γ1.set i t)) :=
  PSi hs fun D σ H ⟨ρ, Z, A, pre, h⟩ => hte _ _ _ ⟨ρ, Z, A, pre, h.bind.mono (fun r hr v H' ⟨Z', A', B, a, b, c, d⟩ => by
    have hl' : i < r.2.length := by have := a.len; omega
    obtain ⟨A2, p2, s2⟩ := a.storeT hl' c b
    exact hr _ H' Z' A2 p2 (d.sub s2) (.set hR)) fun e he => he.tM⟩
theorem ss_asg {i : Nat} {x : Str} {p' : Pos} (hN : X.N.Nodup) (hi : X.N[i]? = some x) (hx : Loc X.env.scope x) (ha : PE X a (tM C W fa Γ Γ1 t)) (hR : ∀ x ∈ R, x.1 ≠ i) (hl : i < Γ1.length) (hs : swapsWith a (some (.Name x p')) pos.line X.env = pure false := by rfl) (hf : X.fn x = true ∨ X.env.scope.names.lookup x = some .local := by first | exact .inl rfl | exact .inr rfl | assumption) :
    PS X (.Assign [.Name x p'] a pos) (tS C W R tr (sAsg i fa) Γ (Γ1.set i t)) := ss_asgOf (ps_set hN hi hx ha hs hf) (fun _ _ _ h => h) hR hl
/-- x = [..], on one line, x a local -/
theorem ss_asgLc {i : Nat} {y : Str} {py : Pos} {elt tg iter : Expr} {ifs : List Expr} {scope : Scope} {own : List (Str × Nat)} {g : GS} {S : List Nat} {co : Option ES} {e : ES} {it : IS} {spos : Pos} (hc : X.calm = true) (hN : X.N.Nodup) (hy : X.N[i]? = some y) (hyl : X.env.scope.names.lookup y = some .local)
    (hsw : swapsWith (.ListComp elt [⟨tg, iter, ifs, 0⟩] scope pos) (some (.Name y py)) spos.line X.env = pure true) (hi : PI X tg iter (tI C W it Γ1 Γ)) (ok : BlkOk X.N X.env.scope scope own)
    (hg : ∀ (s : Shared) (H : Hp) (D : Addr) (cl : List (Str × Addr)) (fp : List Addr), PG (X.blk s H scope (compEnvC scope cl D X.env) fp) tg (tG C g S Γ Γ))
    (ht : ∀ (s : Shared) (H : Hp) (D : Addr) (cl : List (Str × Addr)) (fp : List Addr), PTs (X.blk s H scope (compEnvC scope cl D X.env) fp) ifs (tCn C co Γ))
    (he : ∀ (s : Shared) (H : Hp) (D : Addr) (cl : List (Str × Addr)) (fp : List Addr), PE (X.blk s H scope (compEnvC scope cl D X.env) fp) elt (tM C noW e Γ Γ .v))
    (hnd : (own.map (·.2)).Nodup) (hΓ : ∀ i ∈ own.map (·.2), Γ[i]? = some .v) (hS : ∀ i ∈ S, i ∈ own.map (·.2)) (hR : ∀ x ∈ R, x.1 ≠ i) (hl : i < Γ.length) (hs : ∀ x, foldedSetIterable iter X.env x = pure x := by intro _; rfl) :
    PS X (.Assign [.Name y py] (.ListComp elt [⟨tg, iter, ifs, 0⟩] scope pos) spos) (tS C W R tr (sAsg i (eComp g co e (own.map (·.2)) it)) Γ1 (Γ.set i (.l .v))) :=
  ss_asgOf (ps_setLc hc hN hy hyl hsw hi ok hg ht he hs) (fun _ _ _ h => tM_lc hnd hΓ hS h) hR hl
/-- .. taken as a value -/
theorem tM_v (h : tM C W fa Γ Γ' .v σ H Q) : tM C W fa Γ Γ' t σ H fun v H' => Q v H' := by
  obtain ⟨ρ, Z, A, pre, h⟩ := h
  exact ⟨ρ, Z, A, pre, h.mono (fun r hr v H' ⟨Z', A', B, a, b, c, d⟩ => hr v H' (by
    have s : Stays Z' H' (fun a => Z' a ∨ a ∈ B) H' := stays_frz
    have ok := okk_frz (c.perm List.perm_append_comm) fun a ha => let ⟨o, e, _⟩ := b.mut a ha; ⟨o, e⟩
    refine ⟨fun a => Z' a ∨ a ∈ B, A', [], a.stays s fun _ _ => rfl, .v ((b.stays s fun _ _ => rfl).freeze fun a ha => .inr ha), by rw [List.append_nil]; exact ok, ⟨d.keep, d.there, fun a z => .inl (d.zm a z), fun a z => ?_, fun a ha => d.an a (List.mem_append_left _ (by simpa using ha))⟩⟩
    rcases z with z | z
    · exact d.zn a z
    · exact .inr (d.an a (List.mem_append_right _ z)))) fun _ he => he⟩
theorem ss_asgLcV {i : Nat} {y : Str} {py : Pos} {elt tg iter : Expr} {ifs : List Expr} {scope : Scope} {own : List (Str × Nat)} {g : GS} {S : List Nat} {co : Option ES} {e : ES} {it : IS} {spos : Pos} (hc : X.calm = true) (hN : X.N.Nodup) (hy : X.N[i]? = some y) (hyl : X.env.scope.names.lookup y = some .local)
    (hsw : swapsWith (.ListComp elt [⟨tg, iter, ifs, 0⟩] scope pos) (some (.Name y py)) spos.line X.env = pure true) (hi : PI X tg iter (tI C W it Γ1 Γ)) (ok : BlkOk X.N X.env.scope scope own)
    (hg : ∀ (s : Shared) (H : Hp) (D : Addr) (cl : List (Str × Addr)) (fp : List Addr), PG (X.blk s H scope (compEnvC scope cl D X.env) fp) tg (tG C g S Γ Γ))
    (ht : ∀ (s : Shared) (H : Hp) (D : Addr) (cl : List (Str × Addr)) (fp : List Addr), PTs (X.blk s H scope (compEnvC scope cl D X.env) fp) ifs (tCn C co Γ))
    (he : ∀ (s : Shared) (H : Hp) (D : Addr) (cl : List (Str × Addr)) (fp : List Addr), PE (X.blk s H scope (compEnvC scope cl D X.env) fp) elt (tM C noW e Γ Γ .v))
    (hnd : (own.map (·.2)).Nodup) (hΓ : ∀ i ∈ own.map (·.2), Γ[i]? = some .v) (hS : ∀ i ∈ S, i ∈ own.map (·.2)) (hR : ∀ x ∈ R, x.1 ≠ i) (hl : i < Γ.length) (hs : ∀ x, foldedSetIterable iter X.env x = pure x := by intro _; rfl) :
    PS X (.Assign [.Name y py] (.ListComp elt [⟨tg, iter, ifs, 0⟩] scope pos) spos) (tS C W R tr (sAsg i (eComp g co e (own.map (·.2)) it)) Γ1 (Γ.set i .v)) :=
  ss_asgOf (ps_setLc hc hN hy hyl hsw hi ok hg ht he hs) (fun _ _ _ h => tM_lc hnd hΓ hS (tM_v h)) hR hl
theorem ss_if {sa sb : List Stmt} {f g : SS} (hc : PT X c (tT C W fc Γ Γ1)) (ha : PSs X sa (tS C W R tr f Γ1 Γ2)) (hb : PSs X sb (tS C W R tr g Γ1 Γ2)) : PS X (.If c sa sb pos) (tS C W R tr (sIf fc f g) Γ Γ2) :=
  PSi (ps_if hc ha hb) fun D σ H ⟨ρ, Z, A, pre, h⟩ => ⟨ρ, Z, A, pre, h.bind.mono (fun r hr => by
    obtain ⟨k, e, hr⟩ := opt_to hr.bind
    refine ⟨k, e, fun H' Z' A' p' t' => ?_⟩
    cases k with
    | true => exact itT (tS_next p' t' .refl hr)
    | false => exact itF (tS_next p' t' .refl hr)) fun e he => he.tM⟩

/-- what is held may be held as less: our own things frozen -/
inductive Sub : List Ty → List Ty → Prop
  | nil : Sub [] []
  | same {t : Ty} {Γ Γ' : List Ty} : Sub Γ Γ' → Sub (t :: Γ) (t :: Γ')
  | frz {t : Ty} {Γ Γ' : List Ty} : Sub Γ Γ' → Sub (t :: Γ) (.v :: Γ')
theorem Sub.refl : ∀ (Γ : List Ty), Sub Γ Γ
  | [] => .nil
  | _ :: Γ => .same (Sub.refl Γ)
theorem RepS.sub : ∀ {σ : L2.St} {Γ Γ' : List Ty} {ρ : Env} {A : List Addr}, RepS C Z H σ Γ ρ A → Sub Γ Γ' → ∃ F A', A.Perm (F ++ A') ∧ RepS C (fun a => Z a ∨ a ∈ F) H σ Γ' ρ A'
  | _, _, _, _, _, .nil, .nil => ⟨[], [], .refl _, .nil⟩
  | _, _, _, _, _, .off h, .same s => by
    obtain ⟨F, A', pm, q⟩ := RepS.sub h s
    exact ⟨F, A', pm, .off q⟩
  | _, _, _, _, _, .off h, .frz s => by
    obtain ⟨F, A', pm, q⟩ := RepS.sub h s
    exact ⟨F, A', pm, .off q⟩
  | _, _, _, _, _, .on (A := A1) h1 h2, .same s => by
    obtain ⟨F, A', pm, q⟩ := RepS.sub h2 s
    refine ⟨F, A1 ++ A', ?_, .on (h1.stays stays_frz fun _ _ => rfl) q⟩
    refine (List.Perm.append_left A1 pm).trans ?_
    rw [← List.append_assoc, ← List.append_assoc]
    exact List.Perm.append_right A' List.perm_append_comm
  | _, _, _, _, _, .on (A := A1) h1 h2, .frz s => by
    obtain ⟨F, A', pm, q⟩ := RepS.sub h2 s
    have s1 : Stays Z H (fun a => Z a ∨ a ∈ A1 ++ F) H := ⟨fun _ z => .inl z, fun _ _ e _ => e⟩
    have s2 : Stays (fun a => Z a ∨ a ∈ F) H (fun a => Z a ∨ a ∈ A1 ++ F) H := ⟨fun a z => z.imp id fun z => List.mem_append_right _ z, fun _ _ e _ => e⟩
    refine ⟨A1 ++ F, A', ?_, .on (A := []) (.v ((h1.stays s1 fun _ _ => rfl).freeze fun a ha => .inr (List.mem_append_left _ ha))) (q.stays s2 fun _ _ => rfl)⟩
    rw [List.append_assoc]
    exact List.Perm.append_left A1 pm
theorem PreE.sub (pre : PreE C Z H σ Γ ρ A) (s : Sub Γ Γ') : ∃ Z' A', PreE C Z' H σ Γ' ρ A' ∧ Tr Z H A Z' H A' := by
  obtain ⟨F, A', pm, q⟩ := pre.rep.sub s
  refine ⟨_, A', ⟨q, okk_frz (pre.ok.perm pm) (fun a ha => let ⟨o, e, _⟩ := pre.rep.mut a (pm.mem_iff.mpr (List.mem_append_left _ ha)); ⟨o, e⟩)⟩, ⟨fun _ _ e _ => e, fun _ o e => ⟨o, e⟩, fun _ z => .inl z, fun a z => ?_, fun a ha => .inl (pm.mem_iff.mpr (List.mem_append_right _ ha))⟩⟩
  rcases z with z | z
  · exact .inl z
  · exact .inr (.inl (pm.mem_iff.mpr (List.mem_append_left _ z)))
/-- .. ahead of statements -/
theorem ss_pre {sts : List Stmt} {f : SS} (h : PSs X sts (tS C W R tr f Γ' Γ2)) (s : Sub Γ Γ') : PSs X sts (tS C W R tr f Γ Γ2) := PSsi h fun D σ H ⟨ρ, Z, A, pre, q⟩ => by
  obtain ⟨Z', A', p', t'⟩ := pre.sub s
  exact tS_next p' t' .refl q
theorem ss_pre1 {st : Stmt} {f : SS} (h : PS X st (tS C W R tr f Γ' Γ2)) (s : Sub Γ Γ') : PS X st (tS C W R tr f Γ Γ2) := PSi h fun D σ H ⟨ρ, Z, A, pre, q⟩ => by
  obtain ⟨Z', A', p', t'⟩ := pre.sub s
  exact tS_next p' t' .refl q
/-- .. behind statements -/
theorem ss_post {sts : List Stmt} {f : SS} (h : PSs X sts (tS C W R tr f Γ Γ')) (s : Sub Γ' Γ2) : PSs X sts (tS C W R tr f Γ Γ2) := PSsi h fun D σ H ⟨ρ, Z, A, pre, q⟩ => ⟨ρ, Z, A, pre, q.mono (fun r hr => by
  obtain ⟨fl, ρ1⟩ := r
  cases fl with
  | next =>
    intro σ' H' Z' A' p t k
    obtain ⟨Z2, A2, p2, t2⟩ := p.sub s
    exact hr σ' H' Z2 A2 p2 (t.trans t2) k
  | ret p => exact hr) fun _ he => he⟩

def NoXG (g : GS) : Prop := ∀ p ρ e, g p ρ ≠ .exc e
theorem ss_for {tg iter : Expr} {body : List Stmt} {g : GS} {S : List Nat} {it : IS} {f : SS} (hp : PassesOwn (model X.prog X.w) X.A X.env X.xe) (hc : X.calm = true) (hi : PI X tg iter (tI C W it Γ1 Γ)) (hg : PG X tg (tG C g S Γ Γ2)) (hb : PSs X body (tS C W R tr f Γ2 Γ)) (hS : ∀ x ∈ R, x.1 ∉ S) (hgx : NoXG g)
    (hs : ∀ x, foldedSetIterable iter X.env x = pure x := by intro _; rfl) : PS X (.For tg iter body [] pos) (tS C W R tr (sFor g it f) Γ1 Γ) :=
  PSi (ps_for hp hc hi hg hb hs) fun D σ H ⟨ρ, Z, A, pre, h⟩ => by
    refine ⟨ρ, Z, A, pre, h.bind.mono (fun r hr J H1 Z1 A1 p1 t1 wk => ?_) fun e he => he.tM⟩
    refine ⟨fun i m σc Hc => m = r.1.length - i ∧ i ≤ r.1.length ∧ ∃ (ρi : Env) (Zi : Addr → Prop) (Ai : List Addr), PreE C Zi Hc σc Γ ρi Ai ∧ Tr Z1 H1 A1 Zi Hc Ai ∧ RefS R σ σc ∧ (forL g f (r.1.drop i) ρi).To (EndS C R tr Z H A σ Γ D) (ExcS C W Z H A),
      ⟨r.1.length, by omega, Nat.zero_le _, r.2, Z1, A1, p1, Tr.refl fun _ h => h, .refl, by rw [List.drop_zero]; exact hr⟩, ?_⟩
    rintro i m σc Hc ⟨rfl, hi, ρi, Zi, Ai, pi, ti, si, hto⟩
    have st := p1.stays ti
    obtain ⟨w1, w2⟩ := wk.ok Zi Hc st
    by_cases hlt : i < r.1.length
    · obtain ⟨p, hp⟩ : ∃ p, r.1[i]? = some p := ⟨r.1[i], by simp [hlt]⟩
      obtain ⟨go, yl⟩ := w1 i p hp
      refine .inr ⟨go, fun σ' H' => i + 1 ≤ r.1.length ∧ ∃ (ρi : Env) (Zi : Addr → Prop) (Ai : List Addr), PreE C Zi H' σ' Γ ρi Ai ∧ Tr Z1 H1 A1 Zi H' Ai ∧ RefS R σ σ' ∧ (forL g f (r.1.drop (i + 1)) ρi).To (EndS C R tr Z H A σ Γ D) (ExcS C W Z H A), fun σ' H' hN => ⟨r.1.length - (i + 1), by omega, rfl, hN⟩, fun x H' hy => ?_⟩
      obtain ⟨rfl, dx⟩ := yl x H' hy
      have hdrop : r.1.drop i = p :: r.1.drop (i + 1) := by
        rw [List.drop_eq_getElem_cons hlt]
        congr 1
        have := List.getElem?_eq_getElem hlt
        rw [hp] at this; cases this; rfl
      rw [hdrop] at hto
      refine ⟨p, ρi, Zi, Ai, pi, dx, To.nox (hgx _ _) (hto.bind.mono (fun ρ1 h1 σ2 A2 pre2 hA2 hw2 => ?_) fun _ he => he)⟩
      · have s2 : RefS R σc σ2 := fun x hx => by
          have hw := hw2 S (fun _ h => h)
          have a1 := wipe_out (σ := σ2) (hS x hx)
          have a2 := wipe_out (σ := σc) (hS x hx)
          rw [hw, a2] at a1
          exact a1.symm
        have t2 : Tr Zi H' Ai Zi H' A2 := Tr.refl hA2
        refine ⟨ρ1, Zi, A2, pre2, h1.bind.mono (fun q hq => ?_) fun e he => he.comp ((t1.trans ti).trans t2)⟩
        obtain ⟨fl, ρ2⟩ := q
        cases fl with
        | next =>
          exact fun σ' H'' Z' A' p' t' s' => ⟨by omega, ρ2, Z', A', p', ti.trans (t2.trans t'), si.trans (s2.trans s'), hq⟩
        | ret pv =>
          exact fun v σ' H'' Z' A' B Γr a b c d e f => hq v σ' H'' Z' A' B Γr a b c ((t1.trans ti).trans (t2.trans d)) (si.trans (s2.trans e)) f
    · have e : i = r.1.length := by omega
      subst e
      refine .inl ⟨w2, ?_⟩
      rw [List.drop_length] at hto
      exact hto σc Hc Zi Ai pi (t1.trans ti) si
end
end Mi

/-! Loops by tests; defs; calls; tries. -/
namespace Mi
open PySem PySem.Spec L2
open PyProof.Rows hiding St

section
variable {C : Cn} {Z Z1 Z2 Z' : Addr → Prop} {H H1 H2 H' : Hp} {A A1 A2 B A' : List Addr} {σ σ1 : L2.St} {Γ Γ1 Γ2 Γ3 Γ' : List Ty} {ρ : Env} {t tr : Ty} {W : WX} {X : Cx} {a b c : Expr} {fa fb fc : ES} {pos : Pos} {R : List (Nat × Ty)} {D : Ends} {r : Fl × Env}
theorem ss_while {body : List Stmt} {f : SS} (hp : PassesOwn (model X.prog X.w) X.A X.env X.xe) (hc : PT X c (tT C W fc Γ Γ)) (hb : PSs X body (tS C W R tr f Γ Γ)) : PS X (.While c body [] pos) (tS C W R tr (sWhile fc f) Γ Γ) :=
  PSi (ps_while hp hc hb) fun D σ H ⟨ρ, Z, A, pre, h⟩ => by
    refine ⟨fun m σc Hc => ∃ (ρi : Env) (Zi : Addr → Prop) (Ai : List Addr), PreE C Zi Hc σc Γ ρi Ai ∧ Tr Z H A Zi Hc Ai ∧ RefS R σ σc ∧ (whileF fc f m ρi).To (EndS C R tr Z H A σ Γ D) (ExcS C W Z H A), ⟨turns, ρ, Z, A, pre, Tr.refl fun _ h => h, .refl, h⟩, ?_⟩
    rintro m σc Hc ⟨ρi, Zi, Ai, pi, ti, si, hto⟩
    cases m with
    | zero => exact hto.elim
    | succ m =>
      refine ⟨ρi, Zi, Ai, pi, hto.bind.mono (fun r hr => ?_) fun e he cls d H' px => he cls d σc H' (px.comp ti)⟩
      obtain ⟨k, ek, hr⟩ := opt_to hr.bind
      refine ⟨k, ek, fun H1 Z1 A1 p1 t1 => ?_⟩
      cases k with
      | false => exact itF (hr σc H1 Z1 A1 p1 (ti.trans t1) si)
      | true =>
        refine itT ⟨fun σ' H' => ∃ (ρi : Env) (Zi : Addr → Prop) (Ai : List Addr), PreE C Zi H' σ' Γ ρi Ai ∧ Tr Z H A Zi H' Ai ∧ RefS R σ σ' ∧ (whileF fc f m ρi).To (EndS C R tr Z H A σ Γ D) (ExcS C W Z H A), fun σ' H' hN => ⟨m, Nat.lt_succ_self m, hN⟩, ?_⟩
        refine ⟨r.2, Z1, A1, p1, hr.bind.mono (fun q hq => ?_) fun e he => he.comp (ti.trans t1)⟩
        obtain ⟨fl, ρ2⟩ := q
        cases fl with
        | next => exact fun σ' H' Z' A' p' t' s' => ⟨ρ2, Z', A', p', (ti.trans t1).trans t', si.trans s', hq⟩
        | ret pv => exact fun v σ' H' Z' A' B Γr a b c d e f => hq v σ' H' Z' A' B Γr a b c ((ti.trans t1).trans d) (si.trans e) f

/-! ### defs -/
def mkF (nl : Nat) (b : SS) : List PV → Res PV := fun ps => b (ps.map some ++ List.replicate nl none) >>= fun r => match r.1 with
  | .ret p => .ok p
  | .next => .stuck
/-- a def that may end without a return -/
def mkP (nl : Nat) (b : SS) : List PV → Res PV := fun ps => b (ps.map some ++ List.replicate nl none) >>= fun r => match r.1 with
  | .ret p => .ok p
  | .next => .ok .non
/-- a def that changes the list in its first argument -/
def mkR (nl : Nat) (b : SS) : List PV → List PV → Res (PV × List PV) := fun xs ps => b (some (.lst xs) :: (ps.map some ++ List.replicate nl none)) >>= fun r => match r.1, r.2 with
  | .ret p, some (.lst ys) :: _ => .ok (p, ys)
  | _, _ => .stuck
def spN (C : Cn) (n : Nat) (g : List PV → Res PV) (tr : Ty) : Sp := fun vs H Q _ => ∃ ps Z, vs.length = n ∧ DenL C Z H vs ps ∧ (∀ a, Z a → ∃ o, H a = some o) ∧ (g ps).To (fun p => ∀ v H', NewT C Z H tr v p H' → Q v H') fun _ => False
def spX (C : Cn) (n : Nat) (g : List PV → Res PV) (tr : Ty) : Sp := fun vs H Q E => ∃ ps Z, vs.length = n ∧ DenL C Z H vs ps ∧ (∀ a, Z a → ∃ o, H a = some o) ∧ (g ps).To (fun p => ∀ v H', NewT C Z H tr v p H' → Q v H') fun e => ∀ cls d H', PostX C Z H [] e cls d H' → E cls d H'
def spR (C : Cn) (n : Nat) (g : List PV → List PV → Res (PV × List PV)) (tr : Ty) : Sp := fun vs H Q _ => ∃ a vs' us xs ps Z, vs = .ref a :: vs' ∧ vs'.length = n ∧ H a = some (.lst us) ∧ ¬ Z a ∧ DenL C Z H us xs ∧ DenL C Z H vs' ps ∧ (∀ a, Z a → ∃ o, H a = some o) ∧
  (g xs ps).To (fun r => ∀ v H' Z' us' B, H' a = some (.lst us') → DenL C Z' H' us' r.2 → Rep C Z' H' tr v r.1 B → Okk Z' H' (a :: B) → Tr Z H [a] Z' H' (a :: B) → Q v H') fun _ => False
theorem RepS.offs : ∀ (n : Nat), RepS C Z H (List.replicate n none) (List.replicate n .v) (List.replicate n none) []
  | 0 => .nil
  | n + 1 => .off (RepS.offs n)
theorem RepS.start : ∀ {vs : List V} {ps : List PV}, DenL C Z H vs ps → ∀ (m : Nat), RepS C Z H (vs.map some ++ List.replicate m none) (List.replicate (vs.length + m) .v) (ps.map some ++ List.replicate m none) []
  | _, _, .nil, m => by simpa using RepS.offs m
  | _ :: vs, _, .cons h1 h2, m => by
    have e : ∀ (a b : Nat), a + 1 + b = (a + b) + 1 := by intros; omega
    simp only [List.map_cons, List.cons_append, List.length_cons, e, List.replicate_succ]
    exact RepS.on (A := []) (B := []) (.v h1) (RepS.start h2 m)
theorem start_eq {N : List Str} {vs : List V} {n nl : Nat} (h1 : vs.length = n) (h2 : N.length = n + nl) : L2.start N vs = vs.map some ++ List.replicate nl none := by
  have : N.length - vs.length = nl := by omega
  simp [L2.start, this]
theorem newT_of {v : V} {p : PV} (hz : ∀ a, Z a → ∃ o, H a = some o) (b : Rep C Z' H' t v p B) (c : Okk Z' H' (A' ++ B)) (d : Tr Z H [] Z' H' (A' ++ B)) : NewT C Z H t v p H' :=
  ⟨Z', B, fun a o e => d.keep a o e (by simp), d.zm, fun a z => by
    rcases d.zn a z with z | z | z
    · exact .inl z
    · simp at z
    · exact .inr z, c.right.1, fun a ha => ⟨by
    rcases d.an a (List.mem_append_right _ ha) with z | z
    · simp at z
    · exact z, c.right.2.1 a ha⟩, c.2.2, b⟩
section
variable {mg : Str → Option Value} {base : Heap} {x q : Str} {st : Stmt} {f : Addr} {fd : FuncData} {N ps : List Str} {k n nl : Nat} {g : SS} {Γe : List Ty} {Wx : XK → WX}
theorem pure_of (h1 : ∀ vs : List V, vs.length = n → L2.start N vs = vs.map some ++ List.replicate nl none) (hz : ∀ a, Z a → ∃ o, H a = some o) {vs : List V} {qs : List PV} (hl : vs.length = n) (hd : DenL C Z H vs qs) {Q : VK} {W : WX} {E : Exc → Prop}
    (hE : ∀ e, E e → ExcS C W Z H [] e) (h : (mkF nl g qs).To (fun p => ∀ v H', NewT C Z H tr v p H' → Q v H') E) : tS C W [] tr g (List.replicate (n + nl) .v) Γe { nx := fun _ H' => Q .non H', rt := Q } (L2.start N vs) H := by
  subst hl
  rw [h1 _ rfl]
  refine ⟨_, Z, [], ⟨RepS.start hd nl, List.nodup_nil, fun _ h => (nomatch h), hz⟩, h.bind.mono (fun r hr => ?_) hE⟩
  obtain ⟨fl, ρ1⟩ := r
  cases fl with
  | next => exact hr.elim
  | ret p => exact fun v σ' H' Z' A' B Γr a b c d e f => hr v H' (newT_of hz b c d)
theorem pure_ofP (h1 : ∀ vs : List V, vs.length = n → L2.start N vs = vs.map some ++ List.replicate nl none) (hz : ∀ a, Z a → ∃ o, H a = some o) {vs : List V} {qs : List PV} (hl : vs.length = n) (hd : DenL C Z H vs qs) {Q : VK} {W : WX} {E : Exc → Prop}
    (hE : ∀ e, E e → ExcS C W Z H [] e) (h : (mkP nl g qs).To (fun p => ∀ v H', NewT C Z H .v v p H' → Q v H') E) : tS C W [] .v g (List.replicate (n + nl) .v) Γe { nx := fun _ H' => Q .non H', rt := Q } (L2.start N vs) H := by
  subst hl
  rw [h1 _ rfl]
  refine ⟨_, Z, [], ⟨RepS.start hd nl, List.nodup_nil, fun _ h => (nomatch h), hz⟩, h.bind.mono (fun r hr => ?_) hE⟩
  obtain ⟨fl, ρ1⟩ := r
  cases fl with
  | next => exact fun σ' H' Z' A' p t s => hr .non H' (newT_of (A' := A') (B := []) hz (.v .non) (by rw [List.append_nil]; exact p.ok) (by rw [List.append_nil]; exact t))
  | ret p => exact fun v σ' H' Z' A' B Γr a b c d e f => hr v H' (newT_of hz b c d)
theorem fnN (F : Fun C.K x q st f fd) (S : FnScope N ps (defScope st)) (hn : ps.length = n) (hN : N.length = n + nl)
    (h : ∀ (cdv : Value) (A : Around) (outer : List PySem.Env) (s : Shared) (H : Hp) (E : XK), Room k (A.deeper (envOfC q (defScope st) s.heap.objs.size f cdv)) → PSs (cxOf CX0 C.P C.w C.K mg base N q (defScope st) f cdv A outer s H E).nox (defBody st) (tS C noW [] tr g (List.replicate (n + nl) .v) Γe)) :
    FnOk C.P C.w C.K mg base CX0 (k + 1) f fd ps (spN C n (mkF nl g) tr) :=
  F.ok S (fun vs H Q E h => by obtain ⟨_, _, h, _⟩ := h; rw [h, hn]) fun cdv A outer s H vs Q E hr ⟨qs, Z, h1, h2, h3, h4⟩ =>
    ⟨_, PSs.nox (h cdv A outer s H E hr), pure_of (fun vs hl => start_eq hl hN) h3 h1 h2 (fun _ h => h.elim) h4⟩
theorem fnP (F : Fun C.K x q st f fd) (S : FnScope N ps (defScope st)) (hn : ps.length = n) (hN : N.length = n + nl)
    (h : ∀ (cdv : Value) (A : Around) (outer : List PySem.Env) (s : Shared) (H : Hp) (E : XK), Room k (A.deeper (envOfC q (defScope st) s.heap.objs.size f cdv)) → PSs (cxOf CX0 C.P C.w C.K mg base N q (defScope st) f cdv A outer s H E).nox (defBody st) (tS C noW [] .v g (List.replicate (n + nl) .v) Γe)) :
    FnOk C.P C.w C.K mg base CX0 (k + 1) f fd ps (spN C n (mkP nl g) .v) :=
  F.ok S (fun vs H Q E h => by obtain ⟨_, _, h, _⟩ := h; rw [h, hn]) fun cdv A outer s H vs Q E hr ⟨qs, Z, h1, h2, h3, h4⟩ =>
    ⟨_, PSs.nox (h cdv A outer s H E hr), pure_ofP (fun vs hl => start_eq hl hN) h3 h1 h2 (fun _ h => h.elim) h4⟩
theorem fnX (F : Fun C.K x q st f fd) (S : FnScope N ps (defScope st)) (hn : ps.length = n) (hN : N.length = n + nl)
    (h : ∀ (cdv : Value) (A : Around) (outer : List PySem.Env) (s : Shared) (H : Hp) (E : XK), Room k (A.deeper (envOfC q (defScope st) s.heap.objs.size f cdv)) → PSs (cxOf (L2.CX C.P C.w) C.P C.w C.K mg base N q (defScope st) f cdv A outer s H E) (defBody st) (tS C (fun cls d _ H => E cls d H) [] tr g (List.replicate (n + nl) .v) Γe)) :
    FnOk C.P C.w C.K mg base (L2.CX C.P C.w) (k + 1) f fd ps (spX C n (mkF nl g) tr) :=
  F.okX S (fun vs H Q E h => by obtain ⟨_, _, h, _⟩ := h; rw [h, hn]) fun cdv A outer s H vs Q E hr ⟨qs, Z, h1, h2, h3, h4⟩ =>
    ⟨_, h cdv A outer s H E hr, pure_of (fun vs hl => start_eq hl hN) h3 h1 h2 (fun e h cls d σ' H' px => h cls d H' px) h4⟩
theorem fnXP (F : Fun C.K x q st f fd) (S : FnScope N ps (defScope st)) (hn : ps.length = n) (hN : N.length = n + nl)
    (h : ∀ (cdv : Value) (A : Around) (outer : List PySem.Env) (s : Shared) (H : Hp) (E : XK), Room k (A.deeper (envOfC q (defScope st) s.heap.objs.size f cdv)) → PSs (cxOf (L2.CX C.P C.w) C.P C.w C.K mg base N q (defScope st) f cdv A outer s H E) (defBody st) (tS C (fun cls d _ H => E cls d H) [] .v g (List.replicate (n + nl) .v) Γe)) :
    FnOk C.P C.w C.K mg base (L2.CX C.P C.w) (k + 1) f fd ps (spX C n (mkP nl g) .v) :=
  F.okX S (fun vs H Q E h => by obtain ⟨_, _, h, _⟩ := h; rw [h, hn]) fun cdv A outer s H vs Q E hr ⟨qs, Z, h1, h2, h3, h4⟩ =>
    ⟨_, h cdv A outer s H E hr, pure_ofP (fun vs hl => start_eq hl hN) h3 h1 h2 (fun e h cls d σ' H' px => h cls d H' px) h4⟩
theorem fnR (F : Fun C.K x q st f fd) (S : FnScope N ps (defScope st)) (hn : ps.length = n + 1) (hN : N.length = n + 1 + nl)
    (h : ∀ (cdv : Value) (A : Around) (outer : List PySem.Env) (s : Shared) (H : Hp) (E : XK), Room k (A.deeper (envOfC q (defScope st) s.heap.objs.size f cdv)) → PSs (cxOf CX0 C.P C.w C.K mg base N q (defScope st) f cdv A outer s H E).nox (defBody st) (tS C noW [(0, .l .v)] tr g (.l .v :: List.replicate (n + nl) .v) Γe)) :
    FnOk C.P C.w C.K mg base CX0 (k + 1) f fd ps (spR C n (mkR nl g) tr) :=
  F.ok S (fun vs H Q E h => by obtain ⟨_, _, _, _, _, _, rfl, h, _⟩ := h; rw [hn, List.length_cons, h]) fun cdv A outer s H vs Q E hr ⟨a, vs', us, xs, qs, Z, e1, h1, ha, hz, hu, h2, h3, h4⟩ => by
    subst e1
    refine ⟨_, PSs.nox (h cdv A outer s H E hr), ?_⟩
    have es : L2.start N (.ref a :: vs') = some (.ref a) :: (vs'.map some ++ List.replicate nl none) := by
      rw [start_eq (n := n + 1) (nl := nl) (by simp [h1]) hN]
      rfl
    rw [es]
    subst h1
    refine ⟨_, Z, [a], ⟨.on (A := [a]) (B := []) (.l (A := []) ha hu.rep) (RepS.start h2 nl), by simp, fun b hb => by simp at hb; subst hb; exact hz, h3⟩, h4.bind.mono (fun r hr => ?_) fun _ he => he.elim⟩
    obtain ⟨fl, ρ1⟩ := r
    cases fl with
    | next => exact hr.elim
    | ret p =>
      intro v σ' H' Z' A' B Γr r1 r2 r3 r4 r5 r6
      have g1 : σ'[0]? = some (some (V.ref a)) := by
        have := r5 (0, .l .v) (by simp)
        simpa using this
      have g2 : Γr[0]? = some (.l .v) := r6 (0, .l .v) (by simp)
      split at hr
      · rename_i p' ys ρt e1 e2
        cases e1
        dsimp only at e2
        subst e2
        cases r1 with
        | on q1 q2 =>
          simp at g1 g2
          subst g1
          subst g2
          cases q1 with
          | l w1 w2 =>
            obtain ⟨w3, rfl⟩ := w2.den
            refine hr v H' Z' _ B w1 w3 r2 ?_ ?_
            · obtain ⟨n1, n2, n3⟩ := r3
              refine ⟨?_, fun b hb => n2 b ?_, n3⟩
              · rw [List.append_assoc] at n1
                obtain ⟨m1, m2, m3⟩ := List.nodup_append.mp n1
                refine List.nodup_cons.mpr ⟨fun z => m3 a (by simp) a (List.mem_append_right _ z) rfl, (List.nodup_append.mp m2).2.1⟩
              · rcases List.mem_cons.mp hb with rfl | hb
                · simp
                · exact List.mem_append_right _ hb
            · refine r4.sub fun b hb => ?_
              rcases List.mem_cons.mp hb with rfl | hb
              · simp
              · exact List.mem_append_right _ hb
      · exact hr.elim
end

/-! ### calls -/
def eCall (g : List PV → Res PV) (fs : List ES) : ES := fun ρ => eL fs ρ >>= fun r => (g r.1).nox >>= fun p => .ok (p, r.2)
def eCallX (g : List PV → Res PV) (fs : List ES) : ES := fun ρ => eL fs ρ >>= fun r => g r.1 >>= fun p => .ok (p, r.2)
/-- the list at slot i by reference -/
def eCallR (g : List PV → List PV → Res (PV × List PV)) (i : Nat) (fs : List ES) : ES := fun ρ => eVar i ρ >>= fun _ => eL fs ρ >>= fun r => eVar i r.2 >>= fun z => match z.1 with
  | .lst xs => (g xs r.1).nox >>= fun q => .ok (q.1, r.2.set i (some (.lst q.2)))
  | _ => .stuck
theorem eL_len : ∀ {fs : List ES} {ρ : Env} {r : List PV × Env}, eL fs ρ = .ok r → r.1.length = fs.length
  | [], _, _, e => by cases e; rfl
  | f :: fs, _, _, e => by
    obtain ⟨r1, _, e⟩ := bind_ok_inv e
    obtain ⟨r2, e2, e⟩ := bind_ok_inv e
    cases e
    simp [eL_len e2]
section
variable {k n : Nat} {f : Addr} {fd : FuncData} {ps : List Str} {x : Str} {p : Pos} {e : Expr} {es : List Expr} {fs : List ES} {g : List PV → Res PV}
theorem tM_call {Q : VK} {E : St → XK} (hl : fs.length = n) (h : tM C W (eCall g fs) Γ Γ1 t σ H Q) : tCallS (spN C n g t) E (tA C W fs Γ Γ1) σ H Q := by
  obtain ⟨ρ, Z, A, pre, h⟩ := h
  refine ⟨ρ, Z, A, pre, h.bind.mono' (fun r er hr vs H1 Z1 A1 p1 d1 t1 => ?_) fun _ he => he⟩
  exact ⟨r.1, Z1, by rw [d1.length, eL_len er, hl], d1, p1.ok.2.2, (nox_to (Res.To.bind hr)).mono (fun q hq v H' hv => hq _ _ ((hv.post p1).comp t1)) fun _ he => he⟩

theorem sm_call (hX : Is C X) (G : FnOk X.prog X.w X.K X.mg X.base CX0 k f fd ps (spN C n g t)) (hr : Room k X.A) (hg : Gl X x) (hm : X.mg x = some (.ref f)) (hk : PySem.W.keepIn X.K (.ref f) = true) (hb : L2.Binds X.K fd ps []) (ha : PA X (e :: es) (tA C W fs Γ Γ1)) (hl : fs.length = n := by rfl)
    (hd : (x == ("__debug__" : Str)) = false := by decide) (hs : starEach (e :: es) X.env = (false, eval e X.env) :: starEach es X.env := by rfl) (hp : ((backTo pos (starEach es X.env)).any (·.1)) = false := by rfl) :
    PE X (.Call (.Name x p) (e :: es) [] pos) (tM C W (eCall g fs) Γ Γ1 t) := PEi (pe_callS (E := fun _ _ _ _ => True) G hr hg hm hk hb (fun _ _ _ _ _ _ _ h => h.elim) ha hd hs hp) fun _ _ _ h => tM_call hl h
theorem tM_callX {Q : VK} (hl : fs.length = n) (h : tM C W (eCallX g fs) Γ Γ1 t σ H Q) : tCallS (spX C n g t) (WE W) (tA C W fs Γ Γ1) σ H Q := by
  obtain ⟨ρ, Z, A, pre, h⟩ := h
  refine ⟨ρ, Z, A, pre, h.bind.mono' (fun r er hr vs H1 Z1 A1 p1 d1 t1 => ?_) fun _ he => he⟩
  refine ⟨r.1, Z1, by rw [d1.length, eL_len er, hl], d1, p1.ok.2.2, (Res.To.bind hr).mono (fun q hq v H' hv => hq _ _ ((hv.post p1).comp t1)) fun e he cls d H' px => he cls d H' (PostX.comp t1 ?_)⟩
  obtain ⟨Z', u, h1, h2⟩ := px
  exact ⟨Z', ⟨fun a o e _ => u.keep a o e (by simp), u.there, u.zm, fun a z => by
    rcases u.zn a z with z | z | z
    · exact .inl z
    · simp at z
    · exact .inr (.inr z), fun a h => (nomatch h)⟩, h1, h2⟩
theorem sm_callX (hX : Is C X) (tk : Takes X W) (G : FnOk X.prog X.w X.K X.mg X.base (L2.CX X.prog X.w) k f fd ps (spX C n g t)) (hr : Room k X.A) (hg : Gl X x) (hm : X.mg x = some (.ref f)) (hk : PySem.W.keepIn X.K (.ref f) = true) (hb : L2.Binds X.K fd ps []) (ha : PA X (e :: es) (tA C W fs Γ Γ1)) (hl : fs.length = n := by rfl)
    (hd : (x == ("__debug__" : Str)) = false := by decide) (hs : starEach (e :: es) X.env = (false, eval e X.env) :: starEach es X.env := by rfl) (hp : ((backTo pos (starEach es X.env)).any (·.1)) = false := by rfl) :
    PE X (.Call (.Name x p) (e :: es) [] pos) (tM C W (eCallX g fs) Γ Γ1 t) := PEi (pe_callS (E := WE W) G hr hg hm hk hb (fun σ => passAt tk σ) ha hd hs hp) fun _ _ _ h => tM_callX hl h
end
/-- our own thing at slot i is changed in its place -/
theorem PreE.own {i : Nat} {p : PV} (pre : PreE C Z H σ Γ ρ A) (hΓ : Γ[i]? = some t) (hi : ρ[i]? = some (some p)) : ∃ v B, σ[i]? = some (some v) ∧ Rep C Z H t v p B ∧ (∀ b ∈ B, b ∈ A) ∧ Okk Z H B ∧
    ∀ Z' H' Bs Br t' p', Tr Z H B Z' H' (Bs ++ Br) → Okk Z' H' (Bs ++ Br) → Rep C Z' H' t' v p' Bs → ∃ A', RepS C Z' H' σ (Γ.set i t') (ρ.set i (some p')) A' ∧ Okk Z' H' (A' ++ Br) ∧ Tr Z H A Z' H' (A' ++ Br) := by
  obtain ⟨A1, A2, pm, h1, h2⟩ := pre.rep.cut i
  obtain ⟨v, t', e1, e2, r⟩ := h1 p hi
  rw [hΓ] at e2; cases e2
  have ok := pre.ok.perm pm
  have sub : ∀ b ∈ A1, b ∈ A := fun b hb => pm.mem_iff.mpr (List.mem_append_left _ hb)
  refine ⟨v, A1, e1, r, sub, ok.left, fun Z' H' Bs Br t' p' u ok' rp => ?_⟩
  have hb : ∀ b ∈ A2, (∃ o, H b = some o) ∧ b ∉ A1 ∧ ¬ Z b := fun b hb => ⟨by
    obtain ⟨o, e, _⟩ := pre.rep.mut b (pm.mem_iff.mpr (List.mem_append_right _ hb))
    exact ⟨o, e⟩, fun z => (List.nodup_append.mp ok.1).2.2 b z b hb rfl, ok.2.1 b (List.mem_append_right _ hb)⟩
  have bs := u.beside hb
  have st : Stays Z H Z' H' := u.stays r.mut ok.left.2.1
  have q := (h2 (some v) t').stays st fun b hb => (bs b hb).1
  have hl : i < ρ.length := (List.getElem?_eq_some_iff.mp hi).1
  obtain ⟨A', pm', q'⟩ := RepS.put i q (by simp [hl]) rp
  rw [set_set_same, set_set_same, set_set_same, set_get_same e1] at q'
  have pm2 : (A' ++ Br).Perm ((Bs ++ Br) ++ A2) := by
    refine (pm'.append_right Br).trans ?_
    rw [List.append_assoc, List.append_assoc]
    exact List.Perm.append_left Bs List.perm_append_comm
  refine ⟨A', q', Okk.perm ⟨List.nodup_append.mpr ⟨ok'.1, ok.right.1, fun a ha b hb e => ?_⟩, fun a ha => ?_, ok'.2.2⟩ pm2.symm, ⟨fun a o e n => u.keep a o e fun z => n (sub a z), u.there, u.zm, fun a z => ?_, fun a ha => ?_⟩⟩
  · subst e
    exact (bs a hb).2.1 ha
  · rcases List.mem_append.mp ha with ha | ha
    · exact ok'.2.1 a ha
    · exact (bs a ha).2.2
  · rcases u.zn a z with z | z | z
    · exact .inl z
    · exact .inr (.inl (sub a z))
    · exact .inr (.inr z)
  · rcases List.mem_append.mp (pm2.mem_iff.mp ha) with ha | ha
    · rcases u.an a ha with z | z
      · exact .inl (sub a z)
      · exact .inr z
    · exact .inl (pm.mem_iff.mpr (List.mem_append_right _ ha))
section
variable {k n : Nat} {f : Addr} {fd : FuncData} {ps : List Str} {x : Str} {p : Pos} {e : Expr} {es : List Expr} {fs : List ES} {g : List PV → List PV → Res (PV × List PV)}
theorem tM_callR {i : Nat} {Q : VK} {E : St → XK} (hl : fs.length = n) (hΓ : Γ[i]? = some (.l .v)) (hΓ1 : Γ1[i]? = some (.l .v)) (h : tM C W (eCallR g i fs) Γ Γ1 t σ H Q) : tCallS (spR C n g t) E (tCons (tVar i) (tA C W fs Γ Γ1)) σ H Q := by
  obtain ⟨ρ, Z, A, pre, h⟩ := h
  obtain ⟨p0, hp0, h⟩ := eVar_ok h.bind
  obtain ⟨v, B, e1, r0, _, _, _⟩ := pre.own hΓ hp0
  refine ⟨v, e1, ρ, Z, A, pre, (Res.To.bind h).mono' (fun r er hr vs H1 Z1 A1 p1 d1 t1 => ?_) fun _ he => he⟩
  obtain ⟨p1', hp1, hr⟩ := eVar_ok (Res.To.bind hr)
  obtain ⟨v', B1, e1', r1, sub, ok1, fin⟩ := p1.own hΓ1 hp1
  rw [e1] at e1'; cases e1'
  dsimp only at hr
  split at hr
  · rename_i xs
    cases r1 with
    | @l t' a us _ A' ha hu =>
      obtain ⟨hu2, rfl⟩ := hu.den
      refine ⟨a, vs, us, xs, r.1, Z1, rfl, by rw [d1.length, eL_len er, hl], ha, ok1.2.1 a (by simp), hu2, d1, p1.ok.2.2, (nox_to (Res.To.bind hr)).mono (fun q hq v H' Z' us' B w1 w2 w3 w4 w5 => ?_) fun _ he => he⟩
      obtain ⟨A2, s1, s2, s3⟩ := fin Z' H' [a] B (.l .v) (.lst q.2) (by simpa using w5) (by simpa using w4) (.l (A := []) w1 w2.rep)
      rw [set_get_same hΓ1] at s1
      exact hq v H' ⟨Z', A2, B, s1, w3, s2, t1.trans s3⟩
  · exact hr.elim
theorem sm_callR {i : Nat} {y : Str} {yp : Pos} (hX : Is C X) (G : FnOk X.prog X.w X.K X.mg X.base CX0 k f fd ps (spR C n g t)) (hr : Room k X.A) (hg : Gl X x) (hm : X.mg x = some (.ref f)) (hk : PySem.W.keepIn X.K (.ref f) = true) (hb : L2.Binds X.K fd ps [])
    (hN : X.N[i]? = some y) (hv : Vis X.env.scope y) (hΓ : Γ[i]? = some (.l .v)) (hΓ1 : Γ1[i]? = some (.l .v)) (ha : PA X es (tA C W fs Γ Γ1)) (hl : fs.length = n := by rfl)
    (hd : (x == ("__debug__" : Str)) = false := by decide) (hs : starEach (.Name y yp :: es) X.env = (false, eval (.Name y yp) X.env) :: starEach es X.env := by rfl) (hp : ((backTo pos (starEach es X.env)).any (·.1)) = false := by rfl) (hyd : (y == ("__debug__" : Str)) = false := by decide) (hcd : (y == ("__classdict__" : Str)) = false := by decide) :
    PE X (.Call (.Name x p) (.Name y yp :: es) [] pos) (tM C W (eCallR g i fs) Γ Γ1 t) := PEi (pe_callS (E := fun _ _ _ _ => True) G hr hg hm hk hb (fun _ _ _ _ _ _ _ h => h.elim) (pa_cons (pe_var hN hv hyd hcd) ha hs) hd hs hp) fun _ _ _ h => tM_callR hl hΓ hΓ1 h
end

/-! ### tries: the suite sees no name -/
/-- try: return a, except c: return b -/
def sTry (c : Nat) (fa fs : ES) : SS := fun ρ => match fa ρ with
  | .ok r => .ok (.ret r.1, r.2)
  | .exc e => if e.cls = c then (fs (ρ.map fun _ => none)).nox >>= fun r => .ok (.ret r.1, r.2) else .exc e
  | .stuck => .stuck
/-- try: return a, except c as n: return (w, n.reason) -/
def sTryAs (c : Nat) (fa : ES) (w : Str) : SS := fun ρ => match fa ρ with
  | .ok r => .ok (.ret r.1, r.2)
  | .exc e => if e.cls = c then match e.arg with
    | some s => .ok (.ret (.tup [.str w, .str s]), ρ.map fun _ => none)
    | none => .stuck
    else .exc e
  | .stuck => .stuck
theorem RepS.none : ∀ {σ : L2.St} {Γ : List Ty} {ρ : Env} {A : List Addr}, RepS C Z H σ Γ ρ A → ∀ Z' H', RepS C Z' H' σ Γ (ρ.map fun _ => Option.none) []
  | _, _, _, _, .nil, _, _ => .nil
  | _, _, _, _, .off h, Z', H' => .off (RepS.none h Z' H')
  | _, _, _, _, .on _ h, Z', H' => .off (RepS.none h Z' H')
/-- the classes of a program: one is another only if it is the same -/
def ClsSep (C : Cn) : Prop := ∀ i j a b, C.ca i = some a → C.ca j = some b → PySem.W.exmOne C.K (.ref a) (.ref b) = some (decide (i = j))
theorem takes_nox : Takes X.nox noW := fun u s' ⟨_, _, _, _, _, _, _, _, _, _, _, _, _, _, _, _, h⟩ => h.elim
section
variable {xc : Str} {c : Nat} {cc : Addr} {np p1 p2 p3 pos' : Pos} {e2 : Expr} {fs : ES}
theorem ss_try (hX : Is C X) (hsep : ClsSep C) (hcc : C.ca c = some cc) (hs : X.stack = X.env :: X.outer) (hf : X.env.frame = some X.env.locals) (hc : Names X xc (.ref cc)) (tk : Takes X W)
    (ha : ∀ (W : WX) (pn : List (Addr × Obj)) (xe : Value → Shared → Prop), Takes (X.tr pn xe) W → PE (X.tr pn xe) a (tM C W fa Γ Γ1 tr))
    (he : ∀ (a : Addr) (pn : List (Addr × Obj)), PE (X.suite a pn) e2 (tM C noW fs Γ Γ2 tr)) :
    PS X (.Try [.Return (some a) p1] [.ExceptHandler (some (.Name xc np)) Option.none [.Return (some e2) p2] pos'] [] [] pos) (tS C W [] tr (sTry c fa fs) Γ Γ') :=
  PSi (ps_try_only hs hf hc tk (tb := fun W => tRet (tM C W fa Γ Γ1 tr)) (ts := fun _ _ _ => tRet (tM C noW fs Γ Γ2 tr)) (fun W pn xe tk _ => pss_one (ps_ret (ha W pn xe tk))) (fun a oe cls d pn _ _ => pss_one (ps_ret (he a _)))) fun D σ H ⟨ρ, Z, A, pre, h⟩ => by
    refine ⟨ρ, Z, A, pre, ?_⟩
    unfold sTry at h
    cases e : fa ρ with
    | stuck => rw [e] at h; exact h.elim
    | ok r =>
      rw [e] at h
      exact fun v H' ⟨Z', A', B, a, b, c, d⟩ => h v σ H' Z' A' B Γ1 a b c d .refl (fun _ h => (nomatch h))
    | exc x =>
      rw [e] at h
      intro cls d H' px
      obtain ⟨Z', u, hz, c1, k1, rfl, k3⟩ := px
      refine ⟨decide (x.cls = c), by rw [← hX.K.symm]; exact hsep _ _ _ _ k1 hcc, fun hb aa haa => ?_, fun hb => ?_⟩
      · have e1 : x.cls = c := of_decide_eq_true hb
        simp only [e1, if_true] at h
        have pn := pre.rep.none Z' H'
        refine ⟨_, Z', [], ⟨pn, List.nodup_nil, fun _ h => (nomatch h), hz⟩, (nox_to (Res.To.bind h)).mono (fun r hr v H2 ⟨Z2, A2, B2, a, b, c, d⟩ => ?_) fun _ he => he.elim⟩
        exact hr v σ H2 Z2 A2 B2 Γ2 a b c (u.trans d) .refl (fun _ h => (nomatch h))
      · have e1 : ¬ x.cls = c := of_decide_eq_false hb
        simp only [e1, if_false] at h
        exact h _ d σ H' ⟨Z', u, hz, c1, k1, rfl, k3⟩
theorem ss_tryAs {n : Str} {i : Nat} {w : Str} {j1 k1 : Nat} {p4 p5 p6 : Pos} (hX : Is C X) (hsep : ClsSep C) (hcc : C.ca c = some cc) (hs : X.stack = X.env :: X.outer) (hf : X.env.frame = some X.env.locals) (hN : X.N.Nodup) (hi : X.N[i]? = some n) (hln : X.env.kindOf n = some .local) (hc : Names X xc (.ref cc)) (tk : Takes X W)
    (T : XfC X.K cc) (hno : PySem.W.findIn X.K (.ref cc) "reason" = some Option.none) (hv : Vis X.env.scope n) (hil : i < Γ.length)
    (ha : ∀ (W : WX) (pn : List (Addr × Obj)) (xe : Value → Shared → Prop), Takes (X.tr pn xe) W → PE (X.tr pn xe) a (tM C W fa Γ Γ1 .v)) (hd : (n == ("__debug__" : Str)) = false := by decide) (hcd : (n == ("__classdict__" : Str)) = false := by decide)  :
    PS X (.Try [.Return (some a) p1] [.ExceptHandler (some (.Name xc np)) (some n) [.Return (some (.Tuple [.Constant (.str w) j1 p3, .Attribute (.Name n p4) "reason" p5] k1 p6)) p2] pos'] [] [] pos) (tS C W [] .v (sTryAs c fa w) Γ Γ') :=
  PSi (ps_try_as hs hf hN hi hln hc tk (tb := fun W => tRet (tM C W fa Γ Γ1 .v)) (ts := fun a cls d => tRet (tTup (tCons (tC (.str w)) (tCons (tXf a cls d cc "reason" (tVar i)) tNil)))) (fun W pn xe tk _ => pss_one (ps_ret (ha W pn xe tk))) (fun a oe cls d pn hz hf => pss_one (ps_ret (pe_tup (pa_cons pe_str (pa_cons (pe_xf T hno hz hf (pe_var hi hv hd hcd)) pa_nil)))))) fun D σ H ⟨ρ, Z, A, pre, h⟩ => by
    refine ⟨ρ, Z, A, pre, ?_⟩
    unfold sTryAs at h
    cases e : fa ρ with
    | stuck => rw [e] at h; exact h.elim
    | ok r =>
      rw [e] at h
      exact fun v H' ⟨Z', A', B, a, b, c, d⟩ => h v σ H' Z' A' B Γ1 a b c d .refl (fun _ h => (nomatch h))
    | exc x =>
      rw [e] at h
      intro cls d H' px
      obtain ⟨Z', u, hz, c1, k1, rfl, k3⟩ := px
      refine ⟨decide (x.cls = c), by rw [← hX.K.symm]; exact hsep _ _ _ _ k1 hcc, fun hb aa haa => ?_, fun hb => ?_⟩
      · have e1 : x.cls = c := of_decide_eq_true hb
        simp only [e1, if_true] at h
        cases ea : x.arg with
        | none => rw [ea] at h; exact h.elim
        | some sr =>
          rw [ea] at h
          obtain ⟨dd, rfl, hdd⟩ := k3 sr ea
          rw [e1, hcc] at k1
          cases k1
          have hl : i < σ.length := by have := pre.rep.len; omega
          refine ⟨.ref aa, by simp [hl], rfl, rfl, dd, _, _, rfl, hdd, rfl, ?_, fun p hp => ?_⟩
          · rw [sizeLine_eq]; show 2 ≤ _; decide
          · obtain ⟨Z2, A2, B2, a, b, c, d⟩ := (NewT.tup (C := C) (vs := [V.str w, V.str sr]) (ps := [.str w, .str sr]) hz hp (.cons (.str _) (.cons (.str _) .nil))).post ⟨pre.rep.none Z' H', List.nodup_nil, fun _ h => (nomatch h), hz⟩
            exact h _ σ _ Z2 A2 B2 Γ a b c (u.trans d) .refl (fun _ h => (nomatch h))
      · have e1 : ¬ x.cls = c := of_decide_eq_false hb
        simp only [e1, if_false] at h
        exact h _ d σ H' ⟨Z', u, hz, c1, k1, rfl, k3⟩
end
end
end Mi

/-! Stores; methods of lists; targets of several names. -/
namespace Mi
open PySem PySem.Spec L2
open PyProof.Rows hiding St

def setP : PV → PV → PV → Res PV
  | .lst xs, .int i, z => match ixN xs.length i with
    | some j => .ok (.lst (xs.set j z))
    | none => .stuck
  | _, _, _ => .stuck
/-- x[i] = e, x our own list in slot k -/
def sSetL (k : Nat) (fi fe : ES) : SS := fun ρ => fe ρ >>= fun e => eVar k e.2 >>= fun _ => fi e.2 >>= fun i => eVar k i.2 >>= fun l => setP l.1 i.1 e.1 >>= fun z => .ok (.next, i.2.set k (some z))
def sAugL (f : PV → PV → Res PV) (k : Nat) (fi fe : ES) : SS := fun ρ => eVar k ρ >>= fun _ => fi ρ >>= fun i => eVar k i.2 >>= fun l1 => idxP l1.1 i.1 >>= fun x => fe i.2 >>= fun y => f x y.1 >>= fun z => eVar k y.2 >>= fun l2 => setP l2.1 i.1 z >>= fun l3 => .ok (.next, y.2.set k (some l3))
def addI : PV → PV → Res PV
  | .int i, .int j => .ok (.int (i + j))
  | _, _ => .stuck
def subI : PV → PV → Res PV
  | .int i, .int j => .ok (.int (i - j))
  | _, _ => .stuck
/-- x op= e, a name in slot k -/
def sAug (f : PV → PV → Res PV) (k : Nat) (fe : ES) : SS := fun ρ => eVar k ρ >>= fun x => fe ρ >>= fun y => f x.1 y.1 >>= fun z => .ok (.next, y.2.set k (some z))
/-- x.append(e) -/
def eApp (k : Nat) (fe : ES) : ES := fun ρ => eVar k ρ >>= fun _ => fe ρ >>= fun e => eVar k e.2 >>= fun l => match l.1 with
  | .lst xs => if xs.length < lim then .ok (.non, e.2.set k (some (.lst (xs ++ [e.1])))) else .stuck
  | _ => .stuck
/-- x.pop() -/
def ePop (k : Nat) : ES := fun ρ => eVar k ρ >>= fun l => match l.1 with
  | .lst xs => match xs[xs.length - 1]? with
    | some y => .ok (y, ρ.set k (some (.lst xs.dropLast)))
    | none => .stuck
  | _ => .stuck
/-- targets (g1, g2, ..) -/
def gAll : List GS → List PV → Env → Res Env
  | [], [], ρ => .ok ρ
  | g :: gs, p :: ps, ρ => g p ρ >>= fun ρ1 => gAll gs ps ρ1
  | _, _, _ => .stuck
def gTupP (gs : List GS) : GS := fun p ρ => match p with
  | .tup xs => gAll gs xs ρ
  | _ => .stuck
/-- target = e -/
def sAsgG (g : GS) (fe : ES) : SS := fun ρ => fe ρ >>= fun e => g e.1 e.2 >>= fun ρ1 => .ok (.next, ρ1)
/-- a, b = e1, e2 -/
def sPar (i j : Nat) (fs : List ES) : SS := fun ρ => eL fs ρ >>= fun r => match r.1 with
  | [p, q] => .ok (.next, (r.2.set i (some p)).set j (some q))
  | _ => .stuck

section
variable {C : Cn} {Z Z1 Z2 Z' : Addr → Prop} {H H1 H2 H' : Hp} {A A1 A2 B A' : List Addr} {σ σ1 : L2.St} {Γ Γ1 Γ2 Γ3 Γ' : List Ty} {ρ : Env} {t tr : Ty} {W : WX} {X : Cx} {a b c : Expr} {fa fb fc fi fe : ES} {pos : Pos} {R : List (Nat × Ty)} {D : Ends} {r : Fl × Env}
theorem pget_list : PGet X (rIxL X.K) := fun pins s σ H o i ov iv Q I ro ri h => by
  obtain ⟨p, xs, k, v, rfl, rfl, hs, ha, hq⟩ := h
  obtain ⟨its, rv, pl, hz⟩ := I.list hs
  cases ro
  obtain ⟨t, rfl⟩ : ∃ t, iv = .int k t := ri
  unfold atI ixN at ha
  have hlen : xs.length = its.length := rv.length
  rw [sizeLine_eq] at hz
  by_cases h0 : 0 ≤ k
  · rw [if_pos h0] at ha
    by_cases h1 : k < xs.length
    · rw [if_pos h1] at ha
      obtain ⟨u, hu, ru⟩ := rv.get (i := k.toNat) (by simpa using ha)
      exact wpAny_getItem_list pl.isList h0 (by omega) (by simpa using hu) ⟨v, H, I, ru, hq⟩
    · rw [if_neg h1] at ha; cases ha
  · rw [if_neg h0] at ha
    by_cases h1 : -(xs.length : Int) ≤ k
    · rw [if_pos h1] at ha
      obtain ⟨u, hu, ru⟩ := rv.get (i := (k + xs.length).toNat) (by simpa using ha)
      refine wpAny_getItem_list_neg pl.isList (by omega) (by simpa [hlen] using h1) (by omega) ?_ ⟨v, H, I, ru, hq⟩
      simpa [hlen] using hu
    · rw [if_neg h1] at ha; cases ha
theorem setP_to {l i z : PV} {Q : PV → Prop} {E : Exc → Prop} (h : (setP l i z).To Q E) : ∃ xs k j, l = .lst xs ∧ i = .int k ∧ ixN xs.length k = some j ∧ Q (.lst (xs.set j z)) := by
  unfold setP at h
  split at h
  · split at h
    · rename_i xs k _ j e
      exact ⟨xs, k, j, rfl, rfl, e, h⟩
    · exact h.elim
  · exact h.elim
theorem DenL.set : ∀ {vs : List V} {ps : List PV} {j : Nat} {v : V} {p : PV}, DenL C Z H vs ps → Den C Z H v p → DenL C Z H (vs.set j v) (ps.set j p)
  | _, _, _, _, _, .nil, _ => .nil
  | _, _, 0, _, _, .cons h1 h2, d => .cons d h2
  | _, _, j + 1, _, _, .cons h1 h2, d => .cons h1 (DenL.set h2 d)
/-- our own list of values in slot k gets other values -/
theorem PreE.lstSet {k : Nat} {xs ys : List PV} (pre : PreE C Z H σ Γ ρ A) (hΓ : Γ[k]? = some (.l .v)) (hk : ρ[k]? = some (some (.lst xs))) : ∃ a us, σ[k]? = some (some (.ref a)) ∧ H a = some (.lst us) ∧ DenL C Z H us xs ∧
    ∀ ws, DenL C Z H ws ys → ∃ A', PreE C Z (upd H a (.lst ws)) σ Γ (ρ.set k (some (.lst ys))) A' ∧ Tr Z H A Z (upd H a (.lst ws)) A' := by
  obtain ⟨v, B, e1, rp, sub, ok, fin⟩ := pre.own hΓ hk
  cases rp with
  | @l t' a us _ A' ha hu =>
    obtain ⟨hu2, rfl⟩ := hu.den
    refine ⟨a, us, e1, ha, hu2, fun ws hw => ?_⟩
    have nz : ¬ Z a := ok.2.1 a (by simp)
    have st : Stays Z H Z (upd H a (.lst ws)) := stays_upd ha trivial nz
    obtain ⟨A2, s1, s2, s3⟩ := fin Z (upd H a (.lst ws)) [a] [] (.l .v) (.lst ys) ⟨fun b o e n => by rw [upd_ne (by simpa using n)]; exact e, fun b o e => by
      by_cases hb : b = a
      · subst hb; exact ⟨_, upd_same⟩
      · rw [upd_ne hb]; exact ⟨o, e⟩, fun _ z => z, fun _ z => .inl z, fun b hb => .inl (by simpa using hb)⟩ (by
        refine ⟨by simp, fun b hb => by simp at hb; subst hb; exact nz, fun b z => ?_⟩
        by_cases hb : b = a
        · subst hb; exact ⟨_, upd_same⟩
        · rw [upd_ne hb]; exact ok.2.2 b z) (.l (A := []) upd_same (hw.stays st).rep)
    rw [set_get_same hΓ] at s1
    rw [List.append_nil] at s2 s3
    exact ⟨A2, ⟨s1, s2⟩, s3⟩
theorem ss_setL {k : Nat} {x : Str} {p p2 : Pos} (hN : X.N[k]? = some x) (hv : Vis X.env.scope x) (ha : PE X a (tM C W fe Γ Γ1 .v)) (hb : PE X b (tM C W fi Γ1 Γ2 .v)) (h1 : Γ1[k]? = some (.l .v)) (h2 : Γ2[k]? = some (.l .v))
    (hsub : ∀ v, assign (.Subscript (.Name x p) b p2) X.env v = (do let ov ← holding [v] (eval (.Name x p) X.env); let iv ← holding [v, ov] (eval b X.env); standAt p2; holding [v, ov, iv] (setItem ov iv v); release [v, ov, iv] []) := by intro _; rfl)
    (hs1 : swapsWithSole [.Subscript (.Name x p) b p2] a pos.line X.env = pure false := by rfl) (hs2 : swappedStores [.Subscript (.Name x p) b p2] a X.env = pure none := by rfl) (hs3 : List.map (·.2) (assignEach [.Subscript (.Name x p) b p2] X.env) = [assign (.Subscript (.Name x p) b p2) X.env] := by rfl)
    (hd : (x == ("__debug__" : Str)) = false := by decide) (hcd : (x == ("__classdict__" : Str)) = false := by decide) :
    PS X (.Assign [.Subscript (.Name x p) b p2] a pos) (tS C W R tr (sSetL k fi fe) Γ Γ2) :=
  PSi (ps_asg ha (pg_sub (pe_var hN hv hd hcd) hb set_list hsub) hs1 hs2 hs3) fun D σ H ⟨ρ, Z, A, pre, h⟩ => by
    refine ⟨ρ, Z, A, pre, h.bind.mono (fun r1 hr v H1 hp => ?_) fun e he => he.tM⟩
    obtain ⟨Z1, A1, p1, d1, t1⟩ := hp.pre
    obtain ⟨q0, hq0, hr⟩ := eVar_ok hr.bind
    obtain ⟨ov, _, e0, _, _, _, _⟩ := p1.own h1 hq0
    refine ⟨ov, e0, r1.2, Z1, A1, p1, (Res.To.bind hr).mono (fun r2 hr2 i H2 hp2 => ?_) fun e he cls d H' px => he.tM cls d H' (px.comp t1)⟩
    obtain ⟨Z2, A2, p2, d2, t2⟩ := hp2.pre
    obtain ⟨q1, hq1, hr2⟩ := eVar_ok hr2.bind
    obtain ⟨xs, kk, j, el, ei, ej, fin⟩ := setP_to (Res.To.bind hr2)
    dsimp only at el
    subst el
    obtain ⟨a, us, e1, ha, hu, mk⟩ := p2.lstSet h2 hq1 (ys := xs.set j r1.1)
    rw [e0] at e1; cases e1
    rw [ei] at d2
    refine ⟨a, us, kk, j, rfl, d2.toInt, ha, by rw [hu.length]; exact ej, ?_⟩
    obtain ⟨A3, p3, t3⟩ := mk (us.set j v) (hu.set (d1.stays (p1.stays t2)))
    exact fin σ _ Z2 A3 p3 ((t1.trans t2).trans t3) .refl
def IpOk (C : Cn) (f : PV → PV → Res PV) (tip : TIp) : Prop := ∀ (Z : Addr → Prop) (H : Hp) (x y : V) (p q : PV) (Q : VK), Den C Z H x p → Den C Z H y q → (f p q).To (fun s => ∀ v, Den C Z H v s → Q v H) (fun _ => False) → tip x y H Q
theorem ipo_add : IpOk C addI (ipI fun i j => i + j) := fun Z H x y p q Q d1 d2 h => by
  unfold addI at h
  split at h
  · rename_i i j
    exact ⟨i, j, d1.toInt, d2.toInt, h _ (.int _)⟩
  · exact h.elim
theorem ipo_sub : IpOk C subI (ipI fun i j => i - j) := fun Z H x y p q Q d1 d2 h => by
  unfold subI at h
  split at h
  · rename_i i j
    exact ⟨i, j, d1.toInt, d2.toInt, h _ (.int _)⟩
  · exact h.elim
theorem nox_add : NoX2 addI := fun p q e h => by unfold addI at h; split at h <;> cases h
theorem nox_sub : NoX2 subI := fun p q e h => by unfold subI at h; split at h <;> cases h
theorem idxP_to {l i : PV} {Q : PV → Prop} {E : Exc → Prop} (h : (idxP l i).To Q E) : ∃ xs k z, l.seq? = some xs ∧ i = .int k ∧ atI xs k = some z ∧ Q z := by
  unfold idxP at h
  split at h
  · rename_i xs k e
    obtain ⟨z, e2, h⟩ := opt_to h
    exact ⟨xs, k, z, e, rfl, e2, h⟩
  · exact h.elim
theorem ss_augL {op : Operator} {f : PV → PV → Res PV} {tip : TIp} {k : Nat} {x : Str} {p p2 : Pos} (hX : Is C X) (hN : X.N[k]? = some x) (hv : Vis X.env.scope x) (hip : PIp X op tip) (ho : IpOk C f tip) (hnx : NoX2 f) (hb : PE X b (tM C W fi Γ Γ1 .v)) (ha : PE X a (tM C W fe Γ1 Γ2 .v)) (h0 : Γ[k]? = some (.l .v)) (h1 : Γ1[k]? = some (.l .v)) (h2 : Γ2[k]? = some (.l .v))
    (hst : ∀ (ov iv new : Value), augStore b ov iv new = (do holding [new, ov, iv] (setItem ov iv new); release [new, ov, iv] []; pure .next) := by intros; rfl)
    (hd : (x == ("__debug__" : Str)) = false := by decide) (hcd : (x == ("__classdict__" : Str)) = false := by decide) :
    PS X (.AugAssign (.Subscript (.Name x p) b p2) op a pos) (tS C W R tr (sAugL f k fi fe) Γ Γ2) :=
  PSi (ps_augS (pe_var hN hv hd hcd) hb pget_list ha hip set_list hst) fun D σ H ⟨ρ, Z, A, pre, h⟩ => by
    obtain ⟨q0, hq0, h⟩ := eVar_ok h.bind
    obtain ⟨ov, _, e0, _, _, _, _⟩ := pre.own h0 hq0
    refine ⟨ov, e0, ρ, Z, A, pre, (Res.To.bind h).mono (fun r1 hr i H1 hp => ?_) fun e he => he.tM⟩
    obtain ⟨Z1, A1, p1, d1, t1⟩ := hp.pre
    obtain ⟨q1, hq1, hr⟩ := eVar_ok hr.bind
    obtain ⟨xs, kk, z, el, ei, ez, hr3⟩ := idxP_to (Res.To.bind hr)
    have el' : q1 = .lst xs := by
      obtain ⟨v', _, e', rp, _⟩ := p1.own h1 hq1
      cases rp
      cases el; rfl
    subst el'
    obtain ⟨a, us, e1, ha, hu, _⟩ := p1.lstSet h1 hq1 (ys := xs)
    rw [e0] at e1; cases e1
    rw [ei] at d1
    obtain ⟨w, ew, dw⟩ := hu.atI ez
    refine ⟨a, us, kk, w, rfl, d1.toInt, .of ha, ew, ?_⟩
    refine ⟨r1.2, Z1, A1, p1, (Res.To.bind (r := fe r1.2) hr3).mono (fun r2 hr2 y H2 hp2 => ?_) fun e he cls d H' px => he.tM cls d H' (px.comp t1)⟩
    obtain ⟨Z2, A2, p2, d2, t2⟩ := hp2.pre
    refine ho Z2 H2 w y z r2.1 _ (dw.stays (p1.stays t2)) d2 (To.nox (hnx _ _) ((Res.To.bind hr2).mono (fun s hs v hv => ?_) fun _ he => he))
    obtain ⟨q2, hq2, hs⟩ := eVar_ok hs.bind
    obtain ⟨xs2, k2, j, el, ei2, ej, fin⟩ := setP_to (Res.To.bind hs)
    dsimp only at el
    subst el
    rw [ei] at ei2; cases ei2
    obtain ⟨a2, us2, e2, ha2, hu2, mk⟩ := p2.lstSet h2 hq2 (ys := xs2.set j s)
    rw [e0] at e2; cases e2
    refine ⟨a, us2, kk, j, rfl, d1.toInt, ha2, by rw [hu2.length]; exact ej, ?_⟩
    obtain ⟨A3, p3, t3⟩ := mk (us2.set j v) (hu2.set hv)
    exact fin σ _ Z2 A3 p3 ((t1.trans t2).trans t3) .refl
theorem ss_aug {op : Operator} {f : PV → PV → Res PV} {tip : TIp} {k : Nat} {x : Str} {p' : Pos} (hN : X.N.Nodup) (hi : X.N[k]? = some x) (hx : Loc X.env.scope x) (hip : PIp X op tip) (ho : IpOk C f tip) (hnx : NoX2 f) (ha : PE X a (tM C W fe Γ Γ1 .v)) (hΓ : Γ[k]? = some .v) (hR : ∀ x ∈ R, x.1 ≠ k)
    (hf : X.fn x = true ∨ X.env.scope.names.lookup x = some .local := by first | exact .inl rfl | exact .inr rfl | assumption) :
    PS X (.AugAssign (.Name x p') op a pos) (tS C W R tr (sAug f k fe) Γ (Γ1.set k .v)) :=
  PSi (ps_aug hN hi hx ha hip hf) fun D σ H ⟨ρ, Z, A, pre, h⟩ => by
    obtain ⟨q0, hq0, h⟩ := eVar_ok h.bind
    obtain ⟨v, e0, d0⟩ := pre.val hΓ hq0
    refine ⟨v, e0, ρ, Z, A, pre, (Res.To.bind h).mono (fun r1 hr y H1 hp => ?_) fun e he => he.tM⟩
    obtain ⟨Z1, A1, p1, d1, t1⟩ := hp.pre
    refine ho Z1 H1 v y q0 r1.1 _ (d0.stays (pre.stays t1)) d1 (To.nox (hnx _ _) ((Res.To.bind hr).mono (fun s hs w hw => ?_) fun _ he => he))
    have hl : k < r1.2.length := by
      have := p1.rep.len
      have h3 := pre.rep.len
      have h4 := (List.getElem?_eq_some_iff.mp hq0).1
      omega
    obtain ⟨A2, p2, s2⟩ := p1.store hl hw
    exact hs _ _ Z1 A2 p2 (t1.trans (Tr.refl s2)) (.set hR)

/-! methods of lists -/
theorem sm_app {k : Nat} {x : Str} {p p2 p3 : Pos} (hX : Is C X) (hN : X.N[k]? = some x) (hv : Vis X.env.scope x) (ha : PE X a (tM C W fe Γ Γ1 .v)) (h0 : Γ[k]? = some (.l .v)) (h1 : Γ1[k]? = some (.l .v))
    (hl : (p2.endLine == p3.line) = true := by rfl) (hs : starEach [a] X.env = (false, eval a X.env) :: starEach [] X.env := by rfl) (hab : attributeBase (.Name x p) "append" X.env (eval (.Name x p) X.env) = eval (.Name x p) X.env := by rfl)
    (h30 : ((((backTo p3 (starEach [a] X.env)).all fun x => !x.1) && (backToKw p3 (keywordEach [] X.env)).all fun x => x.1.isSome) && decide (([a].length + ([] : List Unit).length + if ([] : List Unit).isEmpty = true then 0 else 1) < 30)) = true := by rfl)
    (hd : (x == ("__debug__" : Str)) = false := by decide) (hcd : (x == ("__classdict__" : Str)) = false := by decide) :
    PE X (.Call (.Attribute (.Name x p) "append" p2) [a] [] p3) (tM C W (eApp k fe) Γ Γ1 .v) :=
  PEi (pe_bm PySem.F.plainAttrs_list PySem.F.slot_list_append PySem.F.type_list_append mt_append (pe_var hN hv hd hcd) (pa_cons ha pa_nil hs) hab h30 hl hs rfl) fun σ H Q ⟨ρ, Z, A, pre, h⟩ => by
    obtain ⟨q0, hq0, h⟩ := eVar_ok h.bind
    obtain ⟨ov, _, e0, rp, _⟩ := pre.own h0 hq0
    cases rp with
    | @l t' a us _ A' ha hu =>
    refine ⟨_, e0, .inl ⟨rfl, us, .of ha⟩, ρ, Z, A, pre, (Res.To.bind h).mono (fun r1 hr y H1 hp => ?_) fun _ he => he⟩
    obtain ⟨Z1, A1, p1, d1, t1⟩ := hp.pre
    obtain ⟨q1, hq1, hr⟩ := eVar_ok hr.bind
    dsimp only at hr
    split at hr
    · rename_i xs
      split at hr
      · rename_i hlt
        obtain ⟨a', us, e1, ha, hu, mk⟩ := p1.lstSet h1 hq1 (ys := xs ++ [r1.1])
        rw [e0] at e1; cases e1
        refine ⟨a, us, y, rfl, rfl, ha, by rw [hu.length, ← lim_eq]; exact hlt, ?_⟩
        obtain ⟨A3, p3, t3⟩ := mk (us ++ [y]) (hu.snoc d1)
        exact hr _ _ ((p3.post0 .non).comp (t1.trans t3))
      · exact hr.elim
    · exact hr.elim

/-! targets of several names -/
def tGs (C : Cn) (gs : List GS) (S : List Nat) (Γ Γ' : List Ty) : TGs := fun vs σ H Q =>
  ∃ (ps : List PV) (ρ : Env) (Z : Addr → Prop) (A : List Addr), PreE C Z H σ Γ ρ A ∧ DenL C Z H vs ps ∧ (gAll gs ps ρ).To (fun ρ' => ∀ σ' A', PreE C Z H σ' Γ' ρ' A' → (∀ a ∈ A', a ∈ A) → (∀ vs, (∀ i ∈ S, i ∈ vs) → L2.wipe σ' vs = L2.wipe σ vs) → Q σ' H) (fun _ => False)
theorem PGsi {es : List Expr} {t t' : TGs} (h : PGs X es t) (hi : ∀ v σ H Q, t' v σ H Q → t v σ H Q) : PGs X es t' := ⟨fun pins s σ H v u Q I r q => h.run pins s σ H v u Q I r (hi v σ H Q q)⟩
theorem sgs_nil : PGs X [] (tGs C [] [] Γ Γ) := PGsi pgs_nil fun vs σ H Q ⟨ps, ρ, Z, A, pre, d, h⟩ => by
  cases d with
  | nil => exact ⟨rfl, h σ A pre (fun _ h => h) fun _ _ => rfl⟩
  | cons _ _ => exact h.elim
theorem sgs_cons {e : Expr} {es : List Expr} {g : GS} {gs : List GS} {S S' : List Nat} (h1 : PG X e (tG C g S Γ Γ1)) (h2 : PGs X es (tGs C gs S' Γ1 Γ2))
    (hm : List.map (·.2) (assignEach (e :: es) X.env) = assign e X.env :: List.map (·.2) (assignEach es X.env) := by rfl) : PGs X (e :: es) (tGs C (g :: gs) (S ++ S') Γ Γ2) :=
  PGsi (pgs_cons h1 h2 hm) fun vs σ H Q ⟨ps, ρ, Z, A, pre, d, h⟩ => by
    cases d with
    | nil => exact h.elim
    | cons d1 d2 =>
      refine ⟨_, _, rfl, _, ρ, Z, A, pre, d1, h.bind.mono (fun ρ1 h1 σ1 A1 p1 s1 w1 => ?_) fun _ he => he⟩
      refine ⟨_, ρ1, Z, A1, p1, d2, h1.mono (fun ρ2 h2 σ2 A2 p2 s2 w2 => ?_) fun _ he => he⟩
      exact h2 σ2 A2 p2 (fun a ha => s1 a (s2 a ha)) fun vs hv => (w2 vs fun i hi => hv i (List.mem_append_right _ hi)).trans (w1 vs fun i hi => hv i (List.mem_append_left _ hi))
theorem sg_tup {es : List Expr} {k n : Nat} {gs : List GS} {S : List Nat} (hX : Is C X) (hc : X.calm = true) (h : PGs X es (tGs C gs S Γ Γ1)) (hgl : gs.length = n) (hn : (assignEach es X.env).length = n := by rfl) (hf : List.findIdx? (fun x => x.1) (assignEach es X.env) = none := by rfl) :
    PG X (.Tuple es k pos) (tG C (gTupP gs) S Γ Γ1) := PGi (pg_tup hc h hn hf) fun v σ H Q ⟨p, ρ, Z, A, pre, d, h⟩ => by
  unfold gTupP at h
  split at h
  · rename_i xs
    obtain ⟨a, vs, rfl, h1, h2⟩ := d.toTup
    refine ⟨a, vs, rfl, hX.K ▸ h1, ?_, xs, ρ, Z, A, pre, h2, h⟩
    have len : ∀ {gs : List GS} {xs : List PV} {ρ : Env} {Q : Env → Prop} {E : Exc → Prop}, (gAll gs xs ρ).To Q E → E = (fun _ => False) → xs.length = gs.length := by
      intro gs
      induction gs with
      | nil =>
        intro xs ρ Q E h _
        cases xs with
        | nil => rfl
        | cons _ _ => exact h.elim
      | cons g gs ih =>
        intro xs ρ Q E h hE
        cases xs with
        | nil => exact h.elim
        | cons p ps =>
          have h' := Res.To.bind (r := g p ρ) h
          cases e : g p ρ with
          | ok ρ1 => rw [e] at h'; simp [ih h' hE]
          | exc x => rw [e] at h'; subst hE; exact h'.elim
          | stuck => rw [e] at h'; exact h'.elim
    rw [h2.length, len h rfl, hgl]
  · exact h.elim
theorem ss_asgG {tg : Expr} {g : GS} {S : List Nat} (ha : PE X a (tM C W fa Γ Γ1 .v)) (hg : PG X tg (tG C g S Γ1 Γ2)) (hgx : NoXG g) (hS : ∀ x ∈ R, x.1 ∉ S)
    (hs1 : swapsWithSole [tg] a pos.line X.env = pure false := by rfl) (hs2 : swappedStores [tg] a X.env = pure none := by rfl) (hs3 : List.map (·.2) (assignEach [tg] X.env) = [assign tg X.env] := by rfl) :
    PS X (.Assign [tg] a pos) (tS C W R tr (sAsgG g fa) Γ Γ2) := PSi (ps_asg ha hg hs1 hs2 hs3) fun D σ H ⟨ρ, Z, A, pre, h⟩ => by
  refine ⟨ρ, Z, A, pre, h.bind.mono (fun r hr v H1 hp => ?_) fun e he => he.tM⟩
  obtain ⟨Z1, A1, p1, d1, t1⟩ := hp.pre
  refine ⟨r.1, r.2, Z1, A1, p1, d1, To.nox (hgx _ _) ((Res.To.bind hr).mono (fun ρ1 h1 σ1 A2 p2 s2 w2 => ?_) fun _ he => he)⟩
  refine h1 σ1 H1 Z1 A2 p2 (t1.trans (Tr.refl s2)) fun x hx => ?_
  have hw := w2 S (fun _ h => h)
  have a1 := wipe_out (σ := σ1) (hS x hx)
  have a2 := wipe_out (σ := σ) (hS x hx)
  rw [hw, a2] at a1
  exact a1.symm
theorem ss_par {i j : Nat} {x y : Str} {px py pt pt2 : Pos} {kt k2 : Nat} {fs : List ES} (hc : X.calm = true) (hN : X.N.Nodup) (hi : X.N[i]? = some x) (hj : X.N[j]? = some y) (hij : i ≠ j) (hx : X.env.scope.names.lookup x = some .local) (hy : X.env.scope.names.lookup y = some .local) (ha : PA X [a, b] (tA C W fs Γ Γ1)) (hli : i < Γ1.length) (hlj : j < Γ1.length) (hR : ∀ x ∈ R, x.1 ≠ i ∧ x.1 ≠ j)
    (hsw : swappedStores [.Tuple [.Name x px, .Name y py] kt pt] (.Tuple [a, b] k2 pt2) X.env = pure (some [x, y]) := by rfl) (hs1 : swapsWithSole [.Tuple [.Name x px, .Name y py] kt pt] (.Tuple [a, b] k2 pt2) pos.line X.env = pure false := by rfl) :
    PS X (.Assign [.Tuple [.Name x px, .Name y py] kt pt] (.Tuple [a, b] k2 pt2) pos) (tS C W R tr (sPar i j fs) Γ ((Γ1.set i .v).set j .v)) :=
  PSi (ps_par hc hN hi hj hij hx hy ha hsw hs1) fun D σ H ⟨ρ, Z, A, pre, h⟩ => by
    refine ⟨ρ, Z, A, pre, h.bind.mono (fun r hr vs H1 Z1 A1 p1 d1 t1 => ?_) fun e he => he.tM⟩
    split at hr
    · rename_i p q e
      rw [e] at d1
      cases d1 with
      | cons d1 d2 =>
        cases d2 with
        | cons d2 d3 =>
          cases d3
          have hl := p1.rep.len
          obtain ⟨A2, p2, s2⟩ := p1.store (i := i) (by omega) d1
          obtain ⟨A3, p3, s3⟩ := p2.store (i := j) (by simp; omega) d2
          exact ⟨_, _, rfl, hr _ _ Z1 A3 p3 (t1.trans (Tr.refl fun a ha => s2 a (s3 a ha))) (RefS.trans (.set fun x hx => (hR x hx).1) (.set fun x hx => (hR x hx).2))⟩
    · exact hr.elim
theorem nox_gName {i : Nat} : NoXG (gName i) := fun _ _ _ h => by cases h
theorem nox_gAll : ∀ {gs : List GS}, (∀ g ∈ gs, NoXG g) → ∀ {ps : List PV} {ρ : Env} {e : Exc}, gAll gs ps ρ ≠ .exc e
  | [], _, [], _, _, h => by cases h
  | [], _, _ :: _, _, _, h => by cases h
  | g :: gs, k, [], _, _, h => by cases h
  | g :: gs, k, p :: ps, ρ, e, h => by
    have h' : (g p ρ >>= fun ρ1 => gAll gs ps ρ1) = .exc e := h
    cases q : g p ρ with
    | ok ρ1 => rw [q] at h'; exact nox_gAll (fun g hg => k g (List.mem_cons_of_mem _ hg)) h'
    | exc x => exact k g (by simp) _ _ _ q
    | stuck => rw [q] at h'; cases h'
theorem nox_gTup {gs : List GS} (k : ∀ g ∈ gs, NoXG g) : NoXG (gTupP gs) := fun p ρ e h => by
  unfold gTupP at h
  split at h
  · exact nox_gAll k h
  · cases h

/-! a module's constant -/
theorem sm_glob {x : Str} {v : V} {u : Value} {p : PV} (hg : Gl X x) (hm : X.mg x = some u) (hr : RelV v u) (hd : ∀ Z H, Den C Z H v p) (hdb : (x == ("__debug__" : Str)) = false := by decide) : PE X (.Name x pos) (tM C W (eK p) Γ Γ .v) := PEi (pe_glob hg hm hr hdb) fun _ _ _ h => tM_k hd h
end
end Mi

/-! Comprehensions with two for. -/
namespace Mi
open PySem PySem.Spec L2
open PyProof.Rows hiding St

@[irreducible] def sq : Nat := 4096
theorem sq_lim : sq * sq = lim := by unfold sq lim; rfl
def compL2 (g : GS) (c : Option ES) (it1 : IS) (g1 : GS) (c1 : Option ES) (e : ES) (vs vs1 : List Nat) : List PV → Env → Res (List PV × Env)
  | [], ρ => .ok ([], ρ)
  | p :: ps, ρ => g p ρ >>= fun ρ1 => cnd c ρ1 >>= fun k => if k.1 = true then it1 k.2 >>= fun q => if q.1.length ≤ sq then compL g1 c1 e vs1 q.1 (wipeE q.2 vs1) >>= fun y => compL2 g c it1 g1 c1 e vs vs1 ps (wipeE y.2 vs) >>= fun r => .ok (y.1 ++ r.1, r.2) else .stuck
      else compL2 g c it1 g1 c1 e vs vs1 ps (wipeE k.2 vs)
def eComp2 (g : GS) (c : Option ES) (it1 : IS) (g1 : GS) (c1 : Option ES) (e : ES) (vs vs1 : List Nat) (it : IS) : ES := fun ρ => it ρ >>= fun r => if r.1.length ≤ sq then (compL2 g c it1 g1 c1 e vs vs1 r.1 (wipeE r.2 vs)).nox >>= fun q => .ok (.lst q.1, backE r.2 q.2 vs) else .stuck

section
variable {C : Cn} {Z Z1 Z2 Z' : Addr → Prop} {H H1 H2 H' : Hp} {A A1 A2 B A' : List Addr} {σ : L2.St} {Γ Γ1 Γ2 Γ3 Γ' : List Ty} {ρ : Env} {t : Ty} {W : WX} {X : Cx} {a b c : Expr} {fa fb fc : ES} {pos : Pos}
theorem drop_cons {α : Type} {l : List α} {i : Nat} {p : α} (hp : l[i]? = some p) : l.drop i = p :: l.drop (i + 1) := by
  obtain ⟨hlt, e⟩ := List.getElem?_eq_some_iff.mp hp
  rw [List.drop_eq_getElem_cons hlt, e]
theorem wipe_sub {vs vs1 : List Nat} (hs : ∀ i ∈ vs1, i ∈ vs) : L2.wipe (L2.wipe σ vs1) vs = L2.wipe σ vs := by
  induction vs1 with
  | nil => rfl
  | cons i vs1 ih =>
    show L2.wipe ((L2.wipe σ vs1).set i none) vs = _
    rw [wipe_set (hs i (by simp)), ih fun j hj => hs j (List.mem_cons_of_mem _ hj)]
theorem tM_lc2 {g g1 : GS} {co co1 : Option ES} {e : ES} {vs vs1 S S1 : List Nat} {it it1 : IS} (hnd : vs.Nodup) (hnd1 : vs1.Nodup) (hΓ : ∀ i ∈ vs, Γ[i]? = some .v) (hS : ∀ i ∈ S, i ∈ vs) (hS1 : ∀ i ∈ S1, i ∈ vs1) (hv : ∀ i ∈ vs1, i ∈ vs) {Q : VK}
    (h : tM C W (eComp2 g co it1 g1 co1 e vs vs1 it) Γ1 Γ (.l .v) σ H Q) : tLc2 (tI C W it Γ1 Γ) (tG C g S Γ Γ) (tCn C co Γ) (tI C noW it1 Γ Γ) (tG C g1 S1 Γ Γ) (tCn C co1 Γ) (tM C noW e Γ Γ .v) vs vs1 σ H Q := by
  obtain ⟨ρ, Z, A, pre, h⟩ := h
  refine ⟨ρ, Z, A, pre, h.bind.mono (fun r hr J H1 Z1 A1 p1 t1 wk => ?_) fun _ he => he⟩
  intro D hD
  by_cases hsq : r.1.length ≤ sq
  case neg => rw [if_neg hsq] at hr; exact hr.elim
  rw [if_pos hsq] at hr
  have hr := nox_to hr.bind
  have hDZ : ¬ Z1 D := fun z => by obtain ⟨o, e⟩ := p1.ok.2.2 D z; rw [hD] at e; cases e
  have hDA : D ∉ A1 := fun z => by obtain ⟨o, e, _⟩ := p1.rep.mut D z; rw [hD] at e; cases e
  have hΓ1 : ∀ i ∈ vs1, Γ[i]? = some .v := fun i hi => hΓ i (hv i hi)
  refine ⟨fun i m Hc => m = r.1.length - i ∧ i ≤ r.1.length ∧ ∃ (ρi : Env) (Zi : Addr → Prop) (Ai : List Addr) (vacc : List V) (pacc : List PV),
    RepS C Zi Hc (L2.wipe σ vs) Γ ρi Ai ∧ Okk Zi Hc (D :: Ai) ∧ Tr Z1 H1 A1 Zi Hc (D :: Ai) ∧ Hc D = some (.lst vacc) ∧ DenL C Zi Hc vacc pacc ∧ vacc.length ≤ i * sq ∧
    (compL2 g co it1 g1 co1 e vs vs1 (r.1.drop i) ρi).To (fun q => ∀ v H', PostE C Z H A σ Γ (.l .v) (.lst (pacc ++ q.1), backE r.2 q.2 vs) v H' → Q v H') (fun _ => False), ⟨r.1.length, by omega, Nat.zero_le _, wipeE r.2 vs, Z1, A1, [], [], ?_, ?_, ?_, upd_same, .nil, Nat.zero_le _, ?_⟩, ?_⟩
  · refine (p1.rep.wipe hΓ).stays ⟨fun _ z => z, fun a o e _ => upd_old hD a o e⟩ fun a ha => upd_ne fun z => hDA (z ▸ ha)
  · exact ⟨List.nodup_cons.mpr ⟨hDA, p1.ok.1⟩, fun a ha => by
      rcases List.mem_cons.mp ha with rfl | ha
      · exact hDZ
      · exact p1.ok.2.1 a ha, fun a z => let ⟨o, e⟩ := p1.ok.2.2 a z; ⟨o, upd_old hD a o e⟩⟩
  · exact ⟨fun a o e _ => upd_old hD a o e, fun a o e => ⟨o, upd_old hD a o e⟩, fun _ z => z, fun _ z => .inl z, fun a ha => by
      rcases List.mem_cons.mp ha with rfl | ha
      · exact .inr hD
      · exact .inl ha⟩
  · rw [List.drop_zero]
    exact hr.mono (fun q hq => by rw [List.nil_append]; exact hq) fun _ he => he
  · rintro i m Hc ⟨rfl, hi, ρi, Zi, Ai, vacc, pacc, rep, ok, tr, hDl, hd, hlen, hto⟩
    have st : Stays Z1 H1 Zi Hc := p1.stays tr
    obtain ⟨w1, w2⟩ := wk.ok Zi Hc st
    by_cases hlt : i < r.1.length
    · obtain ⟨p, hp⟩ : ∃ p, r.1[i]? = some p := ⟨r.1[i], by simp [hlt]⟩
      obtain ⟨go, yl⟩ := w1 i p hp
      refine .inr ⟨go, fun H' => i + 1 ≤ r.1.length ∧ ∃ (ρi : Env) (Zi : Addr → Prop) (Ai : List Addr) (vacc : List V) (pacc : List PV),
        RepS C Zi H' (L2.wipe σ vs) Γ ρi Ai ∧ Okk Zi H' (D :: Ai) ∧ Tr Z1 H1 A1 Zi H' (D :: Ai) ∧ H' D = some (.lst vacc) ∧ DenL C Zi H' vacc pacc ∧ vacc.length ≤ (i + 1) * sq ∧
        (compL2 g co it1 g1 co1 e vs vs1 (r.1.drop (i + 1)) ρi).To (fun q => ∀ v H', PostE C Z H A σ Γ (.l .v) (.lst (pacc ++ q.1), backE r.2 q.2 vs) v H' → Q v H') (fun _ => False), fun H' hN => ⟨r.1.length - (i + 1), by omega, rfl, hN⟩, fun x H' hy => ?_⟩
      obtain ⟨rfl, dx⟩ := yl x H' hy
      rw [drop_cons hp] at hto
      refine ⟨p, ρi, Zi, Ai, ⟨rep, Okk.right (A := [D]) ok⟩, dx, hto.bind.mono (fun ρ1 h1 σ2 A2 pre2 hA2 hw2 => ⟨(hw2 vs hS).trans (wipe_wipe hnd), ?_⟩) fun _ he => he⟩
      have hw : L2.wipe σ2 vs = L2.wipe σ vs := (hw2 vs hS).trans (wipe_wipe hnd)
      refine ⟨ρ1, Zi, A2, pre2, h1.bind.mono (fun k hk H3 Z3 A3 pre3 t3 => ?_) fun _ he => he⟩
      obtain ⟨tc3, hD3, hn3, hz3⟩ := Tr.cons ok hDl hA2 t3
      have d3 := hd.stays (pre2.stays t3)
      by_cases hk1 : k.1 = true
      · rw [if_pos hk1] at hk ⊢
        refine ⟨k.2, Z3, A3, pre3, hk.bind.mono (fun q hq J1 H4 Z4 A4 pre4 t4 wk1 => ?_) fun _ he => he.elim⟩
        by_cases hsq1 : q.1.length ≤ sq
        case neg => rw [if_neg hsq1] at hq; exact hq.elim
        rw [if_pos hsq1] at hq
        obtain ⟨tc4, hD4, hn4, hz4⟩ := Tr.cons (okk_cons' pre3.ok hn3 hz3) hD3 (fun _ h => h) t4
        have d4 := d3.stays (pre3.stays t4)
        have tr4 := tr.trans (tc3.trans tc4)
        refine ⟨fun j m1 Hc => m1 = q.1.length - j ∧ j ≤ q.1.length ∧ ∃ (ρj : Env) (Zj : Addr → Prop) (Aj : List Addr) (vac : List V) (pac : List PV),
          RepS C Zj Hc (L2.wipe σ2 vs1) Γ ρj Aj ∧ Okk Zj Hc (D :: Aj) ∧ Tr Z4 H4 (D :: A4) Zj Hc (D :: Aj) ∧ Hc D = some (.lst vac) ∧ DenL C Zj Hc vac pac ∧ vac.length ≤ i * sq + j ∧
          (compL g1 co1 e vs1 (q.1.drop j) ρj).To (fun y => (compL2 g co it1 g1 co1 e vs vs1 (r.1.drop (i + 1)) (wipeE y.2 vs)).To (fun z => ∀ v H', PostE C Z H A σ Γ (.l .v) (.lst (pac ++ (y.1 ++ z.1)), backE r.2 z.2 vs) v H' → Q v H') (fun _ => False)) (fun _ => False), ⟨q.1.length, by omega, Nat.zero_le _, wipeE q.2 vs1, Z4, A4, vacc, pacc, pre4.rep.wipe hΓ1, okk_cons' pre4.ok hn4 hz4, Tr.refl fun _ h => h, hD4, d4, by omega, ?_⟩, ?_⟩
        · rw [List.drop_zero]
          exact hq.bind.mono (fun y hy => (Res.To.bind hy).mono (fun z hz => hz) fun _ he => he) fun _ he => he
        · rintro j m1 Hc ⟨rfl, hj, ρj, Zj, Aj, vac, pac, repj, okj, trj, hDj, hdj, hlenj, htoj⟩
          have stj : Stays Z4 H4 Zj Hc := (show PreE C Z4 H4 σ2 Γ q.2 A4 from pre4).rep.mut |> fun hm => trj.stays (fun a ha => by
            rcases List.mem_cons.mp ha with rfl | ha
            · exact ⟨_, hD4, trivial⟩
            · exact hm a ha) (fun a ha => by
            rcases List.mem_cons.mp ha with rfl | ha
            · exact hz4
            · exact pre4.ok.2.1 a ha)
          obtain ⟨v1, v2⟩ := wk1.ok Zj Hc stj
          by_cases hlj : j < q.1.length
          · obtain ⟨pj, hpj⟩ : ∃ p, q.1[j]? = some p := ⟨q.1[j], by simp [hlj]⟩
            obtain ⟨goj, ylj⟩ := v1 j pj hpj
            refine .inr ⟨goj, fun H' => j + 1 ≤ q.1.length ∧ ∃ (ρj : Env) (Zj : Addr → Prop) (Aj : List Addr) (vac : List V) (pac : List PV),
              RepS C Zj H' (L2.wipe σ2 vs1) Γ ρj Aj ∧ Okk Zj H' (D :: Aj) ∧ Tr Z4 H4 (D :: A4) Zj H' (D :: Aj) ∧ H' D = some (.lst vac) ∧ DenL C Zj H' vac pac ∧ vac.length ≤ i * sq + (j + 1) ∧
              (compL g1 co1 e vs1 (q.1.drop (j + 1)) ρj).To (fun y => (compL2 g co it1 g1 co1 e vs vs1 (r.1.drop (i + 1)) (wipeE y.2 vs)).To (fun z => ∀ v H', PostE C Z H A σ Γ (.l .v) (.lst (pac ++ (y.1 ++ z.1)), backE r.2 z.2 vs) v H' → Q v H') (fun _ => False)) (fun _ => False), fun H' hN => ⟨q.1.length - (j + 1), by omega, rfl, hN⟩, fun xj H' hyj => ?_⟩
            obtain ⟨rfl, dxj⟩ := ylj xj H' hyj
            rw [drop_cons hpj] at htoj
            refine ⟨pj, ρj, Zj, Aj, ⟨repj, Okk.right (A := [D]) okj⟩, dxj, htoj.bind.mono (fun ρ5 h5 σ5 A5 pre5 hA5 hw5 => ⟨(hw5 vs1 hS1).trans (wipe_wipe hnd1), ?_⟩) fun _ he => he⟩
            have hwj : L2.wipe σ5 vs1 = L2.wipe σ2 vs1 := (hw5 vs1 hS1).trans (wipe_wipe hnd1)
            refine ⟨ρ5, Zj, A5, pre5, h5.bind.mono (fun k6 hk6 H6 Z6 A6 pre6 t6 => ?_) fun _ he => he⟩
            obtain ⟨tc6, hD6, hn6, hz6⟩ := Tr.cons okj hDj hA5 t6
            have d6 := hdj.stays (pre5.stays t6)
            by_cases hk7 : k6.1 = true
            · rw [if_pos hk7] at hk6 ⊢
              refine ⟨k6.2, Z6, A6, pre6, hk6.bind.mono (fun y hy v H7 p7 => ?_) fun _ he => he.elim⟩
              obtain ⟨Z7, A7, pre7, dv, t7⟩ := p7.pre
              obtain ⟨tc7, hD7, hn7, hz7⟩ := Tr.cons (okk_cons' pre6.ok hn6 hz6) hD6 (fun _ h => h) t7
              have d7 := d6.stays (pre6.stays t7)
              have su : Stays Z7 H7 Z7 (upd H7 D (.lst (vac ++ [v]))) := stays_upd hD7 trivial hz7
              have hbd : i * sq + j < lim := by
                rw [← sq_lim]
                have h1 : i + 1 ≤ sq := by omega
                have h2 : (i + 1) * sq ≤ sq * sq := Nat.mul_le_mul_right sq h1
                rw [Nat.add_mul, Nat.one_mul] at h2
                omega
              refine ⟨vac, hD7, by rw [← lim_eq]; omega, by omega, wipeE y.2 vs1, Z7, A7, vac ++ [v], pac ++ [y.1], ?_, okk_upd pre7.ok hn7 hz7, trj.trans (tc6.trans tc7).updD, upd_same, (d7.snoc dv).stays su, by rw [List.length_append]; simp; omega, ?_⟩
              · have q := pre7.rep.wipe hΓ1
                rw [hwj] at q
                exact q.stays su fun a ha => upd_ne fun z => hn7 (z ▸ ha)
              · refine hy.bind.mono (fun u hu => ?_) fun _ he => he
                have hu' : (compL2 g co it1 g1 co1 e vs vs1 (r.1.drop (i + 1)) (wipeE u.2 vs)).To (fun z => ∀ v H', PostE C Z H A σ Γ (.l .v) (.lst (pac ++ ((y.1 :: u.1) ++ z.1)), backE r.2 z.2 vs) v H' → Q v H') (fun _ => False) := hu
                refine hu'.mono (fun z hz => ?_) fun _ he => he
                have e : pac ++ [y.1] ++ (u.1 ++ z.1) = pac ++ ((y.1 :: u.1) ++ z.1) := by simp
                rw [e]; exact hz
            · rw [if_neg hk7] at hk6 ⊢
              refine ⟨by omega, wipeE k6.2 vs1, Z6, A6, vac, pac, ?_, okk_cons' pre6.ok hn6 hz6, trj.trans tc6, hD6, d6, by omega, hk6⟩
              have q := pre6.rep.wipe hΓ1
              rw [hwj] at q
              exact q
          · have ej : j = q.1.length := by omega
            subst ej
            rw [List.drop_length] at htoj
            have htoj : (compL2 g co it1 g1 co1 e vs vs1 (r.1.drop (i + 1)) (wipeE ρj vs)).To (fun z => ∀ v H', PostE C Z H A σ Γ (.l .v) (.lst (pac ++ ([] ++ z.1)), backE r.2 z.2 vs) v H' → Q v H') (fun _ => False) := htoj
            refine .inl ⟨v2, by omega, wipeE ρj vs, Zj, Aj, vac, pac, ?_, okj, tr4.trans trj, hDj, hdj, by rw [Nat.add_mul, Nat.one_mul]; omega, ?_⟩
            · have q := repj.wipe hΓ
              rw [wipe_sub hv, hw] at q
              exact q
            · refine htoj.mono (fun z hz => ?_) fun _ he => he
              rw [List.nil_append] at hz
              exact hz
      · rw [if_neg hk1] at hk ⊢
        refine ⟨by omega, wipeE k.2 vs, Z3, A3, vacc, pacc, ?_, okk_cons' pre3.ok hn3 hz3, tr.trans tc3, hD3, d3, by rw [Nat.add_mul]; omega, hk⟩
        have q := pre3.rep.wipe hΓ
        rw [hw] at q
        exact q
    · have e : i = r.1.length := by omega
      subst e
      refine .inl ⟨w2, ?_⟩
      rw [List.drop_length] at hto
      have hto : ∀ v H', PostE C Z H A σ Γ (.l .v) (.lst (pacc ++ []), backE r.2 ρi vs) v H' → Q v H' := hto
      rw [List.append_nil] at hto
      refine hto _ _ ⟨Zi, Ai, [D], RepS.restore hnd rep hΓ (fun j hj p hp => ?_), .l hDl hd.rep, ok.perm (List.perm_append_comm (l₁ := [D])), t1.trans (tr.sub fun a ha => ?_)⟩
      · obtain ⟨v, e, d⟩ := p1.val (hΓ j hj) hp
        exact ⟨v, e, d.stays st⟩
      · rcases List.mem_append.mp ha with ha | ha
        · exact List.mem_cons_of_mem _ ha
        · obtain rfl : a = D := by simpa using ha
          exact List.mem_cons_self
theorem sm_lc2 {elt tg iter tg1 iter1 : Expr} {ifs ifs1 : List Expr} {scope : Scope} {own : List (Str × Nat)} {vs1 : List Nat} {g g1 : GS} {S S1 : List Nat} {co co1 : Option ES} {e : ES} {it it1 : IS} (hc : X.calm = true) (hN : X.N.Nodup) (hi : PI X tg iter (tI C W it Γ1 Γ)) (ok : BlkOk X.N X.env.scope scope own)
    (hv : ∀ i ∈ vs1, i ∈ own.map (·.2))
    (hg : ∀ (s : Shared) (H : Hp) (D : Addr) (cl : List (Str × Addr)) (fp : List Addr), PG (X.blk s H scope (compEnvC scope cl D X.env) fp) tg (tG C g S Γ Γ))
    (ht : ∀ (s : Shared) (H : Hp) (D : Addr) (cl : List (Str × Addr)) (fp : List Addr), PTs (X.blk s H scope (compEnvC scope cl D X.env) fp) ifs (tCn C co Γ))
    (hi1 : ∀ (s : Shared) (H : Hp) (D : Addr) (cl : List (Str × Addr)) (fp : List Addr), PI (X.blk s H scope (compEnvC scope cl D X.env) fp) tg1 iter1 (tI C noW it1 Γ Γ))
    (hg1 : ∀ (s : Shared) (H : Hp) (D : Addr) (cl : List (Str × Addr)) (fp : List Addr), PG (X.blk s H scope (compEnvC scope cl D X.env) fp) tg1 (tG C g1 S1 Γ Γ))
    (ht1 : ∀ (s : Shared) (H : Hp) (D : Addr) (cl : List (Str × Addr)) (fp : List Addr), PTs (X.blk s H scope (compEnvC scope cl D X.env) fp) ifs1 (tCn C co1 Γ))
    (he : ∀ (s : Shared) (H : Hp) (D : Addr) (cl : List (Str × Addr)) (fp : List Addr), PE (X.blk s H scope (compEnvC scope cl D X.env) fp) elt (tM C noW e Γ Γ .v))
    (hnd : (own.map (·.2)).Nodup) (hnd1 : vs1.Nodup) (hΓ : ∀ i ∈ own.map (·.2), Γ[i]? = some .v) (hS : ∀ i ∈ S, i ∈ own.map (·.2)) (hS1 : ∀ i ∈ S1, i ∈ vs1) (hs : ∀ x, foldedSetIterable iter X.env x = pure x := by intro _; rfl) (hs1 : ∀ (env : PySem.Env) x, foldedSetIterable iter1 env x = pure x := by intro _ _; rfl) :
    PE X (.ListComp elt [⟨tg, iter, ifs, 0⟩, ⟨tg1, iter1, ifs1, 0⟩] scope pos) (tM C W (eComp2 g co it1 g1 co1 e (own.map (·.2)) vs1 it) Γ1 Γ (.l .v)) := PEi (pe_lc2 hc hN hi ok hv hg ht hi1 hg1 ht1 he hs hs1) fun _ _ _ h => tM_lc2 hnd hnd1 hΓ hS hS1 hv h
end
end Mi

/-! Dicts: made, written. -/
namespace Mi
open PySem PySem.Spec L2
open PyProof.Rows hiding St

def dgetI (kvs : List (PV × PV)) (k : Option NestedKey) : Option PV := (kvs.find? fun p => decide (p.1.nkey = k)).map (·.2)
def dgetP (kvs : List (PV × PV)) (k : PV) : Option PV := dgetI kvs k.nkey
def dput (kvs : List (PV × PV)) (k v : PV) : List (PV × PV) := if (dgetP kvs k).isSome then kvs.map fun p => if p.1.nkey = k.nkey then (p.1, v) else p else kvs ++ [(k, v)]
def depthOk (p : PV) : Bool := match p.nkey with
  | some k => decide (k.depth ≤ 8)
  | none => false
def keyOk (kvs : List (PV × PV)) (k : PV) : Bool := (k.isInt && kvs.all fun p => p.1.isInt) || (k.isTup && depthOk k && kvs.all fun p => p.1.isTup)
def putP : PV → PV → PV → Res PV
  | .dct kvs, k, v => if (keyOk kvs k && decide (kvs.length < lim)) = true then .ok (.dct (dput kvs k v)) else .stuck
  | _, _, _ => .stuck

section
variable {C : Cn} {Z Z1 Z2 Z' : Addr → Prop} {H H1 H2 H' : Hp} {A A1 A2 B A' : List Addr} {σ σ1 : L2.St} {Γ Γ1 Γ2 Γ3 Γ' : List Ty} {ρ : Env} {t tr : Ty} {W : WX} {X : Cx} {a b c : Expr} {fa fb fc fi fe : ES} {pos : Pos} {R : List (Nat × Ty)} {D : Ends} {r : Fl × Env}

/-! int keys -/
def RI (C : Cn) (Z : Addr → Prop) (H : Hp) (xs : List (Int × Value)) (kvs : List (PV × PV)) : Prop := Paired (fun x kv => kv.1 = .int x.1 ∧ ∃ v, RelV v x.2 ∧ Den C Z H v kv.2) xs kvs
theorem relV_int {v : V} {i : Int} {u : Value} (d : Den C Z H v (.int i)) (r : RelV v u) : ∃ t, u = .int i t := by
  cases d; exact r
theorem ri_of {prog : Program} {w : World} : ∀ {es : List DictEntry} {kvs : List (PV × PV)}, DenD C Z H es kvs → kvs.all (fun p => p.1.isInt) = true → ∃ xs, Pairs (intKind prog w) es xs ∧ RI C Z H xs kvs ∧ ∀ e ∈ es, ∃ k, (intKind prog w).is k e.key = true ∧ e.hash = (intKind prog w).hash k
  | _, _, .nil, _ => ⟨[], .nil, .nil, fun _ h => (nomatch h)⟩
  | _, _, .cons (e := e) h1 h2 h3 h4 h5 h6, ha => by
    simp only [List.all_cons, Bool.and_eq_true] at ha
    obtain ⟨xs, q1, q2, q3⟩ := ri_of (prog := prog) (w := w) h6 ha.2
    generalize hh : e.hash = hsh at h3
    cases h3 with
    | tup _ _ => simp [PV.isInt] at ha
    | int i =>
      obtain ⟨t, et⟩ := relV_int h2 h1
      have hi : (intKind prog w).is i e.key = true := by rw [et]; show Value.isInt i (.int i t) = true; simp [Value.isInt]
      refine ⟨(i, e.val) :: xs, .cons hi rfl q1, .cons ⟨rfl, _, h4, h5⟩ q2, fun e' he => ?_⟩
      rcases List.mem_cons.mp he with rfl | he
      · exact ⟨i, hi, hh⟩
      · exact q3 e' he
theorem ri_find {k : Int} : ∀ {xs : List (Int × Value)} {kvs : List (PV × PV)}, RI C Z H xs kvs → (valueAt xs k = none ∧ dgetP kvs (.int k) = none) ∨ ∃ u v q, valueAt xs k = some u ∧ dgetP kvs (.int k) = some q ∧ RelV v u ∧ Den C Z H v q
  | _, _, .nil => .inl ⟨rfl, rfl⟩
  | _, _, .cons (a := x) (b := kv) h1 h2 => by
    obtain ⟨e1, v, r, d⟩ := h1
    unfold valueAt dgetP dgetI
    by_cases hx : x.1 = k
    · refine .inr ⟨x.2, v, kv.2, ?_, ?_, r, d⟩
      · simp [hx]
      · simp [e1, PV.nkey, hx]
    · have n1 : ¬ (kv.1.nkey = (PV.int k).nkey) := by rw [e1]; simp [PV.nkey, hx]
      rw [List.find?_cons_of_neg (by simpa using hx), List.find?_cons_of_neg (by simpa using n1)]
      exact ri_find h2
theorem ri_put {k : Int} {xs : List (Int × Value)} {kvs : List (PV × PV)} {v : V} {u : Value} {q : PV} (h : RI C Z H xs kvs) (r : RelV v u) (d : Den C Z H v q) : RI C Z H (stored xs k u) (dput kvs (.int k) q) := by
  have hs : (xs.any fun kv => decide (kv.1 = k)) = (dgetP kvs (.int k)).isSome := by
    have e : (xs.any fun kv => decide (kv.1 = k)) = (valueAt xs k).isSome := by
      unfold valueAt
      rw [Option.isSome_map, Bool.eq_iff_iff, List.find?_isSome, List.any_eq_true]
    rw [e]
    rcases ri_find (k := k) h with ⟨a, b⟩ | ⟨_, _, _, a, b, _, _⟩ <;> rw [a, b] <;> rfl
  unfold stored dput
  rw [hs]
  by_cases hc : (dgetP kvs (.int k)).isSome = true
  · rw [if_pos hc, if_pos hc]
    clear hs hc
    induction h with
    | nil => exact .nil
    | cons h1 h2 ih =>
      rename_i x kv _ _
      obtain ⟨e1, v', r', d'⟩ := h1
      refine .cons ?_ ih
      by_cases hx : x.1 = k
      · have : kv.1.nkey = (PV.int k).nkey := by rw [e1, hx]
        dsimp only
        rw [if_pos hx, if_pos this]
        exact ⟨e1, v, r, d⟩
      · have : ¬ kv.1.nkey = (PV.int k).nkey := by rw [e1]; simp [PV.nkey, hx]
        dsimp only
        rw [if_neg hx, if_neg this]
        exact ⟨e1, v', r', d'⟩
  · rw [if_neg hc, if_neg hc]
    clear hs hc
    induction h with
    | nil => exact .cons ⟨rfl, v, r, d⟩ .nil
    | cons h1 h2 ih => exact .cons h1 ih
theorem ri_den {prog : Program} {w : World} : ∀ {es : List DictEntry} {xs : List (Int × Value)} {kvs : List (PV × PV)}, Pairs (intKind prog w) es xs → RI C Z H xs kvs → (∀ e ∈ es, ∃ k, (intKind prog w).is k e.key = true ∧ e.hash = (intKind prog w).hash k) → DenD C Z H es kvs
  | _, _, _, .nil, .nil, _ => .nil
  | _, _, _, .cons (e := e) (kv := kv) p1 p2 p3, .cons (b := pq) ⟨e1, v, r, d⟩ h2, k => by
    obtain ⟨k', q1, q2⟩ := k e (by simp)
    have ek : k' = kv.1 := (intKind prog w).inj _ _ _ q1 p1
    subst ek
    have hv : RelV (.int kv.1) e.key := by
      have q : Value.isInt kv.1 e.key = true := p1
      cases hk : e.key with
      | int i t =>
        rw [hk] at q
        have : i = kv.1 := by simpa [Value.isInt] using q
        rw [this]; exact ⟨t, rfl⟩
      | _ => rw [hk] at q; simp [Value.isInt] at q
    obtain ⟨p, q⟩ := pq
    dsimp only at e1
    subst e1
    exact .cons hv (.int _) (q2 ▸ .int _) (p2 ▸ r) d (ri_den p3 h2 fun e' he => k e' (by simp [he]))
theorem int_keys : ∀ {xs : List (Int × Value)} {kvs : List (PV × PV)}, RI C Z H xs kvs → kvs.map (fun p => p.1.nkey) = xs.map fun x => some (NestedKey.num x.1)
  | _, _, .nil => rfl
  | _, _, .cons ⟨e1, _⟩ h2 => by rw [List.map_cons, List.map_cons, int_keys h2, e1]; simp [PV.nkey]

/-! tuple keys -/
def RT (C : Cn) (Z : Addr → Prop) (H : Hp) (xs : List (NestedKey × Addr × Value)) (kvs : List (PV × PV)) : Prop := Paired (fun x kv => kv.1.nkey = some x.1 ∧ kv.1.isTup = true ∧ x.1.depth ≤ 8 ∧ Den C Z H (.ref x.2.1) kv.1 ∧ ∃ v, RelV v x.2.2 ∧ Den C Z H v kv.2) xs kvs
mutual
theorem nested_of {pins : List (Addr × Obj)} {s : Shared} (hX : Is C X) (I : L2.Inv X pins σ H s) : ∀ {v : V} {p : PV} {k : NestedKey} {u : Value}, Den C Z H v p → p.nkey = some k → RelV v u → NestedIs s.heap k u
  | _, _, _, _, .non, e, r => by simp [PV.nkey] at e; subst e; cases r; exact .none
  | _, _, _, _, .bl b, e, r => by simp [PV.nkey] at e; subst e; cases r; exact .bool rfl
  | _, _, _, _, .int i, e, r => by simp [PV.nkey] at e; subst e; obtain ⟨t, rfl⟩ := r; exact .int i t
  | _, _, _, _, .str x, e, r => by simp [PV.nkey] at e; subst e; obtain ⟨t, rfl⟩ := r; exact .text x t
  | _, _, _, _, .tup (ps := ps) h1 h2, e, r => by
    simp only [PV.nkey, Option.map_eq_some_iff] at e
    obtain ⟨ks, e, rfl⟩ := e
    cases r
    obtain ⟨its, rv, ⟨o, g1, g2, n, g3⟩, _⟩ := I.tuple (hX.K ▸ h1)
    exact .tup g1 g2 g3 (nested_all hX I h2 e rv)
  | _, _, _, _, .lst _ _, e, _ => by simp [PV.nkey] at e
  | _, _, _, _, .scr _ _, e, _ => by simp [PV.nkey] at e
  | _, _, _, _, .fn _, e, _ => by simp [PV.nkey] at e
  | _, _, _, _, .dct _ _ _ _, e, _ => by simp [PV.nkey] at e
  | _, _, _, _, .ins _ _ _ _, e, _ => by simp [PV.nkey] at e
theorem nested_all {pins : List (Addr × Obj)} {s : Shared} (hX : Is C X) (I : L2.Inv X pins σ H s) : ∀ {vs : List V} {ps : List PV} {ks : List NestedKey} {us : List Value}, DenL C Z H vs ps → PV.nkeys ps = some ks → Vals vs us → NestedAll s.heap ks us
  | _, _, _, _, .nil, e, r => by simp [PV.nkeys] at e; subst e; cases r; exact .nil
  | _, _, _, _, .cons (p := p) (ps := ps) h1 h2, e, r => by
    simp only [PV.nkeys] at e
    cases e1 : p.nkey with
    | none => rw [e1] at e; simp at e
    | some k =>
      cases e2 : PV.nkeys ps with
      | none => rw [e1, e2] at e; simp at e
      | some ks =>
        rw [e1, e2] at e
        simp at e
        subst e
        cases r with
        | cons r1 r2 => exact .cons (nested_of hX I h1 e1 r1) (nested_all hX I h2 e2 r2)
end
theorem tup_ref {v : V} {p : PV} (d : Den C Z H v p) (hp : p.isTup = true) : ∃ a, v = .ref a := by
  cases d <;> simp [PV.isTup] at hp
  exact ⟨_, rfl⟩
theorem rt_of {prog : Program} {w : World} (hw : C.w = w) : ∀ {es : List DictEntry} {kvs : List (PV × PV)}, DenD C Z H es kvs → kvs.all (fun p => p.1.isTup) = true → ∃ xs, es = xs.map (entryOfKey (nestedKind prog w)) ∧ RT C Z H xs kvs
  | _, _, .nil, _ => ⟨[], rfl, .nil⟩
  | _, _, .cons (e := e) (p := p) h1 h2 h3 h4 h5 h6, ha => by
    simp only [List.all_cons, Bool.and_eq_true] at ha
    obtain ⟨xs, q1, q2⟩ := rt_of (prog := prog) hw h6 ha.2
    obtain ⟨a, rfl⟩ := tup_ref h2 ha.1
    have h1 : e.key = .ref a := h1
    generalize hh : e.hash = hsh at h3
    cases h3 with
    | int i => simp [PV.isTup] at ha
    | tup hk hd =>
      rename_i k
      refine ⟨(k, a, e.val) :: xs, ?_, .cons ⟨hk, ha.1, hd, h2, _, h4, h5⟩ q2⟩
      rw [List.map_cons, q1]
      congr 1
      have : e = ⟨k.hash w, .ref a, e.val⟩ := by
        rw [← hw, ← hh, ← h1]
      exact this
theorem rt_is {pins : List (Addr × Obj)} {s : Shared} (hX : Is C X) (I : L2.Inv X pins σ H s) : ∀ {xs : List (NestedKey × Addr × Value)} {kvs : List (PV × PV)}, RT C Z H xs kvs → ∀ x ∈ xs, (nestedKind X.prog X.w).is s.heap x.1 x.2.1
  | _, _, .nil, _, h => by cases h
  | _, _, .cons ⟨h1, h2, h3, h4, h5⟩ hr, x, h => by
    rcases List.mem_cons.mp h with rfl | h
    · exact ⟨nested_of hX I h4 h1 rfl, h3⟩
    · exact rt_is hX I hr x h
theorem rt_keys : ∀ {xs : List (NestedKey × Addr × Value)} {kvs : List (PV × PV)}, RT C Z H xs kvs → kvs.map (fun p => p.1.nkey) = xs.map fun x => some x.1
  | _, _, .nil => rfl
  | _, _, .cons ⟨e1, _⟩ h2 => by rw [List.map_cons, List.map_cons, rt_keys h2, e1]
theorem rt_find {k : NestedKey} : ∀ {xs : List (NestedKey × Addr × Value)} {kvs : List (PV × PV)}, RT C Z H xs kvs → (atKey xs k = none ∧ dgetI kvs (some k) = none) ∨ ∃ a u v q, atKey xs k = some (a, u) ∧ dgetI kvs (some k) = some q ∧ RelV v u ∧ Den C Z H v q
  | _, _, .nil => .inl ⟨rfl, rfl⟩
  | _, _, .cons (a := x) (b := kv) ⟨e1, _, _, _, v, r, d⟩ h2 => by
    unfold atKey dgetI
    by_cases hx : x.1 = k
    · refine .inr ⟨x.2.1, x.2.2, v, kv.2, ?_, ?_, r, d⟩
      · simp [hx]
      · simp [e1, hx]
    · have n1 : ¬ (kv.1.nkey = some k) := by rw [e1]; simp [hx]
      rw [List.find?_cons_of_neg (by simpa using hx), List.find?_cons_of_neg (by simpa using n1)]
      exact rt_find h2
theorem rt_put {k : NestedKey} {p : PV} {xs : List (NestedKey × Addr × Value)} {kvs : List (PV × PV)} {a : Addr} {v : V} {u : Value} {q : PV} (h : RT C Z H xs kvs) (hk : p.nkey = some k) (ht : p.isTup = true) (hd : k.depth ≤ 8) (hp : Den C Z H (.ref a) p) (r : RelV v u) (d : Den C Z H v q) : RT C Z H (storedH xs k a u) (dput kvs p q) := by
  have hs : (atKey xs k).isSome = (dgetP kvs p).isSome := by
    unfold dgetP
    rw [hk]
    rcases rt_find (k := k) h with ⟨a, b⟩ | ⟨_, _, _, _, a, b, _, _⟩ <;> rw [a, b] <;> rfl
  unfold storedH dput
  rw [hs, hk]
  by_cases hc : (dgetP kvs p).isSome = true
  · rw [if_pos hc, if_pos hc]
    clear hs hc
    induction h with
    | nil => exact .nil
    | cons h1 h2 ih =>
      rename_i x kv _ _
      refine .cons ?_ ih
      obtain ⟨e1, e2, e3, e4, v', r', d'⟩ := h1
      unfold putAt
      by_cases hx : x.1 = k
      · have : kv.1.nkey = some k := by rw [e1, hx]
        dsimp only
        rw [if_pos hx, if_pos this]
        exact ⟨e1, e2, e3, e4, v, r, d⟩
      · have : ¬ kv.1.nkey = some k := by rw [e1]; simp [hx]
        dsimp only
        rw [if_neg hx, if_neg this]
        exact ⟨e1, e2, e3, e4, v', r', d'⟩
  · rw [if_neg hc, if_neg hc]
    clear hs hc
    induction h with
    | nil => exact .cons ⟨hk, ht, hd, hp, v, r, d⟩ .nil
    | cons h1 h2 ih => exact .cons h1 ih
theorem rt_den {prog : Program} {w : World} (hw : C.w = w) : ∀ {xs : List (NestedKey × Addr × Value)} {kvs : List (PV × PV)}, RT C Z H xs kvs → DenD C Z H (xs.map (entryOfKey (nestedKind prog w))) kvs
  | _, _, .nil => .nil
  | _, _, .cons (a := x) (b := (p, q)) ⟨e1, e2, e3, e4, v, r, d⟩ h2 => by
    refine .cons (k := .ref x.2.1) (v := v) rfl e4 ?_ r d (rt_den hw h2)
    have ht : ∃ ps, p = .tup ps := by
      cases p <;> simp [PV.isTup] at e2
      exact ⟨_, rfl⟩
    obtain ⟨ps, rfl⟩ := ht
    show KeyAs C.w _ (NestedKey.hash w x.1)
    rw [← hw]
    exact .tup e1 e3

/-! which kind -/
theorem keyOk_cases {kvs : List (PV × PV)} {k : PV} (h : keyOk kvs k = true) : (∃ i, k = .int i ∧ kvs.all (fun p => p.1.isInt) = true) ∨ (k.isTup = true ∧ ∃ n, k.nkey = some n ∧ n.depth ≤ 8) ∧ kvs.all (fun p => p.1.isTup) = true := by
  unfold keyOk at h
  simp only [Bool.or_eq_true, Bool.and_eq_true] at h
  rcases h with ⟨h1, h2⟩ | ⟨⟨h1, h2⟩, h3⟩
  · cases k <;> simp [PV.isInt] at h1
    exact .inl ⟨_, rfl, h2⟩
  · refine .inr ⟨⟨h1, ?_⟩, h3⟩
    unfold depthOk at h2
    split at h2
    · rename_i n e
      exact ⟨n, e, by simpa using h2⟩
    · cases h2
theorem oneKind_nd {kvs : List (PV × PV)} (h : oneKind kvs = true) : (kvs.map fun p => p.1.nkey).Nodup := by
  unfold oneKind at h
  simp only [Bool.and_eq_true, decide_eq_true_eq] at h
  exact h.2
theorem dput_keys {kvs : List (PV × PV)} {k v : PV} : (dput kvs k v).map (·.1) = if (dgetP kvs k).isSome then kvs.map (·.1) else kvs.map (·.1) ++ [k] := by
  unfold dput
  by_cases hc : (dgetP kvs k).isSome = true
  · rw [if_pos hc, if_pos hc, List.map_map]
    apply List.map_congr_left
    intro p _
    simp only [Function.comp]
    split <;> rfl
  · rw [if_neg hc, if_neg hc, List.map_append]
    rfl
theorem dgetP_none {kvs : List (PV × PV)} {k : PV} (h : (dgetP kvs k).isSome ≠ true) : k.nkey ∉ kvs.map fun p => p.1.nkey := by
  intro hm
  obtain ⟨p, hp, e⟩ := List.mem_map.mp hm
  apply h
  unfold dgetP dgetI
  rw [Option.isSome_map, List.find?_isSome]
  exact ⟨p, hp, by simp [e]⟩
theorem dput_kind {kvs : List (PV × PV)} {k v : PV} (h : oneKind kvs = true) (hk : keyOk kvs k = true) : oneKind (dput kvs k v) = true := by
  have e1 : ∀ (P : PV → Bool) (l : List (PV × PV)), (l.all fun p => P p.1) = ((l.map (·.1)).all P) := fun P l => by rw [List.all_map]; rfl
  have e2 : ∀ (l : List (PV × PV)), (l.map fun p => p.1.nkey) = (l.map (·.1)).map PV.nkey := fun l => by rw [List.map_map]; rfl
  have nd := oneKind_nd h
  unfold oneKind at h ⊢
  rw [e1 PV.isInt, e1 PV.isTup, e2, dput_keys]
  by_cases hc : (dgetP kvs k).isSome = true
  · rw [if_pos hc, ← e1 PV.isInt, ← e1 PV.isTup, ← e2]
    exact h
  · rw [if_neg hc]
    have nn := dgetP_none hc
    rw [e2] at nn nd
    simp only [List.all_append, List.map_append, Bool.and_eq_true, Bool.or_eq_true, decide_eq_true_eq]
    refine ⟨?_, ?_⟩
    · rcases keyOk_cases hk with ⟨i, rfl, ha⟩ | ⟨⟨ht, _⟩, ha⟩
      · rw [e1 PV.isInt] at ha
        exact .inl ⟨ha, rfl⟩
      · rw [e1 PV.isTup] at ha
        exact .inr ⟨ha, by simp [ht]⟩
    · refine List.nodup_append.mpr ⟨nd, by simp, fun a ha b hb e => ?_⟩
      simp at hb
      subst hb
      subst e
      exact nn ha

/-! in the heap -/
theorem nd_of_map {α β : Type} {f : α → β} {l : List α} (h : (l.map f).Nodup) : l.Nodup := (List.pairwise_map.mp h).imp fun h e => h (congrArg f e)
theorem RepD.own0 : ∀ {es : List DictEntry} {kvs : List (PV × PV)} {A : List Addr}, RepD C Z H .v es kvs A → A = []
  | _, _, _, .nil => rfl
  | _, _, _, .cons _ _ _ _ (.v _) h => by rw [RepD.own0 h]; rfl
theorem DenD.rep : ∀ {es : List DictEntry} {kvs : List (PV × PV)}, DenD C Z H es kvs → RepD C Z H .v es kvs []
  | _, _, .nil => .nil
  | _, _, .cons h1 h2 h3 h4 h5 h6 => .cons (A := []) (B := []) h1 h2 h3 h4 (.v h5) (DenD.rep h6)
theorem inv_dict {pins : List (Addr × Obj)} {s : Shared} {a : Addr} {es : Array DictEntry} (I : L2.Inv X pins σ H s) (h : H a = some (DictAt a es)) : (a == sysModules) = false ∧ ∃ o ep, s.heap.get? a = some o ∧ o.ExactDict ∧ o.data = .dict es ep := by
  have q := I.hok a _ h
  exact q.1
theorem objOk_dict {P : Program} {w : World} {h : Heap} {a : Addr} {o : Obj} {es : Array DictEntry} {ep : Nat} (h1 : (a == sysModules) = false) (h2 : h.get? a = some o) (h3 : o.ExactDict) (h4 : o.data = .dict es ep) : ObjOk P w H h a (DictAt a es) :=
  ⟨⟨h1, o, ep, h2, h3, h4⟩, ⟨o, h2⟩, fun q1 q2 ⟨e1, o', ep', e2, e3, e4⟩ k => ⟨e1, o', ep', k o' e2, e3, e4⟩⟩
theorem dictOf_of {pins : List (Addr × Obj)} {s : Shared} {a : Addr} {es : Array DictEntry} {kvs : List (PV × PV)} (I : L2.Inv X pins σ H s) (h : H a = some (DictAt a es)) (d : DenD C Z H es.toList kvs) (hk : oneKind kvs = true) (ha : kvs.all (fun p => p.1.isInt) = true) :
    ∃ xs, RI C Z H xs kvs ∧ Heap.DictOf (PySem.intKind X.prog X.w) s.heap a xs := by
  obtain ⟨xs, q1, q2, q3⟩ := ri_of (prog := X.prog) (w := X.w) d ha
  obtain ⟨_, o, ep, g1, g2, g3⟩ := inv_dict I h
  have nd := oneKind_nd hk
  rw [int_keys q2] at nd
  refine ⟨xs, q2, o, es, ep, g1, g2, g3, fun e he => q3 e (by simpa using he), q1, ?_⟩
  have e : (xs.map fun x => some (NestedKey.num x.1)) = (xs.map (·.1)).map fun i => some (NestedKey.num i) := by rw [List.map_map]; rfl
  rw [e] at nd
  exact nd_of_map nd
theorem dictH_of {pins : List (Addr × Obj)} {s : Shared} {a : Addr} {es : Array DictEntry} {kvs : List (PV × PV)} (hX : Is C X) (I : L2.Inv X pins σ H s) (h : H a = some (DictAt a es)) (d : DenD C Z H es.toList kvs) (hk : oneKind kvs = true) (ha : kvs.all (fun p => p.1.isTup) = true) :
    ∃ xs, RT C Z H xs kvs ∧ es.toList = xs.map (entryOfKey (nestedKind X.prog X.w)) ∧ Heap.DictOfH (nestedKind X.prog X.w) s.heap a xs := by
  obtain ⟨xs, q1, q2⟩ := rt_of (prog := X.prog) hX.w.symm d ha
  obtain ⟨_, o, ep, g1, g2, g3⟩ := inv_dict I h
  have nd := oneKind_nd hk
  rw [rt_keys q2] at nd
  refine ⟨xs, q2, q1, o, es, ep, g1, g2, g3, q1, rt_is hX I q2, ?_⟩
  have e : (xs.map fun x => some x.1) = (xs.map (·.1)).map some := by rw [List.map_map]; rfl
  rw [e] at nd
  exact nd_of_map nd
theorem paired_len {α β : Type} {F : α → β → Prop} : ∀ {l : List α} {m : List β}, Paired F l m → l.length = m.length
  | _, _, .nil => rfl
  | _, _, .cons _ h => by simp [paired_len h]
/-- d[k] = v -/
def tPutD (C : Cn) : TSet := fun o i v H Q => ∃ (Z : Addr → Prop) (a : Addr) (es : Array DictEntry) (kvs : List (PV × PV)) (p q : PV), o = .ref a ∧ H a = some (DictAt a es) ∧ DenD C Z H es.toList kvs ∧ oneKind kvs = true ∧ Den C Z H i p ∧ Den C Z H v q ∧ keyOk kvs p = true ∧ kvs.length < lim ∧
  ∀ es' : Array DictEntry, DenD C Z H es'.toList (dput kvs p q) → Q (upd H a (DictAt a es'))
theorem set_dictA (hX : Is C X) (hu : X.A.in1.units + 8 < cLine) : PSet X (tPutD C) := fun pins s σ H o i v ov iv u Q I ro ri rv h => by
  obtain ⟨Z, a, es, kvs, p, q, rfl, ha, hd, hk, di, dv, ok, hl, fin⟩ := h
  cases ro
  obtain ⟨ns, _, _, g1, _, _⟩ := inv_dict I ha
  have key : ∀ (h' : Heap) (t : Nat) (o : Obj) (es' : Array DictEntry) (ep : Nat), Heap.SameBut a s.heap h' → h'.get? a = some o → o.ExactDict → o.data = .dict es' ep → DenD C Z H es'.toList (dput kvs p q) →
      ∃ H', L2.Inv X pins σ H' { s with heap := h', toks := t } ∧ Q H' := fun h' t o es' ep sb e1 e2 e3 hd' =>
    ⟨_, d_write I (by rw [ha]; trivial) sb ⟨o, e1⟩ (objOk_dict ns e1 e2 e3), fin es' hd'⟩
  rcases keyOk_cases ok with ⟨k, rfl, hall⟩ | ⟨⟨ht, n, hn, hdp⟩, hall⟩
  · obtain ⟨xs, rx, hdo⟩ := dictOf_of I ha hd hk hall
    obtain ⟨t, rfl⟩ := relV_int di ri
    refine wpAny_setItem_pairs (knd := PySem.intKind X.prog X.w) (k := k) (by show Value.isInt k (.int k t) = true; simp [Value.isInt]) hdo (fun h' hd' sb => ?_) (by rw [paired_len rx, ← lim_eq]; omega)
    obtain ⟨o, es', ep, e1, e2, e3, e4, e5, e6⟩ := hd'
    exact key h' _ o es' ep sb e1 e2 e3 (ri_den e5 (ri_put rx rv dv) fun e he => e4 e (by simpa using he))
  · obtain ⟨xs, rt, _, hdo⟩ := dictH_of hX I ha hd hk hall
    obtain ⟨b, rfl⟩ := tup_ref di ht
    cases ri
    refine wpAny_setItem_heap (knd := nestedKind X.prog X.w) (k := n) hu ⟨nested_of hX I di hn rfl, hdp⟩ hdo (fun h' hd' sb => ?_) (by rw [paired_len rt, ← lim_eq]; omega)
    obtain ⟨o, es', ep, e1, e2, e3, e4, e5, e6⟩ := hd'
    exact key h' _ o es' ep sb e1 e2 e3 (by rw [e4]; exact rt_den hX.w.symm (rt_put rt hn ht hdp di rv dv))
/-- our own dict of values in slot k gets other values -/
theorem PreE.dctSet {k : Nat} {kvs kvs' : List (PV × PV)} (pre : PreE C Z H σ Γ ρ A) (hΓ : Γ[k]? = some (.d .v)) (hk : ρ[k]? = some (some (.dct kvs))) : ∃ a es, σ[k]? = some (some (.ref a)) ∧ H a = some (DictAt a es) ∧ DenD C Z H es.toList kvs ∧ oneKind kvs = true ∧
    ∀ es', DenD C Z H es'.toList kvs' → oneKind kvs' = true → ∃ A', PreE C Z (upd H a (DictAt a es')) σ Γ (ρ.set k (some (.dct kvs'))) A' ∧ Tr Z H A Z (upd H a (DictAt a es')) A' := by
  obtain ⟨v, B, e1, rp, sub, ok, fin⟩ := pre.own hΓ hk
  cases rp with
  | @d t' a es _ A' ha hu ho =>
    have hu2 := hu.den
    have eA : A' = [] := hu.own0
    subst eA
    refine ⟨a, es, e1, ha, hu2, ho, fun es' hw ho' => ?_⟩
    have nz : ¬ Z a := ok.2.1 a (by simp)
    have st : Stays Z H Z (upd H a (DictAt a es')) := stays_upd ha trivial nz
    obtain ⟨A2, s1, s2, s3⟩ := fin Z (upd H a (DictAt a es')) [a] [] (.d .v) (.dct kvs') ⟨fun b o e n => by rw [upd_ne (by simpa using n)]; exact e, fun b o e => by
      by_cases hb : b = a
      · subst hb; exact ⟨_, upd_same⟩
      · rw [upd_ne hb]; exact ⟨o, e⟩, fun _ z => z, fun _ z => .inl z, fun b hb => .inl (by simpa using hb)⟩ (by
        refine ⟨by simp, fun b hb => by simp at hb; subst hb; exact nz, fun b z => ?_⟩
        by_cases hb : b = a
        · subst hb; exact ⟨_, upd_same⟩
        · rw [upd_ne hb]; exact ok.2.2 b z) (.d (A := []) upd_same (hw.stays st).rep ho')
    rw [set_get_same hΓ] at s1
    rw [List.append_nil] at s2 s3
    exact ⟨A2, ⟨s1, s2⟩, s3⟩
theorem putP_to {l i z : PV} {Q : PV → Prop} {E : Exc → Prop} (h : (putP l i z).To Q E) : ∃ kvs, l = .dct kvs ∧ keyOk kvs i = true ∧ kvs.length < lim ∧ Q (.dct (dput kvs i z)) := by
  unfold putP at h
  split at h
  · split at h
    · rename_i kvs hc
      simp only [Bool.and_eq_true, decide_eq_true_eq] at hc
      exact ⟨_, rfl, hc.1, hc.2, h⟩
    · exact h.elim
  · exact h.elim
/-- x[i] = e, x our own dict in slot k -/
def sSetD (k : Nat) (fi fe : ES) : SS := fun ρ => fe ρ >>= fun e => eVar k e.2 >>= fun _ => fi e.2 >>= fun i => eVar k i.2 >>= fun l => putP l.1 i.1 e.1 >>= fun z => .ok (.next, i.2.set k (some z))
theorem ss_setD {k : Nat} {x : Str} {p p2 : Pos} (hX : Is C X) (hu : X.A.in1.units + 8 < cLine) (hN : X.N[k]? = some x) (hv : Vis X.env.scope x) (ha : PE X a (tM C W fe Γ Γ1 .v)) (hb : PE X b (tM C W fi Γ1 Γ2 .v)) (h1 : Γ1[k]? = some (.d .v)) (h2 : Γ2[k]? = some (.d .v))
    (hsub : ∀ v, assign (.Subscript (.Name x p) b p2) X.env v = (do let ov ← holding [v] (eval (.Name x p) X.env); let iv ← holding [v, ov] (eval b X.env); standAt p2; holding [v, ov, iv] (setItem ov iv v); release [v, ov, iv] []) := by intro _; rfl)
    (hs1 : swapsWithSole [.Subscript (.Name x p) b p2] a pos.line X.env = pure false := by rfl) (hs2 : swappedStores [.Subscript (.Name x p) b p2] a X.env = pure none := by rfl) (hs3 : List.map (·.2) (assignEach [.Subscript (.Name x p) b p2] X.env) = [assign (.Subscript (.Name x p) b p2) X.env] := by rfl)
    (hd : (x == ("__debug__" : Str)) = false := by decide) (hcd : (x == ("__classdict__" : Str)) = false := by decide) :
    PS X (.Assign [.Subscript (.Name x p) b p2] a pos) (tS C W R tr (sSetD k fi fe) Γ Γ2) :=
  PSi (ps_asg ha (pg_sub (pe_var hN hv hd hcd) hb (set_dictA hX hu) hsub) hs1 hs2 hs3) fun D σ H ⟨ρ, Z, A, pre, h⟩ => by
    refine ⟨ρ, Z, A, pre, h.bind.mono (fun r1 hr v H1 hp => ?_) fun e he => he.tM⟩
    obtain ⟨Z1, A1, p1, d1, t1⟩ := hp.pre
    obtain ⟨q0, hq0, hr⟩ := eVar_ok hr.bind
    obtain ⟨ov, _, e0, _, _, _, _⟩ := p1.own h1 hq0
    refine ⟨ov, e0, r1.2, Z1, A1, p1, (Res.To.bind hr).mono (fun r2 hr2 i H2 hp2 => ?_) fun e he cls d H' px => he.tM cls d H' (px.comp t1)⟩
    obtain ⟨Z2, A2, p2, d2, t2⟩ := hp2.pre
    obtain ⟨q1, hq1, hr2⟩ := eVar_ok hr2.bind
    obtain ⟨kvs, el, ok, hl, fin⟩ := putP_to (Res.To.bind hr2)
    dsimp only at el
    subst el
    obtain ⟨a, es, e1, ha, hu, hk, mk⟩ := p2.dctSet h2 hq1 (kvs' := dput kvs r2.1 r1.1)
    rw [e0] at e1; cases e1
    refine ⟨Z2, a, es, kvs, r2.1, r1.1, rfl, ha, hu, hk, d2, d1.stays (p1.stays t2), ok, hl, fun es' hes => ?_⟩
    obtain ⟨A3, p3, t3⟩ := mk es' hes (dput_kind hk ok)
    exact fin σ _ Z2 A3 p3 ((t1.trans t2).trans t3) .refl

/-! {} -/
theorem sm_dnew : PE X (.Dict [] [] pos) (tM C W (eK (.dct [])) Γ Γ (.d .v)) := ⟨fun pins s σ H Q I ⟨ρ, Z, A, pre, h⟩ => by
  refine thn (pe_dnewK.run pins s σ H (fun v H1 => ∃ p, v = .ref p ∧ H p = none ∧ H1 = upd H p (.dK [])) I fun p hp => ⟨p, rfl, hp, rfl⟩) fun u s1 ⟨v, H1, I1, r1, p, e1, hp, e2⟩ => ?_
  subst e1 e2
  obtain ⟨_, ns, vs, kv, o, es, ep, g1, g2, g3, _, g4, _⟩ := dk_of I1.hok (upd_same : upd H p (.dK []) p = _)
  cases kv
  have ee : es = #[] := by
    generalize hh : es.toList = l at g4
    cases g4
    simpa using hh
  subst ee
  have hne : ∀ {o o' : HO}, upd (upd H p o) p o' = upd H p o' := by
    intro o o'
    funext b
    by_cases hb : b = p
    · subst hb; rw [upd_same, upd_same]
    · rw [upd_ne hb, upd_ne hb, upd_ne hb]
  have I2 := d_write (t' := s1.toks) (ob := DictAt p #[]) I1 (by rw [upd_same]; trivial) ⟨rfl, fun _ _ => rfl⟩ ⟨o, g1⟩ (objOk_dict ns g1 g2 g3)
  rw [hne] at I2
  have nz : ¬ Z p := fun z => by obtain ⟨o, e⟩ := pre.ok.2.2 p z; rw [hp] at e; cases e
  refine ⟨_, _, I2, r1, h _ _ (NewT.post (t := .d .v) pre ⟨Z, [p], upd_old hp, fun _ z => z, fun _ z => .inl z, by simp, fun b hb => ?_, fun b z => let ⟨o, e⟩ := pre.ok.2.2 b z; ⟨o, upd_old hp b o e⟩, .d (A := []) upd_same .nil (by rfl)⟩)⟩
  obtain rfl : b = p := by simpa using hb
  exact ⟨hp, nz⟩⟩
end
end Mi

/-! len, sorted of dicts. -/
namespace Mi
open PySem PySem.Spec L2
open PyProof.Rows hiding St

def lenD (p : PV) : Res PV := match p with
  | .dct kvs => if kvs.length < lim then .ok (.int kvs.length) else .stuck
  | _ => .stuck
/-- sorted: keys of a dict; all are keys -/
def keysOk (ps : List PV) : Bool := ps.all fun p => depthOk p
def sortedD (p : PV) : Res PV := match p with
  | .dct kvs => if (decide (kvs.length ≤ lim) && sortOk (kvs.map (·.1)) && keysOk (kvs.map (·.1))) = true then .ok (.lst ((kvs.map (·.1)).mergeSort leD)) else .stuck
  | _ => .stuck
section
variable {C : Cn} {Z Z1 Z2 Z' : Addr → Prop} {H H1 H2 H' : Hp} {A A1 A2 B A' : List Addr} {σ σ1 : L2.St} {Γ Γ1 Γ2 Γ3 Γ' : List Ty} {ρ : Env} {t tr : Ty} {W : WX} {X : Cx} {a b c : Expr} {fa fb fc fi fe : ES} {pos : Pos} {R : List (Nat × Ty)} {D : Ends} {r : Fl × Env}
theorem oneKind_cases {kvs : List (PV × PV)} (h : oneKind kvs = true) : kvs.all (fun p => p.1.isInt) = true ∨ kvs.all (fun p => p.1.isTup) = true := by
  unfold oneKind at h
  simp only [Bool.and_eq_true, Bool.or_eq_true] at h
  exact h.1
def rLenD (C : Cn) : List V → Hp → VK → Prop := fun xs H Q => ∃ (Z : Addr → Prop) (a : Addr) (es : Array DictEntry) (kvs : List (PV × PV)), xs = [.ref a] ∧ H a = some (DictAt a es) ∧ DenD C Z H es.toList kvs ∧ oneKind kvs = true ∧ kvs.length < lim ∧ Q (.int kvs.length) H
theorem cr_lenD (hX : Is C X) : CallR X (.builtin "len") (rLenD C) := fun pins s σ H xs us Q I r h => by
  obtain ⟨Z, a, es, kvs, rfl, ha, hd, hk, hl, q⟩ := h
  rw [Vals.ref1 r]
  obtain ⟨ns, _⟩ := inv_dict I ha
  have hl2 : ((kvs.length : Nat) : Int) < 2 ^ 63 := by unfold lim at hl; omega
  rcases oneKind_cases hk with hall | hall
  · obtain ⟨xs, rx, hdo⟩ := dictOf_of I ha hd hk hall
    exact PySem.call_len_dict ns hdo (by rw [paired_len rx]; exact hl2) ⟨.int kvs.length, _, I.tok _, ⟨_, by rw [paired_len rx]⟩, q⟩
  · obtain ⟨xs, rt, _, hdo⟩ := dictH_of hX I ha hd hk hall
    exact PySem.call_len_dictH ns hdo (by rw [paired_len rt]; exact hl2) ⟨.int kvs.length, _, I.tok _, ⟨_, by rw [paired_len rt]⟩, q⟩
theorem Obs.toDct {v : V} {kvs : List (PV × PV)} (h : Obs C Z H v (.dct kvs)) : ∃ a es, v = .ref a ∧ H a = some (DictAt a es) ∧ DenD C Z H es.toList kvs ∧ oneKind kvs = true := by
  cases h with
  | den d => cases d with
    | dct h1 h2 h3 h4 => exact ⟨_, _, rfl, h2, h3, h4⟩
  | dct h1 h2 h3 => exact ⟨_, _, rfl, h1, h2, h3⟩
theorem o_lenD : Op1 C lenD (rC1 (rLenD C)) .v := fun Z H x p Q hz hp hf => by
  unfold lenD at hf
  split at hf
  · split at hf
    · rename_i kvs hl
      obtain ⟨a, es, rfl, h1, h2, h3⟩ := hp.toDct
      exact ⟨Z, a, es, kvs, rfl, h1, h2, h3, hl, hf _ _ (.same hz (.int _))⟩
    · exact hf.elim
  · exact hf.elim

/-! what a key reads as -/
mutual
theorem reads_of {pins : List (Addr × Obj)} {s : Shared} (hX : Is C X) (I : L2.Inv X pins σ H s) : ∀ {v : V} {p : PV} {k : NestedKey} {u : Value}, Den C Z H v p → p.nkey = some k → RelV v u → ∃ d, p.data = some d ∧ Reads s.heap u d []
  | _, _, _, _, .non, e, r => by cases r; exact ⟨_, rfl, .none⟩
  | _, _, _, _, .bl b, e, r => by cases r; exact ⟨_, rfl, .bool b⟩
  | _, _, _, _, .int i, e, r => by obtain ⟨t, rfl⟩ := r; exact ⟨_, rfl, .int i t⟩
  | _, _, _, _, .str x, e, r => by obtain ⟨t, rfl⟩ := r; exact ⟨_, rfl, .str x t⟩
  | _, _, _, _, .tup (ps := ps) h1 h2, e, r => by
    simp only [PV.nkey, Option.map_eq_some_iff] at e
    obtain ⟨ks, e, rfl⟩ := e
    cases r
    obtain ⟨its, rv, ⟨o, g1, g2, n, g3⟩, _⟩ := I.tuple (hX.K ▸ h1)
    obtain ⟨ds, e1, e2⟩ := reads_all hX I h2 e rv
    exact ⟨.tuple ds, by simp [PV.data, e1], .tuple g1 g2 g3 e2⟩
  | _, _, _, _, .lst _ _, e, _ => by simp [PV.nkey] at e
  | _, _, _, _, .scr _ _, e, _ => by simp [PV.nkey] at e
  | _, _, _, _, .fn _, e, _ => by simp [PV.nkey] at e
  | _, _, _, _, .dct _ _ _ _, e, _ => by simp [PV.nkey] at e
  | _, _, _, _, .ins _ _ _ _, e, _ => by simp [PV.nkey] at e
theorem reads_all {pins : List (Addr × Obj)} {s : Shared} (hX : Is C X) (I : L2.Inv X pins σ H s) : ∀ {vs : List V} {ps : List PV} {ks : List NestedKey} {us : List Value}, DenL C Z H vs ps → PV.nkeys ps = some ks → Vals vs us → ∃ ds, PV.dataL ps = some ds ∧ ReadsAll s.heap us ds []
  | _, _, _, _, .nil, e, r => by cases r; exact ⟨[], rfl, .nil⟩
  | _, _, _, _, .cons (p := p) (ps := ps) h1 h2, e, r => by
    simp only [PV.nkeys] at e
    cases e1 : p.nkey with
    | none => rw [e1] at e; simp at e
    | some k =>
      cases e2 : PV.nkeys ps with
      | none => rw [e1, e2] at e; simp at e
      | some ks =>
        rw [e1, e2] at e
        simp at e
        subst e
        cases r with
        | cons r1 r2 =>
          obtain ⟨d, q1, q2⟩ := reads_of hX I h1 e1 r1
          obtain ⟨ds, q3, q4⟩ := reads_all hX I h2 e2 r2
          exact ⟨d :: ds, by simp [PV.dataL, q1, q3], .cons (as := []) (bs := []) q2 q4⟩
end
theorem depthOk_nkey {p : PV} (h : depthOk p = true) : ∃ k, p.nkey = some k := by
  unfold depthOk at h
  split at h
  · rename_i k e; exact ⟨k, e⟩
  · cases h
theorem call_sorted_of {P : Program} {w : World} {A : Around} {E : Value → Shared → Prop} {s : Shared} {v : Value} {Q : Value → Shared → Prop}
    (h : wpAny (model P w) A.in1 (collect v) (fun vs s1 => vs.length ≤ sizeLine ∧ wpAny (model P w) A.in1 (call (.builtin "list.sort") [.ref s1.heap.objs.size]) (fun _ s2 => Q (.ref s1.heap.objs.size) s2) E { s1 with heap := s1.heap.push { cls := .type "list", data := .seq vs.toArray } }) E s) : wpAny (model P w) A (call (.builtin "sorted") [v]) Q E s := by
  refine PySem.Calls.call_function_entry kind_sorted (by decide) entry_sorted rfl ?_
  show wpAny _ _ (do
    checkCount "sorted" 1 1 1
    let __do_lift ← collect v
    let l ← newList __do_lift
    let _ ← holding [l] (call (Value.builtin "list.sort") [l] [])
    ret l) _ _ _
  show wpAny _ _ (do
    let __do_lift ← collect v
    let l ← newList __do_lift
    let _ ← holding [l] (call (Value.builtin "list.sort") [l] [])
    ret l) _ _ _
  refine wpAny_bind (thn h fun vs s1 ⟨hl, q⟩ => ?_)
  refine wpAny_bind (wpAny_newList ?_ hl)
  refine wpAny_bind (wpAny_holding ?_)
  refine thn q fun x s2 hq => ?_
  exact wpAny_pure ⟨_, rfl, hq⟩
/-- the sort behind the collecting -/
theorem sort_keys {pins : List (Addr × Obj)} {s1 : Shared} (hX : Is C X) (hu : X.A.units + 67 < cLine) {vs : List Value} {ws : List V} {ps : List PV} {Q : VK} (I : L2.Inv X pins σ H s1) (rv : Vals ws vs) (hd : DenL C Z H ws ps) (hok : sortOk ps = true) (hko : keysOk ps = true) (hl : vs.length ≤ sizeLine)
    (q : ∀ p vs', H p = none → DenL C Z H vs' (ps.mergeSort leD) → Q (.ref p) (upd H p (.lst vs'))) :
    wpAny (model X.prog X.w) X.A.in1 (call (.builtin "list.sort") [.ref s1.heap.objs.size]) (fun _ s2 => EP X pins σ Q (.ref s1.heap.objs.size) s2) X.xe { s1 with heap := s1.heap.push { cls := .type "list", data := .seq vs.toArray } } := by
  have hn : H s1.heap.objs.size = none := I.hok.fresh (Nat.le_refl _)
  have hlen := hd.length
  have hwl : ws.length = vs.length := rv.length
  have I1 := I.lnew (t' := s1.toks) rv (by omega)
  have hg : (s1.heap.push { cls := .type "list", data := .seq vs.toArray }).get? s1.heap.objs.size = some (seqObj "list" vs.toArray 0) := Heap.get?_push_size _ rfl
  have hd1 : DenL C Z (upd H s1.heap.objs.size (.lst ws)) ws ps := hd.stays ⟨fun _ z => z, fun a o e _ => upd_old hn a o e⟩
  unfold sortOk at hok
  split at hok
  · rename_i ds e
    rw [Bool.and_eq_true, Bool.and_eq_true] at hok
    obtain ⟨⟨c1, c2⟩, c3⟩ := hok
    obtain ⟨e1, e2⟩ := dataL_map e
    have hmap : (ps.zip ws).map (fun b : PV × V => enc b.1) = ds := by
      rw [e1]
      have : (fun b : PV × V => enc b.1) = enc ∘ (·.1) := rfl
      rw [this, ← List.map_map, zip_fst hlen.symm]
    have ea := EachIs.zip (R := fun _ _ => True) rv hd1
    refine PySem.W.list_sort_data (enc := fun b : PV × V => enc b.1) (bs := ps.zip ws) (R := fun u (b : PV × V) => RelV b.2 u ∧ Den C Z (upd H s1.heap.objs.size (.lst ws)) b.2 b.1) hg ea ?_ ?_ ?_ ?_ ?_ ?_
    · have all : ∀ {us : List Value} {bs : List (PV × V)}, (∀ b ∈ bs, b.1 ∈ ps) → PySem.W.EachIs (fun u (b : PV × V) => RelV b.2 u ∧ Den C Z (upd H s1.heap.objs.size (.lst ws)) b.2 b.1) us bs → PySem.W.EachIs (fun u (b : PV × V) => ∃ as, Reads (s1.heap.push { cls := .type "list", data := .seq vs.toArray }) u (enc b.1) as ∧ ¬ s1.heap.objs.size ∈ as) us bs := by
        intro us bs hm hE
        induction hE with
        | nil => exact .nil
        | @cons u b us' bs' x _ ih =>
          refine .cons ?_ (ih fun b hb => hm b (List.mem_cons_of_mem _ hb))
          have hk := List.all_eq_true.mp hko _ (hm _ List.mem_cons_self)
          obtain ⟨k, ek⟩ := depthOk_nkey hk
          obtain ⟨d, ed, hr⟩ := reads_of hX I1 x.2 ek x.1
          have : enc b.1 = d := by unfold enc; rw [ed]; rfl
          exact ⟨[], this ▸ hr, by simp⟩
      exact all (fun b hb => zip_mem hb) ea
    · rw [hmap]
      intro d hd d' hd'
      exact List.all_eq_true.mp (List.all_eq_true.mp c1 d hd) d' hd'
    · rw [hmap]; exact sortableB_ok c2
    · rw [List.length_zip]
      omega
    · intro b hb
      have hm : enc b.1 ∈ ds := by rw [e1]; exact List.mem_map.mpr ⟨b.1, zip_mem hb, rfl⟩
      have hdp := of_decide_eq_true (List.all_eq_true.mp c3 _ hm)
      show X.A.units + 1 + 1 + (enc b.1).depth < cLine
      omega
    · intro out hlo hE
      obtain ⟨hv, hD⟩ := EachIs.unzip hE
      rw [sort_fst ps ws hlen.symm] at hD
      obtain ⟨c, hc⟩ := sortedHeap_at (vs := vs) (out := out.toArray) hg
      have hlen2 : (((ps.zip ws).mergeSort (PySem.W.dataLe false fun b : PV × V => enc b.1)).map (·.2)).length ≤ sizeLine := by
        rw [List.length_map, List.length_mergeSort, List.length_zip]
        omega
      have hne : ∀ {o o' : HO}, upd (upd H s1.heap.objs.size o) s1.heap.objs.size o' = upd H s1.heap.objs.size o' := by
        intro o o'
        funext b
        by_cases hb : b = s1.heap.objs.size
        · subst hb; rw [upd_same, upd_same]
        · rw [upd_ne hb, upd_ne hb, upd_ne hb]
      have I2 := I1.write (t' := s1.toks) (x := s1.heap.objs.size) (e := s1.heap.objs.size) (o := .lst (((ps.zip ws).mergeSort (PySem.W.dataLe false fun b : PV × V => enc b.1)).map (·.2))) (h' := sortedHeap (s1.heap.push { cls := .type "list", data := .seq vs.toArray }) s1.heap.objs.size vs out.toArray)
        (by rw [upd_same]; trivial) (.inl rfl) (fun b u hb e => by rw [sortedHeap_old hb (Heap.lt_size e)]; exact e) ⟨_, hc⟩ ⟨hlen2, out, c, hv, by simpa using hc⟩
      rw [hne] at I2
      have hD' : DenL C Z H (((ps.zip ws).mergeSort (PySem.W.dataLe false fun b : PV × V => enc b.1)).map (·.2)) (ps.mergeSort leD) := by
        have mem : ∀ b ∈ (ps.zip ws).mergeSort (PySem.W.dataLe false fun b : PV × V => enc b.1), Den C Z H b.2 b.1 := by
          intro b hb
          have hb' : b ∈ ps.zip ws := (List.mergeSort_perm _ _).mem_iff.mp hb
          have all : ∀ {vs : List V} {ps : List PV}, DenL C Z H vs ps → ∀ b ∈ ps.zip vs, Den C Z H b.2 b.1 := by
            intro vs ps h
            induction vs generalizing ps with
            | nil => intro b hb; cases h; simp at hb
            | cons v vs ih =>
              intro b hb
              cases h with
              | cons h1 h2 =>
                rcases List.mem_cons.mp hb with rfl | hb
                · exact h1
                · exact ih h2 b hb
          exact all hd b hb'
        rw [← sort_fst ps ws hlen.symm]
        have mk : ∀ (l : List (PV × V)), (∀ b ∈ l, Den C Z H b.2 b.1) → DenL C Z H (l.map (·.2)) (l.map (·.1)) := by
          intro l
          induction l with
          | nil => exact fun _ => .nil
          | cons b l ih => exact fun h => .cons (h b (by simp)) (ih fun c hc => h c (by simp [hc]))
        exact mk _ mem
      exact ⟨.ref s1.heap.objs.size, _, I2, rfl, q _ _ hn hD'⟩
  · cases hok
theorem denD_keys : ∀ {es : List DictEntry} {kvs : List (PV × PV)}, DenD C Z H es kvs → ∃ ws, Vals ws (es.map (·.key)) ∧ DenL C Z H ws (kvs.map (·.1))
  | _, _, .nil => ⟨[], .nil, .nil⟩
  | _, _, .cons h1 h2 _ _ _ h6 => let ⟨ws, q1, q2⟩ := denD_keys h6; ⟨_ :: ws, .cons h1 q1, .cons h2 q2⟩
theorem collect_dict {pins : List (Addr × Obj)} {s : Shared} {a : Addr} {es : Array DictEntry} {A : Around} {E : Value → Shared → Prop} {Q : List Value → Shared → Prop} (hA : A.handled = none) (I : L2.Inv X pins σ H s) (h : H a = some (DictAt a es)) (hl : es.size ≤ sizeLine)
    (q : ∀ (s1 : Shared), L2.Inv X pins σ H s1 → Q (es.toList.map (·.key)) s1) : wpAny (model X.prog X.w) A (collect (.ref a)) Q E s := by
  obtain ⟨ns, o, ep, g1, g2, g3⟩ := inv_dict I h
  refine PySem.W.kdu_collect (KdlSrc.rawDict (es := es) (ep := ep) ns) hA ⟨o, g1, g2, g3⟩ hl fun h' tk acc hk hi => ?_
  obtain ⟨h1, h2⟩ := hi
  have e : acc.toList = es.toList.map (·.key) := by
    apply List.ext_getElem
    · simp [h1]
    · intro i hi1 hi2
      have hi3 : i < acc.size := by simpa using hi1
      obtain ⟨hi', e⟩ := h2 i acc[i] (by simp [hi3])
      simpa using e
  rw [e]
  exact q _ (I.kept (t' := tk) hk)
def rSortDc (C : Cn) : List V → Hp → VK → Prop := fun xs H Q => ∃ (Z : Addr → Prop) (a : Addr) (es : Array DictEntry) (kvs : List (PV × PV)), xs = [.ref a] ∧ H a = some (DictAt a es) ∧ DenD C Z H es.toList kvs ∧ kvs.length ≤ lim ∧ sortOk (kvs.map (·.1)) = true ∧ keysOk (kvs.map (·.1)) = true ∧
  ∀ q vs', H q = none → DenL C Z H vs' ((kvs.map (·.1)).mergeSort leD) → Q (.ref q) (upd H q (.lst vs'))
theorem denD_len : ∀ {es : List DictEntry} {kvs : List (PV × PV)}, DenD C Z H es kvs → es.length = kvs.length
  | _, _, .nil => rfl
  | _, _, .cons _ _ _ _ _ h => by simp [denD_len h]
theorem cr_sortDc (hX : Is C X) (hc : X.calm = true) (hu : X.A.units + 67 < cLine) : CallR X (.builtin "sorted") (rSortDc C) := fun pins s σ H xs us Q I r h => by
  obtain ⟨Z, a, es, kvs, rfl, ha, hd, hl, h1, h2, q⟩ := h
  have hsz : es.size ≤ sizeLine := by
    have := denD_len hd
    rw [← lim_eq]
    simp at this
    omega
  rw [Vals.ref1 r]
  refine call_sorted_of (collect_dict (I.ok.hd hc) I ha hsz fun s1 I1 => ?_)
  obtain ⟨ws, rv, hw⟩ := denD_keys hd
  exact ⟨by simpa using hsz, sort_keys hX hu I1 rv hw h1 h2 (by simpa using hsz) q⟩
theorem o_sortDc : Op1 C sortedD (rC1 (rSortDc C)) (.l .v) := fun Z H x p Q hz hp hf => by
  unfold sortedD at hf
  split at hf
  · split at hf
    · rename_i kvs hl
      simp only [Bool.and_eq_true, decide_eq_true_eq] at hl
      obtain ⟨a, es, rfl, h1, h2, h3⟩ := hp.toDct
      exact ⟨Z, a, es, kvs, rfl, h1, h2, hl.1.1, hl.1.2, hl.2, fun q vs' hq hd => hf _ _ (.lst hz hq hd)⟩
    · exact hf.elim
  · exact hf.elim
theorem nox_lenD : NoX1 lenD := fun p e h => by unfold lenD at h; split at h <;> (try split at h) <;> cases h
theorem nox_sortDc : NoX1 sortedD := fun p e h => by unfold sortedD at h; split at h <;> (try split at h) <;> cases h
end
end Mi

/-! sorted(set(..)) of tuples of ints. -/
namespace Mi
open PySem PySem.Spec L2
open PyProof.Rows hiding St

theorem call_set_tupT {P : Program} {w : World} {A : Around} {E : Value → Shared → Prop} {s : Shared} {l : Addr} {items : Array Value} (ks : List (Addr × List Int)) {Q : Value → Shared → Prop} (hA : A.handled = none) (hl : s.heap.IsTuple l items) (he : items.toList = ks.map fun p => Value.ref p.1)
    (hT : ∀ p ∈ ks, L2.IsT P w s.heap p.2 p.1) (h64 : ks.length < 64) (hu : A.units + 3 < cLine)
    (hq : ∀ (h' : Heap) (tk : Nat) (L : List (Addr × List Int)) (es : Array (Int × Value)) (ep : Nat) (t : SetTable), L2.SetTR P w h' s.heap.objs.size L es ep t → L2.Got ks ks.length L → (∀ (b : Addr) (o : Obj), s.heap.get? b = some o → h'.get? b = some o) →
      Q (.ref s.heap.objs.size) { s with heap := h', toks := tk }) : wpAny (model P w) A (call (.type "set") [.ref l]) Q E s := by
  obtain ⟨hp, g, dr, tk0, os⟩ := s
  refine wpAny_call (codeAny_of_tree ?_)
  refine wpAny_pure ⟨Code.quiet_builtin _ (by decide +kernel), ?_⟩
  refine codeAny_builtin F.entry_type_call ?_
  rw [Around.under_plain (by rfl) (by rfl)]
  unfold Builtin.«type.__call__»
  simp only [F.called_set.notType, F.called_set.canCreate, if_false, Bool.false_eq_true]
  refine wpAny_bind (wpAny_of_eq (F.typeCall_set_1 _) ?_)
  obtain ⟨c, tl, hm⟩ := F.called_set.mro
  refine wpAny_bind (wpAny_of_eq hm ?_)
  simp only [List.isEmpty_cons, if_false, Bool.false_eq_true]
  refine wpAny_bind (wpAny_of_eq F.called_set.made ?_)
  refine wpAny_bind (wpAny_pure ?_)
  refine wpAny_bind (wpAny_holding (wpAny_call ?_))
  refine codeAny_mono (code_set_led1 (E := fun e s' => E e s') (Q₁ := fun obj s₁ => obj = .ref hp.objs.size ∧ s₁ = ⟨hp.push { cls := .type "set", data := .set #[] 0 (SetTable.fresh 0 0 !w.params.followText "set-order") }, g, dr, tk0, os⟩) (.ref l) ⟨rfl, rfl⟩) fun r s₁ hr => ?_
  rcases r with e | f
  · exact hr
  rcases f with _ | _ | _ | v
  · exact hr.elim
  · exact hr.elim
  · exact hr.elim
  obtain ⟨rfl, rfl⟩ := hr
  have hg : (hp.push { cls := .type "set", data := .set #[] 0 (SetTable.fresh 0 0 !w.params.followText "set-order") }).get? hp.objs.size = some { cls := .type "set", data := .set #[] 0 (SetTable.fresh 0 0 !w.params.followText "set-order") } := Heap.get?_push_size _ rfl
  have hty : Shared.TypeIs ⟨hp.push { cls := .type "set", data := .set #[] 0 (SetTable.fresh 0 0 !w.params.followText "set-order") }, g, dr, tk0, os⟩ (.ref hp.objs.size) "set" := ⟨_, hg, rfl⟩
  refine wpAny_bind (wpAny_isInstance hty F.called_set.sub ?_)
  simp only [Bool.not_true, if_false, Bool.false_eq_true]
  refine wpAny_bind (wpAny_holding ?_)
  unfold callSpecial?
  refine wpAny_bind (wpAny_specialOf hty F.called_set.init.lookup ?_)
  refine wpAny_holding ?_
  refine wpAny_bind (wpAny_of_eq (F.called_set.init.bind _) ?_)
  refine wpAny_bind (wpAny_call ?_)
  refine codeAny_call_builtin F.called_set.init.plain F.entry_set_init (check_set_init_1 hty ?_)
  unfold Builtin.«set.__init__»
  simp only [List.cons_append, List.nil_append]
  refine wpAny_bind (wpAny_of_eq (a := ()) rfl ?_)
  refine wpAny_bind ?_
  unfold typeNameOfCut
  refine wpAny_bind ?_
  unfold shownTypeOf
  refine wpAny_bind (wpAny_typeOf hty ?_)
  have hn : (Value.type "set" == Value.type "builtin_function_or_method") = false := by decide
  simp only [hn, if_false, Bool.false_eq_true]
  refine wpAny_pure ?_
  show wpAny _ _ (typeName (.type "set")) _ _ _
  refine wpAny_of_eq (a := "set") rfl ?_
  refine wpAny_bind (wpAny_of_eq (a := ()) rfl ?_)
  refine wpAny_bind (wpAny_of_eq (a := hp.objs.size) rfl ?_)
  refine wpAny_bind ?_
  unfold setUsed
  refine wpAny_bind ?_
  unfold setState
  refine wpAny_bind (wpAny_load' hg ?_)
  dsimp only
  have hfit : ((SetTable.fresh 0 0 !w.params.followText "set-order").place.size != (#[] : Array (Int × Value)).size || decide ((SetTable.fresh 0 0 !w.params.followText "set-order").fill > (SetTable.fresh 0 0 !w.params.followText "set-order").mask)) = false := by
    cases (!w.params.followText "set-order") <;> rfl
  simp only [hfit, if_false, Bool.false_eq_true]
  refine wpAny_pure ?_
  have hfill : ((SetTable.fresh 0 0 !w.params.followText "set-order").fill != 0) = false := by
    cases (!w.params.followText "set-order") <;> rfl
  refine wpAny_pure ?_
  dsimp only
  simp only [hfill, if_false, Bool.false_eq_true]
  refine wpAny_bind ?_
  unfold Builtin.Frozenset.updateFrom
  obtain ⟨ot, ho, hoc, nn, hod⟩ := hl
  have ho' : (hp.push { cls := .type "set", data := .set #[] 0 (SetTable.fresh 0 0 !w.params.followText "set-order") }).get? l = some ot := Heap.get?_push_of_some _ ho
  have htt : Shared.TypeIs ⟨hp.push { cls := .type "set", data := .set #[] 0 (SetTable.fresh 0 0 !w.params.followText "set-order") }, g, dr, tk0, os⟩ (.ref l) "tuple" := ⟨ot, ho', hoc⟩
  unfold Builtin.Frozenset.isAnySet
  refine wpAny_bind ?_
  unfold orM
  refine wpAny_bind (wpAny_isInstance (b := false) htt (by rfl) ?_)
  have hb : toBool false = false := rfl
  simp only [hb]
  refine wpAny_isInstance (b := false) htt (by rfl) ?_
  simp only [if_false, Bool.false_eq_true]
  refine wpAny_bind (wpAny_typeOf htt ?_)
  have hnd : (Value.type "tuple" == Value.type "dict") = false := by decide
  simp only [hnd, if_false, Bool.false_eq_true]
  have hst : Heap.IsTuple (hp.push { cls := .type "set", data := .set #[] 0 (SetTable.fresh 0 0 !w.params.followText "set-order") }) l items := ⟨ot, ho', hoc, nn, hod⟩
  refine wpAny_bind (wpAny_pyIter_tuple hst ?_)
  refine wpAny_bind (wpAny_runValue ?_)
  have hsize : items.size = ks.length := by
    have := congrArg List.length he
    simpa using this
  have hlS : l ≠ hp.objs.size := Nat.ne_of_lt (Heap.lt_size ho)
  have hI : (hp.push { cls := .type "set", data := .set #[] 0 (SetTable.fresh 0 0 !w.params.followText "set-order") }).objs.size = hp.objs.size + 1 := Heap.size_push ..
  have hl1 : l < hp.objs.size := Heap.lt_size ho
  show codeAny (model P w) A.in1.in1 (Code.builtin "set.update.loop" { pos := [.ref hp.objs.size, .ref (hp.push { cls := .type "set", data := .set #[] 0 (SetTable.fresh 0 0 !w.params.followText "set-order") }).objs.size] }) _ ⟨(hp.push { cls := .type "set", data := .set #[] 0 (SetTable.fresh 0 0 !w.params.followText "set-order") }).push { cls := .type "tuple_iterator", data := .fields #[.ref l, .int 0 0] }, g, dr, tk0, os⟩
  rw [hI]
  refine L2.set_update_tups (Walks.toS (Walks.tuple (A := A.in1.in1.in1) hA (hp.objs.size + 1) l (Nat.ne_of_lt (Nat.lt_succ_of_lt hl1)) items)) hp.objs.size (fun hm => by
    rcases List.mem_cons.mp hm with h | h
    · exact absurd h (Nat.ne_of_lt (Nat.lt_succ_self _))
    · exact hlS (List.mem_singleton.mp h).symm) ks hsize h64 (fun i v hv => ?_) hp hT (Heap.get?_none_of_le (Nat.le_refl _)) (fun b hb => ?_) (by show A.units + 1 + 1 + 1 < cLine; omega) items.size 0 _ (Nat.sub_zero _) (Nat.zero_le _) ⟨⟨_, by rw [← hI]; exact Heap.get?_push_size _ rfl, rfl, rfl⟩, ⟨ot, Heap.get?_push_of_some _ ho', hoc, nn, hod⟩⟩ (fun b o e => Heap.get?_push_of_some _ (Heap.get?_push_of_some _ e)) ⟨[], #[], 0, _, setTR_fresh (Heap.get?_push_of_some _ hg), Got.zero ks⟩ (fun s' L es ep t mv tr got old => ?_)
  · have hv' : items.toList[i]? = some v := by simpa using hv
    rw [he, List.getElem?_map] at hv'
    cases e : ks[i]? with
    | none => rw [e] at hv'; cases hv'
    | some p => rw [e] at hv'; cases hv'; exact ⟨p, rfl, rfl⟩
  · obtain rfl := List.mem_singleton.mp hb
    exact Heap.get?_none_of_le (Nat.le_succ _)
  · obtain ⟨h', g', d', t', os'⟩ := s'
    have e1 : g' = g := mv.gens
    have e2 : d' = dr := mv.drawn
    have e3 : os' = os := mv.os
    subst e1 e2 e3
    refine wpAny_pure (wpAny_pure ?_)
    refine wpAny_pure ?_
    have hnn : (Value.none != Value.none) = false := by decide
    dsimp only
    simp only [hnn, if_false, Bool.false_eq_true]
    refine wpAny_pure ?_
    rw [← hsize] at hq
    exact hq h' t' L es ep t tr got old

/-! the order -/
theorem leD_lt (a b : PV) : leD a b = !(listOrd itemOrd).blt (PySem.W.keyToks (enc b)) (PySem.W.keyToks (enc a)) := rfl
theorem leD_trans (a b c : PV) : leD a b = true → leD b c = true → leD a c = true := by
  rw [leD_lt, leD_lt, leD_lt]
  intro h1 h2
  cases h : (listOrd itemOrd).blt (PySem.W.keyToks (enc c)) (PySem.W.keyToks (enc a)) with
  | false => rfl
  | true =>
    rcases (listOrd itemOrd).negTrans _ (PySem.W.keyToks (enc b)) _ h with q | q
    · rw [q] at h2; cases h2
    · rw [q] at h1; cases h1
theorem leD_total (a b : PV) : (leD a b || leD b a) = true := by
  rw [leD_lt, leD_lt]
  cases h : (listOrd itemOrd).blt (PySem.W.keyToks (enc b)) (PySem.W.keyToks (enc a)) with
  | false => rfl
  | true =>
    cases h2 : (listOrd itemOrd).blt (PySem.W.keyToks (enc a)) (PySem.W.keyToks (enc b)) with
    | false => rfl
    | true =>
      have := (listOrd itemOrd).trans _ _ _ h h2
      rw [(listOrd itemOrd).irrefl] at this
      cases this
def itp (ns : List Int) : PV := .tup (ns.map .int)
theorem dataL_ints : ∀ (ns : List Int), PV.dataL (ns.map .int) = some (ns.map .int)
  | [] => rfl
  | n :: ns => by simp [PV.dataL, PV.data, dataL_ints ns]
theorem enc_itp (ns : List Int) : enc (itp ns) = .tuple (ns.map .int) := by simp [enc, itp, PV.data, dataL_ints]
theorem toks_cons (n : Int) (ns : List Int) : PySem.W.keyToksAll ((n :: ns).map .int) = .inl 1 :: .inl n :: PySem.W.keyToksAll (ns.map .int) := by
  rw [List.map_cons, PySem.W.keyToksAll.eq_2, PySem.W.keyToks.eq_3]; rfl
theorem lexLt_toks : ∀ (a b : List Int), PyProof.Rows.lexLt itemOrd (PySem.W.keyToksAll (a.map .int)) (PySem.W.keyToksAll (b.map .int)) = HT.lexLt a b
  | [], [] => by decide
  | [], y :: ys => by rw [toks_cons]; rfl
  | x :: xs, [] => by rw [toks_cons]; rfl
  | x :: xs, y :: ys => by
    rw [toks_cons, toks_cons, PyProof.Rows.lexLt.eq_4, PyProof.Rows.lexLt.eq_4, lexLt_toks xs ys]
    have e1 : ∀ i j : Int, itemOrd.blt (.inl i) (.inl j) = decide (i < j) := fun _ _ => rfl
    rw [e1, e1, e1]
    show _ = (if x = y then HT.lexLt xs ys else decide (x < y))
    by_cases h : x = y
    · subst h
      simp
    · rw [if_neg h]
      by_cases h2 : x < y
      · simp [h2]
      · have : y < x := by omega
        simp [h2, this]
theorem leD_itp (a b : List Int) : leD (itp a) (itp b) = !HT.lexLt b a := by
  unfold leD PySem.W.dataLe PySem.W.sortLe
  simp only [cond_false, enc_itp, PySem.W.keyToks.eq_6]
  rw [← lexLt_toks]
theorem leD_int (a b : Int) : leD (.int a) (.int b) = decide (a ≤ b) := by
  have h := congrFun (congrFun (PySem.W.dataLe_int (β := Int) id) a) b
  have e : leD (.int a) (.int b) = PySem.W.dataLe false (fun b : Int => PyData.int (id b)) a b := rfl
  rw [e, h]; rfl
theorem lexLt_anti : ∀ (a b : List Int), HT.lexLt a b = false → HT.lexLt b a = false → a = b
  | [], [], _, _ => rfl
  | [], _ :: _, h, _ => by simp [HT.lexLt] at h
  | _ :: _, [], _, h => by simp [HT.lexLt] at h
  | x :: xs, y :: ys, h1, h2 => by
    have h1 : (if x = y then HT.lexLt xs ys else decide (x < y)) = false := h1
    have h2 : (if y = x then HT.lexLt ys xs else decide (y < x)) = false := h2
    by_cases h : x = y
    · subst h
      rw [if_pos rfl] at h1 h2
      rw [lexLt_anti xs ys h1 h2]
    · rw [if_neg h] at h1
      rw [if_neg (Ne.symm h)] at h2
      have := of_decide_eq_false h1
      have := of_decide_eq_false h2
      omega
theorem leD_anti {a b : List Int} (h1 : leD (itp a) (itp b) = true) (h2 : leD (itp b) (itp a) = true) : a = b := by
  rw [leD_itp] at h1 h2
  exact lexLt_anti a b (by simpa using h2) (by simpa using h1)
theorem itp_inj {a b : List Int} (h : itp a = itp b) : a = b := by
  have : a.map PV.int = b.map PV.int := by unfold itp at h; exact PV.tup.inj h
  exact (List.map_inj_right fun x y h => PV.int.inj h).mp this
/-- two lists of tuples of ints with the same members: sorted alike -/
theorem sort_unique {l m : List (List Int)} (h : l.Perm m) : (l.map itp).mergeSort leD = (m.map itp).mergeSort leD := by
  refine List.Perm.eq_of_pairwise (le := fun a b => leD a b = true) (fun a b ha hb h1 h2 => ?_) (List.pairwise_mergeSort leD_trans leD_total _) (List.pairwise_mergeSort leD_trans leD_total _) (((List.mergeSort_perm _ _).trans (h.map itp)).trans (List.mergeSort_perm _ _).symm)
  have ha' := (List.mergeSort_perm _ _).mem_iff.mp ha
  have hb' := (List.mergeSort_perm _ _).mem_iff.mp hb
  obtain ⟨x, _, rfl⟩ := List.mem_map.mp ha'
  obtain ⟨y, _, rfl⟩ := List.mem_map.mp hb'
  rw [leD_anti h1 h2]

/-! the pure function -/
def tupsOf : List PV → Option (List (List Int))
  | [] => some []
  | .tup xs :: ps => match intsOf xs, tupsOf ps with
    | some ns, some r => some (ns :: r)
    | _, _ => none
  | _ :: _ => none
def dd : List (List Int) → List (List Int)
  | [] => []
  | x :: xs => if x ∈ xs then dd xs else x :: dd xs
theorem mem_dd {y : List Int} : ∀ {xs : List (List Int)}, y ∈ dd xs ↔ y ∈ xs
  | [] => by simp [dd]
  | x :: xs => by
    unfold dd
    split
    · rename_i h
      rw [mem_dd, List.mem_cons]
      exact ⟨.inr, fun q => q.elim (fun e => e ▸ h) id⟩
    · rw [List.mem_cons, mem_dd, List.mem_cons]
theorem nodup_dd : ∀ (xs : List (List Int)), (dd xs).Nodup
  | [] => List.nodup_nil
  | x :: xs => by
    unfold dd
    split
    · exact nodup_dd xs
    · rename_i h
      exact List.nodup_cons.mpr ⟨fun z => h (mem_dd.mp z), nodup_dd xs⟩
def sortedSetP (p : PV) : Res PV := match p.seq? with
  | some xs => match tupsOf xs with
    | some ts => if (decide (xs.length < 64) && sortOk xs && keysOk xs) = true then .ok (.lst (((dd ts).map itp).mergeSort leD)) else .stuck
    | none => .stuck
  | none => .stuck
theorem intsOf_map : ∀ {xs : List PV} {ns : List Int}, intsOf xs = some ns → xs = ns.map .int
  | [], _, h => by cases h; rfl
  | .int i :: xs, _, h => by
    simp only [intsOf, Option.map_eq_some_iff] at h
    obtain ⟨r, e, rfl⟩ := h
    rw [intsOf_map e]; rfl
  | .non :: _, _, h => by cases h
  | .bool _ :: _, _, h => by cases h
  | .str _ :: _, _, h => by cases h
  | .tup _ :: _, _, h => by cases h
  | .lst _ :: _, _, h => by cases h
  | .dct _ :: _, _, h => by cases h
  | .fn _ :: _, _, h => by cases h
  | .scr _ :: _, _, h => by cases h
  | .ins _ _ :: _, _, h => by cases h
theorem tupsOf_map : ∀ {xs : List PV} {ts : List (List Int)}, tupsOf xs = some ts → xs = ts.map itp
  | [], _, h => by cases h; rfl
  | .tup xs :: ps, _, h => by
    simp only [tupsOf] at h
    split at h
    · rename_i ns r e1 e2
      cases h
      rw [tupsOf_map e2, intsOf_map e1]; rfl
    · cases h
  | .non :: _, _, h => by cases h
  | .bool _ :: _, _, h => by cases h
  | .str _ :: _, _, h => by cases h
  | .int _ :: _, _, h => by cases h
  | .lst _ :: _, _, h => by cases h
  | .dct _ :: _, _, h => by cases h
  | .fn _ :: _, _, h => by cases h
  | .scr _ :: _, _, h => by cases h
  | .ins _ _ :: _, _, h => by cases h
theorem sortOk_sub {l m : List PV} (h : ∀ p ∈ l, p ∈ m) (hm : sortOk m = true) : sortOk l = true := by
  unfold sortOk at hm ⊢
  split at hm
  · rename_i ds e
    obtain ⟨e1, e2⟩ := dataL_map e
    have hl : PV.dataL l = some (l.map enc) := by
      have : ∀ {l : List PV}, (∀ p ∈ l, p ∈ m) → PV.dataL l = some (l.map enc) := by
        intro l
        induction l with
        | nil => intro _; rfl
        | cons p l ih =>
          intro h
          simp [PV.dataL, e2 p (h p (by simp)), ih fun q hq => h q (by simp [hq])]
      exact this h
    rw [hl]
    have sub : ∀ d ∈ l.map enc, d ∈ ds := by
      intro d hd
      obtain ⟨p, hp, rfl⟩ := List.mem_map.mp hd
      rw [e1]; exact List.mem_map.mpr ⟨p, h p hp, rfl⟩
    simp only [Bool.and_eq_true] at hm ⊢
    obtain ⟨⟨c1, c2⟩, c3⟩ := hm
    have alls : ∀ (P : PyData → Bool), ds.all P = true → (l.map enc).all P = true := fun P hP => List.all_eq_true.mpr fun d hd => List.all_eq_true.mp hP d (sub d hd)
    refine ⟨⟨List.all_eq_true.mpr fun d hd => alls _ (List.all_eq_true.mp c1 d (sub d hd)), ?_⟩, alls _ c3⟩
    unfold sortableB at c2 ⊢
    rcases Bool.or_eq_true_iff.mp c2 with c | c
    · rw [Bool.or_eq_true]; exact .inl (alls _ c)
    · rw [Bool.or_eq_true]; exact .inr (alls _ c)
  · cases hm
section
variable {C : Cn} {Z Z1 Z2 Z' : Addr → Prop} {H H1 H2 H' : Hp} {A A1 A2 B A' : List Addr} {σ σ1 : L2.St} {Γ Γ1 Γ2 Γ3 Γ' : List Ty} {ρ : Env} {t tr : Ty} {W : WX} {X : Cx} {a b c : Expr} {fa fb fc fi fe : ES} {pos : Pos} {R : List (Nat × Ty)} {D : Ends} {r : Fl × Env}
theorem den_itp {v : V} {ns : List Int} (d : Den C Z H v (itp ns)) : ∃ a, v = .ref a ∧ SqT C.K H a (ns.map V.int) := by
  obtain ⟨a, vs, rfl, h1, h2⟩ := d.toTup
  have hi : intsOf (ns.map PV.int) = some ns := by
    have : ∀ ns : List Int, intsOf (ns.map PV.int) = some ns := fun ns => by
      induction ns with
      | nil => rfl
      | cons n ns ih => simp [intsOf, ih]
    exact this ns
  have e := h2.ints hi
  subst e
  exact ⟨a, rfl, h1⟩
theorem refs_of : ∀ {vs : List V} {ts : List (List Int)}, DenL C Z H vs (ts.map itp) → ∃ ks : List (Addr × List Int), vs = ks.map (fun p => V.ref p.1) ∧ ks.map (·.2) = ts ∧ ∀ p ∈ ks, Den C Z H (.ref p.1) (itp p.2) ∧ SqT C.K H p.1 (p.2.map V.int)
  | _, [], .nil => ⟨[], rfl, rfl, fun _ h => (nomatch h)⟩
  | _, t :: ts, .cons d h => by
    obtain ⟨a, rfl, h1⟩ := den_itp d
    obtain ⟨ks, rfl, rfl, h3⟩ := refs_of (ts := ts) h
    refine ⟨(a, t) :: ks, rfl, rfl, fun p hp => ?_⟩
    rcases List.mem_cons.mp hp with rfl | hp
    · exact ⟨d, h1⟩
    · exact h3 p hp
def rSetTL (C : Cn) (P : Program) (w : World) : List V → Hp → VK → Prop := fun xs H Q => ∃ (l : Addr) (vs : List V) (Z : Addr → Prop) (ts : List (List Int)), xs = [.ref l] ∧ (SqL C.K H l vs ∨ SqT C.K H l vs) ∧ DenL C Z H vs (ts.map itp) ∧ ts.length < 64 ∧
  ∀ (a : Addr) (L : List (Addr × List Int)), H a = none → (∀ p ∈ L, Den C Z H (.ref p.1) (itp p.2) ∧ p.2 ∈ ts) → (∀ t ∈ ts, t ∈ L.map (·.2)) → Q (.ref a) (upd H a (SetTO P w a L))
theorem cr_setTL (hX : Is C X) (hc : X.calm = true) (hu : X.A.units + 67 < cLine) : CallR X (.type "set") (rSetTL C X.prog X.w) := fun pins s σ H xs us Q I r h => by
  obtain ⟨l, vs, Z, ts, rfl, hs, hd, hl, q⟩ := h
  rw [Vals.ref1 r]
  obtain ⟨ks, rfl, rfl, hk⟩ := refs_of hd
  rw [List.length_map] at hl
  have hA := I.ok.hd hc
  have hT : ∀ p ∈ ks, L2.IsT X.prog X.w s.heap p.2 p.1 := fun p hp => I.isT (hX.K ▸ (hk p hp).2)
  have fin : ∀ (h' : Heap) (tk : Nat) (L : List (Addr × List Int)) (es : Array (Int × Value)) (ep : Nat) (t : SetTable), L2.SetTR X.prog X.w h' s.heap.objs.size L es ep t → L2.Got ks ks.length L → (∀ (b : Addr) (o : Obj), s.heap.get? b = some o → h'.get? b = some o) →
      EP X pins σ Q (.ref s.heap.objs.size) { s with heap := h', toks := tk } := fun h' tk L es ep t tr got old => by
    have hn : H s.heap.objs.size = none := I.hok.fresh (Nat.le_refl _)
    refine ⟨.ref s.heap.objs.size, _, I.laid (t' := tk) old (Nat.le_refl _) (setTO_new tr.t0), rfl, q _ L hn (fun p hp => ?_) fun t ht => ?_⟩
    · have := got.sub p hp
      rw [List.take_length] at this
      exact ⟨(hk p this).1, List.mem_map.mpr ⟨p, this, rfl⟩⟩
    · obtain ⟨p, hp, rfl⟩ := List.mem_map.mp ht
      exact got.all p (by rw [List.take_length]; exact hp)
  rcases hs with hs | hs
  · obtain ⟨its, rv, pl, _⟩ := I.list (hX.K ▸ hs)
    exact call_set_tups ks hA pl.isList (by rw [refs_of_vals rv]) hT hl (by omega) fin
  · obtain ⟨its, rv, ⟨o, g1, g2, n, g3⟩, _⟩ := I.tuple (hX.K ▸ hs)
    exact call_set_tupT ks hA ⟨o, g1, g2, n, g3⟩ (by rw [refs_of_vals rv]) hT hl (by omega) fin
def rSortSet (C : Cn) (P : Program) (w : World) : List V → Hp → VK → Prop := fun xs H Q => ∃ (Z : Addr → Prop) (a : Addr) (L : List (Addr × List Int)), xs = [.ref a] ∧ H a = some (SetTO P w a L) ∧ (∀ p ∈ L, Den C Z H (.ref p.1) (itp p.2)) ∧ sortOk (L.map fun p => itp p.2) = true ∧ keysOk (L.map fun p => itp p.2) = true ∧
  ∀ (L' : List (List Int)) q vs', L'.Perm (L.map (·.2)) → (L.map (·.2)).Nodup → H q = none → DenL C Z H vs' ((L'.map itp).mergeSort leD) → Q (.ref q) (upd H q (.lst vs'))
theorem cr_sortSet (hX : Is C X) (hc : X.calm = true) (hu : X.A.units + 67 < cLine) : CallR X (.builtin "sorted") (rSortSet C X.prog X.w) := fun pins s σ H xs us Q I r h => by
  obtain ⟨Z, a, L, rfl, ha, hd, h1, h2, q⟩ := h
  rw [Vals.ref1 r]
  have t0 : SetT0 X.prog X.w s.heap a L := (I.hok a _ ha).1
  obtain ⟨es, ep, t, tr⟩ := t0.full fun p hp => by
    obtain ⟨b, e, hs⟩ := den_itp (hd p hp)
    cases e
    exact I.isT (hX.K ▸ hs)
  obtain ⟨o, g1, g2, g3⟩ := tr.ob
  have hlen : es.size = L.length := by
    have := congrArg List.length tr.rows
    simpa [rowsOf] using this
  refine call_sorted_of (collect_set (I.ok.hd hc) ⟨o, g1, g2.1, g3⟩ tr.fits (by rw [hlen]; exact Nat.lt_of_lt_of_le tr.few (by decide)) tr.tab.ris tr.led fun s' out old hsz hg hos hp => ?_)
  have hp' : out.Perm ((L.map (·.1)).map Value.ref) := by
    rw [tr.rows] at hp
    simpa [rowsOf, Function.comp_def] using hp
  obtain ⟨L', hL', hout⟩ : ∃ L' : List (Addr × List Int), L'.Perm L ∧ out = L'.map fun p => Value.ref p.1 := by
    have e : (L.map (·.1)).map Value.ref = L.map fun p => Value.ref p.1 := by rw [List.map_map]; rfl
    rw [e] at hp'
    have key : ∀ {out : List Value} {L : List (Addr × List Int)}, out.Perm (L.map fun p => Value.ref p.1) → ∃ L' : List (Addr × List Int), L'.Perm L ∧ out = L'.map fun p => Value.ref p.1 := by
      intro out L hp
      generalize hm : (L.map fun p => Value.ref p.1) = m at hp
      induction hp generalizing L with
      | nil => exact ⟨[], by rw [List.map_eq_nil_iff.mp hm], rfl⟩
      | cons x _ ih =>
        cases L with
        | nil => cases hm
        | cons p L =>
          simp only [List.map_cons, List.cons.injEq] at hm
          obtain ⟨L', h1, h2⟩ := ih hm.2
          exact ⟨p :: L', h1.cons p, by rw [List.map_cons, h2, hm.1]⟩
      | swap x y l =>
        cases L with
        | nil => cases hm
        | cons p L =>
          cases L with
          | nil => simp at hm
          | cons p2 L =>
            simp only [List.map_cons, List.cons.injEq] at hm
            exact ⟨p2 :: p :: L, List.Perm.swap _ _ _, by rw [List.map_cons, List.map_cons, hm.1, hm.2.1, hm.2.2]⟩
      | trans _ _ ih1 ih2 =>
        obtain ⟨L1, h1, h2⟩ := ih2 hm
        obtain ⟨L2, h3, h4⟩ := ih1 h2.symm
        exact ⟨L2, h3.trans h1, h4⟩
    exact key hp'
  subst hout
  have sub : ∀ p ∈ L', p ∈ L := fun p hp => hL'.mem_iff.mp hp
  have I1 : L2.Inv X pins σ H s' := by
    have q := I.kept (t' := s'.toks) old
    obtain ⟨h', g', d', t', os'⟩ := s'
    dsimp only at hg hos q
    subst hg hos
    exact { ok := q.ok, os := q.os, bare := q.bare, base := q.base, loc := q.loc, cell := q.cell, free := q.free, freeC := q.freeC, pin := q.pin, hok := q.hok, len := q.len }
  have rv : Vals (L'.map fun p => V.ref p.1) (L'.map fun p => Value.ref p.1) := vals_of_refs L'
  have hdl : DenL C Z H (L'.map fun p => V.ref p.1) ((L'.map (·.2)).map itp) := by
    have : ∀ (M : List (Addr × List Int)), (∀ p ∈ M, Den C Z H (.ref p.1) (itp p.2)) → DenL C Z H (M.map fun p => V.ref p.1) ((M.map (·.2)).map itp) := by
      intro M
      induction M with
      | nil => exact fun _ => .nil
      | cons p M ih => exact fun h => .cons (h p (by simp)) (ih fun q hq => h q (by simp [hq]))
    exact this L' fun p hp => hd p (sub p hp)
  have hl64 : (L'.map fun p => Value.ref p.1).length ≤ sizeLine := by
    rw [List.length_map, hL'.length_eq, sizeLine_eq]
    exact Nat.le_of_lt (Nat.lt_of_lt_of_le tr.few (by decide))
  refine ⟨hl64, sort_keys hX hu I1 rv hdl (sortOk_sub (fun p hp => ?_) h1) (List.all_eq_true.mpr fun p hp => List.all_eq_true.mp h2 p ?_) hl64 fun p vs' hp hd' => q (L'.map (·.2)) p vs' (hL'.map _) tr.nd hp hd'⟩
  all_goals
    rw [List.map_map] at hp
    obtain ⟨x, hx, rfl⟩ := List.mem_map.mp hp
    exact List.mem_map.mpr ⟨x, sub x hx, rfl⟩
end
end Mi

/-! sorted(set(..)), tuple(range(..)); what raises nothing; the rules of one construct each. -/
namespace Mi
open PySem PySem.Spec L2
open PyProof.Rows hiding St

@[irreducible] def tupR1 (p : PV) : Res PV := match p with
  | .int n => if -(2 ^ 62) ≤ n ∧ n ≤ 16777216 then .ok (.tup (rangeL 0 n.toNat)) else .stuck
  | _ => .stuck
@[irreducible] def tupR2 (p q : PV) : Res PV := match p, q with
  | .int a, .int b => if -(2 ^ 62) ≤ a ∧ a < 2 ^ 62 ∧ -(2 ^ 62) ≤ b ∧ b < 2 ^ 62 ∧ b - a ≤ 16777216 then .ok (.tup (rangeL a (b - a).toNat)) else .stuck
  | _, _ => .stuck
section
variable {C : Cn} {Z Z1 Z2 Z' : Addr → Prop} {H H1 H2 H' : Hp} {A A1 A2 B A' : List Addr} {σ σ1 : L2.St} {Γ Γ1 Γ2 Γ3 Γ' : List Ty} {ρ : Env} {t tr : Ty} {W : WX} {X : Cx} {a b c : Expr} {fa fb fc fi fe : ES} {pos : Pos} {R : List (Nat × Ty)} {D : Ends} {r : Fl × Env}
theorem tM_sortSet {Q : VK} (h : tM C W (e1 sortedSetP fa) Γ Γ1 (.l .v) σ H Q) : tCB (rSortSet C X.prog X.w) (tCons (tCB (rSetTL C X.prog X.w) (tCons (tO C W fa Γ Γ1) tNil)) tNil) σ H Q := by
  obtain ⟨ρ, Z, A, pre, h⟩ := h
  refine ⟨ρ, Z, A, pre, h.bind.mono (fun r hr v H1 Z1 A1 p1 o1 t1 => ?_) fun _ he => he⟩
  have hr := Res.To.bind hr
  unfold sortedSetP at hr
  cases es : r.1.seq? with
  | none => rw [es] at hr; exact hr.elim
  | some xs =>
    rw [es] at hr
    dsimp only at hr
    cases et : tupsOf xs with
    | none => rw [et] at hr; exact hr.elim
    | some ts =>
      rw [et] at hr
      dsimp only at hr
      by_cases hc : (decide (xs.length < 64) && sortOk xs && keysOk xs) = true
      case neg => rw [if_neg hc] at hr; exact hr.elim
      rw [if_pos hc] at hr
      simp only [Bool.and_eq_true, decide_eq_true_eq] at hc
      obtain ⟨⟨c1, c2⟩, c3⟩ := hc
      obtain ⟨l, vs, rfl, hs, hd⟩ := o1.seq es
      have em := tupsOf_map et
      subst em
      refine ⟨l, vs, Z1, ts, rfl, hs, hd, by simpa using c1, fun a L ha hL hall => ?_⟩
      have st : Stays Z1 H1 Z1 (upd H1 a (SetTO X.prog X.w a L)) := ⟨fun _ z => z, fun b o e _ => upd_old ha b o e⟩
      have sub : ∀ p ∈ L.map (fun p => itp p.2), p ∈ ts.map itp := fun p hp => by
        obtain ⟨x, hx, rfl⟩ := List.mem_map.mp hp
        exact List.mem_map.mpr ⟨x.2, (hL x hx).2, rfl⟩
      refine ⟨Z1, a, L, rfl, upd_same, fun p hp => (hL p hp).1.stays st, sortOk_sub sub c2, List.all_eq_true.mpr fun p hp => List.all_eq_true.mp c3 p (sub p hp), fun L' q vs' hp nd hq hd' => ?_⟩
      have pm : L'.Perm (dd ts) := by
        refine hp.trans ?_
        refine (List.perm_ext_iff_of_nodup nd (nodup_dd ts)).mpr fun x => ?_
        rw [mem_dd]
        exact ⟨fun hx => by obtain ⟨y, hy, rfl⟩ := List.mem_map.mp hx; exact (hL y hy).2, hall x⟩
      rw [sort_unique pm] at hd'
      have hz2 : ∀ b, Z1 b → ∃ o, upd H1 a (SetTO X.prog X.w a L) b = some o := fun b z => let ⟨o, e⟩ := p1.ok.2.2 b z; ⟨o, upd_old ha b o e⟩
      have n1 := NewT.lst (C := C) hz2 hq hd'
      have n2 : NewT C Z1 H1 (.l .v) (.ref q) (.lst (((dd ts).map itp).mergeSort leD)) (upd (upd H1 a (SetTO X.prog X.w a L)) q (.lst vs')) := by
        obtain ⟨Z', B, k1, k2, k3, k4, k5, k6, k7⟩ := n1
        refine ⟨Z', B, fun b o e => k1 b o (upd_old ha b o e), k2, fun b z => ?_, k4, fun b hb => ?_, k6, k7⟩
        · rcases k3 b z with z | z
          · exact .inl z
          · by_cases hb : b = a
            · subst hb; exact .inr ha
            · rw [upd_ne hb] at z; exact .inr z
        · obtain ⟨z1, z2⟩ := k5 b hb
          by_cases hb : b = a
          · subst hb; exact ⟨ha, z2⟩
          · rw [upd_ne hb] at z1; exact ⟨z1, z2⟩
      exact hr _ _ ((n2.post p1).comp t1)
theorem sm_sortSet {p p2 pos2 : Pos} (hX : Is C X) (hc : X.calm = true) (hu : X.A.units + 67 < cLine) (hg : Gl X "sorted") (hm : X.mg "sorted" = none) (hg2 : Gl X "set") (hm2 : X.mg "set" = none) (ha : PE X a (tO C W fa Γ Γ1))
    (hs : starEach [a] X.env = (false, eval a X.env) :: starEach [] X.env := by rfl) (hs2 : starEach [.Call (.Name "set" p2) [a] [] pos2] X.env = (false, eval (.Call (.Name "set" p2) [a] [] pos2) X.env) :: starEach [] X.env := by rfl) :
    PE X (.Call (.Name "sorted" p) [.Call (.Name "set" p2) [a] [] pos2] [] pos) (tM C W (e1 sortedSetP fa) Γ Γ1 (.l .v)) :=
  PEi (pe_callB (cr_sortSet hX hc hu) hg hm boot_sorted (pa_cons (pe_callTy (cr_setTL hX hc hu) hg2 hm2 (by decide +kernel) (pa_cons ha pa_nil hs) (by decide) (by decide) hs rfl) pa_nil hs2) (by decide) (by decide) hs2 rfl) fun _ _ _ h => tM_sortSet h

theorem rgV_den {i j : Int} : DenL C Z H (rgV i j) (rangeL i (j - i).toNat) := by
  unfold rgV rangeL
  induction List.range (j - i).toNat with
  | nil => exact .nil
  | cons x l ih => exact .cons (.int _) ih
theorem sm_tupR1 {p p2 pos2 : Pos} (hc : X.calm = true) (hg : Gl X "tuple") (hm : X.mg "tuple" = none) (hg2 : Gl X "range") (hm2 : X.mg "range" = none) (ha : PE X a (tM C W fa Γ Γ1 .v))
    (hs : starEach [a] X.env = (false, eval a X.env) :: starEach [] X.env := by rfl) (hs2 : starEach [.Call (.Name "range" p2) [a] [] pos2] X.env = (false, eval (.Call (.Name "range" p2) [a] [] pos2) X.env) :: starEach [] X.env := by rfl) :
    PE X (.Call (.Name "tuple" p) [.Call (.Name "range" p2) [a] [] pos2] [] pos) (tM C W (e1 tupR1 fa) Γ Γ1 .v) :=
  PEi (pe_tupRg hc hg hm (prg_1 hg2 hm2 ha hs) hs2) fun σ H Q ⟨ρ, Z, A, pre, h⟩ => by
    refine ⟨ρ, Z, A, pre, h.bind.mono (fun r hr v H1 hp => ?_) fun _ he => he⟩
    obtain ⟨Z1, A1, p1, d1, t1⟩ := hp.pre
    have hr := Res.To.bind hr
    unfold tupR1 at hr
    split at hr
    · rename_i n e
      split at hr
      · rename_i c
        rw [e] at d1
        refine ⟨n, d1.toInt, ⟨by decide, by decide, c.1, by omega, by omega⟩, fun q hq => ?_⟩
        have dl := rgV_den (C := C) (Z := Z1) (H := H1) (i := 0) (j := n)
        rw [Int.sub_zero] at dl
        exact hr _ _ (((NewT.tup p1.ok.2.2 hq dl).post p1).comp t1)
      · exact hr.elim
    · exact hr.elim
theorem sm_tupR2 {p p2 pos2 : Pos} (hc : X.calm = true) (hg : Gl X "tuple") (hm : X.mg "tuple" = none) (hg2 : Gl X "range") (hm2 : X.mg "range" = none) (ha : PE X a (tM C W fa Γ Γ1 .v)) (hb : PE X b (tM C W fb Γ1 Γ2 .v))
    (hs : starEach [a, b] X.env = (false, eval a X.env) :: starEach [b] X.env := by rfl) (hs1 : starEach [b] X.env = (false, eval b X.env) :: starEach [] X.env := by rfl) (hsp : ((backTo pos2 (starEach [b] X.env)).any (·.1)) = false := by rfl) (hs2 : starEach [.Call (.Name "range" p2) [a, b] [] pos2] X.env = (false, eval (.Call (.Name "range" p2) [a, b] [] pos2) X.env) :: starEach [] X.env := by rfl) :
    PE X (.Call (.Name "tuple" p) [.Call (.Name "range" p2) [a, b] [] pos2] [] pos) (tM C W (e2 tupR2 fa fb) Γ Γ2 .v) :=
  PEi (pe_tupRg hc hg hm (prg_2 hg2 hm2 ha hb hs hs1 hsp) hs2) fun σ H Q ⟨ρ, Z, A, pre, h⟩ => by
    refine ⟨ρ, Z, A, pre, h.bind.mono (fun r1 h1 v1 H1 hp1 => ?_) fun _ he => he⟩
    obtain ⟨Z1, A1, p1, d1, t1⟩ := hp1.pre
    refine ⟨r1.2, Z1, A1, p1, (Res.To.bind h1).mono (fun r hr v H2 hp => ?_) fun e he cls d H' px => he cls d H' (px.comp t1)⟩
    obtain ⟨Z2, A2, p2, d2, t2⟩ := hp.pre
    have hr := Res.To.bind hr
    unfold tupR2 at hr
    split at hr
    · rename_i i j e1 e2
      split at hr
      · rename_i c
        rw [e1] at d1
        rw [e2] at d2
        refine ⟨i, j, d1.toInt, d2.toInt, ⟨c.1, c.2.1, c.2.2.1, c.2.2.2.1, by omega⟩, fun q hq => ?_⟩
        exact hr _ _ (((NewT.tup p2.ok.2.2 hq rgV_den).post p2).comp (t1.trans t2))
      · exact hr.elim
    · exact hr.elim

/-! what raises nothing -/
theorem nx_add : NoX2 addP := fun p q e h => by unfold addP at h; split at h <;> (try split at h) <;> cases h
theorem nx_cat : NoX2 catP := fun p q e h => by unfold catP at h; split at h <;> (try split at h) <;> cases h
theorem nx_sub : NoX2 subP := fun p q e h => by unfold subP at h; split at h <;> cases h
theorem nx_mul : NoX2 mulP := fun p q e h => by unfold mulP at h; split at h <;> (try split at h) <;> cases h
theorem nx_rep : NoX2 repP := fun p q e h => by unfold repP at h; split at h <;> (try split at h) <;> cases h
theorem nx_fdiv : NoX2 fdivP := fun p q e h => by unfold fdivP at h; split at h <;> (try split at h) <;> cases h
theorem nx_mod : NoX2 modP := fun p q e h => by unfold modP at h; split at h <;> (try split at h) <;> cases h
theorem nx_eq : NoX2 eqP := fun p q e h => by unfold eqP at h; split at h <;> (try split at h) <;> cases h
theorem nx_ne : NoX2 neP := fun p q e h => by unfold neP at h; split at h <;> (try split at h) <;> cases h
theorem nx_isN : NoX2 isNP' := fun p q e h => by unfold isNP' at h; split at h <;> cases h
theorem nx_notN : NoX2 notNP := fun p q e h => by unfold notNP at h; split at h <;> cases h
theorem nx_lt : NoX2 ltP := fun p q e h => by unfold ltP at h; split at h <;> (try split at h) <;> cases h
theorem nx_le : NoX2 leP := fun p q e h => by unfold leP at h; split at h <;> cases h
theorem nx_gt : NoX2 gtP := fun p q e h => by unfold gtP at h; split at h <;> cases h
theorem nx_ge : NoX2 geP := fun p q e h => by unfold geP at h; split at h <;> cases h
theorem opt_bind_nx {α : Type} {o : Option α} {f : α → Res PV} {e : Exc} (hf : ∀ a, f a ≠ .exc e) : (Res.opt o >>= f) ≠ .exc e := by
  cases o with
  | none => exact fun h => by cases h
  | some a => exact hf a
theorem nx_in : NoX2 inP := fun p q e => opt_bind_nx fun _ h => by cases h
theorem nx_notIn : NoX2 notInP := fun p q e => opt_bind_nx fun _ h => by cases h
theorem nx_idx : NoX2 idxP := fun p q e h => by
  unfold idxP at h
  split at h
  · rename_i xs i _
    cases k : L2.atI xs i with
    | none => rw [k] at h; cases h
    | some v => rw [k] at h; cases h
  · cases h
theorem nx_neg : NoX1 negP := fun p e h => by unfold negP at h; split at h <;> cases h
theorem nx_abs : NoX1 absP := fun p e h => by unfold absP at h; split at h <;> cases h
theorem nx_len : NoX1 lenS := fun p e h => by unfold lenS at h; split at h <;> cases h
theorem nx_tuple : NoX1 tupleP := fun p e h => by unfold tupleP at h; split at h <;> cases h
theorem nx_list : NoX1 listP := fun p e h => by unfold listP at h; split at h <;> cases h
theorem nx_int : NoX1 intP := fun p e h => by unfold intP at h; split at h <;> cases h
theorem nx_sum : NoX1 sumP := fun p e => opt_bind_nx fun _ h => by cases h
theorem nx_max : NoX1 maxP := fun p e h => by
  unfold maxP at h
  split at h <;> (try split at h) <;> (try split at h) <;> (try cases h)
  all_goals
    first
    | cases h
    | (rename_i ns _; cases k : maxI ns <;> rw [k] at h <;> cases h)
theorem nx_all : NoX1 allP := fun p e => opt_bind_nx fun _ h => by cases h
theorem nx_any : NoX1 anyP := fun p e => opt_bind_nx fun _ h => by cases h
theorem nx_sorted : NoX1 sortedP := fun p e h => by unfold sortedP at h; split at h <;> (try split at h) <;> cases h
theorem ib_of2 {f : PV → PV → Res PV} (h : ∀ p q r, f p q = .ok r → ∃ b, r = .bool b) : IsB2 f := h
theorem ib_lt : IsB2 ltP := fun p q r h => by unfold ltP at h; split at h <;> (try split at h) <;> cases h <;> exact ⟨_, rfl⟩
theorem ib_le : IsB2 leP := fun p q r h => by unfold leP at h; split at h <;> cases h; exact ⟨_, rfl⟩
theorem ib_gt : IsB2 gtP := fun p q r h => by unfold gtP at h; split at h <;> cases h; exact ⟨_, rfl⟩
theorem ib_ge : IsB2 geP := fun p q r h => by unfold geP at h; split at h <;> cases h; exact ⟨_, rfl⟩
theorem ib_eq : IsB2 eqP := fun p q r h => by unfold eqP at h; split at h <;> (try split at h) <;> cases h <;> exact ⟨_, rfl⟩
theorem ib_ne : IsB2 neP := fun p q r h => by unfold neP at h; split at h <;> (try split at h) <;> cases h <;> exact ⟨_, rfl⟩
theorem ib_isN : IsB2 isNP' := fun p q r h => by unfold isNP' at h; split at h <;> cases h; exact ⟨_, rfl⟩
theorem ib_notN : IsB2 notNP := fun p q r h => by unfold notNP at h; split at h <;> cases h; exact ⟨_, rfl⟩
theorem ib_in : IsB2 inP := fun p q r h => by
  obtain ⟨b, _, h⟩ := bind_ok_inv h
  cases h; exact ⟨_, rfl⟩
theorem ib_notIn : IsB2 notInP := fun p q r h => by
  obtain ⟨b, _, h⟩ := bind_ok_inv h
  cases h; exact ⟨_, rfl⟩
end
end Mi

/-! One rule a construct, as my generator prints it. -/
namespace Mi
open PySem PySem.Spec L2
open PyProof.Rows hiding St

section
variable {C : Cn} {H : Hp} {σ : L2.St} {Γ Γ1 Γ2 Γ3 Γ' : List Ty} {t tr : Ty} {W : WX} {X : Cx} {a b c : Expr} {fa fb fc : ES} {pos : Pos} {R : List (Nat × Ty)} {k : Nat}
theorem Ru (hr : Room k X.A) (n : Nat) (hn : n ≤ 199 := by decide) : X.A.units + n < cLine := by have := hr.un; omega
theorem Ru1 (hr : Room k X.A) : X.A.in1.units + 8 < cLine := by
  have := hr.un
  show X.A.units + 1 + 8 < cLine
  omega
theorem x_add (ha : PE X a (tM C W fa Γ Γ1 .v)) (hb : PE X b (tO C W fb Γ1 Γ2)) (hX : Is C X := by exact ⟨rfl, rfl, rfl⟩) : PE X (.BinOp a .Add b pos) (tM C W (e2 addP fa fb) Γ Γ2 .v) := sm_bin (or_add X) (o_add hX) nx_add ha hb
theorem x_cat (ha : PE X a (tM C W fa Γ Γ1 .v)) (hb : PE X b (tO C W fb Γ1 Γ2)) (hX : Is C X := by exact ⟨rfl, rfl, rfl⟩) : PE X (.BinOp a .Add b pos) (tM C W (e2 catP fa fb) Γ Γ2 (.l .v)) := sm_bin op_cat o_cat nx_cat ha hb
theorem x_sub (ha : PE X a (tM C W fa Γ Γ1 .v)) (hb : PE X b (tO C W fb Γ1 Γ2)) (hX : Is C X := by exact ⟨rfl, rfl, rfl⟩) : PE X (.BinOp a .Sub b pos) (tM C W (e2 subP fa fb) Γ Γ2 .v) := sm_bin op_sub o_sub nx_sub ha hb
theorem x_mul (ha : PE X a (tM C W fa Γ Γ1 .v)) (hb : PE X b (tO C W fb Γ1 Γ2)) (hX : Is C X := by exact ⟨rfl, rfl, rfl⟩) : PE X (.BinOp a .Mult b pos) (tM C W (e2 mulP fa fb) Γ Γ2 .v) := sm_bin (or_mul X) o_mul nx_mul ha hb
theorem x_rep (ha : PE X a (tM C W fa Γ Γ1 .v)) (hb : PE X b (tO C W fb Γ1 Γ2)) (hX : Is C X := by exact ⟨rfl, rfl, rfl⟩) : PE X (.BinOp a .Mult b pos) (tM C W (e2 repP fa fb) Γ Γ2 (.l .v)) := sm_bin op_rep o_rep nx_rep ha hb
theorem x_fdiv (ha : PE X a (tM C W fa Γ Γ1 .v)) (hb : PE X b (tO C W fb Γ1 Γ2)) (hX : Is C X := by exact ⟨rfl, rfl, rfl⟩) : PE X (.BinOp a .FloorDiv b pos) (tM C W (e2 fdivP fa fb) Γ Γ2 .v) := sm_bin op_fdivA o_fdiv nx_fdiv ha hb
theorem x_mod (ha : PE X a (tM C W fa Γ Γ1 .v)) (hb : PE X b (tO C W fb Γ1 Γ2)) (hX : Is C X := by exact ⟨rfl, rfl, rfl⟩) : PE X (.BinOp a .Mod b pos) (tM C W (e2 modP fa fb) Γ Γ2 .v) := sm_bin op_modN o_mod nx_mod ha hb
theorem x_neg (ha : PE X a (tO C W fa Γ Γ1)) : PE X (.UnaryOp .USub a pos) (tM C W (e1 negP fa) Γ Γ1 .v) := sm_un un_negA o_neg nx_neg ha
theorem v_lt (hr : Room k X.A) (ha : PE X a (tM C W fa Γ Γ1 .v)) (hb : PE X b (tO C W fb Γ1 Γ2)) (hX : Is C X := by exact ⟨rfl, rfl, rfl⟩) (hm : behindInMarks .Lt b = false := by rfl) : PE X (.Compare a [.Lt] [b] pos) (tM C W (e2 ltP fa fb) Γ Γ2 .v) := sm_cmp (or_lt (Ru hr 0)) (o_lt hX) nx_lt ha hb hm
theorem t_lt (hr : Room k X.A) (ha : PE X a (tM C W fa Γ Γ1 .v)) (hb : PE X b (tO C W fb Γ1 Γ2)) (hX : Is C X := by exact ⟨rfl, rfl, rfl⟩) (hm : behindInMarks .Lt b = false := by rfl) : PT X (.Compare a [.Lt] [b] pos) (tT C W (e2 ltP fa fb) Γ Γ2) := st_cmp (or_lt (Ru hr 0)) (o_lt hX) nx_lt ib_lt ha hb hm
theorem v_le (hr : Room k X.A) (ha : PE X a (tM C W fa Γ Γ1 .v)) (hb : PE X b (tO C W fb Γ1 Γ2)) (hX : Is C X := by exact ⟨rfl, rfl, rfl⟩) (hm : behindInMarks .LtE b = false := by rfl) : PE X (.Compare a [.LtE] [b] pos) (tM C W (e2 leP fa fb) Γ Γ2 .v) := sm_cmp op_le o_le nx_le ha hb hm
theorem t_le (hr : Room k X.A) (ha : PE X a (tM C W fa Γ Γ1 .v)) (hb : PE X b (tO C W fb Γ1 Γ2)) (hX : Is C X := by exact ⟨rfl, rfl, rfl⟩) (hm : behindInMarks .LtE b = false := by rfl) : PT X (.Compare a [.LtE] [b] pos) (tT C W (e2 leP fa fb) Γ Γ2) := st_cmp op_le o_le nx_le ib_le ha hb hm
theorem v_gt (hr : Room k X.A) (ha : PE X a (tM C W fa Γ Γ1 .v)) (hb : PE X b (tO C W fb Γ1 Γ2)) (hX : Is C X := by exact ⟨rfl, rfl, rfl⟩) (hm : behindInMarks .Gt b = false := by rfl) : PE X (.Compare a [.Gt] [b] pos) (tM C W (e2 gtP fa fb) Γ Γ2 .v) := sm_cmp op_gt o_gt nx_gt ha hb hm
theorem t_gt (hr : Room k X.A) (ha : PE X a (tM C W fa Γ Γ1 .v)) (hb : PE X b (tO C W fb Γ1 Γ2)) (hX : Is C X := by exact ⟨rfl, rfl, rfl⟩) (hm : behindInMarks .Gt b = false := by rfl) : PT X (.Compare a [.Gt] [b] pos) (tT C W (e2 gtP fa fb) Γ Γ2) := st_cmp op_gt o_gt nx_gt ib_gt ha hb hm
theorem v_ge (hr : Room k X.A) (ha : PE X a (tM C W fa Γ Γ1 .v)) (hb : PE X b (tO C W fb Γ1 Γ2)) (hX : Is C X := by exact ⟨rfl, rfl, rfl⟩) (hm : behindInMarks .GtE b = false := by rfl) : PE X (.Compare a [.GtE] [b] pos) (tM C W (e2 geP fa fb) Γ Γ2 .v) := sm_cmp op_ge o_ge nx_ge ha hb hm
theorem t_ge (hr : Room k X.A) (ha : PE X a (tM C W fa Γ Γ1 .v)) (hb : PE X b (tO C W fb Γ1 Γ2)) (hX : Is C X := by exact ⟨rfl, rfl, rfl⟩) (hm : behindInMarks .GtE b = false := by rfl) : PT X (.Compare a [.GtE] [b] pos) (tT C W (e2 geP fa fb) Γ Γ2) := st_cmp op_ge o_ge nx_ge ib_ge ha hb hm
theorem v_eq (hr : Room k X.A) (ha : PE X a (tM C W fa Γ Γ1 .v)) (hb : PE X b (tO C W fb Γ1 Γ2)) (hX : Is C X := by exact ⟨rfl, rfl, rfl⟩) (hm : behindInMarks .Eq b = false := by rfl) : PE X (.Compare a [.Eq] [b] pos) (tM C W (e2 eqP fa fb) Γ Γ2 .v) := sm_cmp (op_eqD (Ru hr 64)) (o_eq hX) nx_eq ha hb hm
theorem t_eq (hr : Room k X.A) (ha : PE X a (tM C W fa Γ Γ1 .v)) (hb : PE X b (tO C W fb Γ1 Γ2)) (hX : Is C X := by exact ⟨rfl, rfl, rfl⟩) (hm : behindInMarks .Eq b = false := by rfl) : PT X (.Compare a [.Eq] [b] pos) (tT C W (e2 eqP fa fb) Γ Γ2) := st_cmp (op_eqD (Ru hr 64)) (o_eq hX) nx_eq ib_eq ha hb hm
theorem v_ne (hr : Room k X.A) (ha : PE X a (tM C W fa Γ Γ1 .v)) (hb : PE X b (tO C W fb Γ1 Γ2)) (hX : Is C X := by exact ⟨rfl, rfl, rfl⟩) (hm : behindInMarks .NotEq b = false := by rfl) : PE X (.Compare a [.NotEq] [b] pos) (tM C W (e2 neP fa fb) Γ Γ2 .v) := sm_cmp (op_neD (Ru hr 64)) (o_ne hX) nx_ne ha hb hm
theorem t_ne (hr : Room k X.A) (ha : PE X a (tM C W fa Γ Γ1 .v)) (hb : PE X b (tO C W fb Γ1 Γ2)) (hX : Is C X := by exact ⟨rfl, rfl, rfl⟩) (hm : behindInMarks .NotEq b = false := by rfl) : PT X (.Compare a [.NotEq] [b] pos) (tT C W (e2 neP fa fb) Γ Γ2) := st_cmp (op_neD (Ru hr 64)) (o_ne hX) nx_ne ib_ne ha hb hm
theorem v_in (hr : Room k X.A) (ha : PE X a (tM C W fa Γ Γ1 .v)) (hb : PE X b (tO C W fb Γ1 Γ2)) (hX : Is C X := by exact ⟨rfl, rfl, rfl⟩) (hm : behindInMarks .In b = false := by rfl) : PE X (.Compare a [.In] [b] pos) (tM C W (e2 inP fa fb) Γ Γ2 .v) := sm_cmp (op_inS (Ru hr 65)) (o_in hX) nx_in ha hb hm
theorem t_in (hr : Room k X.A) (ha : PE X a (tM C W fa Γ Γ1 .v)) (hb : PE X b (tO C W fb Γ1 Γ2)) (hX : Is C X := by exact ⟨rfl, rfl, rfl⟩) (hm : behindInMarks .In b = false := by rfl) : PT X (.Compare a [.In] [b] pos) (tT C W (e2 inP fa fb) Γ Γ2) := st_cmp (op_inS (Ru hr 65)) (o_in hX) nx_in ib_in ha hb hm
theorem v_notIn (hr : Room k X.A) (ha : PE X a (tM C W fa Γ Γ1 .v)) (hb : PE X b (tO C W fb Γ1 Γ2)) (hX : Is C X := by exact ⟨rfl, rfl, rfl⟩) (hm : behindInMarks .NotIn b = false := by rfl) : PE X (.Compare a [.NotIn] [b] pos) (tM C W (e2 notInP fa fb) Γ Γ2 .v) := sm_cmp (op_notInS (Ru hr 65)) (o_notIn hX) nx_notIn ha hb hm
theorem t_notIn (hr : Room k X.A) (ha : PE X a (tM C W fa Γ Γ1 .v)) (hb : PE X b (tO C W fb Γ1 Γ2)) (hX : Is C X := by exact ⟨rfl, rfl, rfl⟩) (hm : behindInMarks .NotIn b = false := by rfl) : PT X (.Compare a [.NotIn] [b] pos) (tT C W (e2 notInP fa fb) Γ Γ2) := st_cmp (op_notInS (Ru hr 65)) (o_notIn hX) nx_notIn ib_notIn ha hb hm
theorem v_isN (hr : Room k X.A) (ha : PE X a (tM C W fa Γ Γ1 .v)) (hb : PE X b (tO C W fb Γ1 Γ2)) (hX : Is C X := by exact ⟨rfl, rfl, rfl⟩) (hm : behindInMarks .Is b = false := by rfl) : PE X (.Compare a [.Is] [b] pos) (tM C W (e2 isNP' fa fb) Γ Γ2 .v) := sm_cmp op_isN o_isN nx_isN ha hb hm
theorem t_isN (hr : Room k X.A) (ha : PE X a (tM C W fa Γ Γ1 .v)) (hb : PE X b (tO C W fb Γ1 Γ2)) (hX : Is C X := by exact ⟨rfl, rfl, rfl⟩) (hm : behindInMarks .Is b = false := by rfl) : PT X (.Compare a [.Is] [b] pos) (tT C W (e2 isNP' fa fb) Γ Γ2) := st_cmp op_isN o_isN nx_isN ib_isN ha hb hm
theorem v_notN (hr : Room k X.A) (ha : PE X a (tM C W fa Γ Γ1 .v)) (hb : PE X b (tO C W fb Γ1 Γ2)) (hX : Is C X := by exact ⟨rfl, rfl, rfl⟩) (hm : behindInMarks .IsNot b = false := by rfl) : PE X (.Compare a [.IsNot] [b] pos) (tM C W (e2 notNP fa fb) Γ Γ2 .v) := sm_cmp op_notN o_notN nx_notN ha hb hm
theorem t_notN (hr : Room k X.A) (ha : PE X a (tM C W fa Γ Γ1 .v)) (hb : PE X b (tO C W fb Γ1 Γ2)) (hX : Is C X := by exact ⟨rfl, rfl, rfl⟩) (hm : behindInMarks .IsNot b = false := by rfl) : PT X (.Compare a [.IsNot] [b] pos) (tT C W (e2 notNP fa fb) Γ Γ2) := st_cmp op_notN o_notN nx_notN ib_notN ha hb hm
theorem v_lt_lt (hr : Room k X.A) (ha : PE X a (tM C W fa Γ Γ1 .v)) (hb : PE X b (tM C W fb Γ1 Γ2 .v)) (hc : PE X c (tO C W fc Γ2 Γ2)) (hX : Is C X := by exact ⟨rfl, rfl, rfl⟩) (hm : lastMarks [.Lt, .Lt] [b, c] = false := by with_unfolding_all rfl) : PE X (.Compare a [.Lt, .Lt] [b, c] pos) (tM C W (eChB ltP ltP fa fb fc) Γ Γ2 .v) := sm_chain (or_lt (Ru hr 0)) (or_lt (Ru hr 0)) (o_lt hX) (o_lt hX) nx_lt nx_lt ib_lt ha hb hc hm
theorem t_lt_lt (hr : Room k X.A) (ha : PE X a (tM C W fa Γ Γ1 .v)) (hb : PE X b (tM C W fb Γ1 Γ2 .v)) (hc : PE X c (tO C W fc Γ2 Γ2)) (hX : Is C X := by exact ⟨rfl, rfl, rfl⟩) (hm : lastMarks [.Lt, .Lt] [b, c] = false := by with_unfolding_all rfl) : PT X (.Compare a [.Lt, .Lt] [b, c] pos) (tT C W (eChB ltP ltP fa fb fc) Γ Γ2) := st_chain (or_lt (Ru hr 0)) (or_lt (Ru hr 0)) (o_lt hX) (o_lt hX) nx_lt nx_lt ib_lt ib_lt ha hb hc hm
theorem v_lt_le (hr : Room k X.A) (ha : PE X a (tM C W fa Γ Γ1 .v)) (hb : PE X b (tM C W fb Γ1 Γ2 .v)) (hc : PE X c (tO C W fc Γ2 Γ2)) (hX : Is C X := by exact ⟨rfl, rfl, rfl⟩) (hm : lastMarks [.Lt, .LtE] [b, c] = false := by with_unfolding_all rfl) : PE X (.Compare a [.Lt, .LtE] [b, c] pos) (tM C W (eChB ltP leP fa fb fc) Γ Γ2 .v) := sm_chain (or_lt (Ru hr 0)) op_le (o_lt hX) o_le nx_lt nx_le ib_lt ha hb hc hm
theorem t_lt_le (hr : Room k X.A) (ha : PE X a (tM C W fa Γ Γ1 .v)) (hb : PE X b (tM C W fb Γ1 Γ2 .v)) (hc : PE X c (tO C W fc Γ2 Γ2)) (hX : Is C X := by exact ⟨rfl, rfl, rfl⟩) (hm : lastMarks [.Lt, .LtE] [b, c] = false := by with_unfolding_all rfl) : PT X (.Compare a [.Lt, .LtE] [b, c] pos) (tT C W (eChB ltP leP fa fb fc) Γ Γ2) := st_chain (or_lt (Ru hr 0)) op_le (o_lt hX) o_le nx_lt nx_le ib_lt ib_le ha hb hc hm
theorem v_le_lt (hr : Room k X.A) (ha : PE X a (tM C W fa Γ Γ1 .v)) (hb : PE X b (tM C W fb Γ1 Γ2 .v)) (hc : PE X c (tO C W fc Γ2 Γ2)) (hX : Is C X := by exact ⟨rfl, rfl, rfl⟩) (hm : lastMarks [.LtE, .Lt] [b, c] = false := by with_unfolding_all rfl) : PE X (.Compare a [.LtE, .Lt] [b, c] pos) (tM C W (eChB leP ltP fa fb fc) Γ Γ2 .v) := sm_chain op_le (or_lt (Ru hr 0)) o_le (o_lt hX) nx_le nx_lt ib_le ha hb hc hm
theorem t_le_lt (hr : Room k X.A) (ha : PE X a (tM C W fa Γ Γ1 .v)) (hb : PE X b (tM C W fb Γ1 Γ2 .v)) (hc : PE X c (tO C W fc Γ2 Γ2)) (hX : Is C X := by exact ⟨rfl, rfl, rfl⟩) (hm : lastMarks [.LtE, .Lt] [b, c] = false := by with_unfolding_all rfl) : PT X (.Compare a [.LtE, .Lt] [b, c] pos) (tT C W (eChB leP ltP fa fb fc) Γ Γ2) := st_chain op_le (or_lt (Ru hr 0)) o_le (o_lt hX) nx_le nx_lt ib_le ib_lt ha hb hc hm
theorem v_le_le (hr : Room k X.A) (ha : PE X a (tM C W fa Γ Γ1 .v)) (hb : PE X b (tM C W fb Γ1 Γ2 .v)) (hc : PE X c (tO C W fc Γ2 Γ2)) (hX : Is C X := by exact ⟨rfl, rfl, rfl⟩) (hm : lastMarks [.LtE, .LtE] [b, c] = false := by with_unfolding_all rfl) : PE X (.Compare a [.LtE, .LtE] [b, c] pos) (tM C W (eChB leP leP fa fb fc) Γ Γ2 .v) := sm_chain op_le op_le o_le o_le nx_le nx_le ib_le ha hb hc hm
theorem t_le_le (hr : Room k X.A) (ha : PE X a (tM C W fa Γ Γ1 .v)) (hb : PE X b (tM C W fb Γ1 Γ2 .v)) (hc : PE X c (tO C W fc Γ2 Γ2)) (hX : Is C X := by exact ⟨rfl, rfl, rfl⟩) (hm : lastMarks [.LtE, .LtE] [b, c] = false := by with_unfolding_all rfl) : PT X (.Compare a [.LtE, .LtE] [b, c] pos) (tT C W (eChB leP leP fa fb fc) Γ Γ2) := st_chain op_le op_le o_le o_le nx_le nx_le ib_le ib_le ha hb hc hm
theorem b_len (hm : X.mg "len" = none) (ha : PE X a (tO C W fa Γ Γ1)) (hX : Is C X := by exact ⟨rfl, rfl, rfl⟩) (hg : Gl X "len" := by rfl) (hs : starEach [a] X.env = (false, eval a X.env) :: starEach [] X.env := by rfl) {p : Pos} : PE X (.Call (.Name "len" p) [a] [] pos) (tM C W (e1 lenS fa) Γ Γ1 .v) := sm_b1 call_len_seq (o_len hX) nx_len hg hm (by decide +kernel) ha hs
theorem b_lenD (hm : X.mg "len" = none) (ha : PE X a (tO C W fa Γ Γ1)) (hX : Is C X := by exact ⟨rfl, rfl, rfl⟩) (hg : Gl X "len" := by rfl) (hs : starEach [a] X.env = (false, eval a X.env) :: starEach [] X.env := by rfl) {p : Pos} : PE X (.Call (.Name "len" p) [a] [] pos) (tM C W (e1 lenD fa) Γ Γ1 .v) := sm_b1 (cr_lenD hX) o_lenD nox_lenD hg hm (by decide +kernel) ha hs
theorem b_sum (hm : X.mg "sum" = none) (ha : PE X a (tO C W fa Γ Γ1)) (hX : Is C X := by exact ⟨rfl, rfl, rfl⟩) (hg : Gl X "sum" := by rfl) (hc : X.calm = true := by rfl) (hs : starEach [a] X.env = (false, eval a X.env) :: starEach [] X.env := by rfl) {p : Pos} : PE X (.Call (.Name "sum" p) [a] [] pos) (tM C W (e1 sumP fa) Γ Γ1 .v) := sm_b1 (cr_sumA hc) (o_sum hX) nx_sum hg hm (by decide +kernel) ha hs
theorem b_max (hm : X.mg "max" = none) (ha : PE X a (tO C W fa Γ Γ1)) (hX : Is C X := by exact ⟨rfl, rfl, rfl⟩) (hg : Gl X "max" := by rfl) (hc : X.calm = true := by rfl) (hs : starEach [a] X.env = (false, eval a X.env) :: starEach [] X.env := by rfl) {p : Pos} : PE X (.Call (.Name "max" p) [a] [] pos) (tM C W (e1 maxP fa) Γ Γ1 .v) := sm_b1 (cr_max hc) (o_max hX) nx_max hg hm (by decide +kernel) ha hs
theorem b_all (hm : X.mg "all" = none) (ha : PE X a (tO C W fa Γ Γ1)) (hX : Is C X := by exact ⟨rfl, rfl, rfl⟩) (hg : Gl X "all" := by rfl) (hc : X.calm = true := by rfl) (hs : starEach [a] X.env = (false, eval a X.env) :: starEach [] X.env := by rfl) {p : Pos} : PE X (.Call (.Name "all" p) [a] [] pos) (tM C W (e1 allP fa) Γ Γ1 .v) := sm_b1 (cr_all hc) (o_all hX) nx_all hg hm (by decide +kernel) ha hs
theorem b_any (hm : X.mg "any" = none) (ha : PE X a (tO C W fa Γ Γ1)) (hX : Is C X := by exact ⟨rfl, rfl, rfl⟩) (hg : Gl X "any" := by rfl) (hc : X.calm = true := by rfl) (hs : starEach [a] X.env = (false, eval a X.env) :: starEach [] X.env := by rfl) {p : Pos} : PE X (.Call (.Name "any" p) [a] [] pos) (tM C W (e1 anyP fa) Γ Γ1 .v) := sm_b1 (cr_any hc) (o_any hX) nx_any hg hm (by decide +kernel) ha hs
theorem b_abs (hm : X.mg "abs" = none) (ha : PE X a (tO C W fa Γ Γ1)) (hX : Is C X := by exact ⟨rfl, rfl, rfl⟩) (hg : Gl X "abs" := by rfl) (hs : starEach [a] X.env = (false, eval a X.env) :: starEach [] X.env := by rfl) {p : Pos} : PE X (.Call (.Name "abs" p) [a] [] pos) (tM C W (e1 absP fa) Γ Γ1 .v) := sm_b1 call_abs o_abs nx_abs hg hm (by decide +kernel) ha hs
theorem b_sorted (hr : Room k X.A) (hm : X.mg "sorted" = none) (ha : PE X a (tO C W fa Γ Γ1)) (hX : Is C X := by exact ⟨rfl, rfl, rfl⟩) (hg : Gl X "sorted" := by rfl) (hs : starEach [a] X.env = (false, eval a X.env) :: starEach [] X.env := by rfl) {p : Pos} : PE X (.Call (.Name "sorted" p) [a] [] pos) (tM C W (e1 sortedP fa) Γ Γ1 (.l .v)) := sm_b1 (cr_sortD hX (Ru hr 67)) o_sorted nx_sorted hg hm (by decide +kernel) ha hs
theorem b_sortedD (hr : Room k X.A) (hm : X.mg "sorted" = none) (ha : PE X a (tO C W fa Γ Γ1)) (hX : Is C X := by exact ⟨rfl, rfl, rfl⟩) (hg : Gl X "sorted" := by rfl) (hc : X.calm = true := by rfl) (hs : starEach [a] X.env = (false, eval a X.env) :: starEach [] X.env := by rfl) {p : Pos} : PE X (.Call (.Name "sorted" p) [a] [] pos) (tM C W (e1 sortedD fa) Γ Γ1 (.l .v)) := sm_b1 (cr_sortDc hX hc (Ru hr 67)) o_sortDc nox_sortDc hg hm (by decide +kernel) ha hs
theorem b_tuple (hm : X.mg "tuple" = none) (ha : PE X a (tO C W fa Γ Γ1)) (hX : Is C X := by exact ⟨rfl, rfl, rfl⟩) (hg : Gl X "tuple" := by rfl) (hs : starEach [a] X.env = (false, eval a X.env) :: starEach [] X.env := by rfl) {p : Pos} : PE X (.Call (.Name "tuple" p) [a] [] pos) (tM C W (e1 tupleP fa) Γ Γ1 .v) := sm_t1 call_tuple_of (o_tuple hX) nx_tuple hg hm (by decide +kernel) ha hs
theorem b_list (hm : X.mg "list" = none) (ha : PE X a (tO C W fa Γ Γ1)) (hX : Is C X := by exact ⟨rfl, rfl, rfl⟩) (hg : Gl X "list" := by rfl) (hs : starEach [a] X.env = (false, eval a X.env) :: starEach [] X.env := by rfl) {p : Pos} : PE X (.Call (.Name "list" p) [a] [] pos) (tM C W (e1 listP fa) Γ Γ1 (.l .v)) := sm_t1 call_list_of (o_list hX) nx_list hg hm (by decide +kernel) ha hs
theorem b_int (hm : X.mg "int" = none) (ha : PE X a (tO C W fa Γ Γ1)) (hX : Is C X := by exact ⟨rfl, rfl, rfl⟩) (hg : Gl X "int" := by rfl) (hs : starEach [a] X.env = (false, eval a X.env) :: starEach [] X.env := by rfl) {p : Pos} : PE X (.Call (.Name "int" p) [a] [] pos) (tM C W (e1 intP fa) Γ Γ1 .v) := sm_t1 call_int1 o_intB nx_int hg hm (by decide +kernel) ha hs
theorem x_ix (ha : PE X a (tM C W fa Γ Γ1 .v)) (hb : PE X b (tO C W fb Γ1 Γ2)) (hs : PlainIx b := by intros _ _; rfl) (hX : Is C X := by exact ⟨rfl, rfl, rfl⟩) : PE X (.Subscript a b pos) (tM C W (e2 idxP fa fb) Γ Γ2 .v) := sm_ix ix_seq (o_ix hX) nx_idx ha hb hs
/-- x[i], x our own list -/
def eIxO (k : Nat) (fi : ES) : ES := fun ρ => eVar k ρ >>= fun _ => fi ρ >>= fun i => eVar k i.2 >>= fun l => idxP l.1 i.1 >>= fun z => .ok (z, i.2)
theorem x_ixO {i : Nat} {x : Str} {p : Pos} (hN : X.N[i]? = some x) (hv : Vis X.env.scope x) (hb : PE X b (tM C W fb Γ Γ1 .v)) (h0 : Γ[i]? = some (.l .v)) (h1 : Γ1[i]? = some (.l .v)) (hs : PlainIx b := by intros _ _; rfl) (hX : Is C X := by exact ⟨rfl, rfl, rfl⟩) (hd : (x == ("__debug__" : Str)) = false := by decide) (hcd : (x == ("__classdict__" : Str)) = false := by decide) :
    PE X (.Subscript (.Name x p) b pos) (tM C W (eIxO i fb) Γ Γ1 .v) := PEi (pe_ix ix_seq (pe_var hN hv hd hcd) hb hs) fun σ H Q ⟨ρ, Z, A, pre, h⟩ => by
  obtain ⟨q0, hq0, h⟩ := eVar_ok h.bind
  obtain ⟨ov, _, e0, rp, _⟩ := pre.own h0 hq0
  refine ⟨ov, e0, ρ, Z, A, pre, (Res.To.bind h).mono (fun r1 hr j H1 hp => ?_) fun _ he => he⟩
  obtain ⟨Z1, A1, p1, d1, t1⟩ := hp.pre
  obtain ⟨q1, hq1, hr⟩ := eVar_ok hr.bind
  obtain ⟨xs, kk, z, el, ei, ez, hr3⟩ := idxP_to (Res.To.bind hr)
  have el' : q1 = .lst xs := by
    obtain ⟨v', _, e', rp, _⟩ := p1.own h1 hq1
    cases rp
    cases el; rfl
  subst el'
  obtain ⟨a, us, e1, ha, hu, _⟩ := p1.lstSet h1 hq1 (ys := xs)
  rw [e0] at e1; cases e1
  rw [ei] at d1
  obtain ⟨w, ew, dw⟩ := hu.atI ez
  exact .inl ⟨a, us, kk, w, rfl, d1.toInt, .of ha, ew, hr3 _ _ ((p1.post0 dw).comp t1)⟩
end
end Mi

open PySem PySem.Spec L2
open PyProof.Rows hiding St

namespace VE
/-- ValueError.__init__, bound -/
@[reducible] def bw (x : Addr) : Obj := { cls := .type "method-wrapper", data := .fields #[.builtin "ValueError.__init__", .ref x] }
theorem type_vi : typeOf (.builtin "ValueError.__init__") = pure (.type "wrapper_descriptor") := by rfl
theorem run_wd {M : Model} {A : Around} {E : Value → Shared → Prop} {h : Heap} {g : Array GenState} {d : Drawn} {t : Nat} {os : OsState} {x C : Addr} {P : PySem.Fin → Shared → Prop} (hi : PySem.W.Looks M h (isInstance (.ref x) (.type "ValueError")) true)
    (q : P (.done (.ret (.ref h.objs.size))) ⟨h.push (bw x), g, d, t, os⟩) : wpAny M A (Builtin.«wrapper_descriptor.__get__» { pos := [.builtin "ValueError.__init__", .ref x, .ref C] }) P E ⟨h, g, d, t, os⟩ := by
  unfold Builtin.«wrapper_descriptor.__get__»
  refine wpAny_bind (wpAny_of_eq (a := (.builtin "ValueError.__init__", some (.ref x), some (.ref C))) rfl ?_)
  dsimp only
  refine wpAny_bind ?_
  refine wpAny_bind (wpAny_of_eq (a := (("__init__" : Str), Value.type "ValueError")) rfl ?_)
  refine wpAny_bind (hi _ _ _ _ (fun _ _ e => e) ?_)
  simp only [Bool.not_true, if_false, Bool.false_eq_true]
  refine wpAny_pure ?_
  unfold newFields
  refine wpAny_bind (wpAny_newObj_type ?_ ?_)
  · exact wpAny_pure q
  · show sizeOk _
    unfold sizeOk
    rw [sizeLine_eq]
    show 2 ≤ 16777216 + 2
    decide
theorem super_ga {prog : Program} {w : World} {A : Around} {E : Value → Shared → Prop} {h : Heap} {g : Array GenState} {d : Drawn} {t : Nat} {os : OsState} {so D x C : Addr} {l₀ l : List Value} {K : PySem.W.Frag} {name : Str} {tk : Tok} {Q : PySem.Fin → Shared → Prop}
    (h1 : h.get? so = some { cls := .type "super", data := .fields #[.ref D, .ref x, .ref C] }) (h2 : PySem.W.Looks (model prog w) h (opaqueClassAbove (.ref C)) none) (h3 : PySem.W.Looks (model prog w) h (mroOf (.ref C)) l₀) (h4 : (l₀.dropWhile fun y => y != Value.ref D).drop 1 = l) (hK : K.In h)
    (h5 : PySem.W.alongIn K name l = some (some (.builtin "ValueError.__init__"))) (h6 : x ≠ C) (h7 : (name == ("__class__" : Str)) = false) (h8 : PySem.W.Looks (model prog w) h (isInstance (.ref x) (.type "ValueError")) true)
    (q : Q (.done (.ret (.ref h.objs.size))) ⟨h.push (bw x), g, d, t, os⟩) : wpAny (model prog w) A (Builtin.«super.__getattribute__» { pos := [.ref so, .str name tk] }) Q E ⟨h, g, d, t, os⟩ := by
  unfold Builtin.«super.__getattribute__»
  dsimp only
  refine wpAny_bind (wpAny_pure ?_)
  simp only [Option.isNone_some, if_false, Bool.false_eq_true]
  refine wpAny_bind (wpAny_pure ?_)
  dsimp only
  refine wpAny_bind (wpAny_field (o := { cls := .type "super", data := .fields #[.ref D, .ref x, .ref C] }) h1 rfl (x := .ref D) rfl ?_)
  refine wpAny_bind (wpAny_field (o := { cls := .type "super", data := .fields #[.ref D, .ref x, .ref C] }) h1 rfl (x := .ref x) rfl ?_)
  refine wpAny_bind (wpAny_field (o := { cls := .type "super", data := .fields #[.ref D, .ref x, .ref C] }) h1 rfl (x := .ref C) rfl ?_)
  have hs : (Value.ref C == Value.none || name == ("__class__" : Str)) = false := by rw [h7]; rfl
  simp only [hs, if_false, Bool.false_eq_true]
  refine wpAny_bind (ks_wpAny_notOpaque h2 ?_)
  have hm : (Value.ref C == Value.type "module") = false := rfl
  simp only [hm, if_false, Bool.false_eq_true]
  refine wpAny_bind (h3 _ _ _ _ (fun _ _ e => e) ?_)
  rw [h4]
  refine wpAny_bind ?_
  refine ks_forIn_along hK (fun c r => rfl) rfl ?_ h5
  dsimp only
  refine wpAny_bind (wpAny_of_eq type_vi ?_)
  refine wpAny_bind (wpAny_of_eq ESX.slot_wd.lookup ?_)
  dsimp only
  have hx : (Value.ref x == Value.ref C) = false := by
    rw [beq_eq_false_iff_ne]
    exact fun e => h6 (Value.ref.inj e)
  simp only [hx, if_false, Bool.false_eq_true]
  refine wpAny_bind (wpAny_holding ?_)
  refine wpAny_call_entry ESX.slot_wd (show Shared.TypeIs _ (.builtin "ValueError.__init__") "wrapper_descriptor" from type_vi) ESX.entry_wd (run_wd h8 ⟨_, rfl, ?_⟩) (ESX.args_wd _ _ _)
  refine wpAny_bind (wpAny_pure ?_)
  refine wpAny_pure ?_
  exact wpAny_pure q
theorem getMethod_super {prog : Program} {w : World} {A : Around} {E : Value → Shared → Prop} {h : Heap} {g : Array GenState} {d : Drawn} {t : Nat} {os : OsState} {so D x C : Addr} {l₀ l : List Value} {K : PySem.W.Frag} {name : Str} {pl : Sem Bool} {Q : Value × List Value → Shared → Prop}
    (h1 : h.get? so = some { cls := .type "super", data := .fields #[.ref D, .ref x, .ref C] }) (h2 : PySem.W.Looks (model prog w) h (opaqueClassAbove (.ref C)) none) (h3 : PySem.W.Looks (model prog w) h (mroOf (.ref C)) l₀) (h4 : (l₀.dropWhile fun y => y != Value.ref D).drop 1 = l) (hK : K.In h)
    (h5 : PySem.W.alongIn K name l = some (some (.builtin "ValueError.__init__"))) (h6 : x ≠ C) (h7 : (name == ("__class__" : Str)) = false) (h8 : PySem.W.Looks (model prog w) h (isInstance (.ref x) (.type "ValueError")) true)
    (q : Q (.ref h.objs.size, []) ⟨h.push (bw x), g, d, t + 1, os⟩) : wpAny (model prog w) A (getMethod (.ref so) name pl) Q E ⟨h, g, d, t, os⟩ := by
  have hty : Shared.TypeIs ⟨h, g, d, t, os⟩ (.ref so) "super" := ⟨_, h1, rfl⟩
  unfold getMethod
  refine wpAny_bind (wpAny_specialOf hty F.ks_slot_super_ga.lookup ?_)
  dsimp only
  rw [if_pos F.ks_canon_super_ga]
  refine wpAny_bind ?_
  unfold getAttr
  refine wpAny_bind (wpAny_mkText ?_)
  unfold getAttrBy
  have hty' : Shared.TypeIs ⟨h, g, d, t + 1, os⟩ (.ref so) "super" := ⟨_, h1, rfl⟩
  refine wpAny_holding ?_
  refine wpAny_bind (wpAny_typeOf hty' ?_)
  refine wpAny_bind (wpAny_of_eq F.ks_slot_super_ga.lookup ?_)
  have ho : (onTheHeap (.type "super") && Value.builtin "super.__getattribute__" == Value.builtin "object.__getattribute__") = false := rfl
  simp only [ho, if_false, Bool.false_eq_true]
  unfold getAttrByItsOwn
  refine wpAny_bind (wpAny_of_eq (a := none) rfl ?_)
  refine wpAny_bind (wpAny_attempt ?_)
  refine wpAny_holding ?_
  unfold callGetattribute
  simp only [Bool.false_and, if_false, Bool.false_eq_true]
  unfold boundAndCalled
  refine wpAny_bind (wpAny_of_eq (F.ks_slot_super_ga.bind _) ?_)
  refine wpAny_call_entry F.ks_slot_super_ga hty' F.ks_entry_super_ga (super_ga h1 h2 h3 h4 hK h5 h6 h7 h8 ⟨_, rfl, ?_⟩) (F.ks_gaArgs_super _ _)
  refine wpAny_of_eq (a := .ref h.objs.size) rfl ?_
  exact wpAny_pure q
theorem callWith_bound {M : Model} {A : Around} {E : Value → Shared → Prop} {s : Shared} {pos : Pos} {u x : Addr} {first : List Value} {env : Env} {e : Expr} {rest : List Expr} {Q : Value → Shared → Prop}
    (h : wpAny M A (spliced (backTo pos (starEach (e :: rest) env))) (fun vs s₁ => s₁.heap.get? u = some (bw x) ∧ wpAny M A (call (.ref u) (first ++ vs)) Q E s₁) E s)
    (hs : starEach (e :: rest) env = (false, eval e env) :: starEach rest env := by rfl) (hp : ((backTo pos (starEach rest env)).any (·.1)) = false := by rfl) : wpAny M A (callWith pos (.ref u) first (backTo pos (starEach (e :: rest) env)) []) Q E s := by
  rw [hs]
  unfold callWith
  refine wpAny_bind (wpAny_holding ?_)
  have e0 : backTo pos ((false, eval e env) :: starEach rest env) = (false, eval e env) :: backTo pos (starEach rest env) := rfl
  rw [hs, e0] at h
  rw [e0]
  refine Calls.evalArgs_plain (thn h fun vs s1 ⟨hu, q⟩ => ?_)
  refine wpAny_bind (wpAny_standAt ?_)
  have hst : ((((false, eval e env) :: backTo pos (starEach rest env)).any fun x => x.1) || ([] : List (Option Str × Sem Value)).any fun x => x.1.isNone) = false := by
    rw [List.any_cons, hp]; rfl
  dsimp only
  rw [hst]
  refine wpAny_bind ?_
  unfold keeperOf
  refine wpAny_bind (wpAny_load hu ?_)
  have k1 : (Value.type "method-wrapper" != Value.type "method") = true := rfl
  have k2 : (Value.type "method-wrapper" == Value.type "builtin_function_or_method" || Value.type "method-wrapper" == Value.type "method-wrapper") = true := rfl
  simp only [k1, k2, if_true]
  refine wpAny_pure ?_
  dsimp only
  refine wpAny_bind (thn q fun r s2 hq => ?_)
  exact wpAny_bind (wpAny_holding (wpAny_point (wpAny_pure hq)))
theorem call_bw {prog : Program} {w : World} {A : Around} {E : Value → Shared → Prop} {h : Heap} {g : Array GenState} {d : Drawn} {t : Nat} {os : OsState} {nm q : Str} {C N : Addr} {bs bm : List Value} {hdct : Bool} {sn : List Str} {sub : List Value} {ab : Bool} {col : Option Bool} {dd : Option Addr} {k0 k1 k2 k3 k5 : Option Value} {u e t0 : Addr} {rest : List Value} {Q : Value → Shared → Prop}
    (hC : h.get? C = some (excClassObj nm q C N bs bm hdct sn sub ab col dd k0 k1 k2 k3 k5 "ValueError.__new__")) (he : h.get? e = some (HandSPX.excO C t0)) (hu : h.get? u = some (bw e)) (hr : rest.length ≤ sizeLine)
    (hq : ∀ (h' : Heap) (t1 : Addr), (∀ (b : Addr) (o : Obj), b ≠ e → h.get? b = some o → h'.get? b = some o) → h'.get? e = some (HandSPX.excO C t1) → Q .none ⟨h', g, d, t, os⟩) : wpAny (model prog w) A (call (.ref u) rest) Q E ⟨h, g, d, t, os⟩ := by
  refine wpAny_call (codeAny_of_tree ?_)
  show wpAny (model prog w) (A.under (Code.call (.ref u) { pos := rest })) (callAny (.ref u) { pos := rest }) _ _ _
  unfold callAny
  refine wpAny_bind (wpAny_load hu ?_)
  have k1 : (Value.type "method-wrapper" == Value.type "method" || Value.type "method-wrapper" == Value.type "builtin_function_or_method" || Value.type "method-wrapper" == Value.type "method-wrapper") = true := rfl
  have k2 : (Value.type "method-wrapper" != Value.type "method") = true := rfl
  have k3 : (#[Value.builtin "ValueError.__init__", Value.ref e] : Array Value)[0]? = some (Value.builtin "ValueError.__init__") := rfl
  have k4 : (#[Value.builtin "ValueError.__init__", Value.ref e] : Array Value)[1]? = some (Value.ref e) := rfl
  dsimp only
  simp only [k1, k2, k3, k4, if_true]
  refine wpAny_bind (ESX.check_bound F.excBase_ValueError hC he rfl ?_)
  refine wpAny_pure ⟨Code.quiet_builtin _ (by decide +kernel), codeAny_builtin F.excBase_ValueError.initEntry ?_⟩
  unfold Builtin.«BaseException.__init__»
  dsimp only
  simp only [List.isEmpty_nil, Bool.not_true, if_false, Bool.false_eq_true]
  refine wpAny_bind (wpAny_newTuple ?_ hr)
  have he1 := Heap.get?_push_of_some { cls := .type "tuple", data := .seq rest.toArray : Obj } he
  refine wpAny_bind ?_
  unfold Builtin.BaseException.bexcPut
  refine wpAny_bind (wpAny_field (o := HandSPX.excO C t0) he1 rfl (x := .ref t0) rfl ?_)
  refine wpAny_bind (wpAny_setField (o := HandSPX.excO C t0) he1 rfl (show 0 < 6 by decide) ?_)
  dsimp only
  refine wpAny_letGo ?_
  refine wpAny_pure ?_
  refine hq _ h.objs.size (fun b o hb hbo => ?_) ?_
  · rw [Heap.get?_update_other _ _ (Ne.symm hb)]
    exact Heap.get?_push_of_some _ hbo
  · exact Heap.get?_update_self _ he1 rfl

/-! ### the class Refused over Fault over ValueError -/
def iA : Arguments := { posonlyargs := [], args := [{ arg := "self", annotation := none, pos := ⟨6, 17, 6, 21⟩ }, { arg := "reason", annotation := none, pos := ⟨6, 23, 6, 29⟩ }], vararg := none, kwonlyargs := [], kw_defaults := [], kwarg := none, defaults := [] }
def iB : List Stmt := [.Expr (.Call (.Attribute (.Call (.Name "super" ⟨7, 8, 7, 13⟩) [] [] ⟨7, 8, 7, 15⟩) "__init__" ⟨7, 8, 7, 24⟩) [.Name "reason" ⟨7, 25, 7, 31⟩] [] ⟨7, 8, 7, 32⟩) ⟨7, 8, 7, 32⟩, .Assign [.Attribute (.Name "self" ⟨8, 8, 8, 12⟩) "reason" ⟨8, 8, 8, 19⟩] (.Name "reason" ⟨8, 22, 8, 28⟩) ⟨8, 8, 8, 28⟩]
def iS : Scope := { kind := .function, names := [(PySem.Str.ofString "self", .local), (PySem.Str.ofString "reason", .local), (PySem.Str.ofString "__class__", .free), (PySem.Str.ofString "super", .globalImplicit)], isGenerator := false, isCoroutine := false, more := [] }
structure RefTxt (prog : Program) (K : PySem.W.Frag) (mg : Str → Option Value) (C fI cA cda : Addr) : Prop where
  gC : mg "Refused" = some (.ref C)
  cls : ∃ nm q N bs bm sn sub ab col dd k0 k1 k2 k3 k5, K.lookup C = some (excClassObj nm q C N bs bm true sn sub ab col dd k0 k1 k2 k3 k5 "ValueError.__new__") ∧ HandSPX.refsVE bm = true ∧ PySem.W.alongIn K "__init__" bm = some (some (.builtin "ValueError.__init__")) ∧ bm.contains (.type "ValueError") = true
  sa : PySem.W.findIn K (.ref C) "__setattr__" = some (some (.builtin "object.__setattr__"))
  noN : PySem.W.findIn K (.ref C) "reason" = some none
  iC : PySem.W.findIn K (.ref C) "__init__" = some (some (.ref fI))
  tC : PySem.W.typeIn K (.ref fI) = some (.type "function")
  kC : PySem.W.keepIn K (.ref C) = true
  exC : PySem.W.subIn K (.ref C) (.type "BaseException") = some true
  tyC : PySem.W.typeIn K (.ref C) = some (.type "type")
  nS : mg "super" = none
  op : PySem.W.nsIn K cStatics "thirdparty.any" = some none
  cell : ∃ cl cld csl, K.lookup cA = some ⟨cl, cld, .cell (some (.ref C)), csl⟩
  code : ∃ ccl cdd vs ccs file tf, K.lookup cda = some ⟨ccl, cdd, .fields vs, ccs⟩ ∧ vs[2]? = some (.str file tf) ∧ (prog.main.file == file) = true
  noSup : (prog.main.scope.names.lookup (PySem.Str.ofString "super")).isSome = false
  fn : ∃ (oc : Value) (od : Option Addr) (doc pm : Value) (an : Option Addr) (ct : Value) (osl : Array (Option Value)),
    K.lookup fI = some ⟨oc, od, .func (PySem.W.ksFn "__init__" "Refused.__init__" iA iB iS .none .none doc pm an (.ref cda) ct cA), osl⟩ ∧ PySem.W.codeIn K (.ref cda) "Refused.__init__" = true
/-- what __init__ leaves of a fresh exception at x -/
structure InitEnd (h h' : Heap) (x C dx t1 : Addr) (v : Value) : Prop where
  keep : ∀ b o, b ≠ x → h.get? b = some o → h'.get? b = some o
  obj : h'.get? x = some { cls := .ref C, dict := some dx, data := .fields #[.ref t1, .none, .none, .none, .bool false, .none] }
  dbig : h.objs.size ≤ dx
  dne : dx ≠ x
  ns : h'.Ns1 dx (fun y => if y = "reason" then some v else none)
section
variable {prog : Program} {w : World} {A : Around} {E : Value → Shared → Prop} {R : Result → Shared → Prop} {s : Shared} {K : PySem.W.Frag} {mg : Str → Option Value} {C fI cA cda : Addr}
theorem kept_but {K : PySem.W.Frag} {h h' : Heap} {x : Addr} (X : K.In h) (hx : K.lookup x = none) (k : ∀ b o, b ≠ x → h.get? b = some o → h'.get? b = some o) : K.In h' := fun a o e =>
  k a o (fun z => by rw [z, hx] at e; cases e) (X a o e)
theorem at_any {α : Type} {M : Model} {A : Around} {c : Code} {E : Value → Shared → Prop} {t : Sem α} {Q : α → Shared → Prop} {s : Shared} (h : wpAny M A t Q E s) : PySem.wpAt M A c t Q E s := fun Γ p _ hin => h Γ p hin
theorem ref_init (T : RefTxt prog K mg C fI cA cda) {x t0 : Addr} {v : Value} (X : K.In s.heap) (hlim : s.heap.NoLimit) (hx : s.heap.get? x = some (HandSPX.excO C t0)) (hnx : K.lookup x = none) (hroom : A.depth < recursionLimit)
    (hgl : s.heap.Ns mainGlobals mg) (hbl : ∃ mb, s.heap.Ns builtinsNs mb ∧ mb "super" = some (.type "super"))
    (hq : ∀ h' tk dx t1, InitEnd s.heap h' x C dx t1 v → R (.ok (.ret .none)) { s with heap := h', toks := tk }) :
    codeAny (model prog w) A (.call (.ref fI) ⟨[.ref x, v], []⟩) R s := by
  obtain ⟨oc, od, doc, pm, an, ct, osl, ho, hcd⟩ := T.fn
  obtain ⟨nm, q, N, bs, bm, sn, sub, ab, col, dd, k0, k1, k2, k3, k5, hC, hbm, hal, hve⟩ := T.cls
  obtain ⟨cl, cld, csl, hcell⟩ := T.cell
  obtain ⟨ccl, cdd, vs, ccs, file, tf, hco, hvs, hfile⟩ := T.code
  obtain ⟨mb, hb1, hb2⟩ := hbl
  have hcl : PySem.W.clsIn K C = some { name := nm, bases := bs, mro := .ref C :: bm, ns := N, qualname := q, hasDict := true, slotNames := sn, subclasses := sub, abstract := ab, collection := col, hasDel := false } := by unfold PySem.W.clsIn; rw [hC] <;> rfl
  have hxC : x ≠ C := fun e => by rw [e, hC] at hnx; cases hnx
  refine ks_codeAny_call_defAt (binds := [("self", .ref x), ("reason", v)]) hroom (X _ _ ho) rfl hlim (PySem.W.codeRec_of X hcd) rfl (BindsTo.of_eq (by first | rfl | with_unfolding_all rfl)) (show ∀ x ∈ iS.names, x.2 ≠ .cell by decide) (fun y hy => by
    simp only [List.mem_cons, List.not_mem_nil, or_false] at hy
    rcases hy with rfl | rfl <;> rfl) (fun h₀ hns keep => ?_) rfl rfl rfl
  have X₀ : K.In h₀ := X.keeps keep
  have hx₀ := keep _ _ hx
  refine ks_wpAt_execs_cons (ks_wpAt_Expr_any (ks_wpAt_MethodCall ?_))
  refine ks_wpAt_super_base (f := fI) (cc := cda) (by rfl) (by rfl) (by rfl) rfl (X₀ _ _ ho) rfl rfl rfl (X₀ _ _ hco) rfl hvs hfile T.noSup ?_
  refine PySem.W.ks_loadName_global (by rfl) (by rfl) (Calls.loadGlobal_builtin (hgl.keeps keep) T.nS (hb1.keeps keep) hb2 ⟨rfl, ?_⟩)
  refine wpAny_loadName_free (by rfl) (by rfl) (c := cA) (v := .ref C) (by rfl) ⟨_, X₀ _ _ hcell, rfl⟩ ?_
  refine wpAny_loadName_local (by rfl) (by rfl) hns (v := .ref x) (by rfl) ?_
  refine ks_wpAny_isType_cls (X₀ _ _ hC) rfl ⟨rfl, ?_⟩
  refine ks_wpAny_call_super (X₀ _ _ hC) rfl hx₀ rfl (fun c h => by cases h) (PySem.W.looks_mroIn X₀ ?_) (fun h2 hso keep2 => ?_)
  · unfold PySem.W.mroIn
    rw [hcl]
    show (if (Value.ref C :: bm).isEmpty = true then none else some ((Value.ref C :: bm).contains (.ref C))) = some true
    simp
  have X₂ : K.In h2 := X₀.keeps keep2
  have lm : PySem.W.Looks (model prog w) h2 (mroOf (.ref C)) (.ref C :: bm) := fun A Q E s old hq => by
    refine wpAny_bind (PySem.W.looks_clsIn X₂ hcl _ _ _ _ old ?_)
    exact wpAny_pure hq
  have hmv : PySem.W.mroIn K C (.type "ValueError") = some true := by
    unfold PySem.W.mroIn
    rw [hcl]
    show (if (Value.ref C :: bm).isEmpty = true then none else some ((Value.ref C :: bm).contains (.type "ValueError"))) = some true
    rw [List.contains_cons, hve]
    simp
  have hx2 := keep2 _ _ hx₀
  have li : PySem.W.Looks (model prog w) h2 (isInstance (.ref x) (.type "ValueError")) true := fun A Q E s old hq => by
    refine wpAny_bind ?_
    show wpAny _ _ (do let o ← loadPart x (some headPart); pure o.cls) _ _ _
    refine wpAny_bind (wpAny_loadPart (old _ _ hx2) (wpAny_pure ?_))
    exact PySem.W.looks_mroIn X₂ hmv _ _ _ _ old hq
  refine VE.getMethod_super (l₀ := .ref C :: bm) (l := bm) hso (PySem.W.looks_opaque X₂ T.op) lm (by simp [List.dropWhile]) X₂ hal hxC (by rfl) li ?_
  refine VE.callWith_bound (x := x) ?_ (by rfl) (by rfl)
  show wpAny _ _ (spliced [(false, eval (.Name "reason" ⟨7, 25, 7, 31⟩) _)]) _ _ _
  rw [spliced.eq_2]
  have n2 := hns.keeps fun b o e => Heap.get?_push_of_some (VE.bw x) (keep2 b o e)
  refine wpAny_bind (ESX.ldL n2 (v := v) (by rfl) ?_ (by rfl) (by rfl))
  simp only [if_false, Bool.false_eq_true]
  refine wpAny_bind (wpAny_pure ?_)
  refine wpAny_bind (wpAny_holding ?_)
  rw [spliced.eq_1]
  refine wpAny_pure (wpAny_pure ?_)
  have X₃ : K.In (h2.push (VE.bw x)) := X₂.keeps fun b o e => Heap.get?_push_of_some _ e
  have hx3 := Heap.get?_push_of_some (VE.bw x) hx2
  refine ⟨Heap.get?_push_size _ rfl, ?_⟩
  refine VE.call_bw (X₃ _ _ hC) hx3 (Heap.get?_push_size _ rfl) (by rw [sizeLine_eq]; show 1 ≤ _; decide) (fun h4 t1 keep4 hx4 => ?_)
  have hxL : s.heap.objs.size ≠ x := Nat.ne_of_gt (Heap.lt_size hx)
  have n4 := n2.at fun o e => keep4 _ o hxL e
  have X₄ : K.In h4 := kept_but X₃ hnx keep4
  refine ks_wpAt_execs_cons (ks_wpAt_Assign_Attr (at_any (ESX.ldL n4 (v := v) (by rfl) (ESX.ldL n4 (v := .ref x) (by rfl) ?_ (by rfl) (by rfl)) (by rfl) (by rfl))))
  refine PySem.W.set_plain X₄ (ox := HandSPX.excO C t1) (od := none) ⟨hx4, rfl, rfl, trivial⟩ T.sa ?_
  refine HandSPX.exc_osa X₄ hx4 hcl (show HandSPX.refsVE (.ref C :: bm) = true from hbm) rfl T.noN (fun h5 tk5 dx k5 dn dne hx5 hn5 => ?_)
  refine at_any (wpAny_execs_nil ?_)
  have z : s.heap.objs.size < h4.objs.size := n4.lt
  exact hq h5 tk5 dx t1 ⟨fun b o hb e => k5 b o hb (keep4 b o hb (Heap.get?_push_of_some _ (keep2 b o (keep b o e)))), hx5, Nat.le_of_lt (Nat.lt_of_lt_of_le z dn), dne, hn5⟩
/-- a made Refused -/
structure OwnMade (h h' : Heap) (e C d : Addr) (v : Value) : Prop where
  keep : ∀ b o, h.get? b = some o → h'.get? b = some o
  new : h.objs.size ≤ e
  obj : ∃ oe vs, h'.get? e = some oe ∧ oe.cls = .ref C ∧ oe.dict = some d ∧ oe.data = .fields vs ∧ vs[1]? = some .none
  dbig : h.objs.size ≤ d
  dne : d ≠ e
  ns : h'.Ns1 d (fun y => if y = "reason" then some v else none)
theorem ref_made (T : RefTxt prog K mg C fI cA cda) {v : Value} (X : K.In s.heap) (hlim : s.heap.NoLimit) (hroom : A.depth + 1 < recursionLimit)
    (hgl : s.heap.Ns mainGlobals mg) (hbl : ∃ mb, s.heap.Ns builtinsNs mb ∧ mb "super" = some (.type "super"))
    (hq : ∀ h' tk e d, OwnMade s.heap h' e C d v → R (.ok (.ret (.ref e))) { s with heap := h', toks := tk }) :
    codeAny (model prog w) A (.call (.ref C) ⟨[v], []⟩) R s := by
  obtain ⟨nm, q, N, bs, bm, sn, sub, ab, col, dd, k0, k1, k2, k3, k5, hC, hbm, _, _⟩ := T.cls
  obtain ⟨hp, g, dr, tk, os⟩ := s
  have k : ∀ b o, hp.get? b = some o → ((hp.push (PySem.W.kdv_tup [v])).push (HandSPX.excO C hp.objs.size)).get? b = some o := fun b o e => Heap.get?_push_of_some _ (Heap.get?_push_of_some _ e)
  have hget : ((hp.push (PySem.W.kdv_tup [v])).push (HandSPX.excO C hp.objs.size)).get? (hp.objs.size + 1) = some (HandSPX.excO C hp.objs.size) := by heap_get
  have hnx : K.lookup (hp.objs.size + 1) = none := by
    cases e : K.lookup (hp.objs.size + 1) with
    | none => rfl
    | some o =>
      have z : hp.get? (hp.objs.size + 1) = some o := X _ _ e
      exact absurd (Nat.lt_of_succ_lt (Heap.lt_size z)) (Nat.lt_irrefl _)
  obtain ⟨mb, b1, b2⟩ := hbl
  refine HandSPX.call_own F.excBase_ValueError (fun X => HandSPX.refsVE_contains X bm hbm) (X _ _ hC) (PySem.W.looks_findIn X T.iC) (fun self => PySem.W.bind_fn X self T.tC) (by rw [sizeLine_eq]; show 1 ≤ _; decide) ?_
  refine ref_init (s := ⟨(hp.push (PySem.W.kdv_tup [v])).push (HandSPX.excO C hp.objs.size), g, dr, tk, os⟩) T (X.keeps k) (hlim.keeps k) hget hnx ?_ (hgl.keeps k) ⟨mb, b1.keeps k, b2⟩ fun h' tk' dx t1 ⟨k', hx, dn, dne, hns⟩ => ?_
  · show A.depth + 1 < recursionLimit
    exact hroom
  · have old : ∀ b o, hp.get? b = some o → h'.get? b = some o := fun b o e => k' b o (Nat.ne_of_lt (Nat.lt_succ_of_lt (Heap.lt_size e))) (k b o e)
    have z : hp.objs.size + 1 + 1 ≤ dx := by
      first
        | (simpa only [Heap.size_push] using dn)
        | exact dn
        | (have q := dn; rw [Heap.size_push, Heap.size_push] at q; exact q)
    exact ⟨rfl, hq h' tk' (hp.objs.size + 1) dx ⟨old, Nat.le_succ _, ⟨_, _, hx, rfl, rfl, rfl, rfl⟩, Nat.le_trans (Nat.le_trans (Nat.le_succ _) (Nat.le_succ _)) z, dne, hns⟩⟩
end
end VE
namespace Mi
theorem relO_reason {v : V} {v' : Value} (r : RelV v v') (f : Str) : RelO (List.lookup f [(("reason" : Str), v)]) (if f = "reason" then some v' else none) := by
  by_cases hw : f = "reason"
  · subst hw
    rw [if_pos rfl]
    have q : List.lookup ("reason" : Str) [(("reason" : Str), v)] = some v := by simp [List.lookup]
    rw [q]
    exact r
  · rw [if_neg hw]
    have qw : (f == ("reason" : Str)) = false := by simpa using hw
    have q2 : List.lookup f [(("reason" : Str), v)] = none := by simp [List.lookup, qw]
    rw [q2]
    trivial
/-- Refused(m) is made -/
theorem pmk_ref {X : Cx} {C fI cA cda : Addr} {m : Str} {j k : Nat} {p p2 pos : Pos} (T : VE.RefTxt X.prog X.K X.mg C fI cA cda) (hr : Room k X.A) (hg : Gl X "Refused")
    (he : starEach [.Constant (.str m) j p2] X.env = (false, eval (.Constant (.str m) j p2) X.env) :: starEach [] X.env := by rfl) (hpl : (backTo pos (starEach [] X.env)).any (·.1) = false := by rfl) :
    PMk X (.Call (.Name "Refused" p) [.Constant (.str m) j p2] [] pos) (fun σ H Q => ∀ d, H d = none → Q (.ref C) (some d) (upd H d (.xd [("reason", .str m)]))) := by
  intro pins s σ H Q I h
  refine PySem.wpAny_Call_Name_kw (ld_glob I hg T.gC ?_)
  refine PySem.W.callWith_K (h₀ := X.base) I.ok.mod.kin T.kC (thn ((pa_cons (pe_str (X := X) (x := m) (j := j) (pos := p2)) pa_nil he).run pos pins s σ H (fun vs H1 => vs = [.str m] ∧ H1 = H) I ⟨rfl, rfl⟩) fun us s1 hh => ?_) he hpl
  obtain ⟨vs, H1, I1, r1, ev, eH⟩ := hh
  subst ev eH
  refine ⟨I1.kIn, ?_⟩
  cases r1 with
  | cons rv rn =>
    rename_i v' us'
    cases rn
    show wpAny _ _ (call (.ref C) [v']) _ _ _
    have hlim := I1.nolimit
    have hmod := I1.mod
    obtain ⟨mb, b1, b2⟩ := hmod.blt
    have hX := I1.kIn
    obtain ⟨mm, fr⟩ := I1.fr
    have hgl := hmod.glob.keeps fr.keep
    have hbl := b1.keeps fr.keep
    obtain ⟨hp, g, dr, tk, os⟩ := s1
    refine PySem.wpAny_call (VE.ref_made T hX hlim (by have := hr.dp; omega) hgl ⟨mb, hbl, (b2 _ (by decide)).trans (by decide +kernel)⟩ fun h' tk' e d M => ?_)
    show MkP X pins σ Q (.ref e) ⟨h', g, dr, tk', os⟩
    obtain ⟨oe, fv, hoe, hc, hd, hdat, h1⟩ := M.obj
    have hns := M.ns
    obtain ⟨G', g1, g2⟩ := restrict h' fun b => decide (b ≠ e)
    have gk : ∀ b, b ≠ e → G'.get? b = h'.get? b := fun b hb => g1 b (decide_eq_true hb)
    have ge : G'.get? e = none := g2 e (by simp)
    have old : ∀ b o, hp.get? b = some o → G'.get? b = some o := fun b o q => (gk b (Nat.ne_of_lt (Nat.lt_of_lt_of_le (Heap.lt_size q) M.new))).trans (M.keep b o q)
    have ob : ObjOk X.prog X.w (upd H1 d (.xd [(("reason" : Str), .str m)])) G' d (.xd [(("reason" : Str), .str m)]) :=
      ⟨_, hns.at (fun o q => (gk d M.dne).trans q), fun f => relO_reason rv f⟩
    have J : L2.Inv X pins σ (upd H1 d (.xd [(("reason" : Str), .str m)])) ⟨G', g, dr, tk', os⟩ := I1.laid (t' := tk') old M.dbig ob
    refine ⟨e, oe, fv, ⟨G', g, dr, tk', os⟩, _, .ref C, some d, rfl, J, fun b o q => ?_, ge, hoe, ⟨hc, hd⟩, hdat, h1, ?_, rfl, I1.bare, raises_own T.exC T.tyC, h d (I1.hok.fresh M.dbig)⟩
    · by_cases hb : b = e
      · have q' : G'.get? b = some o := q
        rw [hb, ge] at q'; cases q'
      · exact (gk b hb).symm.trans q
    · rw [upd_ne (Ne.symm M.dne)]
      exact I1.hok.fresh M.new
end Mi

/-! sorted of a list or of a tuple. -/
namespace Mi
open PySem PySem.Spec L2
open PyProof.Rows hiding St
def sortedA : PV → Res PV
  | .lst xs => if sortOk xs then .ok (.lst (xs.mergeSort leD)) else .stuck
  | .tup xs => if (sortOk xs && keysOk xs) = true then .ok (.lst (xs.mergeSort leD)) else .stuck
  | _ => .stuck
section
variable {C : Cn} {Z Z1 Z2 Z' : Addr → Prop} {H H1 H2 H' : Hp} {A A1 A2 B A' : List Addr} {σ σ1 : L2.St} {Γ Γ1 Γ2 Γ3 Γ' : List Ty} {ρ : Env} {t tr : Ty} {W : WX} {X : Cx} {a b c : Expr} {fa fb fc fi fe : ES} {pos : Pos} {R : List (Nat × Ty)} {D : Ends} {r : Fl × Env}
def rSortT (C : Cn) : List V → Hp → VK → Prop := fun xs H Q => ∃ (a : Addr) (vs : List V) (Z : Addr → Prop) (ps : List PV), xs = [.ref a] ∧ SqT C.K H a vs ∧ DenL C Z H vs ps ∧ sortOk ps = true ∧ keysOk ps = true ∧
  ∀ q vs', H q = none → DenL C Z H vs' (ps.mergeSort leD) → Q (.ref q) (upd H q (.lst vs'))
theorem cr_sortT (hX : Is C X) (hc : X.calm = true) (hu : X.A.units + 67 < cLine) : CallR X (.builtin "sorted") (rSortT C) := fun pins s σ H xs us Q I r h => by
  obtain ⟨a, vs, Z, ps, rfl, hs, hd, h1, h2, q⟩ := h
  rw [Vals.ref1 r]
  obtain ⟨its, rv, ⟨o, g1, g2, n, g3⟩, hz⟩ := I.tuple (hX.K ▸ hs)
  have hl := rv.length
  refine call_sorted_of (wpAny_collect_seq a (.inr rfl) g1 g2 g3 (fun h' hk => ?_) (by rw [List.size_toArray]; omega))
  have I1 := I.kept (t' := s.toks) hk
  have e : its.toArray.toList = its := by simp
  rw [e]
  exact ⟨by omega, sort_keys hX hu I1 rv hd h1 h2 (by omega) q⟩
def rSortA (C : Cn) : List V → Hp → VK → Prop := fun xs H Q => rSortD C xs H Q ∨ rSortT C xs H Q
theorem cr_sortA (hX : Is C X) (hc : X.calm = true) (hu : X.A.units + 67 < cLine) : CallR X (.builtin "sorted") (rSortA C) := fun pins s σ H xs us Q I r h => by
  rcases h with h | h
  · exact cr_sortD hX hu pins s σ H xs us Q I r h
  · exact cr_sortT hX hc hu pins s σ H xs us Q I r h
theorem o_sortA : Op1 C sortedA (rC1 (rSortA C)) (.l .v) := by
  intro Z H x p Q hz hp hf
  unfold sortedA at hf
  split at hf
  · rename_i xs
    obtain ⟨a, vs, rfl, h1, h2⟩ := hp.toLst
    by_cases c : sortOk xs = true
    · rw [if_pos c] at hf
      exact .inl ⟨a, vs, Z, xs, rfl, .of h1, h2, c, fun q vs' hq hd => hf _ _ (.lst hz hq hd)⟩
    · rw [if_neg c] at hf; exact hf.elim
  · rename_i xs
    by_cases c : (sortOk xs && keysOk xs) = true
    · rw [if_pos c] at hf
      simp only [Bool.and_eq_true] at c
      obtain ⟨a, vs, rfl, h1, h2⟩ := hp.tup
      exact .inr ⟨a, vs, Z, xs, rfl, h1, h2, c.1, c.2, fun q vs' hq hd => hf _ _ (.lst hz hq hd)⟩
    · rw [if_neg c] at hf; exact hf.elim
  · exact hf.elim
theorem nx_sortA : NoX1 sortedA := fun p e h => by unfold sortedA at h; split at h <;> (try split at h) <;> cases h
theorem b_sortA {k : Nat} (hr : Room k X.A) (hm : X.mg "sorted" = none) (ha : PE X a (tO C W fa Γ Γ1)) (hX : Is C X := by exact ⟨rfl, rfl, rfl⟩) (hg : Gl X "sorted" := by rfl) (hc : X.calm = true := by rfl) (hs : starEach [a] X.env = (false, eval a X.env) :: starEach [] X.env := by rfl) {p : Pos} : PE X (.Call (.Name "sorted" p) [a] [] pos) (tM C W (e1 sortedA fa) Γ Γ1 (.l .v)) := sm_b1 (cr_sortA hX hc (Ru hr 67)) o_sortA nx_sortA hg hm (by decide +kernel) ha hs
end
end Mi

namespace K88
open PySem PySem.Spec L2 Mi
open PyProof.Rows hiding St
def top (i : Nat) : Stmt := PySem.Challenge.pw_boundroads_k88_whole_cells_and_faces.main.body.getD i (.Pass ⟨0, 0, 0, 0⟩)
theorem rt0 {Γ : List Ty} : RefT [] Γ := fun _ h => nomatch h
theorem rt1 {Γ : List Ty} {t : Ty} (h : Γ[0]? = some t) : RefT [(0, t)] Γ := fun x hx => by
  obtain rfl : x = (0, t) := by simpa using hx
  exact h
theorem x_globI {C : Cn} {X : Cx} {W : WX} {Γ : List Ty} {x : Str} {i : Int} {pos : Pos} (hg : Gl X x) (hm : ∃ t, X.mg x = some (.int i t)) (hdb : (x == ("__debug__" : Str)) = false := by decide) : PE X (.Name x pos) (tM C W (eK (.int i)) Γ Γ .v) := by
  obtain ⟨t, h⟩ := hm
  exact sm_glob (v := .int i) hg h ⟨t, rfl⟩ (fun _ _ => .int i) hdb
theorem ok_zero {P : Program} {w : World} {K : PySem.W.Frag} {mg : Str → Option Value} {base : Heap} {CX : CXT} {k : Nat} {f : Addr} {fd : FuncData} {ps : List Str} {C : Cn} {n : Nat} {t : Ty} : FnOk P w K mg base CX k f fd ps (spN C n (fun _ => .stuck) t) :=
  ⟨fun vs H Q E ⟨_, _, _, _, _, h⟩ => h.elim, fun A outer s H args us vs Q E _ _ _ _ ⟨_, _, _, _, _, h⟩ => h.elim⟩
theorem takes_noW {X : Cx} : Takes X noW := fun u s' ⟨_, _, _, _, _, _, _, _, _, _, _, _, _, _, _, _, h⟩ => h.elim
def sRaise (c : Nat) (s : Str) : SS := fun _ => .exc ⟨c, some s⟩
/-- Refused(m) is made -/
def MkR (C : Cn) (mg : Str → Option Value) (cc : Addr) : Prop := ∀ (X : Cx) (m : Str) (p p2 pos : Pos) (j : Nat), Is C X → X.mg = mg → X.calm = true → Room 2 X.A → Gl X "Refused" → PMk X (.Call (.Name "Refused" p) [.Constant (.str m) j p2] [] pos) (fun σ H Q => ∀ d, H d = none → Q (.ref cc) (some d) (upd H d (.xd [("reason", .str m)])))
theorem x_raise {C : Cn} {X : Cx} {W : WX} {R : List (Nat × Ty)} {tr : Ty} {Γ Γ' : List Ty} {cc : Addr} {mg : Str → Option Value} {m : Str} {p p2 pos pos2 : Pos} {j : Nat} (tk : Takes X W) (hr : Room 2 X.A) (hcc : C.ca 0 = some cc) (mk : MkR C mg cc) (hX : Is C X := by exact ⟨rfl, rfl, rfl⟩) (hm : X.mg = mg := by rfl) (hc : X.calm = true := by rfl) (hg : Gl X "Refused" := by rfl) :
    PS X (.Raise (some (.Call (.Name "Refused" p) [.Constant (.str m) j p2] [] pos)) none pos2) (tS C W R tr (sRaise 0 m) Γ Γ') := PSi (ps_raise hc tk (mk X m p p2 pos j hX hm hc hr hg)) fun D σ H ⟨ρ, Z, A, pre, h⟩ => fun d hd => by
  have h : ExcS C W Z H A ⟨0, some m⟩ := h
  refine h _ _ σ _ ⟨Z, ⟨fun a o e _ => upd_old hd a o e, fun a o e => ⟨o, upd_old hd a o e⟩, fun _ z => z, fun _ z => .inl z, fun a h => (nomatch h)⟩, fun a z => let ⟨o, e⟩ := pre.ok.2.2 a z; ⟨o, upd_old hd a o e⟩, cc, hcc, rfl, fun s hs => ⟨d, rfl, ?_⟩⟩
  cases hs
  exact upd_same
structure Tb (C : Cn) (mg : Str → Option Value) (fa : Nat → Addr) (fd : Nat → FuncData) (cc : Addr) : Prop where
  F_is_integer : Fun C.K "is_integer" "is_integer" (top 4) (fa 0) (fd 0)
  g_is_integer : mg "is_integer" = some (.ref (fa 0))
  k_is_integer : PySem.W.keepIn C.K (.ref (fa 0)) = true
  b_is_integer : L2.Binds C.K (fd 0) ["value"] []
  F_is_block : Fun C.K "is_block" "is_block" (top 8) (fa 1) (fd 1)
  g_is_block : mg "is_block" = some (.ref (fa 1))
  k_is_block : PySem.W.keepIn C.K (.ref (fa 1)) = true
  b_is_block : L2.Binds C.K (fd 1) ["value"] []
  F_is_within : Fun C.K "is_within" "is_within" (top 9) (fa 2) (fd 2)
  g_is_within : mg "is_within" = some (.ref (fa 2))
  k_is_within : PySem.W.keepIn C.K (.ref (fa 2)) = true
  b_is_within : L2.Binds C.K (fd 2) ["one", "two"] []
  F_parts_of : Fun C.K "parts_of" "parts_of" (top 10) (fa 3) (fd 3)
  g_parts_of : mg "parts_of" = some (.ref (fa 3))
  k_parts_of : PySem.W.keepIn C.K (.ref (fa 3)) = true
  b_parts_of : L2.Binds C.K (fd 3) ["block"] []
  F_faces_in : Fun C.K "faces_in" "faces_in" (top 11) (fa 4) (fd 4)
  g_faces_in : mg "faces_in" = some (.ref (fa 4))
  k_faces_in : PySem.W.keepIn C.K (.ref (fa 4)) = true
  b_faces_in : L2.Binds C.K (fd 4) ["blocks"] []
  F_is_cells : Fun C.K "is_cells" "is_cells" (top 12) (fa 5) (fd 5)
  g_is_cells : mg "is_cells" = some (.ref (fa 5))
  k_is_cells : PySem.W.keepIn C.K (.ref (fa 5)) = true
  b_is_cells : L2.Binds C.K (fd 5) ["value"] []
  F_facets_among : Fun C.K "facets_among" "facets_among" (top 13) (fa 6) (fd 6)
  g_facets_among : mg "facets_among" = some (.ref (fa 6))
  k_facets_among : PySem.W.keepIn C.K (.ref (fa 6)) = true
  b_facets_among : L2.Binds C.K (fd 6) ["faces"] []
  F_cells_from : Fun C.K "cells_from" "cells_from" (top 14) (fa 7) (fd 7)
  g_cells_from : mg "cells_from" = some (.ref (fa 7))
  k_cells_from : PySem.W.keepIn C.K (.ref (fa 7)) = true
  b_cells_from : L2.Binds C.K (fd 7) ["faces"] []
  F_is_face : Fun C.K "is_face" "is_face" (top 15) (fa 8) (fd 8)
  g_is_face : mg "is_face" = some (.ref (fa 8))
  k_is_face : PySem.W.keepIn C.K (.ref (fa 8)) = true
  b_is_face : L2.Binds C.K (fd 8) ["k", "value"] []
  F_all_faces : Fun C.K "all_faces" "all_faces" (top 16) (fa 9) (fd 9)
  g_all_faces : mg "all_faces" = some (.ref (fa 9))
  k_all_faces : PySem.W.keepIn C.K (.ref (fa 9)) = true
  b_all_faces : L2.Binds C.K (fd 9) ["k"] []
  F_faces_of : Fun C.K "faces_of" "faces_of" (top 17) (fa 10) (fd 10)
  g_faces_of : mg "faces_of" = some (.ref (fa 10))
  k_faces_of : PySem.W.keepIn C.K (.ref (fa 10)) = true
  b_faces_of : L2.Binds C.K (fd 10) ["k", "n"] []
  F_dimension_of : Fun C.K "dimension_of" "dimension_of" (top 18) (fa 11) (fd 11)
  g_dimension_of : mg "dimension_of" = some (.ref (fa 11))
  k_dimension_of : PySem.W.keepIn C.K (.ref (fa 11)) = true
  b_dimension_of : L2.Binds C.K (fd 11) ["k"] []
  F_face_row : Fun C.K "face_row" "face_row" (top 19) (fa 12) (fd 12)
  g_face_row : mg "face_row" = some (.ref (fa 12))
  k_face_row : PySem.W.keepIn C.K (.ref (fa 12)) = true
  b_face_row : L2.Binds C.K (fd 12) ["k"] []
  F_euler_number : Fun C.K "euler_number" "euler_number" (top 20) (fa 13) (fd 13)
  g_euler_number : mg "euler_number" = some (.ref (fa 13))
  k_euler_number : PySem.W.keepIn C.K (.ref (fa 13)) = true
  b_euler_number : L2.Binds C.K (fd 13) ["k"] []
  F_link_of_face : Fun C.K "link_of_face" "link_of_face" (top 21) (fa 14) (fd 14)
  g_link_of_face : mg "link_of_face" = some (.ref (fa 14))
  k_link_of_face : PySem.W.keepIn C.K (.ref (fa 14)) = true
  b_link_of_face : L2.Binds C.K (fd 14) ["k", "f"] []
  F_star_of_face : Fun C.K "star_of_face" "star_of_face" (top 22) (fa 15) (fd 15)
  g_star_of_face : mg "star_of_face" = some (.ref (fa 15))
  k_star_of_face : PySem.W.keepIn C.K (.ref (fa 15)) = true
  b_star_of_face : L2.Binds C.K (fd 15) ["k", "f"] []
  F_without_point : Fun C.K "without_point" "without_point" (top 23) (fa 16) (fd 16)
  g_without_point : mg "without_point" = some (.ref (fa 16))
  k_without_point : PySem.W.keepIn C.K (.ref (fa 16)) = true
  b_without_point : L2.Binds C.K (fd 16) ["k", "p"] []
  F_skeleton_of : Fun C.K "skeleton_of" "skeleton_of" (top 24) (fa 17) (fd 17)
  g_skeleton_of : mg "skeleton_of" = some (.ref (fa 17))
  k_skeleton_of : PySem.W.keepIn C.K (.ref (fa 17)) = true
  b_skeleton_of : L2.Binds C.K (fd 17) ["k", "n"] []
  F__law_state : Fun C.K "_law_state" "_law_state" (top 26) (fa 18) (fd 18)
  g__law_state : mg "_law_state" = some (.ref (fa 18))
  k__law_state : PySem.W.keepIn C.K (.ref (fa 18)) = true
  b__law_state : L2.Binds C.K (fd 18) ["script"] []
  F__law_take : Fun C.K "_law_take" "_law_take" (top 27) (fa 19) (fd 19)
  g__law_take : mg "_law_take" = some (.ref (fa 19))
  k__law_take : PySem.W.keepIn C.K (.ref (fa 19)) = true
  b__law_take : L2.Binds C.K (fd 19) ["state", "m"] []
  F__law_odd : Fun C.K "_law_odd" "_law_odd" (top 28) (fa 20) (fd 20)
  g__law_odd : mg "_law_odd" = some (.ref (fa 20))
  k__law_odd : PySem.W.keepIn C.K (.ref (fa 20)) = true
  b__law_odd : L2.Binds C.K (fd 20) ["value"] []
  F__law_honest : Fun C.K "_law_honest" "_law_honest" (top 29) (fa 21) (fd 21)
  g__law_honest : mg "_law_honest" = some (.ref (fa 21))
  k__law_honest : PySem.W.keepIn C.K (.ref (fa 21)) = true
  b__law_honest : L2.Binds C.K (fd 21) ["value"] []
  F__law_says : Fun C.K "_law_says" "_law_says" (top 30) (fa 22) (fd 22)
  g__law_says : mg "_law_says" = some (.ref (fa 22))
  k__law_says : PySem.W.keepIn C.K (.ref (fa 22)) = true
  b__law_says : L2.Binds C.K (fd 22) ["value", "due"] []
  F__law_is_whole : Fun C.K "_law_is_whole" "_law_is_whole" (top 31) (fa 23) (fd 23)
  g__law_is_whole : mg "_law_is_whole" = some (.ref (fa 23))
  k__law_is_whole : PySem.W.keepIn C.K (.ref (fa 23)) = true
  b__law_is_whole : L2.Binds C.K (fd 23) ["value"] []
  F__law_same : Fun C.K "_law_same" "_law_same" (top 32) (fa 24) (fd 24)
  g__law_same : mg "_law_same" = some (.ref (fa 24))
  k__law_same : PySem.W.keepIn C.K (.ref (fa 24)) = true
  b__law_same : L2.Binds C.K (fd 24) ["one", "two"] []
  F__law_parts : Fun C.K "_law_parts" "_law_parts" (top 33) (fa 25) (fd 25)
  g__law_parts : mg "_law_parts" = some (.ref (fa 25))
  k__law_parts : PySem.W.keepIn C.K (.ref (fa 25)) = true
  b__law_parts : L2.Binds C.K (fd 25) ["points"] []
  F__law_faces : Fun C.K "_law_faces" "_law_faces" (top 34) (fa 26) (fd 26)
  g__law_faces : mg "_law_faces" = some (.ref (fa 26))
  k__law_faces : PySem.W.keepIn C.K (.ref (fa 26)) = true
  b__law_faces : L2.Binds C.K (fd 26) ["cells"] []
  F__law_cells_of : Fun C.K "_law_cells_of" "_law_cells_of" (top 35) (fa 27) (fd 27)
  g__law_cells_of : mg "_law_cells_of" = some (.ref (fa 27))
  k__law_cells_of : PySem.W.keepIn C.K (.ref (fa 27)) = true
  b__law_cells_of : L2.Binds C.K (fd 27) ["faces"] []
  F__law_dimension : Fun C.K "_law_dimension" "_law_dimension" (top 36) (fa 28) (fd 28)
  g__law_dimension : mg "_law_dimension" = some (.ref (fa 28))
  k__law_dimension : PySem.W.keepIn C.K (.ref (fa 28)) = true
  b__law_dimension : L2.Binds C.K (fd 28) ["cells"] []
  F__law_euler : Fun C.K "_law_euler" "_law_euler" (top 37) (fa 29) (fd 29)
  g__law_euler : mg "_law_euler" = some (.ref (fa 29))
  k__law_euler : PySem.W.keepIn C.K (.ref (fa 29)) = true
  b__law_euler : L2.Binds C.K (fd 29) ["cells"] []
  F__law_drawn_cells : Fun C.K "_law_drawn_cells" "_law_drawn_cells" (top 38) (fa 30) (fd 30)
  g__law_drawn_cells : mg "_law_drawn_cells" = some (.ref (fa 30))
  k__law_drawn_cells : PySem.W.keepIn C.K (.ref (fa 30)) = true
  b__law_drawn_cells : L2.Binds C.K (fd 30) ["state", "points", "most"] []
  F__law_is_block : Fun C.K "_law_is_block" "_law_is_block" (top 39) (fa 31) (fd 31)
  g__law_is_block : mg "_law_is_block" = some (.ref (fa 31))
  k__law_is_block : PySem.W.keepIn C.K (.ref (fa 31)) = true
  b__law_is_block : L2.Binds C.K (fd 31) ["value"] []
  F__law_is_cells : Fun C.K "_law_is_cells" "_law_is_cells" (top 40) (fa 32) (fd 32)
  g__law_is_cells : mg "_law_is_cells" = some (.ref (fa 32))
  k__law_is_cells : PySem.W.keepIn C.K (.ref (fa 32)) = true
  b__law_is_cells : L2.Binds C.K (fd 32) ["value"] []
  F__law_tried : Fun C.K "_law_tried" "_law_tried" (top 41) (fa 33) (fd 33)
  g__law_tried : mg "_law_tried" = some (.ref (fa 33))
  k__law_tried : PySem.W.keepIn C.K (.ref (fa 33)) = true
  b__law_tried : L2.Binds C.K (fd 33) ["faces"] []
  F_law : Fun C.K "law" "law" (top 42) (fa 34) (fd 34)
  g_law : mg "law" = some (.ref (fa 34))
  k_law : PySem.W.keepIn C.K (.ref (fa 34)) = true
  b_law : L2.Binds C.K (fd 34) ["script"] []
  m_abs : mg "abs" = none
  m_all : mg "all" = none
  m_any : mg "any" = none
  m_bool : mg "bool" = none
  m_int : mg "int" = none
  m_isinstance : mg "isinstance" = none
  m_len : mg "len" = none
  m_list : mg "list" = none
  m_max : mg "max" = none
  m_range : mg "range" = none
  m_set : mg "set" = none
  m_sorted : mg "sorted" = none
  m_str : mg "str" = none
  m_sum : mg "sum" = none
  m_tuple : mg "tuple" = none
  c_MOST_POINT : ∃ t, mg "MOST_POINT" = some (.int 15 t)
  c_MOST_FACES : ∃ t, mg "MOST_FACES" = some (.int 200 t)
  ca0 : C.ca 0 = some cc
  sep : ClsSep C
  g_Refused : mg "Refused" = some (.ref cc)
  xf : XfC C.K cc
  nr : PySem.W.findIn C.K (.ref cc) "reason" = some none
  refused : MkR C mg cc
section
variable {C : Cn} {mg : Str → Option Value} {base : Heap} {fa : Nat → Addr} {fd : Nat → FuncData} {cc : Addr}

/-! is_integer -/
abbrev st_is_integer : Stmt := top 4
def nm_is_integer : List Str := ["value"]
theorem sc_is_integer : FnScope nm_is_integer ["value"] (defScope st_is_integer) := ⟨rfl, rfl, rfl, by decide +kernel, rfl, by decide +kernel, by decide +kernel⟩
def b_is_integer : SS := (sRet (eAndB (e1 (isiP "int") (eVar 0)) (eNotB (e1 (isiP "bool") (eVar 0)))))
def m_is_integer : List PV → Res PV := mkF 0 b_is_integer
theorem ok_is_integer (T : Tb C mg fa fd cc) : FnOk C.P C.w C.K mg base CX0 1 (fa 0) (fd 0) ["value"] (spN C 1 m_is_integer .v) :=
  fnN (nl := 0) (Γe := [.v]) (g := b_is_integer) T.F_is_integer sc_is_integer rfl rfl fun cdv A outer s H E hr => (ss_one (ss_ret (sm_and (sm_isi (T := "int") (by exact ⟨rfl, rfl, rfl⟩) (by rfl) (by rfl) T.m_isinstance (by rfl) T.m_int (by decide +kernel) (sm_var (i := 0) (by rfl) (by exact .inl rfl) (by rfl))) (sm_one (sm_not (sm_isi (T := "bool") (by exact ⟨rfl, rfl, rfl⟩) (by rfl) (by rfl) T.m_isinstance (by rfl) T.m_bool (by decide +kernel) (sm_var (i := 0) (by rfl) (by exact .inl rfl) (by rfl)))))) rt0))

/-! is_block -/
abbrev st_is_block : Stmt := top 8
def nm_is_block : List Str := ["value", "i", "x"]
theorem sc_is_block : FnScope nm_is_block ["value"] (defScope st_is_block) := ⟨rfl, rfl, rfl, by decide +kernel, rfl, by decide +kernel, by decide +kernel⟩
def b_is_block : SS := (sSeq (sIf (eOrB (eNotB (noD (e1 (isiP "tuple") (eVar 0)))) (e2 eqP (e1 lenS (eVar 0)) (eK (.int 0)))) (sRet (eK (.bool false))) sNil)
  (sSeq (sIf (eNotB (noD (e1 allP (eComp (gName 2) none (eAndB (eCall m_is_integer [(eVar 2)]) (eChB leP leP (eK (.int 0)) (eVar 2) (eK (.int 15)))) [2] (iSeq (eVar 0)))))) (sRet (eK (.bool false))) sNil)
  (sRet (e1 allP (eComp (gName 1) none (e2 ltP (e2 idxP (eVar 0) (eVar 1)) (e2 idxP (eVar 0) (e2 addP (eVar 1) (eK (.int 1))))) [1] (iR1 (e2 subP (e1 lenS (eVar 0)) (eK (.int 1)))))))))
def m_is_block : List PV → Res PV := mkF 2 b_is_block
theorem ok_is_block (T : Tb C mg fa fd cc) : FnOk C.P C.w C.K mg base CX0 2 (fa 1) (fd 1) ["value"] (spN C 1 m_is_block .v) :=
  fnN (nl := 2) (Γe := [.v, .v, .v]) (g := b_is_block) T.F_is_block sc_is_block rfl rfl fun cdv A outer s H E hr => (ss_cons (ss_if (Γ2 := [.v, .v, .v]) (st_bop (sw_or (st_not (st_val (by exact ⟨rfl, rfl, rfl⟩) (so (sm_isi (T := "tuple") (by exact ⟨rfl, rfl, rfl⟩) (by rfl) (by rfl) T.m_isinstance (by rfl) T.m_tuple (by decide +kernel) (sm_var (i := 0) (by rfl) (by exact .inr (.inl rfl)) (by rfl)))))) (sw_or1 (t_eq hr (b_len T.m_len (so (sm_var (i := 0) (by rfl) (by exact .inr (.inl rfl)) (by rfl)))) (so sm_int))))) (ss_one (ss_ret sm_bl rt0)) ss_nil)
  (ss_cons (ss_if (Γ2 := [.v, .v, .v]) (st_not (st_val (by exact ⟨rfl, rfl, rfl⟩) (so (b_all T.m_all (so (sm_lc (own := [("x", 2)]) (S := [2]) (by rfl) sc_is_block.nd (si_seq (by exact ⟨rfl, rfl, rfl⟩) (sm_var (i := 0) (by rfl) (by exact .inr (.inl rfl)) (by rfl))) (blkOk_by (N := nm_is_block) (sc := (defScope st_is_block)) (own := [("x", 2)]) (by decide +kernel)) (fun _ _ _ _ _ => (sg_name (i := 2) sc_is_block.nd (by rfl) (by exact .inl rfl) (by decide))) (fun _ _ _ _ _ => sc_none) (fun _ _ _ _ _ => (sm_and (sm_call (by exact ⟨rfl, rfl, rfl⟩) (ok_is_integer T) (hr.mono (by decide)) (by rfl) T.g_is_integer T.k_is_integer T.b_is_integer (sa_cons (sm_var (i := 2) (by rfl) (by exact .inl rfl) (by rfl)) sa_nil)) (sm_one (v_le_le hr sm_int (sm_var (i := 2) (by rfl) (by exact .inl rfl) (by rfl)) (so (x_globI (by rfl) T.c_MOST_POINT)))))) (by decide) (by decide) (by decide))))))) (ss_one (ss_ret sm_bl rt0)) ss_nil)
  (ss_one (ss_ret (b_all T.m_all (so (sm_lc (own := [("i", 1)]) (S := [1]) (by rfl) sc_is_block.nd (si_range1 (by rfl) T.m_range (x_sub (b_len T.m_len (so (sm_var (i := 0) (by rfl) (by exact .inr (.inl rfl)) (by rfl)))) (so sm_int))) (blkOk_by (N := nm_is_block) (sc := (defScope st_is_block)) (own := [("i", 1)]) (by decide +kernel)) (fun _ _ _ _ _ => (sg_name (i := 1) sc_is_block.nd (by rfl) (by exact .inl rfl) (by decide))) (fun _ _ _ _ _ => sc_none) (fun _ _ _ _ _ => (v_lt hr (x_ix (sm_var (i := 0) (by rfl) (by first | exact .inr (.inl rfl) | exact .inr (.inr rfl) | exact .inl rfl) (by rfl)) (so (sm_var (i := 1) (by rfl) (by exact .inl rfl) (by rfl)))) (so (x_ix (sm_var (i := 0) (by rfl) (by first | exact .inr (.inl rfl) | exact .inr (.inr rfl) | exact .inl rfl) (by rfl)) (so (x_add (sm_var (i := 1) (by rfl) (by exact .inl rfl) (by rfl)) (so sm_int))))))) (by decide) (by decide) (by decide)))) rt0))))

/-! is_within -/
abbrev st_is_within : Stmt := top 9
def nm_is_within : List Str := ["one", "two", "x"]
theorem sc_is_within : FnScope nm_is_within ["one", "two"] (defScope st_is_within) := ⟨rfl, rfl, rfl, by decide +kernel, rfl, by decide +kernel, by decide +kernel⟩
def b_is_within : SS := (sRet (e1 allP (eComp (gName 2) none (e2 inP (eVar 2) (eVar 1)) [2] (iSeq (eVar 0)))))
def m_is_within : List PV → Res PV := mkF 1 b_is_within
theorem ok_is_within (T : Tb C mg fa fd cc) : FnOk C.P C.w C.K mg base CX0 1 (fa 2) (fd 2) ["one", "two"] (spN C 2 m_is_within .v) :=
  fnN (nl := 1) (Γe := [.v, .v, .v]) (g := b_is_within) T.F_is_within sc_is_within rfl rfl fun cdv A outer s H E hr => (ss_one (ss_ret (b_all T.m_all (so (sm_lc (own := [("x", 2)]) (S := [2]) (by rfl) sc_is_within.nd (si_seq (by exact ⟨rfl, rfl, rfl⟩) (sm_var (i := 0) (by rfl) (by exact .inl rfl) (by rfl))) (blkOk_by (N := nm_is_within) (sc := (defScope st_is_within)) (own := [("x", 2)]) (by decide +kernel)) (fun _ _ _ _ _ => (sg_name (i := 2) sc_is_within.nd (by rfl) (by exact .inl rfl) (by decide))) (fun _ _ _ _ _ => sc_none) (fun _ _ _ _ _ => (v_in hr (sm_var (i := 2) (by rfl) (by exact .inl rfl) (by rfl)) (so (sm_var (i := 1) (by rfl) (by first | exact .inr (.inl rfl) | exact .inr (.inr rfl) | exact .inl rfl) (by rfl))))) (by decide) (by decide) (by decide)))) rt0))

/-! parts_of -/
abbrev st_parts_of : Stmt := top 10
def nm_parts_of : List Str := ["block", "found", "x", "own"]
theorem sc_parts_of : FnScope nm_parts_of ["block"] (defScope st_parts_of) := ⟨rfl, rfl, rfl, by decide +kernel, rfl, by decide +kernel, by decide +kernel⟩
def b_parts_of : SS := (sSeq (sAsg 1 (eLst [(eTup [])]))
  (sSeq (sFor (gName 2) (iSeq (eVar 0)) (sAsg 1 (e2 addP (eVar 1) (eComp (gName 3) none (e2 addP (eVar 3) (eTup [(eVar 2)])) [3] (iSeq (eVar 1))))))
  (sRet (eComp (gName 3) (some (e2 gtP (e1 lenS (eVar 3)) (eK (.int 0)))) (eVar 3) [3] (iSeq (eVar 1))))))
def m_parts_of : List PV → Res PV := mkF 3 b_parts_of
theorem ok_parts_of (T : Tb C mg fa fd cc) : FnOk C.P C.w C.K mg base CX0 1 (fa 3) (fd 3) ["block"] (spN C 1 m_parts_of .v) :=
  fnN (nl := 3) (Γe := [.v, .v, .v, .v]) (g := b_parts_of) T.F_parts_of sc_parts_of rfl rfl fun cdv A outer s H E hr => (ss_cons (ss_asg (i := 1) sc_parts_of.nd (by rfl) (by exact .inl rfl) (sm_v (sm_lst (sa_cons (sm_tup sa_nil) sa_nil))) (by decide) (by decide))
  (ss_cons (ss_for (S := [2]) (Γ := [.v, .v, .v, .v]) (Γ2 := [.v, .v, .v, .v]) PassesOwn.never (by rfl) (si_seq (by exact ⟨rfl, rfl, rfl⟩) (sm_var (i := 0) (by rfl) (by exact .inl rfl) (by rfl))) (sg_name (i := 2) sc_parts_of.nd (by rfl) (by exact .inr rfl) (by decide)) (ss_one (ss_asg (i := 1) sc_parts_of.nd (by rfl) (by exact .inl rfl) (x_add (sm_var (i := 1) (by rfl) (by exact .inl rfl) (by rfl)) (so (sm_lc (own := [("own", 3)]) (S := [3]) (by rfl) sc_parts_of.nd (si_seq (by exact ⟨rfl, rfl, rfl⟩) (sm_var (i := 1) (by rfl) (by exact .inl rfl) (by rfl))) (blkOk_by (N := nm_parts_of) (sc := (defScope st_parts_of)) (own := [("own", 3)]) (by decide +kernel)) (fun _ _ _ _ _ => (sg_name (i := 3) sc_parts_of.nd (by rfl) (by exact .inl rfl) (by decide))) (fun _ _ _ _ _ => sc_none) (fun _ _ _ _ _ => (x_add (sm_var (i := 3) (by rfl) (by exact .inl rfl) (by rfl)) (so (sm_tup (sa_cons (sm_var (i := 2) (by rfl) (by first | exact .inr (.inl rfl) | exact .inr (.inr rfl) | exact .inl rfl) (by rfl)) sa_nil))))) (by decide) (by decide) (by decide)))) (by decide) (by decide))) (by decide) nox_gName)
  (ss_one (ss_ret (sm_v (sm_lc (own := [("own", 3)]) (S := [3]) (by rfl) sc_parts_of.nd (si_seq (by exact ⟨rfl, rfl, rfl⟩) (sm_var (i := 1) (by rfl) (by exact .inl rfl) (by rfl))) (blkOk_by (N := nm_parts_of) (sc := (defScope st_parts_of)) (own := [("own", 3)]) (by decide +kernel)) (fun _ _ _ _ _ => (sg_name (i := 3) sc_parts_of.nd (by rfl) (by exact .inl rfl) (by decide))) (fun _ _ _ _ _ => (sc_one (t_gt hr (b_len T.m_len (so (sm_var (i := 3) (by rfl) (by exact .inl rfl) (by rfl)))) (so sm_int)))) (fun _ _ _ _ _ => (sm_var (i := 3) (by rfl) (by exact .inl rfl) (by rfl))) (by decide) (by decide) (by decide))) rt0))))

/-! faces_in -/
abbrev st_faces_in : Stmt := top 11
def nm_faces_in : List Str := ["blocks", "found", "block", "own"]
theorem sc_faces_in : FnScope nm_faces_in ["blocks"] (defScope st_faces_in) := ⟨rfl, rfl, rfl, by decide +kernel, rfl, by decide +kernel, by decide +kernel⟩
def b_faces_in : SS := (sSeq (sAsg 1 (eK (.dct [])))
  (sSeq (sFor (gName 2) (iSeq (eVar 0)) (sSeq (sIf (e2 gtP (e1 lenS (eVar 2)) (eK (.int 7))) (sRaise 0 "large") sNil)
  (sSeq (sFor (gName 3) (iSeq (eCall m_parts_of [(eVar 2)])) (sSetD 1 (eVar 3) (eK (.bool true))))
  (sIf (e2 gtP (e1 lenD (eVar 1)) (eK (.int 200))) (sRaise 0 "large") sNil))))
  (sRet (eVar 1))))
def m_faces_in : List PV → Res PV := mkF 3 b_faces_in
theorem ok_faces_in (T : Tb C mg fa fd cc) : FnOk C.P C.w C.K mg base (L2.CX C.P C.w) 4 (fa 4) (fd 4) ["blocks"] (spX C 1 m_faces_in .v) :=
  fnX (nl := 3) (Γe := [.v, .v, .v, .v]) (g := b_faces_in) T.F_faces_in sc_faces_in rfl rfl fun cdv A outer s H E hr => let tk := takes_of (X := cxOf (L2.CX C.P C.w) C.P C.w C.K mg base nm_faces_in "faces_in" (defScope st_faces_in) _ cdv A outer s H E) rfl rfl rfl rfl; (ss_cons (ss_asg (i := 1) sc_faces_in.nd (by rfl) (by exact .inl rfl) sm_dnew (by decide) (by decide))
  (ss_cons (ss_for (S := [2]) (Γ := [.v, .d .v, .v, .v]) (Γ2 := [.v, .d .v, .v, .v]) (by exact passes_of rfl) (by rfl) (si_seq (by exact ⟨rfl, rfl, rfl⟩) (sm_var (i := 0) (by rfl) (by exact .inl rfl) (by rfl))) (sg_name (i := 2) sc_faces_in.nd (by rfl) (by exact .inl rfl) (by decide)) (ss_cons (ss_if (Γ2 := [.v, .d .v, .v, .v]) (t_gt hr (b_len T.m_len (so (sm_var (i := 2) (by rfl) (by exact .inl rfl) (by rfl)))) (so sm_int)) (ss_one (x_raise tk (hr.mono (by decide)) T.ca0 T.refused)) ss_nil)
  (ss_cons (ss_for (S := [3]) (Γ := [.v, .d .v, .v, .v]) (Γ2 := [.v, .d .v, .v, .v]) (by exact passes_of rfl) (by rfl) (si_seq (by exact ⟨rfl, rfl, rfl⟩) (sm_call (by exact ⟨rfl, rfl, rfl⟩) (ok_parts_of T) (hr.mono (by decide)) (by rfl) T.g_parts_of T.k_parts_of T.b_parts_of (sa_cons (sm_var (i := 2) (by rfl) (by exact .inl rfl) (by rfl)) sa_nil))) (sg_name (i := 3) sc_faces_in.nd (by rfl) (by exact .inl rfl) (by decide)) (ss_one (ss_setD (k := 1) (by exact ⟨rfl, rfl, rfl⟩) (Ru1 hr) (by rfl) (by exact .inl rfl) sm_bl (sm_var (i := 3) (by rfl) (by exact .inl rfl) (by rfl)) (by rfl) (by rfl))) (by decide) nox_gName)
  (ss_one (ss_if (Γ2 := [.v, .d .v, .v, .v]) (t_gt hr (b_lenD T.m_len (so_own (i := 1) (by rfl) (by exact .inl rfl) (by rfl))) (so (x_globI (by rfl) T.c_MOST_FACES))) (ss_one (x_raise tk (hr.mono (by decide)) T.ca0 T.refused)) ss_nil)))) (by decide) nox_gName)
  (ss_one (ss_ret (sm_frz (i := 1) (by rfl) (by exact .inl rfl) (by rfl)) rt0))))

/-! is_cells -/
abbrev st_is_cells : Stmt := top 12
def nm_is_cells : List Str := ["value", "i", "j", "own"]
theorem sc_is_cells : FnScope nm_is_cells ["value"] (defScope st_is_cells) := ⟨rfl, rfl, rfl, by decide +kernel, rfl, by decide +kernel, by decide +kernel⟩
def b_is_cells : SS := (sSeq (sIf (eOrB (eNotB (noD (e1 (isiP "tuple") (eVar 0)))) (eNotB (noD (e1 allP (eComp (gName 3) none (eCall m_is_block [(eVar 3)]) [3] (iSeq (eVar 0))))))) (sRet (eK (.bool false))) sNil)
  (sSeq (sIf (eNotB (noD (e1 allP (eComp (gName 1) none (e2 ltP (e2 idxP (eVar 0) (eVar 1)) (e2 idxP (eVar 0) (e2 addP (eVar 1) (eK (.int 1))))) [1] (iR1 (e2 subP (e1 lenS (eVar 0)) (eK (.int 1)))))))) (sRet (eK (.bool false))) sNil)
  (sSeq (sIf (noD (e1 anyP (eComp2 (gName 1) none (iR1 (e1 lenS (eVar 0))) (gName 2) none (eAndB (e2 neP (eVar 1) (eVar 2)) (eCall m_is_within [(e2 idxP (eVar 0) (eVar 1)), (e2 idxP (eVar 0) (eVar 2))])) [1, 2] [2] (iR1 (e1 lenS (eVar 0)))))) (sRet (eK (.bool false))) sNil)
  (sTry 0 (e2 leP (e1 lenD (eCallX m_faces_in [(eVar 0)])) (eK (.int 200))) (eK (.bool false))))))
def m_is_cells : List PV → Res PV := mkF 3 b_is_cells
theorem ok_is_cells (T : Tb C mg fa fd cc) : FnOk C.P C.w C.K mg base CX0 5 (fa 5) (fd 5) ["value"] (spN C 1 m_is_cells .v) :=
  fnN (nl := 3) (Γe := [.v, .v, .v, .v]) (g := b_is_cells) T.F_is_cells sc_is_cells rfl rfl fun cdv A outer s H E hr => (ss_cons (ss_if (Γ2 := [.v, .v, .v, .v]) (st_bop (sw_or (st_not (st_val (by exact ⟨rfl, rfl, rfl⟩) (so (sm_isi (T := "tuple") (by exact ⟨rfl, rfl, rfl⟩) (by rfl) (by rfl) T.m_isinstance (by rfl) T.m_tuple (by decide +kernel) (sm_var (i := 0) (by rfl) (by exact .inr (.inl rfl)) (by rfl)))))) (sw_or1 (st_not (st_val (by exact ⟨rfl, rfl, rfl⟩) (so (b_all T.m_all (so (sm_lc (own := [("own", 3)]) (S := [3]) (by rfl) sc_is_cells.nd (si_seq (by exact ⟨rfl, rfl, rfl⟩) (sm_var (i := 0) (by rfl) (by exact .inr (.inl rfl)) (by rfl))) (blkOk_by (N := nm_is_cells) (sc := (defScope st_is_cells)) (own := [("own", 3)]) (by decide +kernel)) (fun _ _ _ _ _ => (sg_name (i := 3) sc_is_cells.nd (by rfl) (by exact .inl rfl) (by decide))) (fun _ _ _ _ _ => sc_none) (fun _ _ _ _ _ => (sm_call (by exact ⟨rfl, rfl, rfl⟩) (ok_is_block T) (hr.mono (by decide)) (by rfl) T.g_is_block T.k_is_block T.b_is_block (sa_cons (sm_var (i := 3) (by rfl) (by exact .inl rfl) (by rfl)) sa_nil))) (by decide) (by decide) (by decide)))))))))) (ss_one (ss_ret sm_bl rt0)) ss_nil)
  (ss_cons (ss_if (Γ2 := [.v, .v, .v, .v]) (st_not (st_val (by exact ⟨rfl, rfl, rfl⟩) (so (b_all T.m_all (so (sm_lc (own := [("i", 1)]) (S := [1]) (by rfl) sc_is_cells.nd (si_range1 (by rfl) T.m_range (x_sub (b_len T.m_len (so (sm_var (i := 0) (by rfl) (by exact .inr (.inl rfl)) (by rfl)))) (so sm_int))) (blkOk_by (N := nm_is_cells) (sc := (defScope st_is_cells)) (own := [("i", 1)]) (by decide +kernel)) (fun _ _ _ _ _ => (sg_name (i := 1) sc_is_cells.nd (by rfl) (by exact .inl rfl) (by decide))) (fun _ _ _ _ _ => sc_none) (fun _ _ _ _ _ => (v_lt hr (x_ix (sm_var (i := 0) (by rfl) (by first | exact .inr (.inl rfl) | exact .inr (.inr rfl) | exact .inl rfl) (by rfl)) (so (sm_var (i := 1) (by rfl) (by exact .inl rfl) (by rfl)))) (so (x_ix (sm_var (i := 0) (by rfl) (by first | exact .inr (.inl rfl) | exact .inr (.inr rfl) | exact .inl rfl) (by rfl)) (so (x_add (sm_var (i := 1) (by rfl) (by exact .inl rfl) (by rfl)) (so sm_int))))))) (by decide) (by decide) (by decide))))))) (ss_one (ss_ret sm_bl rt0)) ss_nil)
  (ss_cons (ss_if (Γ2 := [.v, .v, .v, .v]) (st_val (by exact ⟨rfl, rfl, rfl⟩) (so (b_any T.m_any (so (sm_lc2 (own := [("i", 1), ("j", 2)]) (vs1 := [2]) (S := [1]) (S1 := [2]) (by rfl) sc_is_cells.nd (si_range1 (by rfl) T.m_range (b_len T.m_len (so (sm_var (i := 0) (by rfl) (by exact .inr (.inl rfl)) (by rfl))))) (blkOk_by (N := nm_is_cells) (sc := (defScope st_is_cells)) (own := [("i", 1), ("j", 2)]) (by decide +kernel)) (by decide) (fun _ _ _ _ _ => (sg_name (i := 1) sc_is_cells.nd (by rfl) (by exact .inl rfl) (by decide))) (fun _ _ _ _ _ => sc_none) (fun _ _ _ _ _ => (si_range1 (by rfl) T.m_range (b_len T.m_len (so (sm_var (i := 0) (by rfl) (by first | exact .inr (.inl rfl) | exact .inr (.inr rfl) | exact .inl rfl) (by rfl)))))) (fun _ _ _ _ _ => (sg_name (i := 2) sc_is_cells.nd (by rfl) (by exact .inl rfl) (by decide))) (fun _ _ _ _ _ => sc_none) (fun _ _ _ _ _ => (sm_and (v_ne hr (sm_var (i := 1) (by rfl) (by exact .inl rfl) (by rfl)) (so (sm_var (i := 2) (by rfl) (by exact .inl rfl) (by rfl)))) (sm_one (sm_call (by exact ⟨rfl, rfl, rfl⟩) (ok_is_within T) (hr.mono (by decide)) (by rfl) T.g_is_within T.k_is_within T.b_is_within (sa_cons (x_ix (sm_var (i := 0) (by rfl) (by first | exact .inr (.inl rfl) | exact .inr (.inr rfl) | exact .inl rfl) (by rfl)) (so (sm_var (i := 1) (by rfl) (by exact .inl rfl) (by rfl)))) (sa_cons (x_ix (sm_var (i := 0) (by rfl) (by first | exact .inr (.inl rfl) | exact .inr (.inr rfl) | exact .inl rfl) (by rfl)) (so (sm_var (i := 2) (by rfl) (by exact .inl rfl) (by rfl)))) sa_nil)))))) (by decide) (by decide) (by decide) (by decide) (by decide)))))) (ss_one (ss_ret sm_bl rt0)) ss_nil)
  (ss_one (ss_try (c := 0) (by exact ⟨rfl, rfl, rfl⟩) T.sep T.ca0 (by rfl) (by rfl) ⟨by rfl, by decide, .inl T.g_Refused⟩ takes_noW (fun W pn xe tk => (v_le hr (b_lenD T.m_len (so (sm_callX (by exact ⟨rfl, rfl, rfl⟩) tk (ok_faces_in T) (hr.mono (by decide)) (by rfl) T.g_faces_in T.k_faces_in T.b_faces_in (sa_cons (sm_var (i := 0) (by rfl) (by exact .inr (.inl rfl)) (by rfl)) sa_nil)))) (so (x_globI (by rfl) T.c_MOST_FACES)))) (fun a pn => sm_bl))))))

/-! facets_among -/
abbrev st_facets_among : Stmt := top 13
def nm_facets_among : List Str := ["faces", "rows", "own", "two"]
theorem sc_facets_among : FnScope nm_facets_among ["faces"] (defScope st_facets_among) := ⟨rfl, rfl, rfl, by decide +kernel, rfl, by decide +kernel, by decide +kernel⟩
def b_facets_among : SS := (sSeq (sAsg 1 (e1 sortedSetP (eVar 0)))
  (sRet (e1 tupleP (eComp (gName 2) (some (eNotB (noD (e1 anyP (eComp (gName 3) none (eAndB (e2 ltP (e1 lenS (eVar 2)) (e1 lenS (eVar 3))) (eCall m_is_within [(eVar 2), (eVar 3)])) [3] (iSeq (eVar 1))))))) (eVar 2) [2] (iSeq (eVar 1))))))
def m_facets_among : List PV → Res PV := mkF 3 b_facets_among
theorem ok_facets_among (T : Tb C mg fa fd cc) : FnOk C.P C.w C.K mg base CX0 2 (fa 6) (fd 6) ["faces"] (spN C 1 m_facets_among .v) :=
  fnN (nl := 3) (Γe := [.v, .v, .v, .v]) (g := b_facets_among) T.F_facets_among sc_facets_among rfl rfl fun cdv A outer s H E hr => (ss_cons (ss_asg (i := 1) sc_facets_among.nd (by rfl) (by exact .inr rfl) (sm_v (sm_sortSet (by exact ⟨rfl, rfl, rfl⟩) (by rfl) (Ru hr 67) (by rfl) T.m_sorted (by rfl) T.m_set (so (sm_var (i := 0) (by rfl) (by exact .inl rfl) (by rfl))))) (by decide) (by decide))
  (ss_one (ss_ret (b_tuple T.m_tuple (so (sm_lc (own := [("own", 2)]) (S := [2]) (by rfl) sc_facets_among.nd (si_seq (by exact ⟨rfl, rfl, rfl⟩) (sm_var (i := 1) (by rfl) (by exact .inr (.inl rfl)) (by rfl))) (blkOk_by (N := nm_facets_among) (sc := (defScope st_facets_among)) (own := [("own", 2)]) (by decide +kernel)) (fun _ _ _ _ _ => (sg_name (i := 2) sc_facets_among.nd (by rfl) (by exact .inr rfl) (by decide))) (fun _ _ _ _ _ => (sc_one (st_not (st_val (by exact ⟨rfl, rfl, rfl⟩) (so (b_any T.m_any (so (sm_lc (own := [("two", 3)]) (S := [3]) (by rfl) sc_facets_among.nd (si_seq (by exact ⟨rfl, rfl, rfl⟩) (sm_var (i := 1) (by rfl) (by first | exact .inr (.inl rfl) | exact .inr (.inr rfl) | exact .inl rfl) (by rfl))) (by exact blkOk_by (by kernel_rfl)) (fun _ _ _ _ _ => (sg_name (i := 3) sc_facets_among.nd (by rfl) (by exact .inl rfl) (by decide))) (fun _ _ _ _ _ => sc_none) (fun _ _ _ _ _ => (sm_and (v_lt hr (b_len T.m_len (so (sm_var (i := 2) (by rfl) (by first | exact .inr (.inl rfl) | exact .inr (.inr rfl) | exact .inl rfl) (by rfl)))) (so (b_len T.m_len (so (sm_var (i := 3) (by rfl) (by exact .inl rfl) (by rfl)))))) (sm_one (sm_call (by exact ⟨rfl, rfl, rfl⟩) (ok_is_within T) (hr.mono (by decide)) (by rfl) T.g_is_within T.k_is_within T.b_is_within (sa_cons (sm_var (i := 2) (by rfl) (by first | exact .inr (.inl rfl) | exact .inr (.inr rfl) | exact .inl rfl) (by rfl)) (sa_cons (sm_var (i := 3) (by rfl) (by exact .inl rfl) (by rfl)) sa_nil)))))) (by decide) (by decide) (by decide))))))))) (fun _ _ _ _ _ => (sm_var (i := 2) (by rfl) (by exact .inr (.inl rfl)) (by rfl))) (by decide) (by decide) (by decide)))) rt0)))

/-! cells_from -/
abbrev st_cells_from : Stmt := top 14
def nm_cells_from : List Str := ["faces", "found"]
theorem sc_cells_from : FnScope nm_cells_from ["faces"] (defScope st_cells_from) := ⟨rfl, rfl, rfl, by decide +kernel, rfl, by decide +kernel, by decide +kernel⟩
def b_cells_from : SS := (sSeq (sAsg 1 (eCall m_facets_among [(eVar 0)]))
  (sSeq (sExpr (eCallX m_faces_in [(eVar 1)]))
  (sRet (eVar 1))))
def m_cells_from : List PV → Res PV := mkF 1 b_cells_from
theorem ok_cells_from (T : Tb C mg fa fd cc) : FnOk C.P C.w C.K mg base (L2.CX C.P C.w) 5 (fa 7) (fd 7) ["faces"] (spX C 1 m_cells_from .v) :=
  fnX (nl := 1) (Γe := [.v, .v]) (g := b_cells_from) T.F_cells_from sc_cells_from rfl rfl fun cdv A outer s H E hr => let tk := takes_of (X := cxOf (L2.CX C.P C.w) C.P C.w C.K mg base nm_cells_from "cells_from" (defScope st_cells_from) _ cdv A outer s H E) rfl rfl rfl rfl; (ss_cons (ss_asg (i := 1) sc_cells_from.nd (by rfl) (by exact .inl rfl) (sm_call (by exact ⟨rfl, rfl, rfl⟩) (ok_facets_among T) (hr.mono (by decide)) (by rfl) T.g_facets_among T.k_facets_among T.b_facets_among (sa_cons (sm_var (i := 0) (by rfl) (by exact .inl rfl) (by rfl)) sa_nil)) (by decide) (by decide))
  (ss_cons (ss_expr (sm_callX (by exact ⟨rfl, rfl, rfl⟩) tk (ok_faces_in T) (hr.mono (by decide)) (by rfl) T.g_faces_in T.k_faces_in T.b_faces_in (sa_cons (sm_var (i := 1) (by rfl) (by exact .inl rfl) (by rfl)) sa_nil)))
  (ss_one (ss_ret (sm_var (i := 1) (by rfl) (by exact .inl rfl) (by rfl)) rt0))))

/-! is_face -/
abbrev st_is_face : Stmt := top 15
def nm_is_face : List Str := ["k", "value", "own"]
theorem sc_is_face : FnScope nm_is_face ["k", "value"] (defScope st_is_face) := ⟨rfl, rfl, rfl, by decide +kernel, rfl, by decide +kernel, by decide +kernel⟩
def b_is_face : SS := (sRet (eAndB (eCall m_is_block [(eVar 1)]) (e1 anyP (eComp (gName 2) none (eCall m_is_within [(eVar 1), (eVar 2)]) [2] (iSeq (eVar 0))))))
def m_is_face : List PV → Res PV := mkF 1 b_is_face
theorem ok_is_face (T : Tb C mg fa fd cc) : FnOk C.P C.w C.K mg base CX0 3 (fa 8) (fd 8) ["k", "value"] (spN C 2 m_is_face .v) :=
  fnN (nl := 1) (Γe := [.v, .v, .v]) (g := b_is_face) T.F_is_face sc_is_face rfl rfl fun cdv A outer s H E hr => (ss_one (ss_ret (sm_and (sm_call (by exact ⟨rfl, rfl, rfl⟩) (ok_is_block T) (hr.mono (by decide)) (by rfl) T.g_is_block T.k_is_block T.b_is_block (sa_cons (sm_var (i := 1) (by rfl) (by exact .inr (.inl rfl)) (by rfl)) sa_nil)) (sm_one (b_any T.m_any (so (sm_lc (own := [("own", 2)]) (S := [2]) (by rfl) sc_is_face.nd (si_seq (by exact ⟨rfl, rfl, rfl⟩) (sm_var (i := 0) (by rfl) (by exact .inl rfl) (by rfl))) (blkOk_by (N := nm_is_face) (sc := (defScope st_is_face)) (own := [("own", 2)]) (by decide +kernel)) (fun _ _ _ _ _ => (sg_name (i := 2) sc_is_face.nd (by rfl) (by exact .inl rfl) (by decide))) (fun _ _ _ _ _ => sc_none) (fun _ _ _ _ _ => (sm_call (by exact ⟨rfl, rfl, rfl⟩) (ok_is_within T) (hr.mono (by decide)) (by rfl) T.g_is_within T.k_is_within T.b_is_within (sa_cons (sm_var (i := 1) (by rfl) (by first | exact .inr (.inl rfl) | exact .inr (.inr rfl) | exact .inl rfl) (by rfl)) (sa_cons (sm_var (i := 2) (by rfl) (by exact .inl rfl) (by rfl)) sa_nil)))) (by decide) (by decide) (by decide)))))) rt0))

/-! all_faces -/
abbrev st_all_faces : Stmt := top 16
def nm_all_faces : List Str := ["k"]
theorem sc_all_faces : FnScope nm_all_faces ["k"] (defScope st_all_faces) := ⟨rfl, rfl, rfl, by decide +kernel, rfl, by decide +kernel, by decide +kernel⟩
def b_all_faces : SS := (sRet (e1 sortedD (eCallX m_faces_in [(eVar 0)])))
def m_all_faces : List PV → Res PV := mkF 0 b_all_faces
theorem ok_all_faces (T : Tb C mg fa fd cc) : FnOk C.P C.w C.K mg base (L2.CX C.P C.w) 5 (fa 9) (fd 9) ["k"] (spX C 1 m_all_faces .v) :=
  fnX (nl := 0) (Γe := [.v]) (g := b_all_faces) T.F_all_faces sc_all_faces rfl rfl fun cdv A outer s H E hr => let tk := takes_of (X := cxOf (L2.CX C.P C.w) C.P C.w C.K mg base nm_all_faces "all_faces" (defScope st_all_faces) _ cdv A outer s H E) rfl rfl rfl rfl; (ss_one (ss_ret (sm_v (b_sortedD hr T.m_sorted (so (sm_callX (by exact ⟨rfl, rfl, rfl⟩) tk (ok_faces_in T) (hr.mono (by decide)) (by rfl) T.g_faces_in T.k_faces_in T.b_faces_in (sa_cons (sm_var (i := 0) (by rfl) (by exact .inl rfl) (by rfl)) sa_nil))))) rt0))

/-! faces_of -/
abbrev st_faces_of : Stmt := top 17
def nm_faces_of : List Str := ["k", "n", "own"]
theorem sc_faces_of : FnScope nm_faces_of ["k", "n"] (defScope st_faces_of) := ⟨rfl, rfl, rfl, by decide +kernel, rfl, by decide +kernel, by decide +kernel⟩
def b_faces_of : SS := (sRet (e1 tupleP (eComp (gName 2) (some (e2 eqP (e1 lenS (eVar 2)) (e2 addP (eVar 1) (eK (.int 1))))) (eVar 2) [2] (iSeq (eCallX m_all_faces [(eVar 0)])))))
def m_faces_of : List PV → Res PV := mkF 1 b_faces_of
theorem ok_faces_of (T : Tb C mg fa fd cc) : FnOk C.P C.w C.K mg base (L2.CX C.P C.w) 6 (fa 10) (fd 10) ["k", "n"] (spX C 2 m_faces_of .v) :=
  fnX (nl := 1) (Γe := [.v, .v, .v]) (g := b_faces_of) T.F_faces_of sc_faces_of rfl rfl fun cdv A outer s H E hr => let tk := takes_of (X := cxOf (L2.CX C.P C.w) C.P C.w C.K mg base nm_faces_of "faces_of" (defScope st_faces_of) _ cdv A outer s H E) rfl rfl rfl rfl; (ss_one (ss_ret (b_tuple T.m_tuple (so (sm_lc (own := [("own", 2)]) (S := [2]) (by rfl) sc_faces_of.nd (si_seq (by exact ⟨rfl, rfl, rfl⟩) (sm_callX (by exact ⟨rfl, rfl, rfl⟩) tk (ok_all_faces T) (hr.mono (by decide)) (by rfl) T.g_all_faces T.k_all_faces T.b_all_faces (sa_cons (sm_var (i := 0) (by rfl) (by exact .inl rfl) (by rfl)) sa_nil))) (blkOk_by (N := nm_faces_of) (sc := (defScope st_faces_of)) (own := [("own", 2)]) (by decide +kernel)) (fun _ _ _ _ _ => (sg_name (i := 2) sc_faces_of.nd (by rfl) (by exact .inl rfl) (by decide))) (fun _ _ _ _ _ => (sc_one (t_eq hr (b_len T.m_len (so (sm_var (i := 2) (by rfl) (by exact .inl rfl) (by rfl)))) (so (x_add (sm_var (i := 1) (by rfl) (by first | exact .inr (.inl rfl) | exact .inr (.inr rfl) | exact .inl rfl) (by rfl)) (so sm_int)))))) (fun _ _ _ _ _ => (sm_var (i := 2) (by rfl) (by exact .inl rfl) (by rfl))) (by decide) (by decide) (by decide)))) rt0))

/-! dimension_of -/
abbrev st_dimension_of : Stmt := top 18
def nm_dimension_of : List Str := ["k", "own"]
theorem sc_dimension_of : FnScope nm_dimension_of ["k"] (defScope st_dimension_of) := ⟨rfl, rfl, rfl, by decide +kernel, rfl, by decide +kernel, by decide +kernel⟩
def b_dimension_of : SS := (sRet (e2 subP (e1 maxP (e2 addP (eComp (gName 1) none (e1 lenS (eVar 1)) [1] (iSeq (eVar 0))) (eLst [(eK (.int 0))]))) (eK (.int 1))))
def m_dimension_of : List PV → Res PV := mkF 1 b_dimension_of
theorem ok_dimension_of (T : Tb C mg fa fd cc) : FnOk C.P C.w C.K mg base CX0 1 (fa 11) (fd 11) ["k"] (spN C 1 m_dimension_of .v) :=
  fnN (nl := 1) (Γe := [.v, .v]) (g := b_dimension_of) T.F_dimension_of sc_dimension_of rfl rfl fun cdv A outer s H E hr => (ss_one (ss_ret (x_sub (b_max T.m_max (so (x_add (sm_v (sm_lc (own := [("own", 1)]) (S := [1]) (by rfl) sc_dimension_of.nd (si_seq (by exact ⟨rfl, rfl, rfl⟩) (sm_var (i := 0) (by rfl) (by exact .inl rfl) (by rfl))) (blkOk_by (N := nm_dimension_of) (sc := (defScope st_dimension_of)) (own := [("own", 1)]) (by decide +kernel)) (fun _ _ _ _ _ => (sg_name (i := 1) sc_dimension_of.nd (by rfl) (by exact .inl rfl) (by decide))) (fun _ _ _ _ _ => sc_none) (fun _ _ _ _ _ => (b_len T.m_len (so (sm_var (i := 1) (by rfl) (by exact .inl rfl) (by rfl))))) (by decide) (by decide) (by decide))) (so (sm_lst (sa_cons sm_int sa_nil)))))) (so sm_int)) rt0))

/-! face_row -/
abbrev st_face_row : Stmt := top 19
def nm_face_row : List Str := ["k", "found", "own"]
theorem sc_face_row : FnScope nm_face_row ["k"] (defScope st_face_row) := ⟨rfl, rfl, rfl, by decide +kernel, rfl, by decide +kernel, by decide +kernel⟩
def b_face_row : SS := (sSeq (sAsg 1 (e2 repP (eLst [(eK (.int 0))]) (e2 addP (eCall m_dimension_of [(eVar 0)]) (eK (.int 1)))))
  (sSeq (sFor (gName 2) (iSeq (eCallX m_all_faces [(eVar 0)])) (sAugL addI 1 (e2 subP (e1 lenS (eVar 2)) (eK (.int 1))) (eK (.int 1))))
  (sRet (e1 tupleP (eVar 1)))))
def m_face_row : List PV → Res PV := mkF 2 b_face_row
theorem ok_face_row (T : Tb C mg fa fd cc) : FnOk C.P C.w C.K mg base (L2.CX C.P C.w) 6 (fa 12) (fd 12) ["k"] (spX C 1 m_face_row .v) :=
  fnX (nl := 2) (Γe := [.v, .v, .v]) (g := b_face_row) T.F_face_row sc_face_row rfl rfl fun cdv A outer s H E hr => let tk := takes_of (X := cxOf (L2.CX C.P C.w) C.P C.w C.K mg base nm_face_row "face_row" (defScope st_face_row) _ cdv A outer s H E) rfl rfl rfl rfl; (ss_cons (ss_asg (i := 1) sc_face_row.nd (by rfl) (by exact .inl rfl) (x_rep (sm_v (sm_lst (sa_cons sm_int sa_nil))) (so (x_add (sm_call (by exact ⟨rfl, rfl, rfl⟩) (ok_dimension_of T) (hr.mono (by decide)) (by rfl) T.g_dimension_of T.k_dimension_of T.b_dimension_of (sa_cons (sm_var (i := 0) (by rfl) (by exact .inl rfl) (by rfl)) sa_nil)) (so sm_int)))) (by decide) (by decide))
  (ss_cons (ss_for (S := [2]) (Γ := [.v, .l .v, .v]) (Γ2 := [.v, .l .v, .v]) (by exact passes_of rfl) (by rfl) (si_seq (by exact ⟨rfl, rfl, rfl⟩) (sm_callX (by exact ⟨rfl, rfl, rfl⟩) tk (ok_all_faces T) (hr.mono (by decide)) (by rfl) T.g_all_faces T.k_all_faces T.b_all_faces (sa_cons (sm_var (i := 0) (by rfl) (by exact .inl rfl) (by rfl)) sa_nil))) (sg_name (i := 2) sc_face_row.nd (by rfl) (by exact .inl rfl) (by decide)) (ss_one (ss_augL (k := 1) (by exact ⟨rfl, rfl, rfl⟩) (by rfl) (by exact .inl rfl) ip_add ipo_add nox_add (x_sub (b_len T.m_len (so (sm_var (i := 2) (by rfl) (by exact .inl rfl) (by rfl)))) (so sm_int)) sm_int (by rfl) (by rfl) (by rfl))) (by decide) nox_gName)
  (ss_one (ss_ret (b_tuple T.m_tuple (so_own (i := 1) (by rfl) (by exact .inl rfl) (by rfl))) rt0))))

/-! euler_number -/
abbrev st_euler_number : Stmt := top 20
def nm_euler_number : List Str := ["k", "row"]
theorem sc_euler_number : FnScope nm_euler_number ["k"] (defScope st_euler_number) := ⟨rfl, rfl, rfl, by decide +kernel, rfl, by decide +kernel, by decide +kernel⟩
def b_euler_number : SS := (sSeq (sAsg 1 (eCallX m_face_row [(eVar 0)]))
  (sRet (e2 subP (e1 sumP (eSlS (eVar 1) none none 2)) (e1 sumP (eSlS (eVar 1) (some (eK (.int 1))) none 2)))))
def m_euler_number : List PV → Res PV := mkF 1 b_euler_number
theorem ok_euler_number (T : Tb C mg fa fd cc) : FnOk C.P C.w C.K mg base (L2.CX C.P C.w) 7 (fa 13) (fd 13) ["k"] (spX C 1 m_euler_number .v) :=
  fnX (nl := 1) (Γe := [.v, .v]) (g := b_euler_number) T.F_euler_number sc_euler_number rfl rfl fun cdv A outer s H E hr => let tk := takes_of (X := cxOf (L2.CX C.P C.w) C.P C.w C.K mg base nm_euler_number "euler_number" (defScope st_euler_number) _ cdv A outer s H E) rfl rfl rfl rfl; (ss_cons (ss_asg (i := 1) sc_euler_number.nd (by rfl) (by exact .inl rfl) (sm_callX (by exact ⟨rfl, rfl, rfl⟩) tk (ok_face_row T) (hr.mono (by decide)) (by rfl) T.g_face_row T.k_face_row T.b_face_row (sa_cons (sm_var (i := 0) (by rfl) (by exact .inl rfl) (by rfl)) sa_nil)) (by decide) (by decide))
  (ss_one (ss_ret (x_sub (b_sum T.m_sum (so (sm_slS (st := 2) (by exact ⟨rfl, rfl, rfl⟩) (sm_var (i := 1) (by rfl) (by exact .inl rfl) (by rfl)) sx_none sx_none po_lit))) (so (b_sum T.m_sum (so (sm_slS (st := 2) (by exact ⟨rfl, rfl, rfl⟩) (sm_var (i := 1) (by rfl) (by exact .inl rfl) (by rfl)) (sx_some sm_int) sx_none po_lit))))) rt0)))

/-! link_of_face -/
abbrev st_link_of_face : Stmt := top 21
def nm_link_of_face : List Str := ["k", "f", "found", "own", "x"]
theorem sc_link_of_face : FnScope nm_link_of_face ["k", "f"] (defScope st_link_of_face) := ⟨rfl, rfl, rfl, by decide +kernel, rfl, by decide +kernel, by decide +kernel⟩
def b_link_of_face : SS := (sSeq (sAsg 2 (eComp (gName 3) (some (noD (eCall m_is_within [(eVar 1), (eVar 3)]))) (e1 tupleP (eComp (gName 4) (some (e2 notInP (eVar 4) (eVar 1))) (eVar 4) [4] (iSeq (eVar 3)))) [3] (iSeq (eVar 0))))
  (sRet (eCall m_facets_among [(eComp (gName 3) (some (e2 gtP (e1 lenS (eVar 3)) (eK (.int 0)))) (eVar 3) [3] (iSeq (eVar 2)))])))
def m_link_of_face : List PV → Res PV := mkF 3 b_link_of_face
theorem ok_link_of_face (T : Tb C mg fa fd cc) : FnOk C.P C.w C.K mg base CX0 3 (fa 14) (fd 14) ["k", "f"] (spN C 2 m_link_of_face .v) :=
  fnN (nl := 3) (Γe := [.v, .v, .v, .v, .v]) (g := b_link_of_face) T.F_link_of_face sc_link_of_face rfl rfl fun cdv A outer s H E hr => (ss_cons (ss_asgLcV (i := 2) (own := [("own", 3)]) (S := [3]) (by rfl) sc_link_of_face.nd (by rfl) (by rfl) (sw_true (by rfl) (by rfl) (by rfl) (by decide +kernel)) (si_seq (by exact ⟨rfl, rfl, rfl⟩) (sm_var (i := 0) (by rfl) (by exact .inl rfl) (by rfl))) (blkOk_by (N := nm_link_of_face) (sc := (defScope st_link_of_face)) (own := [("own", 3)]) (by decide +kernel)) (fun _ _ _ _ _ => (sg_name (i := 3) sc_link_of_face.nd (by rfl) (by exact .inl rfl) (by decide))) (fun _ _ _ _ _ => (sc_one (st_val (by exact ⟨rfl, rfl, rfl⟩) (so (sm_call (by exact ⟨rfl, rfl, rfl⟩) (ok_is_within T) (hr.mono (by decide)) (by rfl) T.g_is_within T.k_is_within T.b_is_within (sa_cons (sm_var (i := 1) (by rfl) (by first | exact .inr (.inl rfl) | exact .inr (.inr rfl) | exact .inl rfl) (by rfl)) (sa_cons (sm_var (i := 3) (by rfl) (by exact .inl rfl) (by rfl)) sa_nil))))))) (fun _ _ _ _ _ => (b_tuple T.m_tuple (so (sm_lc (own := [("x", 4)]) (S := [4]) (by rfl) sc_link_of_face.nd (si_seq (by exact ⟨rfl, rfl, rfl⟩) (sm_var (i := 3) (by rfl) (by exact .inl rfl) (by rfl))) (by exact blkOk_by (by kernel_rfl)) (fun _ _ _ _ _ => (sg_name (i := 4) sc_link_of_face.nd (by rfl) (by exact .inl rfl) (by decide))) (fun _ _ _ _ _ => (sc_one (t_notIn hr (sm_var (i := 4) (by rfl) (by exact .inl rfl) (by rfl)) (so (sm_var (i := 1) (by rfl) (by first | exact .inr (.inl rfl) | exact .inr (.inr rfl) | exact .inl rfl) (by rfl)))))) (fun _ _ _ _ _ => (sm_var (i := 4) (by rfl) (by exact .inl rfl) (by rfl))) (by decide) (by decide) (by decide))))) (by decide) (by decide) (by decide) (by decide) (by decide))
  (ss_one (ss_ret (sm_call (by exact ⟨rfl, rfl, rfl⟩) (ok_facets_among T) (hr.mono (by decide)) (by rfl) T.g_facets_among T.k_facets_among T.b_facets_among (sa_cons (sm_v (sm_lc (own := [("own", 3)]) (S := [3]) (by rfl) sc_link_of_face.nd (si_seq (by exact ⟨rfl, rfl, rfl⟩) (sm_var (i := 2) (by rfl) (by exact .inl rfl) (by rfl))) (blkOk_by (N := nm_link_of_face) (sc := (defScope st_link_of_face)) (own := [("own", 3)]) (by decide +kernel)) (fun _ _ _ _ _ => (sg_name (i := 3) sc_link_of_face.nd (by rfl) (by exact .inl rfl) (by decide))) (fun _ _ _ _ _ => (sc_one (t_gt hr (b_len T.m_len (so (sm_var (i := 3) (by rfl) (by exact .inl rfl) (by rfl)))) (so sm_int)))) (fun _ _ _ _ _ => (sm_var (i := 3) (by rfl) (by exact .inl rfl) (by rfl))) (by decide) (by decide) (by decide))) sa_nil)) rt0)))

/-! star_of_face -/
abbrev st_star_of_face : Stmt := top 22
def nm_star_of_face : List Str := ["k", "f", "own"]
theorem sc_star_of_face : FnScope nm_star_of_face ["k", "f"] (defScope st_star_of_face) := ⟨rfl, rfl, rfl, by decide +kernel, rfl, by decide +kernel, by decide +kernel⟩
def b_star_of_face : SS := (sRet (e1 tupleP (eComp (gName 2) (some (noD (eCall m_is_within [(eVar 1), (eVar 2)]))) (eVar 2) [2] (iSeq (eVar 0)))))
def m_star_of_face : List PV → Res PV := mkF 1 b_star_of_face
theorem ok_star_of_face (T : Tb C mg fa fd cc) : FnOk C.P C.w C.K mg base CX0 2 (fa 15) (fd 15) ["k", "f"] (spN C 2 m_star_of_face .v) :=
  fnN (nl := 1) (Γe := [.v, .v, .v]) (g := b_star_of_face) T.F_star_of_face sc_star_of_face rfl rfl fun cdv A outer s H E hr => (ss_one (ss_ret (b_tuple T.m_tuple (so (sm_lc (own := [("own", 2)]) (S := [2]) (by rfl) sc_star_of_face.nd (si_seq (by exact ⟨rfl, rfl, rfl⟩) (sm_var (i := 0) (by rfl) (by exact .inl rfl) (by rfl))) (blkOk_by (N := nm_star_of_face) (sc := (defScope st_star_of_face)) (own := [("own", 2)]) (by decide +kernel)) (fun _ _ _ _ _ => (sg_name (i := 2) sc_star_of_face.nd (by rfl) (by exact .inl rfl) (by decide))) (fun _ _ _ _ _ => (sc_one (st_val (by exact ⟨rfl, rfl, rfl⟩) (so (sm_call (by exact ⟨rfl, rfl, rfl⟩) (ok_is_within T) (hr.mono (by decide)) (by rfl) T.g_is_within T.k_is_within T.b_is_within (sa_cons (sm_var (i := 1) (by rfl) (by first | exact .inr (.inl rfl) | exact .inr (.inr rfl) | exact .inl rfl) (by rfl)) (sa_cons (sm_var (i := 2) (by rfl) (by exact .inl rfl) (by rfl)) sa_nil))))))) (fun _ _ _ _ _ => (sm_var (i := 2) (by rfl) (by exact .inl rfl) (by rfl))) (by decide) (by decide) (by decide)))) rt0))

/-! without_point -/
abbrev st_without_point : Stmt := top 23
def nm_without_point : List Str := ["k", "p", "found", "own", "x"]
theorem sc_without_point : FnScope nm_without_point ["k", "p"] (defScope st_without_point) := ⟨rfl, rfl, rfl, by decide +kernel, rfl, by decide +kernel, by decide +kernel⟩
def b_without_point : SS := (sSeq (sAsg 2 (eComp (gName 3) none (e1 tupleP (eComp (gName 4) (some (e2 neP (eVar 4) (eVar 1))) (eVar 4) [4] (iSeq (eVar 3)))) [3] (iSeq (eVar 0))))
  (sRet (eCall m_facets_among [(eComp (gName 3) (some (e2 gtP (e1 lenS (eVar 3)) (eK (.int 0)))) (eVar 3) [3] (iSeq (eVar 2)))])))
def m_without_point : List PV → Res PV := mkF 3 b_without_point
theorem ok_without_point (T : Tb C mg fa fd cc) : FnOk C.P C.w C.K mg base CX0 3 (fa 16) (fd 16) ["k", "p"] (spN C 2 m_without_point .v) :=
  fnN (nl := 3) (Γe := [.v, .v, .v, .v, .v]) (g := b_without_point) T.F_without_point sc_without_point rfl rfl fun cdv A outer s H E hr => (ss_cons (ss_asgLcV (i := 2) (own := [("own", 3)]) (S := [3]) (by rfl) sc_without_point.nd (by rfl) (by rfl) (sw_true (by rfl) (by rfl) (by rfl) (by decide +kernel)) (si_seq (by exact ⟨rfl, rfl, rfl⟩) (sm_var (i := 0) (by rfl) (by exact .inl rfl) (by rfl))) (blkOk_by (N := nm_without_point) (sc := (defScope st_without_point)) (own := [("own", 3)]) (by decide +kernel)) (fun _ _ _ _ _ => (sg_name (i := 3) sc_without_point.nd (by rfl) (by exact .inl rfl) (by decide))) (fun _ _ _ _ _ => sc_none) (fun _ _ _ _ _ => (b_tuple T.m_tuple (so (sm_lc (own := [("x", 4)]) (S := [4]) (by rfl) sc_without_point.nd (si_seq (by exact ⟨rfl, rfl, rfl⟩) (sm_var (i := 3) (by rfl) (by exact .inl rfl) (by rfl))) (by exact blkOk_by (by kernel_rfl)) (fun _ _ _ _ _ => (sg_name (i := 4) sc_without_point.nd (by rfl) (by exact .inl rfl) (by decide))) (fun _ _ _ _ _ => (sc_one (t_ne hr (sm_var (i := 4) (by rfl) (by exact .inl rfl) (by rfl)) (so (sm_var (i := 1) (by rfl) (by first | exact .inr (.inl rfl) | exact .inr (.inr rfl) | exact .inl rfl) (by rfl)))))) (fun _ _ _ _ _ => (sm_var (i := 4) (by rfl) (by exact .inl rfl) (by rfl))) (by decide) (by decide) (by decide))))) (by decide) (by decide) (by decide) (by decide) (by decide))
  (ss_one (ss_ret (sm_call (by exact ⟨rfl, rfl, rfl⟩) (ok_facets_among T) (hr.mono (by decide)) (by rfl) T.g_facets_among T.k_facets_among T.b_facets_among (sa_cons (sm_v (sm_lc (own := [("own", 3)]) (S := [3]) (by rfl) sc_without_point.nd (si_seq (by exact ⟨rfl, rfl, rfl⟩) (sm_var (i := 2) (by rfl) (by exact .inl rfl) (by rfl))) (blkOk_by (N := nm_without_point) (sc := (defScope st_without_point)) (own := [("own", 3)]) (by decide +kernel)) (fun _ _ _ _ _ => (sg_name (i := 3) sc_without_point.nd (by rfl) (by exact .inl rfl) (by decide))) (fun _ _ _ _ _ => (sc_one (t_gt hr (b_len T.m_len (so (sm_var (i := 3) (by rfl) (by exact .inl rfl) (by rfl)))) (so sm_int)))) (fun _ _ _ _ _ => (sm_var (i := 3) (by rfl) (by exact .inl rfl) (by rfl))) (by decide) (by decide) (by decide))) sa_nil)) rt0)))

/-! skeleton_of -/
abbrev st_skeleton_of : Stmt := top 24
def nm_skeleton_of : List Str := ["k", "n", "own"]
theorem sc_skeleton_of : FnScope nm_skeleton_of ["k", "n"] (defScope st_skeleton_of) := ⟨rfl, rfl, rfl, by decide +kernel, rfl, by decide +kernel, by decide +kernel⟩
def b_skeleton_of : SS := (sRet (eCall m_facets_among [(eComp (gName 2) (some (e2 leP (e1 lenS (eVar 2)) (e2 addP (eVar 1) (eK (.int 1))))) (eVar 2) [2] (iSeq (eCallX m_all_faces [(eVar 0)])))]))
def m_skeleton_of : List PV → Res PV := mkF 1 b_skeleton_of
theorem ok_skeleton_of (T : Tb C mg fa fd cc) : FnOk C.P C.w C.K mg base (L2.CX C.P C.w) 6 (fa 17) (fd 17) ["k", "n"] (spX C 2 m_skeleton_of .v) :=
  fnX (nl := 1) (Γe := [.v, .v, .v]) (g := b_skeleton_of) T.F_skeleton_of sc_skeleton_of rfl rfl fun cdv A outer s H E hr => let tk := takes_of (X := cxOf (L2.CX C.P C.w) C.P C.w C.K mg base nm_skeleton_of "skeleton_of" (defScope st_skeleton_of) _ cdv A outer s H E) rfl rfl rfl rfl; (ss_one (ss_ret (sm_call (by exact ⟨rfl, rfl, rfl⟩) (ok_facets_among T) (hr.mono (by decide)) (by rfl) T.g_facets_among T.k_facets_among T.b_facets_among (sa_cons (sm_v (sm_lc (own := [("own", 2)]) (S := [2]) (by rfl) sc_skeleton_of.nd (si_seq (by exact ⟨rfl, rfl, rfl⟩) (sm_callX (by exact ⟨rfl, rfl, rfl⟩) tk (ok_all_faces T) (hr.mono (by decide)) (by rfl) T.g_all_faces T.k_all_faces T.b_all_faces (sa_cons (sm_var (i := 0) (by rfl) (by exact .inl rfl) (by rfl)) sa_nil))) (blkOk_by (N := nm_skeleton_of) (sc := (defScope st_skeleton_of)) (own := [("own", 2)]) (by decide +kernel)) (fun _ _ _ _ _ => (sg_name (i := 2) sc_skeleton_of.nd (by rfl) (by exact .inl rfl) (by decide))) (fun _ _ _ _ _ => (sc_one (t_le hr (b_len T.m_len (so (sm_var (i := 2) (by rfl) (by exact .inl rfl) (by rfl)))) (so (x_add (sm_var (i := 1) (by rfl) (by first | exact .inr (.inl rfl) | exact .inr (.inr rfl) | exact .inl rfl) (by rfl)) (so sm_int)))))) (fun _ _ _ _ _ => (sm_var (i := 2) (by rfl) (by exact .inl rfl) (by rfl))) (by decide) (by decide) (by decide))) sa_nil)) rt0))

/-! _law_state -/
abbrev st__law_state : Stmt := top 26
def nm__law_state : List Str := ["script", "seed", "total", "cell"]
theorem sc__law_state : FnScope nm__law_state ["script"] (defScope st__law_state) := ⟨rfl, rfl, rfl, by decide +kernel, rfl, by decide +kernel, by decide +kernel⟩
def b__law_state : SS := (sSeq (sAsg 1 (eK (.int 0)))
  (sSeq (sAsg 2 (eK (.int 1)))
  (sSeq (sFor (gName 3) (iSeq (eSl (eVar 0) none (some (eK (.int 63))))) (sSeq (sAsg 1 (e2 addP (e2 mulP (eVar 1) (eK (.int 1000003))) (e1 absP (eVar 3))))
  (sAsg 2 (e2 modP (e1 intP (e2 addP (e2 mulP (eVar 2) (eK (.int 48271))) (eVar 3))) (eK (.int 2147483647))))))
  (sRet (eLst [(eVar 1), (eVar 2)])))))
def m__law_state : List PV → Res PV := mkF 3 b__law_state
theorem ok__law_state (T : Tb C mg fa fd cc) : FnOk C.P C.w C.K mg base CX0 1 (fa 18) (fd 18) ["script"] (spN C 1 m__law_state (.l .v)) :=
  fnN (nl := 3) (Γe := [.v, .v, .v, .v]) (g := b__law_state) T.F__law_state sc__law_state rfl rfl fun cdv A outer s H E hr => (ss_cons (ss_asg (i := 1) sc__law_state.nd (by rfl) (by exact .inl rfl) sm_int (by decide) (by decide))
  (ss_cons (ss_asg (i := 2) sc__law_state.nd (by rfl) (by exact .inl rfl) sm_int (by decide) (by decide))
  (ss_cons (ss_for (S := [3]) (Γ := [.v, .v, .v, .v]) (Γ2 := [.v, .v, .v, .v]) PassesOwn.never (by rfl) (si_seq (by exact ⟨rfl, rfl, rfl⟩) (sm_sl (by exact ⟨rfl, rfl, rfl⟩) (sm_var (i := 0) (by rfl) (by exact .inl rfl) (by rfl)) sx_none (sx_some sm_int))) (sg_name (i := 3) sc__law_state.nd (by rfl) (by exact .inl rfl) (by decide)) (ss_cons (ss_asg (i := 1) sc__law_state.nd (by rfl) (by exact .inl rfl) (x_add (x_mul (sm_var (i := 1) (by rfl) (by exact .inl rfl) (by rfl)) (so sm_int)) (so (b_abs T.m_abs (so (sm_var (i := 3) (by rfl) (by exact .inl rfl) (by rfl)))))) (by decide) (by decide))
  (ss_one (ss_asg (i := 2) sc__law_state.nd (by rfl) (by exact .inl rfl) (x_mod (b_int T.m_int (so (x_add (x_mul (sm_var (i := 2) (by rfl) (by exact .inl rfl) (by rfl)) (so sm_int)) (so (sm_var (i := 3) (by rfl) (by exact .inl rfl) (by rfl)))))) (so sm_int)) (by decide) (by decide)))) (by decide) nox_gName)
  (ss_one (ss_ret (sm_lst (sa_cons (sm_var (i := 1) (by rfl) (by exact .inl rfl) (by rfl)) (sa_cons (sm_var (i := 2) (by rfl) (by exact .inl rfl) (by rfl)) sa_nil))) rt0)))))

/-! _law_take -/
abbrev st__law_take : Stmt := top 27
def nm__law_take : List Str := ["state", "m", "value"]
theorem sc__law_take : FnScope nm__law_take ["state", "m"] (defScope st__law_take) := ⟨rfl, rfl, rfl, by decide +kernel, rfl, by decide +kernel, by decide +kernel⟩
def b__law_take : SS := (sSeq (sIf (e2 gtP (eIxO 0 (eK (.int 0))) (eK (.int 0))) (sSeq (sAsg 2 (e2 modP (e1 intP (eIxO 0 (eK (.int 0)))) (eVar 1)))
  (sSeq (sSetL 0 (eK (.int 0)) (e2 fdivP (eIxO 0 (eK (.int 0))) (eVar 1)))
  (sRet (eVar 2)))) sNil)
  (sSeq (sSetL 0 (eK (.int 1)) (e2 modP (e1 intP (e2 addP (e2 mulP (eIxO 0 (eK (.int 1))) (eK (.int 48271))) (eK (.int 11)))) (eK (.int 2147483647))))
  (sRet (e2 modP (e1 intP (e2 fdivP (eIxO 0 (eK (.int 1))) (eK (.int 7)))) (eVar 1)))))
def m__law_take : List PV → List PV → Res (PV × List PV) := mkR 1 b__law_take
theorem ok__law_take (T : Tb C mg fa fd cc) : FnOk C.P C.w C.K mg base CX0 1 (fa 19) (fd 19) ["state", "m"] (spR C 1 m__law_take .v) :=
  fnR (nl := 1) (Γe := [.l .v, .v, .v]) (g := b__law_take) T.F__law_take sc__law_take rfl rfl fun cdv A outer s H E hr => (ss_cons (ss_if (Γ2 := [.l .v, .v, .v]) (t_gt hr (x_ixO (i := 0) (by rfl) (by exact .inl rfl) sm_int (by rfl) (by rfl)) (so sm_int)) (ss_cons (ss_asg (i := 2) sc__law_take.nd (by rfl) (by exact .inl rfl) (x_mod (b_int T.m_int (so (x_ixO (i := 0) (by rfl) (by exact .inl rfl) sm_int (by rfl) (by rfl)))) (so (sm_var (i := 1) (by rfl) (by exact .inl rfl) (by rfl)))) (by decide) (by decide))
  (ss_cons (ss_setL (k := 0) (by rfl) (by exact .inl rfl) (x_fdiv (x_ixO (i := 0) (by rfl) (by exact .inl rfl) sm_int (by rfl) (by rfl)) (so (sm_var (i := 1) (by rfl) (by exact .inl rfl) (by rfl)))) sm_int (by rfl) (by rfl))
  (ss_one (ss_ret (sm_var (i := 2) (by rfl) (by exact .inl rfl) (by rfl)) (rt1 (by rfl)))))) ss_nil)
  (ss_cons (ss_setL (k := 0) (by rfl) (by exact .inl rfl) (x_mod (b_int T.m_int (so (x_add (x_mul (x_ixO (i := 0) (by rfl) (by exact .inl rfl) sm_int (by rfl) (by rfl)) (so sm_int)) (so sm_int)))) (so sm_int)) sm_int (by rfl) (by rfl))
  (ss_one (ss_ret (x_mod (b_int T.m_int (so (x_fdiv (x_ixO (i := 0) (by rfl) (by exact .inl rfl) sm_int (by rfl) (by rfl)) (so sm_int)))) (so (sm_var (i := 1) (by rfl) (by exact .inl rfl) (by rfl)))) (rt1 (by rfl))))))

/-! _law_odd -/
abbrev st__law_odd : Stmt := top 28
def nm__law_odd : List Str := ["value", "item"]
theorem sc__law_odd : FnScope nm__law_odd ["value"] (defScope st__law_odd) := ⟨rfl, rfl, rfl, by decide +kernel, rfl, by decide +kernel, by decide +kernel⟩
def b__law_odd (m : List PV → Res PV) : SS := (sSeq (sIf (e2 eqP (eVar 0) (eK (.str "a word that nothing else is"))) (sRet (eK (.bool true))) sNil)
  (sRet (eAndB (e1 (isiP2 "tuple" "list") (eVar 0)) (e2 gtP (e1 lenS (eComp (gName 1) (some (noD (eCall m [(eVar 1)]))) (eVar 1) [1] (iSeq (eVar 0)))) (eK (.int 0))))))
def m__law_odd : Nat → List PV → Res PV
  | 0 => fun _ => .stuck
  | k + 1 => mkF 1 (b__law_odd (m__law_odd k))
theorem ok__law_odd (T : Tb C mg fa fd cc) : ∀ k : Nat, FnOk C.P C.w C.K mg base CX0 (k + 0) (fa 20) (fd 20) ["value"] (spN C 1 (m__law_odd k) .v)
  | 0 => ok_zero
  | k + 1 => by
    have ih := ok__law_odd T k
    exact fnN (nl := 1) (Γe := [.v, .v]) (g := b__law_odd (m__law_odd k)) T.F__law_odd sc__law_odd rfl rfl fun cdv A outer s H E hr => (ss_cons (ss_if (Γ2 := [.v, .v]) (t_eq hr (sm_var (i := 0) (by rfl) (by exact .inl rfl) (by rfl)) (so sm_str)) (ss_one (ss_ret sm_bl rt0)) ss_nil)
  (ss_one (ss_ret (sm_and (sm_isi2 (T := "tuple") (U := "list") (by exact ⟨rfl, rfl, rfl⟩) (by rfl) (by rfl) (by rfl) T.m_isinstance (by rfl) T.m_tuple (by decide +kernel) (by rfl) T.m_list (by decide +kernel) (sm_var (i := 0) (by rfl) (by exact .inl rfl) (by rfl))) (sm_one (v_gt hr (b_len T.m_len (so (sm_lc (own := [("item", 1)]) (S := [1]) (by rfl) sc__law_odd.nd (si_seq (by exact ⟨rfl, rfl, rfl⟩) (sm_var (i := 0) (by rfl) (by exact .inl rfl) (by rfl))) (blkOk_by (N := nm__law_odd) (sc := (defScope st__law_odd)) (own := [("item", 1)]) (by decide +kernel)) (fun _ _ _ _ _ => (sg_name (i := 1) sc__law_odd.nd (by rfl) (by exact .inl rfl) (by decide))) (fun _ _ _ _ _ => (sc_one (st_val (by exact ⟨rfl, rfl, rfl⟩) (so (sm_call (by exact ⟨rfl, rfl, rfl⟩) ih hr (by rfl) T.g__law_odd T.k__law_odd T.b__law_odd (sa_cons (sm_var (i := 1) (by rfl) (by exact .inl rfl) (by rfl)) sa_nil)))))) (fun _ _ _ _ _ => (sm_var (i := 1) (by rfl) (by exact .inl rfl) (by rfl))) (by decide) (by decide) (by decide)))) (so sm_int)))) rt0)))

/-! _law_honest -/
abbrev st__law_honest : Stmt := top 29
def nm__law_honest : List Str := ["value"]
theorem sc__law_honest : FnScope nm__law_honest ["value"] (defScope st__law_honest) := ⟨rfl, rfl, rfl, by decide +kernel, rfl, by decide +kernel, by decide +kernel⟩
def b__law_honest : SS := (sRet (eIfB (noD (eCall (m__law_odd 6) [(eVar 0)])) (eK (.str "odd")) (eVar 0)))
def m__law_honest : List PV → Res PV := mkF 0 b__law_honest
theorem ok__law_honest (T : Tb C mg fa fd cc) : FnOk C.P C.w C.K mg base CX0 7 (fa 21) (fd 21) ["value"] (spN C 1 m__law_honest .v) :=
  fnN (nl := 0) (Γe := [.v]) (g := b__law_honest) T.F__law_honest sc__law_honest rfl rfl fun cdv A outer s H E hr => (ss_one (ss_ret (sm_if (st_val (by exact ⟨rfl, rfl, rfl⟩) (so (sm_call (by exact ⟨rfl, rfl, rfl⟩) (ok__law_odd T 6) (hr.mono (by decide)) (by rfl) T.g__law_odd T.k__law_odd T.b__law_odd (sa_cons (sm_var (i := 0) (by rfl) (by exact .inl rfl) (by rfl)) sa_nil)))) sm_str (sm_var (i := 0) (by rfl) (by exact .inl rfl) (by rfl))) rt0))

/-! _law_says -/
abbrev st__law_says : Stmt := top 30
def nm__law_says : List Str := ["value", "due"]
theorem sc__law_says : FnScope nm__law_says ["value", "due"] (defScope st__law_says) := ⟨rfl, rfl, rfl, by decide +kernel, rfl, by decide +kernel, by decide +kernel⟩
def b__law_says : SS := (sRet (eAndB (e1 (isiP "bool") (eVar 0)) (e2 eqP (eVar 0) (eVar 1))))
def m__law_says : List PV → Res PV := mkF 0 b__law_says
theorem ok__law_says (T : Tb C mg fa fd cc) : FnOk C.P C.w C.K mg base CX0 1 (fa 22) (fd 22) ["value", "due"] (spN C 2 m__law_says .v) :=
  fnN (nl := 0) (Γe := [.v, .v]) (g := b__law_says) T.F__law_says sc__law_says rfl rfl fun cdv A outer s H E hr => (ss_one (ss_ret (sm_and (sm_isi (T := "bool") (by exact ⟨rfl, rfl, rfl⟩) (by rfl) (by rfl) T.m_isinstance (by rfl) T.m_bool (by decide +kernel) (sm_var (i := 0) (by rfl) (by exact .inl rfl) (by rfl))) (sm_one (v_eq hr (sm_var (i := 0) (by rfl) (by exact .inl rfl) (by rfl)) (so (sm_var (i := 1) (by rfl) (by exact .inl rfl) (by rfl)))))) rt0))

/-! _law_is_whole -/
abbrev st__law_is_whole : Stmt := top 31
def nm__law_is_whole : List Str := ["value"]
theorem sc__law_is_whole : FnScope nm__law_is_whole ["value"] (defScope st__law_is_whole) := ⟨rfl, rfl, rfl, by decide +kernel, rfl, by decide +kernel, by decide +kernel⟩
def b__law_is_whole : SS := (sRet (eAndB (e1 (isiP "int") (eVar 0)) (eNotB (e1 (isiP "bool") (eVar 0)))))
def m__law_is_whole : List PV → Res PV := mkF 0 b__law_is_whole
theorem ok__law_is_whole (T : Tb C mg fa fd cc) : FnOk C.P C.w C.K mg base CX0 1 (fa 23) (fd 23) ["value"] (spN C 1 m__law_is_whole .v) :=
  fnN (nl := 0) (Γe := [.v]) (g := b__law_is_whole) T.F__law_is_whole sc__law_is_whole rfl rfl fun cdv A outer s H E hr => (ss_one (ss_ret (sm_and (sm_isi (T := "int") (by exact ⟨rfl, rfl, rfl⟩) (by rfl) (by rfl) T.m_isinstance (by rfl) T.m_int (by decide +kernel) (sm_var (i := 0) (by rfl) (by exact .inl rfl) (by rfl))) (sm_one (sm_not (sm_isi (T := "bool") (by exact ⟨rfl, rfl, rfl⟩) (by rfl) (by rfl) T.m_isinstance (by rfl) T.m_bool (by decide +kernel) (sm_var (i := 0) (by rfl) (by exact .inl rfl) (by rfl)))))) rt0))

/-! _law_same -/
abbrev st__law_same : Stmt := top 32
def nm__law_same : List Str := ["one", "two", "k"]
theorem sc__law_same : FnScope nm__law_same ["one", "two"] (defScope st__law_same) := ⟨rfl, rfl, rfl, by decide +kernel, rfl, by decide +kernel, by decide +kernel⟩
def b__law_same (m : List PV → Res PV) : SS := (sSeq (sIf (noD (e1 (isiP "bool") (eVar 1))) (sRet (eAndB (e1 (isiP "bool") (eVar 0)) (e2 eqP (eVar 0) (eVar 1)))) sNil)
  (sSeq (sIf (noD (e1 (isiP "tuple") (eVar 1))) (sRet (eAndB (e1 (isiP "tuple") (eVar 0)) (eAndB (e2 eqP (e1 lenS (eVar 0)) (e1 lenS (eVar 1))) (e1 allP (eComp (gName 2) none (eCall m [(e2 idxP (eVar 0) (eVar 2)), (e2 idxP (eVar 1) (eVar 2))]) [2] (iR1 (e1 lenS (eVar 1)))))))) sNil)
  (sSeq (sIf (noD (e1 (isiP "str") (eVar 1))) (sRet (eAndB (e1 (isiP "str") (eVar 0)) (e2 eqP (eVar 0) (eVar 1)))) sNil)
  (sSeq (sIf (e2 isNP' (eVar 1) (eK .non)) (sRet (e2 isNP' (eVar 0) (eK .non))) sNil)
  (sRet (eAndB (eCall m__law_is_whole [(eVar 0)]) (e2 eqP (eVar 0) (eVar 1))))))))
def m__law_same : Nat → List PV → Res PV
  | 0 => fun _ => .stuck
  | k + 1 => mkF 1 (b__law_same (m__law_same k))
theorem ok__law_same (T : Tb C mg fa fd cc) : ∀ k : Nat, FnOk C.P C.w C.K mg base CX0 (k + 1) (fa 24) (fd 24) ["one", "two"] (spN C 2 (m__law_same k) .v)
  | 0 => ok_zero
  | k + 1 => by
    have ih := ok__law_same T k
    exact fnN (nl := 1) (Γe := [.v, .v, .v]) (g := b__law_same (m__law_same k)) T.F__law_same sc__law_same rfl rfl fun cdv A outer s H E hr => (ss_cons (ss_if (Γ2 := [.v, .v, .v]) (st_val (by exact ⟨rfl, rfl, rfl⟩) (so (sm_isi (T := "bool") (by exact ⟨rfl, rfl, rfl⟩) (by rfl) (by rfl) T.m_isinstance (by rfl) T.m_bool (by decide +kernel) (sm_var (i := 1) (by rfl) (by exact .inr (.inl rfl)) (by rfl))))) (ss_one (ss_ret (sm_and (sm_isi (T := "bool") (by exact ⟨rfl, rfl, rfl⟩) (by rfl) (by rfl) T.m_isinstance (by rfl) T.m_bool (by decide +kernel) (sm_var (i := 0) (by rfl) (by exact .inr (.inl rfl)) (by rfl))) (sm_one (v_eq hr (sm_var (i := 0) (by rfl) (by exact .inr (.inl rfl)) (by rfl)) (so (sm_var (i := 1) (by rfl) (by exact .inr (.inl rfl)) (by rfl)))))) rt0)) ss_nil)
  (ss_cons (ss_if (Γ2 := [.v, .v, .v]) (st_val (by exact ⟨rfl, rfl, rfl⟩) (so (sm_isi (T := "tuple") (by exact ⟨rfl, rfl, rfl⟩) (by rfl) (by rfl) T.m_isinstance (by rfl) T.m_tuple (by decide +kernel) (sm_var (i := 1) (by rfl) (by exact .inr (.inl rfl)) (by rfl))))) (ss_one (ss_ret (sm_and (sm_isi (T := "tuple") (by exact ⟨rfl, rfl, rfl⟩) (by rfl) (by rfl) T.m_isinstance (by rfl) T.m_tuple (by decide +kernel) (sm_var (i := 0) (by rfl) (by exact .inr (.inl rfl)) (by rfl))) (sm_and (v_eq hr (b_len T.m_len (so (sm_var (i := 0) (by rfl) (by exact .inr (.inl rfl)) (by rfl)))) (so (b_len T.m_len (so (sm_var (i := 1) (by rfl) (by exact .inr (.inl rfl)) (by rfl)))))) (sm_one (b_all T.m_all (so (sm_lc (own := [("k", 2)]) (S := [2]) (by rfl) sc__law_same.nd (si_range1 (by rfl) T.m_range (b_len T.m_len (so (sm_var (i := 1) (by rfl) (by exact .inr (.inl rfl)) (by rfl))))) (blkOk_by (N := nm__law_same) (sc := (defScope st__law_same)) (own := [("k", 2)]) (by decide +kernel)) (fun _ _ _ _ _ => (sg_name (i := 2) sc__law_same.nd (by rfl) (by exact .inl rfl) (by decide))) (fun _ _ _ _ _ => sc_none) (fun _ _ _ _ _ => (sm_call (by exact ⟨rfl, rfl, rfl⟩) ih hr (by rfl) T.g__law_same T.k__law_same T.b__law_same (sa_cons (x_ix (sm_var (i := 0) (by rfl) (by first | exact .inr (.inl rfl) | exact .inr (.inr rfl) | exact .inl rfl) (by rfl)) (so (sm_var (i := 2) (by rfl) (by exact .inl rfl) (by rfl)))) (sa_cons (x_ix (sm_var (i := 1) (by rfl) (by first | exact .inr (.inl rfl) | exact .inr (.inr rfl) | exact .inl rfl) (by rfl)) (so (sm_var (i := 2) (by rfl) (by exact .inl rfl) (by rfl)))) sa_nil)))) (by decide) (by decide) (by decide))))))) rt0)) ss_nil)
  (ss_cons (ss_if (Γ2 := [.v, .v, .v]) (st_val (by exact ⟨rfl, rfl, rfl⟩) (so (sm_isi (T := "str") (by exact ⟨rfl, rfl, rfl⟩) (by rfl) (by rfl) T.m_isinstance (by rfl) T.m_str (by decide +kernel) (sm_var (i := 1) (by rfl) (by exact .inr (.inl rfl)) (by rfl))))) (ss_one (ss_ret (sm_and (sm_isi (T := "str") (by exact ⟨rfl, rfl, rfl⟩) (by rfl) (by rfl) T.m_isinstance (by rfl) T.m_str (by decide +kernel) (sm_var (i := 0) (by rfl) (by exact .inr (.inl rfl)) (by rfl))) (sm_one (v_eq hr (sm_var (i := 0) (by rfl) (by exact .inr (.inl rfl)) (by rfl)) (so (sm_var (i := 1) (by rfl) (by exact .inr (.inl rfl)) (by rfl)))))) rt0)) ss_nil)
  (ss_cons (ss_if (Γ2 := [.v, .v, .v]) (t_isN hr (sm_var (i := 1) (by rfl) (by exact .inr (.inl rfl)) (by rfl)) (so sm_non)) (ss_one (ss_ret (v_isN hr (sm_var (i := 0) (by rfl) (by exact .inr (.inl rfl)) (by rfl)) (so sm_non)) rt0)) ss_nil)
  (ss_one (ss_ret (sm_and (sm_call (by exact ⟨rfl, rfl, rfl⟩) (ok__law_is_whole T) (hr.mono (by omega)) (by rfl) T.g__law_is_whole T.k__law_is_whole T.b__law_is_whole (sa_cons (sm_var (i := 0) (by rfl) (by exact .inr (.inl rfl)) (by rfl)) sa_nil)) (sm_one (v_eq hr (sm_var (i := 0) (by rfl) (by exact .inr (.inl rfl)) (by rfl)) (so (sm_var (i := 1) (by rfl) (by exact .inr (.inl rfl)) (by rfl)))))) rt0))))))

/-! _law_parts -/
abbrev st__law_parts : Stmt := top 33
def nm__law_parts : List Str := ["points", "found", "p", "longer", "own"]
theorem sc__law_parts : FnScope nm__law_parts ["points"] (defScope st__law_parts) := ⟨rfl, rfl, rfl, by decide +kernel, rfl, by decide +kernel, by decide +kernel⟩
def b__law_parts : SS := (sSeq (sAsg 1 (eLst [(eTup [])]))
  (sSeq (sFor (gName 2) (iSeq (eVar 0)) (sSeq (sAsg 3 (eLst []))
  (sSeq (sFor (gName 4) (iSeq (eVar 1)) (sAsg 3 (e2 addP (eVar 3) (eLst [(eVar 4), (e2 addP (eVar 4) (eTup [(eVar 2)]))]))))
  (sAsg 1 (e1 listP (eVar 3))))))
  (sRet (eComp (gName 4) (some (e2 gtP (e1 lenS (eVar 4)) (eK (.int 0)))) (eVar 4) [4] (iSeq (eVar 1))))))
def m__law_parts : List PV → Res PV := mkF 4 b__law_parts
theorem ok__law_parts (T : Tb C mg fa fd cc) : FnOk C.P C.w C.K mg base CX0 1 (fa 25) (fd 25) ["points"] (spN C 1 m__law_parts .v) :=
  fnN (nl := 4) (Γe := [.v, .v, .v, .v, .v]) (g := b__law_parts) T.F__law_parts sc__law_parts rfl rfl fun cdv A outer s H E hr => (ss_cons (ss_asg (i := 1) sc__law_parts.nd (by rfl) (by exact .inl rfl) (sm_v (sm_lst (sa_cons (sm_tup sa_nil) sa_nil))) (by decide) (by decide))
  (ss_cons (ss_for (S := [2]) (Γ := [.v, .v, .v, .v, .v]) (Γ2 := [.v, .v, .v, .v, .v]) PassesOwn.never (by rfl) (si_seq (by exact ⟨rfl, rfl, rfl⟩) (sm_var (i := 0) (by rfl) (by exact .inl rfl) (by rfl))) (sg_name (i := 2) sc__law_parts.nd (by rfl) (by exact .inl rfl) (by decide)) (ss_cons (ss_asg (i := 3) sc__law_parts.nd (by rfl) (by exact .inl rfl) (sm_v (sm_lst sa_nil)) (by decide) (by decide))
  (ss_cons (ss_for (S := [4]) (Γ := [.v, .v, .v, .v, .v]) (Γ2 := [.v, .v, .v, .v, .v]) PassesOwn.never (by rfl) (si_seq (by exact ⟨rfl, rfl, rfl⟩) (sm_var (i := 1) (by rfl) (by exact .inl rfl) (by rfl))) (sg_name (i := 4) sc__law_parts.nd (by rfl) (by exact .inl rfl) (by decide)) (ss_one (ss_asg (i := 3) sc__law_parts.nd (by rfl) (by exact .inl rfl) (x_add (sm_var (i := 3) (by rfl) (by exact .inl rfl) (by rfl)) (so (sm_lst (sa_cons (sm_var (i := 4) (by rfl) (by exact .inl rfl) (by rfl)) (sa_cons (x_add (sm_var (i := 4) (by rfl) (by exact .inl rfl) (by rfl)) (so (sm_tup (sa_cons (sm_var (i := 2) (by rfl) (by exact .inl rfl) (by rfl)) sa_nil)))) sa_nil))))) (by decide) (by decide))) (by decide) nox_gName)
  (ss_one (ss_asg (i := 1) sc__law_parts.nd (by rfl) (by exact .inl rfl) (sm_v (b_list T.m_list (so (sm_var (i := 3) (by rfl) (by exact .inl rfl) (by rfl))))) (by decide) (by decide))))) (by decide) nox_gName)
  (ss_one (ss_ret (sm_v (sm_lc (own := [("own", 4)]) (S := [4]) (by rfl) sc__law_parts.nd (si_seq (by exact ⟨rfl, rfl, rfl⟩) (sm_var (i := 1) (by rfl) (by exact .inl rfl) (by rfl))) (blkOk_by (N := nm__law_parts) (sc := (defScope st__law_parts)) (own := [("own", 4)]) (by decide +kernel)) (fun _ _ _ _ _ => (sg_name (i := 4) sc__law_parts.nd (by rfl) (by exact .inl rfl) (by decide))) (fun _ _ _ _ _ => (sc_one (t_gt hr (b_len T.m_len (so (sm_var (i := 4) (by rfl) (by exact .inl rfl) (by rfl)))) (so sm_int)))) (fun _ _ _ _ _ => (sm_var (i := 4) (by rfl) (by exact .inl rfl) (by rfl))) (by decide) (by decide) (by decide))) rt0))))

/-! _law_faces -/
abbrev st__law_faces : Stmt := top 34
def nm__law_faces : List Str := ["cells", "found", "facet", "own"]
theorem sc__law_faces : FnScope nm__law_faces ["cells"] (defScope st__law_faces) := ⟨rfl, rfl, rfl, by decide +kernel, rfl, by decide +kernel, by decide +kernel⟩
def b__law_faces : SS := (sSeq (sAsg 1 (eK (.dct [])))
  (sSeq (sFor (gName 2) (iSeq (eVar 0)) (sFor (gName 3) (iSeq (eCall m__law_parts [(eVar 2)])) (sSetD 1 (eVar 3) (eK (.bool true)))))
  (sRet (e1 sortedD (eVar 1)))))
def m__law_faces : List PV → Res PV := mkF 3 b__law_faces
theorem ok__law_faces (T : Tb C mg fa fd cc) : FnOk C.P C.w C.K mg base CX0 2 (fa 26) (fd 26) ["cells"] (spN C 1 m__law_faces .v) :=
  fnN (nl := 3) (Γe := [.v, .v, .v, .v]) (g := b__law_faces) T.F__law_faces sc__law_faces rfl rfl fun cdv A outer s H E hr => (ss_cons (ss_asg (i := 1) sc__law_faces.nd (by rfl) (by exact .inl rfl) sm_dnew (by decide) (by decide))
  (ss_cons (ss_for (S := [2]) (Γ := [.v, .d .v, .v, .v]) (Γ2 := [.v, .d .v, .v, .v]) PassesOwn.never (by rfl) (si_seq (by exact ⟨rfl, rfl, rfl⟩) (sm_var (i := 0) (by rfl) (by exact .inl rfl) (by rfl))) (sg_name (i := 2) sc__law_faces.nd (by rfl) (by exact .inl rfl) (by decide)) (ss_one (ss_for (S := [3]) (Γ := [.v, .d .v, .v, .v]) (Γ2 := [.v, .d .v, .v, .v]) PassesOwn.never (by rfl) (si_seq (by exact ⟨rfl, rfl, rfl⟩) (sm_call (by exact ⟨rfl, rfl, rfl⟩) (ok__law_parts T) (hr.mono (by decide)) (by rfl) T.g__law_parts T.k__law_parts T.b__law_parts (sa_cons (sm_var (i := 2) (by rfl) (by exact .inl rfl) (by rfl)) sa_nil))) (sg_name (i := 3) sc__law_faces.nd (by rfl) (by exact .inl rfl) (by decide)) (ss_one (ss_setD (k := 1) (by exact ⟨rfl, rfl, rfl⟩) (Ru1 hr) (by rfl) (by exact .inl rfl) sm_bl (sm_var (i := 3) (by rfl) (by exact .inl rfl) (by rfl)) (by rfl) (by rfl))) (by decide) nox_gName)) (by decide) nox_gName)
  (ss_one (ss_ret (sm_v (b_sortedD hr T.m_sorted (so_own (i := 1) (by rfl) (by exact .inl rfl) (by rfl)))) rt0))))

/-! _law_cells_of -/
abbrev st__law_cells_of : Stmt := top 35
def nm__law_cells_of : List Str := ["faces", "found", "own", "f", "p"]
theorem sc__law_cells_of : FnScope nm__law_cells_of ["faces"] (defScope st__law_cells_of) := ⟨rfl, rfl, rfl, by decide +kernel, rfl, by decide +kernel, by decide +kernel⟩
def b__law_cells_of : SS := (sSeq (sAsg 1 (eLst []))
  (sSeq (sFor (gName 2) (iSeq (eVar 0)) (sIf (e2 eqP (e1 lenS (eComp (gName 3) (some (eAndB (e2 gtP (e1 lenS (eVar 3)) (e1 lenS (eVar 2))) (noD (e1 allP (eComp (gName 4) none (e2 inP (eVar 4) (eVar 3)) [4] (iSeq (eVar 2))))))) (eVar 3) [3] (iSeq (eVar 0)))) (eK (.int 0))) (sExpr (eApp 1 (eVar 2))) sNil))
  (sRet (e1 tupleP (e1 sortedA (eVar 1))))))
def m__law_cells_of : List PV → Res PV := mkF 4 b__law_cells_of
theorem ok__law_cells_of (T : Tb C mg fa fd cc) : FnOk C.P C.w C.K mg base CX0 1 (fa 27) (fd 27) ["faces"] (spN C 1 m__law_cells_of .v) :=
  fnN (nl := 4) (Γe := [.v, .v, .v, .v, .v]) (g := b__law_cells_of) T.F__law_cells_of sc__law_cells_of rfl rfl fun cdv A outer s H E hr => (ss_cons (ss_asg (i := 1) sc__law_cells_of.nd (by rfl) (by exact .inl rfl) (sm_lst sa_nil) (by decide) (by decide))
  (ss_cons (ss_for (S := [2]) (Γ := [.v, .l .v, .v, .v, .v]) (Γ2 := [.v, .l .v, .v, .v, .v]) PassesOwn.never (by rfl) (si_seq (by exact ⟨rfl, rfl, rfl⟩) (sm_var (i := 0) (by rfl) (by exact .inl rfl) (by rfl))) (sg_name (i := 2) sc__law_cells_of.nd (by rfl) (by exact .inr rfl) (by decide)) (ss_one (ss_if (Γ2 := [.v, .l .v, .v, .v, .v]) (t_eq hr (b_len T.m_len (so (sm_lc (own := [("f", 3)]) (S := [3]) (by rfl) sc__law_cells_of.nd (si_seq (by exact ⟨rfl, rfl, rfl⟩) (sm_var (i := 0) (by rfl) (by exact .inl rfl) (by rfl))) (blkOk_by (N := nm__law_cells_of) (sc := (defScope st__law_cells_of)) (own := [("f", 3)]) (by decide +kernel)) (fun _ _ _ _ _ => (sg_name (i := 3) sc__law_cells_of.nd (by rfl) (by exact .inr rfl) (by decide))) (fun _ _ _ _ _ => (sc_one (st_bop (sw_and (t_gt hr (b_len T.m_len (so (sm_var (i := 3) (by rfl) (by exact .inr (.inl rfl)) (by rfl)))) (so (b_len T.m_len (so (sm_var (i := 2) (by rfl) (by first | exact .inr (.inl rfl) | exact .inr (.inr rfl) | exact .inl rfl) (by rfl)))))) (sw_and1 (st_val (by exact ⟨rfl, rfl, rfl⟩) (so (b_all T.m_all (so (sm_lc (own := [("p", 4)]) (S := [4]) (by rfl) sc__law_cells_of.nd (si_seq (by exact ⟨rfl, rfl, rfl⟩) (sm_var (i := 2) (by rfl) (by first | exact .inr (.inl rfl) | exact .inr (.inr rfl) | exact .inl rfl) (by rfl))) (by exact blkOk_by (by kernel_rfl)) (fun _ _ _ _ _ => (sg_name (i := 4) sc__law_cells_of.nd (by rfl) (by exact .inl rfl) (by decide))) (fun _ _ _ _ _ => sc_none) (fun _ _ _ _ _ => (v_in hr (sm_var (i := 4) (by rfl) (by exact .inl rfl) (by rfl)) (so (sm_var (i := 3) (by rfl) (by first | exact .inr (.inl rfl) | exact .inr (.inr rfl) | exact .inl rfl) (by rfl))))) (by decide) (by decide) (by decide))))))))))) (fun _ _ _ _ _ => (sm_var (i := 3) (by rfl) (by exact .inr (.inl rfl)) (by rfl))) (by decide) (by decide) (by decide)))) (so sm_int)) (ss_one (ss_expr (sm_app (k := 1) (by exact ⟨rfl, rfl, rfl⟩) (by rfl) (by exact .inl rfl) (sm_var (i := 2) (by rfl) (by exact .inr (.inl rfl)) (by rfl)) (by rfl) (by rfl)))) ss_nil)) (by decide) nox_gName)
  (ss_one (ss_ret (b_tuple T.m_tuple (so (b_sortA hr T.m_sorted (so_own (i := 1) (by rfl) (by exact .inl rfl) (by rfl))))) rt0))))

/-! _law_dimension -/
abbrev st__law_dimension : Stmt := top 36
def nm__law_dimension : List Str := ["cells", "f"]
theorem sc__law_dimension : FnScope nm__law_dimension ["cells"] (defScope st__law_dimension) := ⟨rfl, rfl, rfl, by decide +kernel, rfl, by decide +kernel, by decide +kernel⟩
def b__law_dimension : SS := (sRet (e2 subP (e1 maxP (e2 addP (eComp (gName 1) none (e1 lenS (eVar 1)) [1] (iSeq (eVar 0))) (eLst [(eK (.int 0))]))) (eK (.int 1))))
def m__law_dimension : List PV → Res PV := mkF 1 b__law_dimension
theorem ok__law_dimension (T : Tb C mg fa fd cc) : FnOk C.P C.w C.K mg base CX0 1 (fa 28) (fd 28) ["cells"] (spN C 1 m__law_dimension .v) :=
  fnN (nl := 1) (Γe := [.v, .v]) (g := b__law_dimension) T.F__law_dimension sc__law_dimension rfl rfl fun cdv A outer s H E hr => (ss_one (ss_ret (x_sub (b_max T.m_max (so (x_add (sm_v (sm_lc (own := [("f", 1)]) (S := [1]) (by rfl) sc__law_dimension.nd (si_seq (by exact ⟨rfl, rfl, rfl⟩) (sm_var (i := 0) (by rfl) (by exact .inl rfl) (by rfl))) (blkOk_by (N := nm__law_dimension) (sc := (defScope st__law_dimension)) (own := [("f", 1)]) (by decide +kernel)) (fun _ _ _ _ _ => (sg_name (i := 1) sc__law_dimension.nd (by rfl) (by exact .inl rfl) (by decide))) (fun _ _ _ _ _ => sc_none) (fun _ _ _ _ _ => (b_len T.m_len (so (sm_var (i := 1) (by rfl) (by exact .inl rfl) (by rfl))))) (by decide) (by decide) (by decide))) (so (sm_lst (sa_cons sm_int sa_nil)))))) (so sm_int)) rt0))

/-! _law_euler -/
abbrev st__law_euler : Stmt := top 37
def nm__law_euler : List Str := ["cells", "f"]
theorem sc__law_euler : FnScope nm__law_euler ["cells"] (defScope st__law_euler) := ⟨rfl, rfl, rfl, by decide +kernel, rfl, by decide +kernel, by decide +kernel⟩
def b__law_euler : SS := (sRet (e1 sumP (eComp (gName 1) none (eIfB (e2 eqP (e2 modP (e1 intP (e1 lenS (eVar 1))) (eK (.int 2))) (eK (.int 1))) (eK (.int 1)) (e1 negP (eK (.int 1)))) [1] (iSeq (eCall m__law_faces [(eVar 0)])))))
def m__law_euler : List PV → Res PV := mkF 1 b__law_euler
theorem ok__law_euler (T : Tb C mg fa fd cc) : FnOk C.P C.w C.K mg base CX0 3 (fa 29) (fd 29) ["cells"] (spN C 1 m__law_euler .v) :=
  fnN (nl := 1) (Γe := [.v, .v]) (g := b__law_euler) T.F__law_euler sc__law_euler rfl rfl fun cdv A outer s H E hr => (ss_one (ss_ret (b_sum T.m_sum (so (sm_lc (own := [("f", 1)]) (S := [1]) (by rfl) sc__law_euler.nd (si_seq (by exact ⟨rfl, rfl, rfl⟩) (sm_call (by exact ⟨rfl, rfl, rfl⟩) (ok__law_faces T) (hr.mono (by decide)) (by rfl) T.g__law_faces T.k__law_faces T.b__law_faces (sa_cons (sm_var (i := 0) (by rfl) (by exact .inl rfl) (by rfl)) sa_nil))) (blkOk_by (N := nm__law_euler) (sc := (defScope st__law_euler)) (own := [("f", 1)]) (by decide +kernel)) (fun _ _ _ _ _ => (sg_name (i := 1) sc__law_euler.nd (by rfl) (by exact .inl rfl) (by decide))) (fun _ _ _ _ _ => sc_none) (fun _ _ _ _ _ => (sm_if (t_eq hr (x_mod (b_int T.m_int (so (b_len T.m_len (so (sm_var (i := 1) (by rfl) (by exact .inl rfl) (by rfl)))))) (so sm_int)) (so sm_int)) sm_int (x_neg (so sm_int)))) (by decide) (by decide) (by decide)))) rt0))

/-! _law_drawn_cells -/
abbrev st__law_drawn_cells : Stmt := top 38
def nm__law_drawn_cells : List Str := ["state", "points", "most", "pick", "faces", "turn", "one", "n", "own", "step", "f", "i", "q", "p"]
theorem sc__law_drawn_cells : FnScope nm__law_drawn_cells ["state", "points", "most"] (defScope st__law_drawn_cells) := ⟨rfl, rfl, rfl, by decide +kernel, rfl, by decide +kernel, by decide +kernel⟩
def b__law_drawn_cells : SS := (sSeq (sAsg 3 (eCallR m__law_take 0 [(eK (.int 9))]))
  (sSeq (sIf (e2 eqP (eVar 3) (eK (.int 0))) (sSeq (sAsg 6 (eComp (gName 11) none (e1 tupleP (e1 sortedA (eComp (gName 13) none (e2 modP (e1 intP (e2 addP (eVar 13) (eVar 11))) (eK (.int 7))) [13] (iSeq (eTup [(eK (.int 0)), (eK (.int 1)), (eK (.int 3))]))))) [11] (iR1 (eK (.int 7)))))
  (sRet (e1 tupleP (e1 sortedA (e2 addP (eVar 6) (eComp (gName 11) none (e1 tupleP (e1 sortedA (eComp (gName 13) none (e2 modP (e1 intP (e2 addP (eVar 13) (eVar 11))) (eK (.int 7))) [13] (iSeq (eTup [(eK (.int 0)), (eK (.int 2)), (eK (.int 3))]))))) [11] (iR1 (eK (.int 7))))))))) sNil)
  (sSeq (sIf (e2 eqP (eVar 3) (eK (.int 1))) (sRet (eTup [(eTup [(eK (.int 0)), (eK (.int 1)), (eK (.int 2))]), (eTup [(eK (.int 0)), (eK (.int 1)), (eK (.int 3))]), (eTup [(eK (.int 0)), (eK (.int 2)), (eK (.int 4))]), (eTup [(eK (.int 0)), (eK (.int 3)), (eK (.int 5))]), (eTup [(eK (.int 0)), (eK (.int 4)), (eK (.int 5))]), (eTup [(eK (.int 1)), (eK (.int 2)), (eK (.int 5))]), (eTup [(eK (.int 1)), (eK (.int 3)), (eK (.int 4))]), (eTup [(eK (.int 1)), (eK (.int 4)), (eK (.int 5))]), (eTup [(eK (.int 2)), (eK (.int 3)), (eK (.int 4))]), (eTup [(eK (.int 2)), (eK (.int 3)), (eK (.int 5))])])) sNil)
  (sSeq (sIf (e2 eqP (eVar 3) (eK (.int 2))) (sSeq (sAsg 7 (e2 addP (eK (.int 1)) (eCallR m__law_take 0 [(eK (.int 3))])))
  (sRet (e1 tupleP (e1 sortedA (eComp (gName 12) none (e1 tupleP (eComp (gName 13) (some (e2 neP (eVar 13) (eVar 12))) (eVar 13) [13] (iR1 (e2 addP (eVar 7) (eK (.int 2)))))) [12] (iR1 (e2 addP (eVar 7) (eK (.int 2))))))))) sNil)
  (sSeq (sAsg 4 (eK (.dct [])))
  (sSeq (sFor (gName 5) (iR1 (e2 addP (eK (.int 1)) (eCallR m__law_take 0 [(eVar 2)]))) (sSeq (sAsg 8 (eK (.dct [])))
  (sSeq (sFor (gName 9) (iR1 (e2 addP (eK (.int 1)) (eCallR m__law_take 0 [(eK (.int 4))]))) (sSetD 8 (eCallR m__law_take 0 [(eVar 1)]) (eK (.bool true))))
  (sFor (gName 10) (iSeq (eCall m__law_parts [(e1 tupleP (e1 sortedD (eVar 8)))])) (sSetD 4 (eVar 10) (eK (.bool true)))))))
  (sRet (eCall m__law_cells_of [(e1 sortedD (eVar 4))]))))))))
def m__law_drawn_cells : List PV → List PV → Res (PV × List PV) := mkR 11 b__law_drawn_cells
theorem ok__law_drawn_cells (T : Tb C mg fa fd cc) : FnOk C.P C.w C.K mg base CX0 2 (fa 30) (fd 30) ["state", "points", "most"] (spR C 2 m__law_drawn_cells .v) :=
  fnR (nl := 11) (Γe := [.l .v, .v, .v, .v, .v, .v, .v, .v, .v, .v, .v, .v, .v, .v]) (g := b__law_drawn_cells) T.F__law_drawn_cells sc__law_drawn_cells rfl rfl fun cdv A outer s H E hr => (ss_cons (ss_asg (i := 3) sc__law_drawn_cells.nd (by rfl) (by exact .inl rfl) (sm_callR (i := 0) (by exact ⟨rfl, rfl, rfl⟩) (ok__law_take T) (hr.mono (by decide)) (by rfl) T.g__law_take T.k__law_take T.b__law_take (by rfl) (by exact .inl rfl) (by rfl) (by rfl) (sa_cons sm_int sa_nil)) (by decide) (by decide))
  (ss_cons (ss_if (Γ2 := [.l .v, .v, .v, .v, .v, .v, .v, .v, .v, .v, .v, .v, .v, .v]) (t_eq hr (sm_var (i := 3) (by rfl) (by exact .inl rfl) (by rfl)) (so sm_int)) (ss_cons (ss_asgLcV (i := 6) (own := [("i", 11)]) (S := [11]) (by rfl) sc__law_drawn_cells.nd (by rfl) (by rfl) (sw_true (by rfl) (by rfl) (by rfl) (by decide +kernel)) (si_range1 (by rfl) T.m_range sm_int) (blkOk_by (N := nm__law_drawn_cells) (sc := (defScope st__law_drawn_cells)) (own := [("i", 11)]) (by decide +kernel)) (fun _ _ _ _ _ => (sg_name (i := 11) sc__law_drawn_cells.nd (by rfl) (by exact .inr rfl) (by decide))) (fun _ _ _ _ _ => sc_none) (fun _ _ _ _ _ => (b_tuple T.m_tuple (so (b_sortA hr T.m_sorted (so (sm_lc (own := [("p", 13)]) (S := [13]) (by rfl) sc__law_drawn_cells.nd (si_seq (by exact ⟨rfl, rfl, rfl⟩) (sm_tup (sa_cons sm_int (sa_cons sm_int (sa_cons sm_int sa_nil))))) (by exact blkOk_by (by kernel_rfl)) (fun _ _ _ _ _ => (sg_name (i := 13) sc__law_drawn_cells.nd (by rfl) (by exact .inl rfl) (by decide))) (fun _ _ _ _ _ => sc_none) (fun _ _ _ _ _ => (x_mod (b_int T.m_int (so (x_add (sm_var (i := 13) (by rfl) (by exact .inl rfl) (by rfl)) (so (sm_var (i := 11) (by rfl) (by first | exact .inr (.inl rfl) | exact .inr (.inr rfl) | exact .inl rfl) (by rfl)))))) (so sm_int))) (by decide) (by decide) (by decide))))))) (by decide) (by decide) (by decide) (by decide) (by decide))
  (ss_one (ss_ret (b_tuple T.m_tuple (so (b_sortA hr T.m_sorted (so (x_add (sm_var (i := 6) (by rfl) (by exact .inl rfl) (by rfl)) (so (sm_lc (own := [("i", 11)]) (S := [11]) (by rfl) sc__law_drawn_cells.nd (si_range1 (by rfl) T.m_range sm_int) (blkOk_by (N := nm__law_drawn_cells) (sc := (defScope st__law_drawn_cells)) (own := [("i", 11)]) (by decide +kernel)) (fun _ _ _ _ _ => (sg_name (i := 11) sc__law_drawn_cells.nd (by rfl) (by exact .inr rfl) (by decide))) (fun _ _ _ _ _ => sc_none) (fun _ _ _ _ _ => (b_tuple T.m_tuple (so (b_sortA hr T.m_sorted (so (sm_lc (own := [("p", 13)]) (S := [13]) (by rfl) sc__law_drawn_cells.nd (si_seq (by exact ⟨rfl, rfl, rfl⟩) (sm_tup (sa_cons sm_int (sa_cons sm_int (sa_cons sm_int sa_nil))))) (by exact blkOk_by (by kernel_rfl)) (fun _ _ _ _ _ => (sg_name (i := 13) sc__law_drawn_cells.nd (by rfl) (by exact .inl rfl) (by decide))) (fun _ _ _ _ _ => sc_none) (fun _ _ _ _ _ => (x_mod (b_int T.m_int (so (x_add (sm_var (i := 13) (by rfl) (by exact .inl rfl) (by rfl)) (so (sm_var (i := 11) (by rfl) (by first | exact .inr (.inl rfl) | exact .inr (.inr rfl) | exact .inl rfl) (by rfl)))))) (so sm_int))) (by decide) (by decide) (by decide))))))) (by decide) (by decide) (by decide)))))))) (rt1 (by rfl))))) ss_nil)
  (ss_cons (ss_if (Γ2 := [.l .v, .v, .v, .v, .v, .v, .v, .v, .v, .v, .v, .v, .v, .v]) (t_eq hr (sm_var (i := 3) (by rfl) (by exact .inl rfl) (by rfl)) (so sm_int)) (ss_one (ss_ret (sm_tup (sa_cons (sm_tup (sa_cons sm_int (sa_cons sm_int (sa_cons sm_int sa_nil)))) (sa_cons (sm_tup (sa_cons sm_int (sa_cons sm_int (sa_cons sm_int sa_nil)))) (sa_cons (sm_tup (sa_cons sm_int (sa_cons sm_int (sa_cons sm_int sa_nil)))) (sa_cons (sm_tup (sa_cons sm_int (sa_cons sm_int (sa_cons sm_int sa_nil)))) (sa_cons (sm_tup (sa_cons sm_int (sa_cons sm_int (sa_cons sm_int sa_nil)))) (sa_cons (sm_tup (sa_cons sm_int (sa_cons sm_int (sa_cons sm_int sa_nil)))) (sa_cons (sm_tup (sa_cons sm_int (sa_cons sm_int (sa_cons sm_int sa_nil)))) (sa_cons (sm_tup (sa_cons sm_int (sa_cons sm_int (sa_cons sm_int sa_nil)))) (sa_cons (sm_tup (sa_cons sm_int (sa_cons sm_int (sa_cons sm_int sa_nil)))) (sa_cons (sm_tup (sa_cons sm_int (sa_cons sm_int (sa_cons sm_int sa_nil)))) sa_nil))))))))))) (rt1 (by rfl)))) ss_nil)
  (ss_cons (ss_if (Γ2 := [.l .v, .v, .v, .v, .v, .v, .v, .v, .v, .v, .v, .v, .v, .v]) (t_eq hr (sm_var (i := 3) (by rfl) (by exact .inl rfl) (by rfl)) (so sm_int)) (ss_cons (ss_asg (i := 7) sc__law_drawn_cells.nd (by rfl) (by exact .inr rfl) (x_add sm_int (so (sm_callR (i := 0) (by exact ⟨rfl, rfl, rfl⟩) (ok__law_take T) (hr.mono (by decide)) (by rfl) T.g__law_take T.k__law_take T.b__law_take (by rfl) (by exact .inl rfl) (by rfl) (by rfl) (sa_cons sm_int sa_nil)))) (by decide) (by decide))
  (ss_one (ss_ret (b_tuple T.m_tuple (so (b_sortA hr T.m_sorted (so (sm_lc (own := [("q", 12)]) (S := [12]) (by rfl) sc__law_drawn_cells.nd (si_range1 (by rfl) T.m_range (x_add (sm_var (i := 7) (by rfl) (by exact .inr (.inl rfl)) (by rfl)) (so sm_int))) (blkOk_by (N := nm__law_drawn_cells) (sc := (defScope st__law_drawn_cells)) (own := [("q", 12)]) (by decide +kernel)) (fun _ _ _ _ _ => (sg_name (i := 12) sc__law_drawn_cells.nd (by rfl) (by exact .inr rfl) (by decide))) (fun _ _ _ _ _ => sc_none) (fun _ _ _ _ _ => (b_tuple T.m_tuple (so (sm_lc (own := [("p", 13)]) (S := [13]) (by rfl) sc__law_drawn_cells.nd (si_range1 (by rfl) T.m_range (x_add (sm_var (i := 7) (by rfl) (by first | exact .inr (.inl rfl) | exact .inr (.inr rfl) | exact .inl rfl) (by rfl)) (so sm_int))) (by exact blkOk_by (by kernel_rfl)) (fun _ _ _ _ _ => (sg_name (i := 13) sc__law_drawn_cells.nd (by rfl) (by exact .inl rfl) (by decide))) (fun _ _ _ _ _ => (sc_one (t_ne hr (sm_var (i := 13) (by rfl) (by exact .inl rfl) (by rfl)) (so (sm_var (i := 12) (by rfl) (by first | exact .inr (.inl rfl) | exact .inr (.inr rfl) | exact .inl rfl) (by rfl)))))) (fun _ _ _ _ _ => (sm_var (i := 13) (by rfl) (by exact .inl rfl) (by rfl))) (by decide) (by decide) (by decide))))) (by decide) (by decide) (by decide)))))) (rt1 (by rfl))))) ss_nil)
  (ss_cons (ss_asg (i := 4) sc__law_drawn_cells.nd (by rfl) (by exact .inl rfl) sm_dnew (by decide) (by decide))
  (ss_cons (ss_for (S := [5]) (Γ := [.l .v, .v, .v, .v, .d .v, .v, .v, .v, .v, .v, .v, .v, .v, .v]) (Γ2 := [.l .v, .v, .v, .v, .d .v, .v, .v, .v, .v, .v, .v, .v, .v, .v]) PassesOwn.never (by rfl) (si_range1 (by rfl) T.m_range (x_add sm_int (so (sm_callR (i := 0) (by exact ⟨rfl, rfl, rfl⟩) (ok__law_take T) (hr.mono (by decide)) (by rfl) T.g__law_take T.k__law_take T.b__law_take (by rfl) (by exact .inl rfl) (by rfl) (by rfl) (sa_cons (sm_var (i := 2) (by rfl) (by exact .inl rfl) (by rfl)) sa_nil))))) (sg_name (i := 5) sc__law_drawn_cells.nd (by rfl) (by exact .inl rfl) (by decide)) (ss_post (Γ2 := [.l .v, .v, .v, .v, .d .v, .v, .v, .v, .v, .v, .v, .v, .v, .v]) (ss_cons (ss_asg (i := 8) sc__law_drawn_cells.nd (by rfl) (by exact .inl rfl) sm_dnew (by decide) (by decide))
  (ss_cons (ss_for (S := [9]) (Γ := [.l .v, .v, .v, .v, .d .v, .v, .v, .v, .d .v, .v, .v, .v, .v, .v]) (Γ2 := [.l .v, .v, .v, .v, .d .v, .v, .v, .v, .d .v, .v, .v, .v, .v, .v]) PassesOwn.never (by rfl) (si_range1 (by rfl) T.m_range (x_add sm_int (so (sm_callR (i := 0) (by exact ⟨rfl, rfl, rfl⟩) (ok__law_take T) (hr.mono (by decide)) (by rfl) T.g__law_take T.k__law_take T.b__law_take (by rfl) (by exact .inl rfl) (by rfl) (by rfl) (sa_cons sm_int sa_nil))))) (sg_name (i := 9) sc__law_drawn_cells.nd (by rfl) (by exact .inl rfl) (by decide)) (ss_one (ss_setD (k := 8) (by exact ⟨rfl, rfl, rfl⟩) (Ru1 hr) (by rfl) (by exact .inl rfl) sm_bl (sm_callR (i := 0) (by exact ⟨rfl, rfl, rfl⟩) (ok__law_take T) (hr.mono (by decide)) (by rfl) T.g__law_take T.k__law_take T.b__law_take (by rfl) (by exact .inl rfl) (by rfl) (by rfl) (sa_cons (sm_var (i := 1) (by rfl) (by exact .inl rfl) (by rfl)) sa_nil)) (by rfl) (by rfl))) (by decide) nox_gName)
  (ss_one (ss_for (S := [10]) (Γ := [.l .v, .v, .v, .v, .d .v, .v, .v, .v, .d .v, .v, .v, .v, .v, .v]) (Γ2 := [.l .v, .v, .v, .v, .d .v, .v, .v, .v, .d .v, .v, .v, .v, .v, .v]) PassesOwn.never (by rfl) (si_seq (by exact ⟨rfl, rfl, rfl⟩) (sm_call (by exact ⟨rfl, rfl, rfl⟩) (ok__law_parts T) (hr.mono (by decide)) (by rfl) T.g__law_parts T.k__law_parts T.b__law_parts (sa_cons (b_tuple T.m_tuple (so (b_sortedD hr T.m_sorted (so_own (i := 8) (by rfl) (by exact .inl rfl) (by rfl))))) sa_nil))) (sg_name (i := 10) sc__law_drawn_cells.nd (by rfl) (by exact .inl rfl) (by decide)) (ss_one (ss_setD (k := 4) (by exact ⟨rfl, rfl, rfl⟩) (Ru1 hr) (by rfl) (by exact .inl rfl) sm_bl (sm_var (i := 10) (by rfl) (by exact .inl rfl) (by rfl)) (by rfl) (by rfl))) (by decide) nox_gName)))) (.same (.same (.same (.same (.same (.same (.same (.same (.frz (.same (.same (.same (.same (.same .nil))))))))))))))) (by decide) nox_gName)
  (ss_one (ss_ret (sm_call (by exact ⟨rfl, rfl, rfl⟩) (ok__law_cells_of T) (hr.mono (by decide)) (by rfl) T.g__law_cells_of T.k__law_cells_of T.b__law_cells_of (sa_cons (sm_v (b_sortedD hr T.m_sorted (so_own (i := 4) (by rfl) (by exact .inl rfl) (by rfl)))) sa_nil)) (rt1 (by rfl))))))))))

/-! _law_is_block -/
abbrev st__law_is_block : Stmt := top 39
def nm__law_is_block : List Str := ["value", "i", "p"]
theorem sc__law_is_block : FnScope nm__law_is_block ["value"] (defScope st__law_is_block) := ⟨rfl, rfl, rfl, by decide +kernel, rfl, by decide +kernel, by decide +kernel⟩
def b__law_is_block : SS := (sSeq (sIf (eOrB (eNotB (noD (e1 (isiP "tuple") (eVar 0)))) (eOrB (e2 eqP (e1 lenS (eVar 0)) (eK (.int 0))) (eNotB (noD (e1 allP (eComp (gName 2) none (eAndB (eCall m__law_is_whole [(eVar 2)]) (eChB leP leP (eK (.int 0)) (eVar 2) (eK (.int 15)))) [2] (iSeq (eVar 0)))))))) (sRet (eK (.bool false))) sNil)
  (sRet (e2 eqP (e1 lenS (eComp (gName 1) (some (e2 leP (e2 idxP (eVar 0) (eVar 1)) (e2 idxP (eVar 0) (e2 subP (eVar 1) (eK (.int 1)))))) (eVar 1) [1] (iR2 (eK (.int 1)) (e1 lenS (eVar 0))))) (eK (.int 0)))))
def m__law_is_block : List PV → Res PV := mkF 2 b__law_is_block
theorem ok__law_is_block (T : Tb C mg fa fd cc) : FnOk C.P C.w C.K mg base CX0 2 (fa 31) (fd 31) ["value"] (spN C 1 m__law_is_block .v) :=
  fnN (nl := 2) (Γe := [.v, .v, .v]) (g := b__law_is_block) T.F__law_is_block sc__law_is_block rfl rfl fun cdv A outer s H E hr => (ss_cons (ss_if (Γ2 := [.v, .v, .v]) (st_bop (sw_or (st_not (st_val (by exact ⟨rfl, rfl, rfl⟩) (so (sm_isi (T := "tuple") (by exact ⟨rfl, rfl, rfl⟩) (by rfl) (by rfl) T.m_isinstance (by rfl) T.m_tuple (by decide +kernel) (sm_var (i := 0) (by rfl) (by exact .inr (.inl rfl)) (by rfl)))))) (sw_or (t_eq hr (b_len T.m_len (so (sm_var (i := 0) (by rfl) (by exact .inr (.inl rfl)) (by rfl)))) (so sm_int)) (sw_or1 (st_not (st_val (by exact ⟨rfl, rfl, rfl⟩) (so (b_all T.m_all (so (sm_lc (own := [("p", 2)]) (S := [2]) (by rfl) sc__law_is_block.nd (si_seq (by exact ⟨rfl, rfl, rfl⟩) (sm_var (i := 0) (by rfl) (by exact .inr (.inl rfl)) (by rfl))) (blkOk_by (N := nm__law_is_block) (sc := (defScope st__law_is_block)) (own := [("p", 2)]) (by decide +kernel)) (fun _ _ _ _ _ => (sg_name (i := 2) sc__law_is_block.nd (by rfl) (by exact .inl rfl) (by decide))) (fun _ _ _ _ _ => sc_none) (fun _ _ _ _ _ => (sm_and (sm_call (by exact ⟨rfl, rfl, rfl⟩) (ok__law_is_whole T) (hr.mono (by decide)) (by rfl) T.g__law_is_whole T.k__law_is_whole T.b__law_is_whole (sa_cons (sm_var (i := 2) (by rfl) (by exact .inl rfl) (by rfl)) sa_nil)) (sm_one (v_le_le hr sm_int (sm_var (i := 2) (by rfl) (by exact .inl rfl) (by rfl)) (so sm_int))))) (by decide) (by decide) (by decide))))))))))) (ss_one (ss_ret sm_bl rt0)) ss_nil)
  (ss_one (ss_ret (v_eq hr (b_len T.m_len (so (sm_lc (own := [("i", 1)]) (S := [1]) (by rfl) sc__law_is_block.nd (si_range2 (by rfl) T.m_range sm_int (b_len T.m_len (so (sm_var (i := 0) (by rfl) (by exact .inr (.inl rfl)) (by rfl))))) (blkOk_by (N := nm__law_is_block) (sc := (defScope st__law_is_block)) (own := [("i", 1)]) (by decide +kernel)) (fun _ _ _ _ _ => (sg_name (i := 1) sc__law_is_block.nd (by rfl) (by exact .inl rfl) (by decide))) (fun _ _ _ _ _ => (sc_one (t_le hr (x_ix (sm_var (i := 0) (by rfl) (by first | exact .inr (.inl rfl) | exact .inr (.inr rfl) | exact .inl rfl) (by rfl)) (so (sm_var (i := 1) (by rfl) (by exact .inl rfl) (by rfl)))) (so (x_ix (sm_var (i := 0) (by rfl) (by first | exact .inr (.inl rfl) | exact .inr (.inr rfl) | exact .inl rfl) (by rfl)) (so (x_sub (sm_var (i := 1) (by rfl) (by exact .inl rfl) (by rfl)) (so sm_int)))))))) (fun _ _ _ _ _ => (sm_var (i := 1) (by rfl) (by exact .inl rfl) (by rfl))) (by decide) (by decide) (by decide)))) (so sm_int)) rt0)))

/-! _law_is_cells -/
abbrev st__law_is_cells : Stmt := top 40
def nm__law_is_cells : List Str := ["value", "i", "j", "f", "p"]
theorem sc__law_is_cells : FnScope nm__law_is_cells ["value"] (defScope st__law_is_cells) := ⟨rfl, rfl, rfl, by decide +kernel, rfl, by decide +kernel, by decide +kernel⟩
def b__law_is_cells : SS := (sSeq (sIf (eOrB (eNotB (noD (e1 (isiP "tuple") (eVar 0)))) (eNotB (noD (e1 allP (eComp (gName 3) none (eAndB (eCall m__law_is_block [(eVar 3)]) (e2 ltP (e1 lenS (eVar 3)) (eK (.int 8)))) [3] (iSeq (eVar 0))))))) (sRet (eK (.bool false))) sNil)
  (sSeq (sFor (gName 1) (iR1 (e1 lenS (eVar 0))) (sSeq (sIf (eAndB (e2 gtP (eVar 1) (eK (.int 0))) (eNotB (e2 ltP (e2 idxP (eVar 0) (e2 subP (eVar 1) (eK (.int 1)))) (e2 idxP (eVar 0) (eVar 1))))) (sRet (eK (.bool false))) sNil)
  (sFor (gName 2) (iR1 (e1 lenS (eVar 0))) (sIf (eAndB (e2 neP (eVar 1) (eVar 2)) (noD (e1 allP (eComp (gName 4) none (e2 inP (eVar 4) (e2 idxP (eVar 0) (eVar 2))) [4] (iSeq (e2 idxP (eVar 0) (eVar 1))))))) (sRet (eK (.bool false))) sNil))))
  (sRet (e2 leP (e1 lenS (eCall m__law_faces [(eVar 0)])) (eK (.int 200))))))
def m__law_is_cells : List PV → Res PV := mkF 4 b__law_is_cells
theorem ok__law_is_cells (T : Tb C mg fa fd cc) : FnOk C.P C.w C.K mg base CX0 3 (fa 32) (fd 32) ["value"] (spN C 1 m__law_is_cells .v) :=
  fnN (nl := 4) (Γe := [.v, .v, .v, .v, .v]) (g := b__law_is_cells) T.F__law_is_cells sc__law_is_cells rfl rfl fun cdv A outer s H E hr => (ss_cons (ss_if (Γ2 := [.v, .v, .v, .v, .v]) (st_bop (sw_or (st_not (st_val (by exact ⟨rfl, rfl, rfl⟩) (so (sm_isi (T := "tuple") (by exact ⟨rfl, rfl, rfl⟩) (by rfl) (by rfl) T.m_isinstance (by rfl) T.m_tuple (by decide +kernel) (sm_var (i := 0) (by rfl) (by exact .inr (.inl rfl)) (by rfl)))))) (sw_or1 (st_not (st_val (by exact ⟨rfl, rfl, rfl⟩) (so (b_all T.m_all (so (sm_lc (own := [("f", 3)]) (S := [3]) (by rfl) sc__law_is_cells.nd (si_seq (by exact ⟨rfl, rfl, rfl⟩) (sm_var (i := 0) (by rfl) (by exact .inr (.inl rfl)) (by rfl))) (blkOk_by (N := nm__law_is_cells) (sc := (defScope st__law_is_cells)) (own := [("f", 3)]) (by decide +kernel)) (fun _ _ _ _ _ => (sg_name (i := 3) sc__law_is_cells.nd (by rfl) (by exact .inl rfl) (by decide))) (fun _ _ _ _ _ => sc_none) (fun _ _ _ _ _ => (sm_and (sm_call (by exact ⟨rfl, rfl, rfl⟩) (ok__law_is_block T) (hr.mono (by decide)) (by rfl) T.g__law_is_block T.k__law_is_block T.b__law_is_block (sa_cons (sm_var (i := 3) (by rfl) (by exact .inl rfl) (by rfl)) sa_nil)) (sm_one (v_lt hr (b_len T.m_len (so (sm_var (i := 3) (by rfl) (by exact .inl rfl) (by rfl)))) (so sm_int))))) (by decide) (by decide) (by decide)))))))))) (ss_one (ss_ret sm_bl rt0)) ss_nil)
  (ss_cons (ss_for (S := [1]) (Γ := [.v, .v, .v, .v, .v]) (Γ2 := [.v, .v, .v, .v, .v]) PassesOwn.never (by rfl) (si_range1 (by rfl) T.m_range (b_len T.m_len (so (sm_var (i := 0) (by rfl) (by exact .inr (.inl rfl)) (by rfl))))) (sg_name (i := 1) sc__law_is_cells.nd (by rfl) (by exact .inl rfl) (by decide)) (ss_cons (ss_if (Γ2 := [.v, .v, .v, .v, .v]) (st_bop (sw_and (t_gt hr (sm_var (i := 1) (by rfl) (by exact .inl rfl) (by rfl)) (so sm_int)) (sw_and1 (st_not (t_lt hr (x_ix (sm_var (i := 0) (by rfl) (by exact .inr (.inl rfl)) (by rfl)) (so (x_sub (sm_var (i := 1) (by rfl) (by exact .inl rfl) (by rfl)) (so sm_int)))) (so (x_ix (sm_var (i := 0) (by rfl) (by exact .inr (.inl rfl)) (by rfl)) (so (sm_var (i := 1) (by rfl) (by exact .inl rfl) (by rfl)))))))))) (ss_one (ss_ret sm_bl rt0)) ss_nil)
  (ss_one (ss_for (S := [2]) (Γ := [.v, .v, .v, .v, .v]) (Γ2 := [.v, .v, .v, .v, .v]) PassesOwn.never (by rfl) (si_range1 (by rfl) T.m_range (b_len T.m_len (so (sm_var (i := 0) (by rfl) (by exact .inr (.inl rfl)) (by rfl))))) (sg_name (i := 2) sc__law_is_cells.nd (by rfl) (by exact .inr rfl) (by decide)) (ss_one (ss_if (Γ2 := [.v, .v, .v, .v, .v]) (st_bop (sw_and (t_ne hr (sm_var (i := 1) (by rfl) (by exact .inl rfl) (by rfl)) (so (sm_var (i := 2) (by rfl) (by exact .inr (.inl rfl)) (by rfl)))) (sw_and1 (st_val (by exact ⟨rfl, rfl, rfl⟩) (so (b_all T.m_all (so (sm_lc (own := [("p", 4)]) (S := [4]) (by rfl) sc__law_is_cells.nd (si_seq (by exact ⟨rfl, rfl, rfl⟩) (x_ix (sm_var (i := 0) (by rfl) (by exact .inr (.inl rfl)) (by rfl)) (so (sm_var (i := 1) (by rfl) (by exact .inl rfl) (by rfl))))) (blkOk_by (N := nm__law_is_cells) (sc := (defScope st__law_is_cells)) (own := [("p", 4)]) (by decide +kernel)) (fun _ _ _ _ _ => (sg_name (i := 4) sc__law_is_cells.nd (by rfl) (by exact .inl rfl) (by decide))) (fun _ _ _ _ _ => sc_none) (fun _ _ _ _ _ => (v_in hr (sm_var (i := 4) (by rfl) (by exact .inl rfl) (by rfl)) (so (x_ix (sm_var (i := 0) (by rfl) (by first | exact .inr (.inl rfl) | exact .inr (.inr rfl) | exact .inl rfl) (by rfl)) (so (sm_var (i := 2) (by rfl) (by first | exact .inr (.inl rfl) | exact .inr (.inr rfl) | exact .inl rfl) (by rfl))))))) (by decide) (by decide) (by decide))))))))) (ss_one (ss_ret sm_bl rt0)) ss_nil)) (by decide) nox_gName))) (by decide) nox_gName)
  (ss_one (ss_ret (v_le hr (b_len T.m_len (so (sm_call (by exact ⟨rfl, rfl, rfl⟩) (ok__law_faces T) (hr.mono (by decide)) (by rfl) T.g__law_faces T.k__law_faces T.b__law_faces (sa_cons (sm_var (i := 0) (by rfl) (by exact .inr (.inl rfl)) (by rfl)) sa_nil)))) (so sm_int)) rt0))))

/-! _law_tried -/
abbrev st__law_tried : Stmt := top 41
def nm__law_tried : List Str := ["faces", "refused"]
theorem sc__law_tried : FnScope nm__law_tried ["faces"] (defScope st__law_tried) := ⟨rfl, rfl, rfl, by decide +kernel, rfl, by decide +kernel, by decide +kernel⟩
def b__law_tried : SS := (sTryAs 0 (eTup [(eK (.str "told")), (eCall m__law_honest [(eCallX m_cells_from [(eVar 0)])])]) "refused")
def m__law_tried : List PV → Res PV := mkF 1 b__law_tried
theorem ok__law_tried (T : Tb C mg fa fd cc) : FnOk C.P C.w C.K mg base CX0 8 (fa 33) (fd 33) ["faces"] (spN C 1 m__law_tried .v) :=
  fnN (nl := 1) (Γe := [.v, .v]) (g := b__law_tried) T.F__law_tried sc__law_tried rfl rfl fun cdv A outer s H E hr => (ss_one (ss_tryAs (c := 0) (i := 1) (by exact ⟨rfl, rfl, rfl⟩) T.sep T.ca0 (by rfl) (by rfl) sc__law_tried.nd (by rfl) (by rfl) ⟨by rfl, by decide, .inl T.g_Refused⟩ takes_noW T.xf T.nr (by exact .inl rfl) (by decide) (fun W pn xe tk => (sm_tup (sa_cons sm_str (sa_cons (sm_call (by exact ⟨rfl, rfl, rfl⟩) (ok__law_honest T) (hr.mono (by decide)) (by rfl) T.g__law_honest T.k__law_honest T.b__law_honest (sa_cons (sm_callX (by exact ⟨rfl, rfl, rfl⟩) tk (ok_cells_from T) (hr.mono (by decide)) (by rfl) T.g_cells_from T.k_cells_from T.b_cells_from (sa_cons (sm_var (i := 0) (by rfl) (by exact .inl rfl) (by rfl)) sa_nil)) sa_nil)) sa_nil))))))

/-! law -/
abbrev st_law : Stmt := top 42
def nm_law : List Str := ["script", "state", "k", "f", "values", "value", "some", "closed", "sizes", "n", "link", "star", "p", "faces", "top", "told", "due", "g", "turn"]
theorem sc_law : FnScope nm_law ["script"] (defScope st_law) := ⟨rfl, rfl, rfl, by decide +kernel, rfl, by decide +kernel, by decide +kernel⟩
def b_law : SS := (sSeq (sAsg 1 (eCall m__law_state [(eVar 0)]))
  (sSeq (sAsg 2 (eCallR m__law_drawn_cells 1 [(eK (.int 7)), (eK (.int 7))]))
  (sSeq (sAsgG (gTupP [(gName 13), (gName 14)]) (eTup [(eCall m__law_faces [(eVar 2)]), (eCall m__law_dimension [(eVar 2)])]))
  (sSeq (sAsg 3 (e2 idxP (eVar 13) (eCallR m__law_take 1 [(e1 lenS (eVar 13))])))
  (sSeq (sAsg 4 (eLst [(eVar 2), (e1 listP (eVar 2)), (eSlS (eVar 2) none none (-1)), (e2 addP (eVar 2) (eSl (eVar 2) (some (e1 negP (eK (.int 1)))) none)), (eSl (eVar 2) (some (eK (.int 1))) none), (e2 addP (eVar 2) (eTup [(eVar 3)])), (e1 tupleP (e1 sortedA (e2 addP (eVar 2) (eTup [(eVar 3)])))), (eTup []), (eTup [(eTup [])]), (eTup [(eTup [(eK (.int 0)), (eK (.int 1))]), (eTup [(eK (.int 1)), (eK (.int 2))]), (eTup [(eK (.int 0)), (eK (.int 16))])]), (eTup [(eTup [(eK (.int 1)), (eK (.int 0))])]), (eTup [(eTup [(eK (.int 0)), (eK (.int 0))])])]))
  (sSeq (sAsg 4 (e2 addP (eVar 4) (eLst [(eTup [(eTup [(eK (.bool true)), (eK (.int 2))])]), (eTup [(eTup [(eK (.str "0"))])]), (eK .non), (eK (.int 5)), (eTup [(eTup [(eK (.int 0)), (eK (.int 1)), (eK (.int 2)), (eK (.int 3)), (eK (.int 4)), (eK (.int 5)), (eK (.int 6)), (eK (.int 7))])]), (eTup [(e1 tupR1 (eK (.int 7)))]), (eTup [(e1 tupR1 (eK (.int 7))), (e2 tupR2 (eK (.int 7)) (eK (.int 14)))]), (eTup [(eLst [(eK (.int 0)), (eK (.int 1))])])])))
  (sSeq (sFor (gName 5) (iSeq (eVar 4)) (sIf (eNotB (noD (eCall m__law_says [(eCall m_is_cells [(eVar 5)]), (eCall m__law_is_cells [(eVar 5)])]))) (sRet (eK (.bool false))) sNil))
  (sSeq (sFor (gName 5) (iSeq (eLst [(eVar 3), (eSlS (eVar 3) none none (-1)), (e2 addP (eVar 3) (eTup [(eK (.int 15))])), (e1 listP (eVar 3)), (eTup []), (eK .non), (eK (.int 5)), (eTup [(eK (.bool true))]), (eSl (eVar 3) none (some (eK (.int 1)))), (eTup [(eK (.int 8)), (eK (.int 9))])])) (sIf (eNotB (noD (eCall m__law_says [(eCall m_is_face [(eVar 2), (eVar 5)]), (eAndB (eCall m__law_is_block [(eVar 5)]) (e2 inP (eVar 5) (eVar 13)))]))) (sRet (eK (.bool false))) sNil))
  (sSeq (sAsg 6 (e1 tupleP (eComp (gName 18) none (e2 idxP (eVar 13) (eCallR m__law_take 1 [(e1 lenS (eVar 13))])) [18] (iR1 (eCallR m__law_take 1 [(eK (.int 6))])))))
  (sSeq (sAsg 7 (eCall m__law_faces [(eVar 6)]))
  (sSeq (sIf (eOrB (eNotB (noD (eCall (m__law_same 8) [(eCall m__law_tried [(eVar 6)]), (eTup [(eK (.str "told")), (eCall m__law_cells_of [(eVar 7)])])]))) (eNotB (noD (eCall (m__law_same 8) [(eCall m__law_tried [(e1 tupleP (eVar 13))]), (eTup [(eK (.str "told")), (eVar 2)])])))) (sRet (eK (.bool false))) sNil)
  (sSeq (sIf (eOrB (e2 neP (eCall m__law_tried [(eTup [(e1 tupR1 (eK (.int 8)))])]) (eTup [(eK (.str "refused")), (eK (.str "large"))])) (e2 neP (eCall m__law_tried [(eTup [(e1 tupR1 (eK (.int 7))), (e2 tupR2 (eK (.int 7)) (eK (.int 14)))])]) (eTup [(eK (.str "refused")), (eK (.str "large"))]))) (sRet (eK (.bool false))) sNil)
  (sSeq (sAsg 8 (e1 tupleP (eComp (gName 9) none (e1 lenS (eComp (gName 17) (some (e2 eqP (e1 lenS (eVar 17)) (e2 addP (eVar 9) (eK (.int 1))))) (eVar 17) [17] (iSeq (eVar 13)))) [9] (iR1 (e2 addP (eVar 14) (eK (.int 1)))))))
  (sSeq (sFor (gTupP [(gName 15), (gName 16)]) (iSeq (eTup [(eTup [(eCall m_dimension_of [(eVar 2)]), (eVar 14)]), (eTup [(eCallX m_face_row [(eVar 2)]), (eVar 8)]), (eTup [(eCallX m_euler_number [(eVar 2)]), (eCall m__law_euler [(eVar 2)])]), (eTup [(eCall m_dimension_of [(eTup [])]), (e1 negP (eK (.int 1)))]), (eTup [(eCallX m_face_row [(eTup [])]), (eTup [])]), (eTup [(eCallX m_euler_number [(eTup [])]), (eK (.int 0))])])) (sIf (eNotB (noD (eCall (m__law_same 8) [(eCall m__law_honest [(eVar 15)]), (eVar 16)]))) (sRet (eK (.bool false))) sNil))
  (sSeq (sFor (gName 9) (iR2 (e1 negP (eK (.int 1))) (e2 addP (eVar 14) (eK (.int 2)))) (sSeq (sIf (eAndB (e2 geP (eVar 9) (eK (.int 0))) (eNotB (noD (eCall (m__law_same 8) [(eCall m__law_honest [(eCallX m_faces_of [(eVar 2), (eVar 9)])]), (e1 tupleP (eComp (gName 17) (some (e2 eqP (e1 lenS (eVar 17)) (e2 addP (eVar 9) (eK (.int 1))))) (eVar 17) [17] (iSeq (eVar 13))))])))) (sRet (eK (.bool false))) sNil)
  (sIf (eNotB (noD (eCall (m__law_same 8) [(eCall m__law_honest [(eCallX m_skeleton_of [(eVar 2), (eVar 9)])]), (eCall m__law_cells_of [(eComp (gName 17) (some (e2 leP (e1 lenS (eVar 17)) (e2 addP (eVar 9) (eK (.int 1))))) (eVar 17) [17] (iSeq (eVar 13)))])]))) (sRet (eK (.bool false))) sNil)))
  (sSeq (sAsg 10 (eComp (gName 17) (some (eAndB (e2 eqP (e1 lenS (eComp (gName 12) (some (e2 inP (eVar 12) (eVar 3))) (eVar 12) [12] (iSeq (eVar 17)))) (eK (.int 0))) (e2 inP (e1 tupleP (e1 sortedA (e2 addP (eVar 3) (eVar 17)))) (eVar 13)))) (eVar 17) [17] (iSeq (eVar 13))))
  (sSeq (sAsg 11 (eComp (gName 17) (some (e2 inP (e1 tupleP (e1 sortedA (e2 addP (eVar 3) (e1 tupleP (eComp (gName 12) (some (e2 notInP (eVar 12) (eVar 3))) (eVar 12) [12] (iSeq (eVar 17))))))) (eVar 13))) (eVar 17) [17] (iSeq (eVar 13))))
  (sSeq (sIf (eOrB (eNotB (noD (eCall (m__law_same 8) [(eCall m__law_honest [(eCall m_link_of_face [(eVar 2), (eVar 3)])]), (eCall m__law_cells_of [(eVar 10)])]))) (eNotB (noD (eCall (m__law_same 8) [(eCall m__law_honest [(eCall m_star_of_face [(eVar 2), (eVar 3)])]), (eCall m__law_cells_of [(eVar 11)])])))) (sRet (eK (.bool false))) sNil)
  (sSeq (sFor (gName 12) (iSeq (eTup [(e2 idxP (eVar 3) (eK (.int 0))), (eK (.int 15)), (eK (.int 7))])) (sIf (eNotB (noD (eCall (m__law_same 8) [(eCall m__law_honest [(eCall m_without_point [(eVar 2), (eVar 12)])]), (eCall m__law_cells_of [(eComp (gName 17) (some (e2 notInP (eVar 12) (eVar 17))) (eVar 17) [17] (iSeq (eVar 13)))])]))) (sRet (eK (.bool false))) sNil))
  (sRet (eK (.bool true))))))))))))))))))))))
def m_law : List PV → Res PV := mkF 18 b_law
theorem ok_law (T : Tb C mg fa fd cc) : FnOk C.P C.w C.K mg base (L2.CX C.P C.w) 10 (fa 34) (fd 34) ["script"] (spX C 1 m_law .v) :=
  fnX (nl := 18) (Γe := [.v, .v, .v, .v, .v, .v, .v, .v, .v, .v, .v, .v, .v, .v, .v, .v, .v, .v, .v]) (g := b_law) T.F_law sc_law rfl rfl fun cdv A outer s H E hr => let tk := takes_of (X := cxOf (L2.CX C.P C.w) C.P C.w C.K mg base nm_law "law" (defScope st_law) _ cdv A outer s H E) rfl rfl rfl rfl; (ss_cons (ss_asg (i := 1) sc_law.nd (by rfl) (by exact .inr rfl) (sm_call (by exact ⟨rfl, rfl, rfl⟩) (ok__law_state T) (hr.mono (by decide)) (by rfl) T.g__law_state T.k__law_state T.b__law_state (sa_cons (sm_var (i := 0) (by rfl) (by exact .inl rfl) (by rfl)) sa_nil)) (by decide) (by decide))
  (ss_cons (ss_asg (i := 2) sc_law.nd (by rfl) (by exact .inl rfl) (sm_callR (i := 1) (by exact ⟨rfl, rfl, rfl⟩) (ok__law_drawn_cells T) (hr.mono (by decide)) (by rfl) T.g__law_drawn_cells T.k__law_drawn_cells T.b__law_drawn_cells (by rfl) (by exact .inr (.inl rfl)) (by rfl) (by rfl) (sa_cons sm_int (sa_cons sm_int sa_nil))) (by decide) (by decide))
  (ss_cons (ss_asgG (S := ([13] ++ ([14] ++ []))) (sm_tup (sa_cons (sm_call (by exact ⟨rfl, rfl, rfl⟩) (ok__law_faces T) (hr.mono (by decide)) (by rfl) T.g__law_faces T.k__law_faces T.b__law_faces (sa_cons (sm_var (i := 2) (by rfl) (by exact .inl rfl) (by rfl)) sa_nil)) (sa_cons (sm_call (by exact ⟨rfl, rfl, rfl⟩) (ok__law_dimension T) (hr.mono (by decide)) (by rfl) T.g__law_dimension T.k__law_dimension T.b__law_dimension (sa_cons (sm_var (i := 2) (by rfl) (by exact .inl rfl) (by rfl)) sa_nil)) sa_nil))) (sg_tup (by exact ⟨rfl, rfl, rfl⟩) (by rfl) (sgs_cons (sg_name (i := 13) sc_law.nd (by rfl) (by exact .inr rfl) (by decide)) (sgs_cons (sg_name (i := 14) sc_law.nd (by rfl) (by exact .inl rfl) (by decide)) sgs_nil)) (by rfl)) (nox_gTup (by intro g hg; simp only [List.mem_cons, List.not_mem_nil, or_false] at hg; rcases hg with hg | hg <;> subst hg <;> first | exact nox_gName)) (by decide))
  (ss_cons (ss_asg (i := 3) sc_law.nd (by rfl) (by exact .inr rfl) (x_ix (sm_var (i := 13) (by rfl) (by exact .inr (.inl rfl)) (by rfl)) (so (sm_callR (i := 1) (by exact ⟨rfl, rfl, rfl⟩) (ok__law_take T) (hr.mono (by decide)) (by rfl) T.g__law_take T.k__law_take T.b__law_take (by rfl) (by exact .inr (.inl rfl)) (by rfl) (by rfl) (sa_cons (b_len T.m_len (so (sm_var (i := 13) (by rfl) (by exact .inr (.inl rfl)) (by rfl)))) sa_nil)))) (by decide) (by decide))
  (ss_cons (ss_asg (i := 4) sc_law.nd (by rfl) (by exact .inl rfl) (sm_v (sm_lst (sa_cons (sm_var (i := 2) (by rfl) (by exact .inl rfl) (by rfl)) (sa_cons (sm_v (b_list T.m_list (so (sm_var (i := 2) (by rfl) (by exact .inl rfl) (by rfl))))) (sa_cons (sm_slS (st := (-1)) (by exact ⟨rfl, rfl, rfl⟩) (sm_var (i := 2) (by rfl) (by exact .inl rfl) (by rfl)) sx_none sx_none po_neg) (sa_cons (x_add (sm_var (i := 2) (by rfl) (by exact .inl rfl) (by rfl)) (so (sm_sl (by exact ⟨rfl, rfl, rfl⟩) (sm_var (i := 2) (by rfl) (by exact .inl rfl) (by rfl)) (sx_some (x_neg (so sm_int))) sx_none))) (sa_cons (sm_sl (by exact ⟨rfl, rfl, rfl⟩) (sm_var (i := 2) (by rfl) (by exact .inl rfl) (by rfl)) (sx_some sm_int) sx_none) (sa_cons (x_add (sm_var (i := 2) (by rfl) (by exact .inl rfl) (by rfl)) (so (sm_tup (sa_cons (sm_var (i := 3) (by rfl) (by exact .inr (.inl rfl)) (by rfl)) sa_nil)))) (sa_cons (b_tuple T.m_tuple (so (b_sortA hr T.m_sorted (so (x_add (sm_var (i := 2) (by rfl) (by exact .inl rfl) (by rfl)) (so (sm_tup (sa_cons (sm_var (i := 3) (by rfl) (by exact .inr (.inl rfl)) (by rfl)) sa_nil)))))))) (sa_cons (sm_tup sa_nil) (sa_cons (sm_tup (sa_cons (sm_tup sa_nil) sa_nil)) (sa_cons (sm_tup (sa_cons (sm_tup (sa_cons sm_int (sa_cons sm_int sa_nil))) (sa_cons (sm_tup (sa_cons sm_int (sa_cons sm_int sa_nil))) (sa_cons (sm_tup (sa_cons sm_int (sa_cons sm_int sa_nil))) sa_nil)))) (sa_cons (sm_tup (sa_cons (sm_tup (sa_cons sm_int (sa_cons sm_int sa_nil))) sa_nil)) (sa_cons (sm_tup (sa_cons (sm_tup (sa_cons sm_int (sa_cons sm_int sa_nil))) sa_nil)) sa_nil)))))))))))))) (by decide) (by decide))
  (ss_cons (ss_asg (i := 4) sc_law.nd (by rfl) (by exact .inl rfl) (x_add (sm_var (i := 4) (by rfl) (by exact .inl rfl) (by rfl)) (so (sm_lst (sa_cons (sm_tup (sa_cons (sm_tup (sa_cons sm_bl (sa_cons sm_int sa_nil))) sa_nil)) (sa_cons (sm_tup (sa_cons (sm_tup (sa_cons sm_str sa_nil)) sa_nil)) (sa_cons sm_non (sa_cons sm_int (sa_cons (sm_tup (sa_cons (sm_tup (sa_cons sm_int (sa_cons sm_int (sa_cons sm_int (sa_cons sm_int (sa_cons sm_int (sa_cons sm_int (sa_cons sm_int (sa_cons sm_int sa_nil))))))))) sa_nil)) (sa_cons (sm_tup (sa_cons (sm_tupR1 (by rfl) (by rfl) T.m_tuple (by rfl) T.m_range sm_int) sa_nil)) (sa_cons (sm_tup (sa_cons (sm_tupR1 (by rfl) (by rfl) T.m_tuple (by rfl) T.m_range sm_int) (sa_cons (sm_tupR2 (by rfl) (by rfl) T.m_tuple (by rfl) T.m_range sm_int sm_int) sa_nil))) (sa_cons (sm_tup (sa_cons (sm_v (sm_lst (sa_cons sm_int (sa_cons sm_int sa_nil)))) sa_nil)) sa_nil))))))))))) (by decide) (by decide))
  (ss_cons (ss_for (S := [5]) (Γ := [.v, .l .v, .v, .v, .v, .v, .v, .v, .v, .v, .v, .v, .v, .v, .v, .v, .v, .v, .v]) (Γ2 := [.v, .l .v, .v, .v, .v, .v, .v, .v, .v, .v, .v, .v, .v, .v, .v, .v, .v, .v, .v]) (by exact passes_of rfl) (by rfl) (si_seq (by exact ⟨rfl, rfl, rfl⟩) (sm_var (i := 4) (by rfl) (by exact .inl rfl) (by rfl))) (sg_name (i := 5) sc_law.nd (by rfl) (by exact .inl rfl) (by decide)) (ss_one (ss_if (Γ2 := [.v, .l .v, .v, .v, .v, .v, .v, .v, .v, .v, .v, .v, .v, .v, .v, .v, .v, .v, .v]) (st_not (st_val (by exact ⟨rfl, rfl, rfl⟩) (so (sm_call (by exact ⟨rfl, rfl, rfl⟩) (ok__law_says T) (hr.mono (by decide)) (by rfl) T.g__law_says T.k__law_says T.b__law_says (sa_cons (sm_call (by exact ⟨rfl, rfl, rfl⟩) (ok_is_cells T) (hr.mono (by decide)) (by rfl) T.g_is_cells T.k_is_cells T.b_is_cells (sa_cons (sm_var (i := 5) (by rfl) (by exact .inl rfl) (by rfl)) sa_nil)) (sa_cons (sm_call (by exact ⟨rfl, rfl, rfl⟩) (ok__law_is_cells T) (hr.mono (by decide)) (by rfl) T.g__law_is_cells T.k__law_is_cells T.b__law_is_cells (sa_cons (sm_var (i := 5) (by rfl) (by exact .inl rfl) (by rfl)) sa_nil)) sa_nil)))))) (ss_one (ss_ret sm_bl rt0)) ss_nil)) (by decide) nox_gName)
  (ss_cons (ss_for (S := [5]) (Γ := [.v, .l .v, .v, .v, .v, .v, .v, .v, .v, .v, .v, .v, .v, .v, .v, .v, .v, .v, .v]) (Γ2 := [.v, .l .v, .v, .v, .v, .v, .v, .v, .v, .v, .v, .v, .v, .v, .v, .v, .v, .v, .v]) (by exact passes_of rfl) (by rfl) (si_seq (by exact ⟨rfl, rfl, rfl⟩) (sm_v (sm_lst (sa_cons (sm_var (i := 3) (by rfl) (by exact .inr (.inl rfl)) (by rfl)) (sa_cons (sm_slS (st := (-1)) (by exact ⟨rfl, rfl, rfl⟩) (sm_var (i := 3) (by rfl) (by exact .inr (.inl rfl)) (by rfl)) sx_none sx_none po_neg) (sa_cons (x_add (sm_var (i := 3) (by rfl) (by exact .inr (.inl rfl)) (by rfl)) (so (sm_tup (sa_cons sm_int sa_nil)))) (sa_cons (sm_v (b_list T.m_list (so (sm_var (i := 3) (by rfl) (by exact .inr (.inl rfl)) (by rfl))))) (sa_cons (sm_tup sa_nil) (sa_cons sm_non (sa_cons sm_int (sa_cons (sm_tup (sa_cons sm_bl sa_nil)) (sa_cons (sm_sl (by exact ⟨rfl, rfl, rfl⟩) (sm_var (i := 3) (by rfl) (by exact .inr (.inl rfl)) (by rfl)) sx_none (sx_some sm_int)) (sa_cons (sm_tup (sa_cons sm_int (sa_cons sm_int sa_nil))) sa_nil))))))))))))) (sg_name (i := 5) sc_law.nd (by rfl) (by exact .inl rfl) (by decide)) (ss_one (ss_if (Γ2 := [.v, .l .v, .v, .v, .v, .v, .v, .v, .v, .v, .v, .v, .v, .v, .v, .v, .v, .v, .v]) (st_not (st_val (by exact ⟨rfl, rfl, rfl⟩) (so (sm_call (by exact ⟨rfl, rfl, rfl⟩) (ok__law_says T) (hr.mono (by decide)) (by rfl) T.g__law_says T.k__law_says T.b__law_says (sa_cons (sm_call (by exact ⟨rfl, rfl, rfl⟩) (ok_is_face T) (hr.mono (by decide)) (by rfl) T.g_is_face T.k_is_face T.b_is_face (sa_cons (sm_var (i := 2) (by rfl) (by exact .inl rfl) (by rfl)) (sa_cons (sm_var (i := 5) (by rfl) (by exact .inl rfl) (by rfl)) sa_nil))) (sa_cons (sm_and (sm_call (by exact ⟨rfl, rfl, rfl⟩) (ok__law_is_block T) (hr.mono (by decide)) (by rfl) T.g__law_is_block T.k__law_is_block T.b__law_is_block (sa_cons (sm_var (i := 5) (by rfl) (by exact .inl rfl) (by rfl)) sa_nil)) (sm_one (v_in hr (sm_var (i := 5) (by rfl) (by exact .inl rfl) (by rfl)) (so (sm_var (i := 13) (by rfl) (by exact .inr (.inl rfl)) (by rfl)))))) sa_nil)))))) (ss_one (ss_ret sm_bl rt0)) ss_nil)) (by decide) nox_gName)
  (ss_cons (ss_asg (i := 6) sc_law.nd (by rfl) (by exact .inl rfl) (b_tuple T.m_tuple (so (sm_lc (own := [("turn", 18)]) (S := [18]) (by rfl) sc_law.nd (si_range1 (by rfl) T.m_range (sm_callR (i := 1) (by exact ⟨rfl, rfl, rfl⟩) (ok__law_take T) (hr.mono (by decide)) (by rfl) T.g__law_take T.k__law_take T.b__law_take (by rfl) (by exact .inr (.inl rfl)) (by rfl) (by rfl) (sa_cons sm_int sa_nil))) (blkOk_by (N := nm_law) (sc := (defScope st_law)) (own := [("turn", 18)]) (by decide +kernel)) (fun _ _ _ _ _ => (sg_name (i := 18) sc_law.nd (by rfl) (by exact .inl rfl) (by decide))) (fun _ _ _ _ _ => sc_none) (fun _ _ _ _ _ => (x_ix (sm_var (i := 13) (by rfl) (by first | exact .inr (.inl rfl) | exact .inr (.inr rfl) | exact .inl rfl) (by rfl)) (so (sm_callR (i := 1) (by exact ⟨rfl, rfl, rfl⟩) (ok__law_take T) (hr.mono (by decide)) (by rfl) T.g__law_take T.k__law_take T.b__law_take (by rfl) (by first | exact .inr (.inl rfl) | exact .inr (.inr rfl) | exact .inl rfl) (by rfl) (by rfl) (sa_cons (b_len T.m_len (so (sm_var (i := 13) (by rfl) (by first | exact .inr (.inl rfl) | exact .inr (.inr rfl) | exact .inl rfl) (by rfl)))) sa_nil))))) (by decide) (by decide) (by decide)))) (by decide) (by decide))
  (ss_cons (ss_asg (i := 7) sc_law.nd (by rfl) (by exact .inl rfl) (sm_call (by exact ⟨rfl, rfl, rfl⟩) (ok__law_faces T) (hr.mono (by decide)) (by rfl) T.g__law_faces T.k__law_faces T.b__law_faces (sa_cons (sm_var (i := 6) (by rfl) (by exact .inl rfl) (by rfl)) sa_nil)) (by decide) (by decide))
  (ss_cons (ss_if (Γ2 := [.v, .l .v, .v, .v, .v, .v, .v, .v, .v, .v, .v, .v, .v, .v, .v, .v, .v, .v, .v]) (st_bop (sw_or (st_not (st_val (by exact ⟨rfl, rfl, rfl⟩) (so (sm_call (by exact ⟨rfl, rfl, rfl⟩) (ok__law_same T 8) (hr.mono (by decide)) (by rfl) T.g__law_same T.k__law_same T.b__law_same (sa_cons (sm_call (by exact ⟨rfl, rfl, rfl⟩) (ok__law_tried T) (hr.mono (by decide)) (by rfl) T.g__law_tried T.k__law_tried T.b__law_tried (sa_cons (sm_var (i := 6) (by rfl) (by exact .inl rfl) (by rfl)) sa_nil)) (sa_cons (sm_tup (sa_cons sm_str (sa_cons (sm_call (by exact ⟨rfl, rfl, rfl⟩) (ok__law_cells_of T) (hr.mono (by decide)) (by rfl) T.g__law_cells_of T.k__law_cells_of T.b__law_cells_of (sa_cons (sm_var (i := 7) (by rfl) (by exact .inl rfl) (by rfl)) sa_nil)) sa_nil))) sa_nil)))))) (sw_or1 (st_not (st_val (by exact ⟨rfl, rfl, rfl⟩) (so (sm_call (by exact ⟨rfl, rfl, rfl⟩) (ok__law_same T 8) (hr.mono (by decide)) (by rfl) T.g__law_same T.k__law_same T.b__law_same (sa_cons (sm_call (by exact ⟨rfl, rfl, rfl⟩) (ok__law_tried T) (hr.mono (by decide)) (by rfl) T.g__law_tried T.k__law_tried T.b__law_tried (sa_cons (b_tuple T.m_tuple (so (sm_var (i := 13) (by rfl) (by exact .inr (.inl rfl)) (by rfl)))) sa_nil)) (sa_cons (sm_tup (sa_cons sm_str (sa_cons (sm_var (i := 2) (by rfl) (by exact .inl rfl) (by rfl)) sa_nil))) sa_nil))))))))) (ss_one (ss_ret sm_bl rt0)) ss_nil)
  (ss_cons (ss_if (Γ2 := [.v, .l .v, .v, .v, .v, .v, .v, .v, .v, .v, .v, .v, .v, .v, .v, .v, .v, .v, .v]) (st_bop (sw_or (t_ne hr (sm_call (by exact ⟨rfl, rfl, rfl⟩) (ok__law_tried T) (hr.mono (by decide)) (by rfl) T.g__law_tried T.k__law_tried T.b__law_tried (sa_cons (sm_tup (sa_cons (sm_tupR1 (by rfl) (by rfl) T.m_tuple (by rfl) T.m_range sm_int) sa_nil)) sa_nil)) (so (sm_tup (sa_cons sm_str (sa_cons sm_str sa_nil))))) (sw_or1 (t_ne hr (sm_call (by exact ⟨rfl, rfl, rfl⟩) (ok__law_tried T) (hr.mono (by decide)) (by rfl) T.g__law_tried T.k__law_tried T.b__law_tried (sa_cons (sm_tup (sa_cons (sm_tupR1 (by rfl) (by rfl) T.m_tuple (by rfl) T.m_range sm_int) (sa_cons (sm_tupR2 (by rfl) (by rfl) T.m_tuple (by rfl) T.m_range sm_int sm_int) sa_nil))) sa_nil)) (so (sm_tup (sa_cons sm_str (sa_cons sm_str sa_nil)))))))) (ss_one (ss_ret sm_bl rt0)) ss_nil)
  (ss_cons (ss_asg (i := 8) sc_law.nd (by rfl) (by exact .inl rfl) (b_tuple T.m_tuple (so (sm_lc (own := [("n", 9)]) (S := [9]) (by rfl) sc_law.nd (si_range1 (by rfl) T.m_range (x_add (sm_var (i := 14) (by rfl) (by exact .inl rfl) (by rfl)) (so sm_int))) (blkOk_by (N := nm_law) (sc := (defScope st_law)) (own := [("n", 9)]) (by decide +kernel)) (fun _ _ _ _ _ => (sg_name (i := 9) sc_law.nd (by rfl) (by exact .inr rfl) (by decide))) (fun _ _ _ _ _ => sc_none) (fun _ _ _ _ _ => (b_len T.m_len (so (sm_lc (own := [("g", 17)]) (S := [17]) (by rfl) sc_law.nd (si_seq (by exact ⟨rfl, rfl, rfl⟩) (sm_var (i := 13) (by rfl) (by first | exact .inr (.inl rfl) | exact .inr (.inr rfl) | exact .inl rfl) (by rfl))) (by exact blkOk_by (by kernel_rfl)) (fun _ _ _ _ _ => (sg_name (i := 17) sc_law.nd (by rfl) (by exact .inl rfl) (by decide))) (fun _ _ _ _ _ => (sc_one (t_eq hr (b_len T.m_len (so (sm_var (i := 17) (by rfl) (by exact .inl rfl) (by rfl)))) (so (x_add (sm_var (i := 9) (by rfl) (by first | exact .inr (.inl rfl) | exact .inr (.inr rfl) | exact .inl rfl) (by rfl)) (so sm_int)))))) (fun _ _ _ _ _ => (sm_var (i := 17) (by rfl) (by exact .inl rfl) (by rfl))) (by decide) (by decide) (by decide))))) (by decide) (by decide) (by decide)))) (by decide) (by decide))
  (ss_cons (ss_for (S := ([15] ++ ([16] ++ []))) (Γ := [.v, .l .v, .v, .v, .v, .v, .v, .v, .v, .v, .v, .v, .v, .v, .v, .v, .v, .v, .v]) (Γ2 := [.v, .l .v, .v, .v, .v, .v, .v, .v, .v, .v, .v, .v, .v, .v, .v, .v, .v, .v, .v]) (by exact passes_of rfl) (by rfl) (si_seq (by exact ⟨rfl, rfl, rfl⟩) (sm_tup (sa_cons (sm_tup (sa_cons (sm_call (by exact ⟨rfl, rfl, rfl⟩) (ok_dimension_of T) (hr.mono (by decide)) (by rfl) T.g_dimension_of T.k_dimension_of T.b_dimension_of (sa_cons (sm_var (i := 2) (by rfl) (by exact .inl rfl) (by rfl)) sa_nil)) (sa_cons (sm_var (i := 14) (by rfl) (by exact .inl rfl) (by rfl)) sa_nil))) (sa_cons (sm_tup (sa_cons (sm_callX (by exact ⟨rfl, rfl, rfl⟩) tk (ok_face_row T) (hr.mono (by decide)) (by rfl) T.g_face_row T.k_face_row T.b_face_row (sa_cons (sm_var (i := 2) (by rfl) (by exact .inl rfl) (by rfl)) sa_nil)) (sa_cons (sm_var (i := 8) (by rfl) (by exact .inl rfl) (by rfl)) sa_nil))) (sa_cons (sm_tup (sa_cons (sm_callX (by exact ⟨rfl, rfl, rfl⟩) tk (ok_euler_number T) (hr.mono (by decide)) (by rfl) T.g_euler_number T.k_euler_number T.b_euler_number (sa_cons (sm_var (i := 2) (by rfl) (by exact .inl rfl) (by rfl)) sa_nil)) (sa_cons (sm_call (by exact ⟨rfl, rfl, rfl⟩) (ok__law_euler T) (hr.mono (by decide)) (by rfl) T.g__law_euler T.k__law_euler T.b__law_euler (sa_cons (sm_var (i := 2) (by rfl) (by exact .inl rfl) (by rfl)) sa_nil)) sa_nil))) (sa_cons (sm_tup (sa_cons (sm_call (by exact ⟨rfl, rfl, rfl⟩) (ok_dimension_of T) (hr.mono (by decide)) (by rfl) T.g_dimension_of T.k_dimension_of T.b_dimension_of (sa_cons (sm_tup sa_nil) sa_nil)) (sa_cons (x_neg (so sm_int)) sa_nil))) (sa_cons (sm_tup (sa_cons (sm_callX (by exact ⟨rfl, rfl, rfl⟩) tk (ok_face_row T) (hr.mono (by decide)) (by rfl) T.g_face_row T.k_face_row T.b_face_row (sa_cons (sm_tup sa_nil) sa_nil)) (sa_cons (sm_tup sa_nil) sa_nil))) (sa_cons (sm_tup (sa_cons (sm_callX (by exact ⟨rfl, rfl, rfl⟩) tk (ok_euler_number T) (hr.mono (by decide)) (by rfl) T.g_euler_number T.k_euler_number T.b_euler_number (sa_cons (sm_tup sa_nil) sa_nil)) (sa_cons sm_int sa_nil))) sa_nil)))))))) (sg_tup (by exact ⟨rfl, rfl, rfl⟩) (by rfl) (sgs_cons (sg_name (i := 15) sc_law.nd (by rfl) (by exact .inl rfl) (by decide)) (sgs_cons (sg_name (i := 16) sc_law.nd (by rfl) (by exact .inl rfl) (by decide)) sgs_nil)) (by rfl)) (ss_one (ss_if (Γ2 := [.v, .l .v, .v, .v, .v, .v, .v, .v, .v, .v, .v, .v, .v, .v, .v, .v, .v, .v, .v]) (st_not (st_val (by exact ⟨rfl, rfl, rfl⟩) (so (sm_call (by exact ⟨rfl, rfl, rfl⟩) (ok__law_same T 8) (hr.mono (by decide)) (by rfl) T.g__law_same T.k__law_same T.b__law_same (sa_cons (sm_call (by exact ⟨rfl, rfl, rfl⟩) (ok__law_honest T) (hr.mono (by decide)) (by rfl) T.g__law_honest T.k__law_honest T.b__law_honest (sa_cons (sm_var (i := 15) (by rfl) (by exact .inl rfl) (by rfl)) sa_nil)) (sa_cons (sm_var (i := 16) (by rfl) (by exact .inl rfl) (by rfl)) sa_nil)))))) (ss_one (ss_ret sm_bl rt0)) ss_nil)) (by decide) (nox_gTup (by intro g hg; simp only [List.mem_cons, List.not_mem_nil, or_false] at hg; rcases hg with hg | hg <;> subst hg <;> first | exact nox_gName)))
  (ss_cons (ss_for (S := [9]) (Γ := [.v, .l .v, .v, .v, .v, .v, .v, .v, .v, .v, .v, .v, .v, .v, .v, .v, .v, .v, .v]) (Γ2 := [.v, .l .v, .v, .v, .v, .v, .v, .v, .v, .v, .v, .v, .v, .v, .v, .v, .v, .v, .v]) (by exact passes_of rfl) (by rfl) (si_range2 (by rfl) T.m_range (x_neg (so sm_int)) (x_add (sm_var (i := 14) (by rfl) (by exact .inl rfl) (by rfl)) (so sm_int))) (sg_name (i := 9) sc_law.nd (by rfl) (by exact .inr rfl) (by decide)) (ss_cons (ss_if (Γ2 := [.v, .l .v, .v, .v, .v, .v, .v, .v, .v, .v, .v, .v, .v, .v, .v, .v, .v, .v, .v]) (st_bop (sw_and (t_ge hr (sm_var (i := 9) (by rfl) (by exact .inr (.inl rfl)) (by rfl)) (so sm_int)) (sw_and1 (st_not (st_val (by exact ⟨rfl, rfl, rfl⟩) (so (sm_call (by exact ⟨rfl, rfl, rfl⟩) (ok__law_same T 8) (hr.mono (by decide)) (by rfl) T.g__law_same T.k__law_same T.b__law_same (sa_cons (sm_call (by exact ⟨rfl, rfl, rfl⟩) (ok__law_honest T) (hr.mono (by decide)) (by rfl) T.g__law_honest T.k__law_honest T.b__law_honest (sa_cons (sm_callX (by exact ⟨rfl, rfl, rfl⟩) tk (ok_faces_of T) (hr.mono (by decide)) (by rfl) T.g_faces_of T.k_faces_of T.b_faces_of (sa_cons (sm_var (i := 2) (by rfl) (by exact .inl rfl) (by rfl)) (sa_cons (sm_var (i := 9) (by rfl) (by exact .inr (.inl rfl)) (by rfl)) sa_nil))) sa_nil)) (sa_cons (b_tuple T.m_tuple (so (sm_lc (own := [("g", 17)]) (S := [17]) (by rfl) sc_law.nd (si_seq (by exact ⟨rfl, rfl, rfl⟩) (sm_var (i := 13) (by rfl) (by exact .inr (.inl rfl)) (by rfl))) (blkOk_by (N := nm_law) (sc := (defScope st_law)) (own := [("g", 17)]) (by decide +kernel)) (fun _ _ _ _ _ => (sg_name (i := 17) sc_law.nd (by rfl) (by exact .inl rfl) (by decide))) (fun _ _ _ _ _ => (sc_one (t_eq hr (b_len T.m_len (so (sm_var (i := 17) (by rfl) (by exact .inl rfl) (by rfl)))) (so (x_add (sm_var (i := 9) (by rfl) (by first | exact .inr (.inl rfl) | exact .inr (.inr rfl) | exact .inl rfl) (by rfl)) (so sm_int)))))) (fun _ _ _ _ _ => (sm_var (i := 17) (by rfl) (by exact .inl rfl) (by rfl))) (by decide) (by decide) (by decide)))) sa_nil))))))))) (ss_one (ss_ret sm_bl rt0)) ss_nil)
  (ss_one (ss_if (Γ2 := [.v, .l .v, .v, .v, .v, .v, .v, .v, .v, .v, .v, .v, .v, .v, .v, .v, .v, .v, .v]) (st_not (st_val (by exact ⟨rfl, rfl, rfl⟩) (so (sm_call (by exact ⟨rfl, rfl, rfl⟩) (ok__law_same T 8) (hr.mono (by decide)) (by rfl) T.g__law_same T.k__law_same T.b__law_same (sa_cons (sm_call (by exact ⟨rfl, rfl, rfl⟩) (ok__law_honest T) (hr.mono (by decide)) (by rfl) T.g__law_honest T.k__law_honest T.b__law_honest (sa_cons (sm_callX (by exact ⟨rfl, rfl, rfl⟩) tk (ok_skeleton_of T) (hr.mono (by decide)) (by rfl) T.g_skeleton_of T.k_skeleton_of T.b_skeleton_of (sa_cons (sm_var (i := 2) (by rfl) (by exact .inl rfl) (by rfl)) (sa_cons (sm_var (i := 9) (by rfl) (by exact .inr (.inl rfl)) (by rfl)) sa_nil))) sa_nil)) (sa_cons (sm_call (by exact ⟨rfl, rfl, rfl⟩) (ok__law_cells_of T) (hr.mono (by decide)) (by rfl) T.g__law_cells_of T.k__law_cells_of T.b__law_cells_of (sa_cons (sm_v (sm_lc (own := [("g", 17)]) (S := [17]) (by rfl) sc_law.nd (si_seq (by exact ⟨rfl, rfl, rfl⟩) (sm_var (i := 13) (by rfl) (by exact .inr (.inl rfl)) (by rfl))) (blkOk_by (N := nm_law) (sc := (defScope st_law)) (own := [("g", 17)]) (by decide +kernel)) (fun _ _ _ _ _ => (sg_name (i := 17) sc_law.nd (by rfl) (by exact .inl rfl) (by decide))) (fun _ _ _ _ _ => (sc_one (t_le hr (b_len T.m_len (so (sm_var (i := 17) (by rfl) (by exact .inl rfl) (by rfl)))) (so (x_add (sm_var (i := 9) (by rfl) (by first | exact .inr (.inl rfl) | exact .inr (.inr rfl) | exact .inl rfl) (by rfl)) (so sm_int)))))) (fun _ _ _ _ _ => (sm_var (i := 17) (by rfl) (by exact .inl rfl) (by rfl))) (by decide) (by decide) (by decide))) sa_nil)) sa_nil)))))) (ss_one (ss_ret sm_bl rt0)) ss_nil))) (by decide) nox_gName)
  (ss_cons (ss_asgLcV (i := 10) (own := [("g", 17)]) (S := [17]) (by rfl) sc_law.nd (by rfl) (by rfl) (sw_true (by rfl) (by rfl) (by rfl) (by decide +kernel)) (si_seq (by exact ⟨rfl, rfl, rfl⟩) (sm_var (i := 13) (by rfl) (by exact .inr (.inl rfl)) (by rfl))) (blkOk_by (N := nm_law) (sc := (defScope st_law)) (own := [("g", 17)]) (by decide +kernel)) (fun _ _ _ _ _ => (sg_name (i := 17) sc_law.nd (by rfl) (by exact .inl rfl) (by decide))) (fun _ _ _ _ _ => (sc_one (st_bop (sw_and (t_eq hr (b_len T.m_len (so (sm_lc (own := [("p", 12)]) (S := [12]) (by rfl) sc_law.nd (si_seq (by exact ⟨rfl, rfl, rfl⟩) (sm_var (i := 17) (by rfl) (by exact .inl rfl) (by rfl))) (by exact blkOk_by (by kernel_rfl)) (fun _ _ _ _ _ => (sg_name (i := 12) sc_law.nd (by rfl) (by exact .inl rfl) (by decide))) (fun _ _ _ _ _ => (sc_one (t_in hr (sm_var (i := 12) (by rfl) (by exact .inl rfl) (by rfl)) (so (sm_var (i := 3) (by rfl) (by first | exact .inr (.inl rfl) | exact .inr (.inr rfl) | exact .inl rfl) (by rfl)))))) (fun _ _ _ _ _ => (sm_var (i := 12) (by rfl) (by exact .inl rfl) (by rfl))) (by decide) (by decide) (by decide)))) (so sm_int)) (sw_and1 (t_in hr (b_tuple T.m_tuple (so (b_sortA hr T.m_sorted (so (x_add (sm_var (i := 3) (by rfl) (by first | exact .inr (.inl rfl) | exact .inr (.inr rfl) | exact .inl rfl) (by rfl)) (so (sm_var (i := 17) (by rfl) (by exact .inl rfl) (by rfl)))))))) (so (sm_var (i := 13) (by rfl) (by first | exact .inr (.inl rfl) | exact .inr (.inr rfl) | exact .inl rfl) (by rfl))))))))) (fun _ _ _ _ _ => (sm_var (i := 17) (by rfl) (by exact .inl rfl) (by rfl))) (by decide) (by decide) (by decide) (by decide) (by decide))
  (ss_cons (ss_asgLcV (i := 11) (own := [("g", 17)]) (S := [17]) (by rfl) sc_law.nd (by rfl) (by rfl) (sw_true (by rfl) (by rfl) (by rfl) (by decide +kernel)) (si_seq (by exact ⟨rfl, rfl, rfl⟩) (sm_var (i := 13) (by rfl) (by exact .inr (.inl rfl)) (by rfl))) (blkOk_by (N := nm_law) (sc := (defScope st_law)) (own := [("g", 17)]) (by decide +kernel)) (fun _ _ _ _ _ => (sg_name (i := 17) sc_law.nd (by rfl) (by exact .inl rfl) (by decide))) (fun _ _ _ _ _ => (sc_one (t_in hr (b_tuple T.m_tuple (so (b_sortA hr T.m_sorted (so (x_add (sm_var (i := 3) (by rfl) (by first | exact .inr (.inl rfl) | exact .inr (.inr rfl) | exact .inl rfl) (by rfl)) (so (b_tuple T.m_tuple (so (sm_lc (own := [("p", 12)]) (S := [12]) (by rfl) sc_law.nd (si_seq (by exact ⟨rfl, rfl, rfl⟩) (sm_var (i := 17) (by rfl) (by exact .inl rfl) (by rfl))) (by exact blkOk_by (by kernel_rfl)) (fun _ _ _ _ _ => (sg_name (i := 12) sc_law.nd (by rfl) (by exact .inl rfl) (by decide))) (fun _ _ _ _ _ => (sc_one (t_notIn hr (sm_var (i := 12) (by rfl) (by exact .inl rfl) (by rfl)) (so (sm_var (i := 3) (by rfl) (by first | exact .inr (.inl rfl) | exact .inr (.inr rfl) | exact .inl rfl) (by rfl)))))) (fun _ _ _ _ _ => (sm_var (i := 12) (by rfl) (by exact .inl rfl) (by rfl))) (by decide) (by decide) (by decide)))))))))) (so (sm_var (i := 13) (by rfl) (by first | exact .inr (.inl rfl) | exact .inr (.inr rfl) | exact .inl rfl) (by rfl)))))) (fun _ _ _ _ _ => (sm_var (i := 17) (by rfl) (by exact .inl rfl) (by rfl))) (by decide) (by decide) (by decide) (by decide) (by decide))
  (ss_cons (ss_if (Γ2 := [.v, .l .v, .v, .v, .v, .v, .v, .v, .v, .v, .v, .v, .v, .v, .v, .v, .v, .v, .v]) (st_bop (sw_or (st_not (st_val (by exact ⟨rfl, rfl, rfl⟩) (so (sm_call (by exact ⟨rfl, rfl, rfl⟩) (ok__law_same T 8) (hr.mono (by decide)) (by rfl) T.g__law_same T.k__law_same T.b__law_same (sa_cons (sm_call (by exact ⟨rfl, rfl, rfl⟩) (ok__law_honest T) (hr.mono (by decide)) (by rfl) T.g__law_honest T.k__law_honest T.b__law_honest (sa_cons (sm_call (by exact ⟨rfl, rfl, rfl⟩) (ok_link_of_face T) (hr.mono (by decide)) (by rfl) T.g_link_of_face T.k_link_of_face T.b_link_of_face (sa_cons (sm_var (i := 2) (by rfl) (by exact .inl rfl) (by rfl)) (sa_cons (sm_var (i := 3) (by rfl) (by exact .inr (.inl rfl)) (by rfl)) sa_nil))) sa_nil)) (sa_cons (sm_call (by exact ⟨rfl, rfl, rfl⟩) (ok__law_cells_of T) (hr.mono (by decide)) (by rfl) T.g__law_cells_of T.k__law_cells_of T.b__law_cells_of (sa_cons (sm_var (i := 10) (by rfl) (by exact .inl rfl) (by rfl)) sa_nil)) sa_nil)))))) (sw_or1 (st_not (st_val (by exact ⟨rfl, rfl, rfl⟩) (so (sm_call (by exact ⟨rfl, rfl, rfl⟩) (ok__law_same T 8) (hr.mono (by decide)) (by rfl) T.g__law_same T.k__law_same T.b__law_same (sa_cons (sm_call (by exact ⟨rfl, rfl, rfl⟩) (ok__law_honest T) (hr.mono (by decide)) (by rfl) T.g__law_honest T.k__law_honest T.b__law_honest (sa_cons (sm_call (by exact ⟨rfl, rfl, rfl⟩) (ok_star_of_face T) (hr.mono (by decide)) (by rfl) T.g_star_of_face T.k_star_of_face T.b_star_of_face (sa_cons (sm_var (i := 2) (by rfl) (by exact .inl rfl) (by rfl)) (sa_cons (sm_var (i := 3) (by rfl) (by exact .inr (.inl rfl)) (by rfl)) sa_nil))) sa_nil)) (sa_cons (sm_call (by exact ⟨rfl, rfl, rfl⟩) (ok__law_cells_of T) (hr.mono (by decide)) (by rfl) T.g__law_cells_of T.k__law_cells_of T.b__law_cells_of (sa_cons (sm_var (i := 11) (by rfl) (by exact .inl rfl) (by rfl)) sa_nil)) sa_nil))))))))) (ss_one (ss_ret sm_bl rt0)) ss_nil)
  (ss_cons (ss_for (S := [12]) (Γ := [.v, .l .v, .v, .v, .v, .v, .v, .v, .v, .v, .v, .v, .v, .v, .v, .v, .v, .v, .v]) (Γ2 := [.v, .l .v, .v, .v, .v, .v, .v, .v, .v, .v, .v, .v, .v, .v, .v, .v, .v, .v, .v]) (by exact passes_of rfl) (by rfl) (si_seq (by exact ⟨rfl, rfl, rfl⟩) (sm_tup (sa_cons (x_ix (sm_var (i := 3) (by rfl) (by exact .inr (.inl rfl)) (by rfl)) (so sm_int)) (sa_cons sm_int (sa_cons sm_int sa_nil))))) (sg_name (i := 12) sc_law.nd (by rfl) (by exact .inr rfl) (by decide)) (ss_one (ss_if (Γ2 := [.v, .l .v, .v, .v, .v, .v, .v, .v, .v, .v, .v, .v, .v, .v, .v, .v, .v, .v, .v]) (st_not (st_val (by exact ⟨rfl, rfl, rfl⟩) (so (sm_call (by exact ⟨rfl, rfl, rfl⟩) (ok__law_same T 8) (hr.mono (by decide)) (by rfl) T.g__law_same T.k__law_same T.b__law_same (sa_cons (sm_call (by exact ⟨rfl, rfl, rfl⟩) (ok__law_honest T) (hr.mono (by decide)) (by rfl) T.g__law_honest T.k__law_honest T.b__law_honest (sa_cons (sm_call (by exact ⟨rfl, rfl, rfl⟩) (ok_without_point T) (hr.mono (by decide)) (by rfl) T.g_without_point T.k_without_point T.b_without_point (sa_cons (sm_var (i := 2) (by rfl) (by exact .inl rfl) (by rfl)) (sa_cons (sm_var (i := 12) (by rfl) (by exact .inr (.inl rfl)) (by rfl)) sa_nil))) sa_nil)) (sa_cons (sm_call (by exact ⟨rfl, rfl, rfl⟩) (ok__law_cells_of T) (hr.mono (by decide)) (by rfl) T.g__law_cells_of T.k__law_cells_of T.b__law_cells_of (sa_cons (sm_v (sm_lc (own := [("g", 17)]) (S := [17]) (by rfl) sc_law.nd (si_seq (by exact ⟨rfl, rfl, rfl⟩) (sm_var (i := 13) (by rfl) (by exact .inr (.inl rfl)) (by rfl))) (blkOk_by (N := nm_law) (sc := (defScope st_law)) (own := [("g", 17)]) (by decide +kernel)) (fun _ _ _ _ _ => (sg_name (i := 17) sc_law.nd (by rfl) (by exact .inl rfl) (by decide))) (fun _ _ _ _ _ => (sc_one (t_notIn hr (sm_var (i := 12) (by rfl) (by first | exact .inr (.inl rfl) | exact .inr (.inr rfl) | exact .inl rfl) (by rfl)) (so (sm_var (i := 17) (by rfl) (by exact .inl rfl) (by rfl)))))) (fun _ _ _ _ _ => (sm_var (i := 17) (by rfl) (by exact .inl rfl) (by rfl))) (by decide) (by decide) (by decide))) sa_nil)) sa_nil)))))) (ss_one (ss_ret sm_bl rt0)) ss_nil)) (by decide) nox_gName)
  (ss_one (ss_ret sm_bl rt0)))))))))))))))))))))
end
end K88

namespace K88
open PySem PySem.Spec L2 Mi
open PyProof.Rows hiding St
theorem exm_self {K : PySem.W.Frag} {S : Addr} (h1 : PySem.W.subIn K (.ref S) (.type "BaseException") = some true) (h2 : PySem.W.isClsIn K S = true) (h3 : PySem.W.typeIn K (.ref S) = some (.type "type")) (h4 : PySem.W.subIn K (.ref S) (.ref S) = some true) :
    PySem.W.exmOne K (.ref S) (.ref S) = some true := by
  have e1 : (PySem.W.subIn K (.ref S) (.type "BaseException") == some true) = true := by rw [h1] <;> rfl
  have e2 : ((PySem.W.clsIn K S).isSome && PySem.W.typeIn K (.ref S) == some (.type "type")) = true := by
    have h2' : (PySem.W.clsIn K S).isSome = true := h2
    rw [h2', h3] <;> rfl
  show (if (PySem.W.subIn K (.ref S) (.type "BaseException") == some true) = true then (if ((PySem.W.clsIn K S).isSome && PySem.W.typeIn K (.ref S) == some (.type "type")) = true then PySem.W.subIn K (.ref S) (.ref S) else none) else none) = some true
  rw [if_pos e1, if_pos e2]
  exact h4
def caOf (cc : Addr) : Nat → Option Addr := fun i => if i = 0 then some cc else none
def cnOf (P : Program) (w : World) (K : PySem.W.Frag) (cc : Addr) : Cn := ⟨P, w, K, fun _ => none, caOf cc⟩
theorem all_mk {P : Program} {w : World} {K : PySem.W.Frag} {h : Heap} {mg : Str → Option Value} {fa cc cF fI cda cA xN yN : Addr} (X : K.In h) (G : h.Ns mainGlobals mg) (hfa : mg "law" = some (.ref fa))
    {f0 f1 f2 f3 f4 f5 f6 f7 f8 f9 f10 f11 f12 f13 f14 f15 f16 f17 f18 f19 f20 f21 f22 f23 f24 f25 f26 f27 f28 f29 f30 f31 f32 f33 f34 : Addr} {od0 an0 od1 an1 od2 an2 od3 an3 od4 an4 od5 an5 od6 an6 od7 an7 od8 an8 od9 an9 od10 an10 od11 an11 od12 an12 od13 an13 od14 an14 od15 an15 od16 an16 od17 an17 od18 an18 od19 an19 od20 an20 od21 an21 od22 an22 od23 an23 od24 an24 od25 an25 od26 an26 od27 an27 od28 an28 od29 an29 od30 an30 od31 an31 od32 an32 od33 an33 od34 an34 yod yan zcd ucd : Option Addr} {sl0 sl1 sl2 sl3 sl4 sl5 sl6 sl7 sl8 sl9 sl10 sl11 sl12 sl13 sl14 sl15 sl16 sl17 sl18 sl19 sl20 sl21 sl22 sl23 sl24 sl25 sl26 sl27 sl28 sl29 sl30 sl31 sl32 sl33 sl34 ysl zsl usl : Array (Option Value)}
    {oc0 kV0 dc0 pm0 cd0 ct0 oc1 kV1 dc1 pm1 cd1 ct1 oc2 kV2 dc2 pm2 cd2 ct2 oc3 kV3 dc3 pm3 cd3 ct3 oc4 kV4 dc4 pm4 cd4 ct4 oc5 kV5 dc5 pm5 cd5 ct5 oc6 kV6 dc6 pm6 cd6 ct6 oc7 kV7 dc7 pm7 cd7 ct7 oc8 kV8 dc8 pm8 cd8 ct8 oc9 kV9 dc9 pm9 cd9 ct9 oc10 kV10 dc10 pm10 cd10 ct10 oc11 kV11 dc11 pm11 cd11 ct11 oc12 kV12 dc12 pm12 cd12 ct12 oc13 kV13 dc13 pm13 cd13 ct13 oc14 kV14 dc14 pm14 cd14 ct14 oc15 kV15 dc15 pm15 cd15 ct15 oc16 kV16 dc16 pm16 cd16 ct16 oc17 kV17 dc17 pm17 cd17 ct17 oc18 kV18 dc18 pm18 cd18 ct18 oc19 kV19 dc19 pm19 cd19 ct19 oc20 kV20 dc20 pm20 cd20 ct20 oc21 kV21 dc21 pm21 cd21 ct21 oc22 kV22 dc22 pm22 cd22 ct22 oc23 kV23 dc23 pm23 cd23 ct23 oc24 kV24 dc24 pm24 cd24 ct24 oc25 kV25 dc25 pm25 cd25 ct25 oc26 kV26 dc26 pm26 cd26 ct26 oc27 kV27 dc27 pm27 cd27 ct27 oc28 kV28 dc28 pm28 cd28 ct28 oc29 kV29 dc29 pm29 cd29 ct29 oc30 kV30 dc30 pm30 cd30 ct30 oc31 kV31 dc31 pm31 cd31 ct31 oc32 kV32 dc32 pm32 cd32 ct32 oc33 kV33 dc33 pm33 cd33 ct33 oc34 kV34 dc34 pm34 cd34 ct34 yoc ydc ypm yct zcl ucl : Value} {t_MOST_POINT t_MOST_FACES utf : Tok}
    {xnm xq ynm yq ufile : Str} {xbs xsub ybs ysub : List Value} {xsn ysn : List Str} {xab yab : Bool} {xcol ycol : Option Bool} {xdd ydd : Option Addr} {x0 x1 x2 x3 x5 y0 y1 y2 y3 y5 : Option Value} {uvs : Array Value}
    (a0 : PySem.W.nsIn K mainGlobals "is_integer" = some (some (.ref f0)))
    (l0 : K.lookup f0 = some ⟨oc0, od0, .func (PySem.W.fnOf "is_integer" "is_integer" (defArgs (top 4)) (defBody (top 4)) (defScope (top 4)) .none kV0 dc0 pm0 an0 cd0 ct0), sl0⟩)
    (c0 : PySem.W.codeIn K cd0 "is_integer" = true)
    (k0 : PySem.W.keepIn K (.ref f0) = true)
    (a1 : PySem.W.nsIn K mainGlobals "is_block" = some (some (.ref f1)))
    (l1 : K.lookup f1 = some ⟨oc1, od1, .func (PySem.W.fnOf "is_block" "is_block" (defArgs (top 8)) (defBody (top 8)) (defScope (top 8)) .none kV1 dc1 pm1 an1 cd1 ct1), sl1⟩)
    (c1 : PySem.W.codeIn K cd1 "is_block" = true)
    (k1 : PySem.W.keepIn K (.ref f1) = true)
    (a2 : PySem.W.nsIn K mainGlobals "is_within" = some (some (.ref f2)))
    (l2 : K.lookup f2 = some ⟨oc2, od2, .func (PySem.W.fnOf "is_within" "is_within" (defArgs (top 9)) (defBody (top 9)) (defScope (top 9)) .none kV2 dc2 pm2 an2 cd2 ct2), sl2⟩)
    (c2 : PySem.W.codeIn K cd2 "is_within" = true)
    (k2 : PySem.W.keepIn K (.ref f2) = true)
    (a3 : PySem.W.nsIn K mainGlobals "parts_of" = some (some (.ref f3)))
    (l3 : K.lookup f3 = some ⟨oc3, od3, .func (PySem.W.fnOf "parts_of" "parts_of" (defArgs (top 10)) (defBody (top 10)) (defScope (top 10)) .none kV3 dc3 pm3 an3 cd3 ct3), sl3⟩)
    (c3 : PySem.W.codeIn K cd3 "parts_of" = true)
    (k3 : PySem.W.keepIn K (.ref f3) = true)
    (a4 : PySem.W.nsIn K mainGlobals "faces_in" = some (some (.ref f4)))
    (l4 : K.lookup f4 = some ⟨oc4, od4, .func (PySem.W.fnOf "faces_in" "faces_in" (defArgs (top 11)) (defBody (top 11)) (defScope (top 11)) .none kV4 dc4 pm4 an4 cd4 ct4), sl4⟩)
    (c4 : PySem.W.codeIn K cd4 "faces_in" = true)
    (k4 : PySem.W.keepIn K (.ref f4) = true)
    (a5 : PySem.W.nsIn K mainGlobals "is_cells" = some (some (.ref f5)))
    (l5 : K.lookup f5 = some ⟨oc5, od5, .func (PySem.W.fnOf "is_cells" "is_cells" (defArgs (top 12)) (defBody (top 12)) (defScope (top 12)) .none kV5 dc5 pm5 an5 cd5 ct5), sl5⟩)
    (c5 : PySem.W.codeIn K cd5 "is_cells" = true)
    (k5 : PySem.W.keepIn K (.ref f5) = true)
    (a6 : PySem.W.nsIn K mainGlobals "facets_among" = some (some (.ref f6)))
    (l6 : K.lookup f6 = some ⟨oc6, od6, .func (PySem.W.fnOf "facets_among" "facets_among" (defArgs (top 13)) (defBody (top 13)) (defScope (top 13)) .none kV6 dc6 pm6 an6 cd6 ct6), sl6⟩)
    (c6 : PySem.W.codeIn K cd6 "facets_among" = true)
    (k6 : PySem.W.keepIn K (.ref f6) = true)
    (a7 : PySem.W.nsIn K mainGlobals "cells_from" = some (some (.ref f7)))
    (l7 : K.lookup f7 = some ⟨oc7, od7, .func (PySem.W.fnOf "cells_from" "cells_from" (defArgs (top 14)) (defBody (top 14)) (defScope (top 14)) .none kV7 dc7 pm7 an7 cd7 ct7), sl7⟩)
    (c7 : PySem.W.codeIn K cd7 "cells_from" = true)
    (k7 : PySem.W.keepIn K (.ref f7) = true)
    (a8 : PySem.W.nsIn K mainGlobals "is_face" = some (some (.ref f8)))
    (l8 : K.lookup f8 = some ⟨oc8, od8, .func (PySem.W.fnOf "is_face" "is_face" (defArgs (top 15)) (defBody (top 15)) (defScope (top 15)) .none kV8 dc8 pm8 an8 cd8 ct8), sl8⟩)
    (c8 : PySem.W.codeIn K cd8 "is_face" = true)
    (k8 : PySem.W.keepIn K (.ref f8) = true)
    (a9 : PySem.W.nsIn K mainGlobals "all_faces" = some (some (.ref f9)))
    (l9 : K.lookup f9 = some ⟨oc9, od9, .func (PySem.W.fnOf "all_faces" "all_faces" (defArgs (top 16)) (defBody (top 16)) (defScope (top 16)) .none kV9 dc9 pm9 an9 cd9 ct9), sl9⟩)
    (c9 : PySem.W.codeIn K cd9 "all_faces" = true)
    (k9 : PySem.W.keepIn K (.ref f9) = true)
    (a10 : PySem.W.nsIn K mainGlobals "faces_of" = some (some (.ref f10)))
    (l10 : K.lookup f10 = some ⟨oc10, od10, .func (PySem.W.fnOf "faces_of" "faces_of" (defArgs (top 17)) (defBody (top 17)) (defScope (top 17)) .none kV10 dc10 pm10 an10 cd10 ct10), sl10⟩)
    (c10 : PySem.W.codeIn K cd10 "faces_of" = true)
    (k10 : PySem.W.keepIn K (.ref f10) = true)
    (a11 : PySem.W.nsIn K mainGlobals "dimension_of" = some (some (.ref f11)))
    (l11 : K.lookup f11 = some ⟨oc11, od11, .func (PySem.W.fnOf "dimension_of" "dimension_of" (defArgs (top 18)) (defBody (top 18)) (defScope (top 18)) .none kV11 dc11 pm11 an11 cd11 ct11), sl11⟩)
    (c11 : PySem.W.codeIn K cd11 "dimension_of" = true)
    (k11 : PySem.W.keepIn K (.ref f11) = true)
    (a12 : PySem.W.nsIn K mainGlobals "face_row" = some (some (.ref f12)))
    (l12 : K.lookup f12 = some ⟨oc12, od12, .func (PySem.W.fnOf "face_row" "face_row" (defArgs (top 19)) (defBody (top 19)) (defScope (top 19)) .none kV12 dc12 pm12 an12 cd12 ct12), sl12⟩)
    (c12 : PySem.W.codeIn K cd12 "face_row" = true)
    (k12 : PySem.W.keepIn K (.ref f12) = true)
    (a13 : PySem.W.nsIn K mainGlobals "euler_number" = some (some (.ref f13)))
    (l13 : K.lookup f13 = some ⟨oc13, od13, .func (PySem.W.fnOf "euler_number" "euler_number" (defArgs (top 20)) (defBody (top 20)) (defScope (top 20)) .none kV13 dc13 pm13 an13 cd13 ct13), sl13⟩)
    (c13 : PySem.W.codeIn K cd13 "euler_number" = true)
    (k13 : PySem.W.keepIn K (.ref f13) = true)
    (a14 : PySem.W.nsIn K mainGlobals "link_of_face" = some (some (.ref f14)))
    (l14 : K.lookup f14 = some ⟨oc14, od14, .func (PySem.W.fnOf "link_of_face" "link_of_face" (defArgs (top 21)) (defBody (top 21)) (defScope (top 21)) .none kV14 dc14 pm14 an14 cd14 ct14), sl14⟩)
    (c14 : PySem.W.codeIn K cd14 "link_of_face" = true)
    (k14 : PySem.W.keepIn K (.ref f14) = true)
    (a15 : PySem.W.nsIn K mainGlobals "star_of_face" = some (some (.ref f15)))
    (l15 : K.lookup f15 = some ⟨oc15, od15, .func (PySem.W.fnOf "star_of_face" "star_of_face" (defArgs (top 22)) (defBody (top 22)) (defScope (top 22)) .none kV15 dc15 pm15 an15 cd15 ct15), sl15⟩)
    (c15 : PySem.W.codeIn K cd15 "star_of_face" = true)
    (k15 : PySem.W.keepIn K (.ref f15) = true)
    (a16 : PySem.W.nsIn K mainGlobals "without_point" = some (some (.ref f16)))
    (l16 : K.lookup f16 = some ⟨oc16, od16, .func (PySem.W.fnOf "without_point" "without_point" (defArgs (top 23)) (defBody (top 23)) (defScope (top 23)) .none kV16 dc16 pm16 an16 cd16 ct16), sl16⟩)
    (c16 : PySem.W.codeIn K cd16 "without_point" = true)
    (k16 : PySem.W.keepIn K (.ref f16) = true)
    (a17 : PySem.W.nsIn K mainGlobals "skeleton_of" = some (some (.ref f17)))
    (l17 : K.lookup f17 = some ⟨oc17, od17, .func (PySem.W.fnOf "skeleton_of" "skeleton_of" (defArgs (top 24)) (defBody (top 24)) (defScope (top 24)) .none kV17 dc17 pm17 an17 cd17 ct17), sl17⟩)
    (c17 : PySem.W.codeIn K cd17 "skeleton_of" = true)
    (k17 : PySem.W.keepIn K (.ref f17) = true)
    (a18 : PySem.W.nsIn K mainGlobals "_law_state" = some (some (.ref f18)))
    (l18 : K.lookup f18 = some ⟨oc18, od18, .func (PySem.W.fnOf "_law_state" "_law_state" (defArgs (top 26)) (defBody (top 26)) (defScope (top 26)) .none kV18 dc18 pm18 an18 cd18 ct18), sl18⟩)
    (c18 : PySem.W.codeIn K cd18 "_law_state" = true)
    (k18 : PySem.W.keepIn K (.ref f18) = true)
    (a19 : PySem.W.nsIn K mainGlobals "_law_take" = some (some (.ref f19)))
    (l19 : K.lookup f19 = some ⟨oc19, od19, .func (PySem.W.fnOf "_law_take" "_law_take" (defArgs (top 27)) (defBody (top 27)) (defScope (top 27)) .none kV19 dc19 pm19 an19 cd19 ct19), sl19⟩)
    (c19 : PySem.W.codeIn K cd19 "_law_take" = true)
    (k19 : PySem.W.keepIn K (.ref f19) = true)
    (a20 : PySem.W.nsIn K mainGlobals "_law_odd" = some (some (.ref f20)))
    (l20 : K.lookup f20 = some ⟨oc20, od20, .func (PySem.W.fnOf "_law_odd" "_law_odd" (defArgs (top 28)) (defBody (top 28)) (defScope (top 28)) .none kV20 dc20 pm20 an20 cd20 ct20), sl20⟩)
    (c20 : PySem.W.codeIn K cd20 "_law_odd" = true)
    (k20 : PySem.W.keepIn K (.ref f20) = true)
    (a21 : PySem.W.nsIn K mainGlobals "_law_honest" = some (some (.ref f21)))
    (l21 : K.lookup f21 = some ⟨oc21, od21, .func (PySem.W.fnOf "_law_honest" "_law_honest" (defArgs (top 29)) (defBody (top 29)) (defScope (top 29)) .none kV21 dc21 pm21 an21 cd21 ct21), sl21⟩)
    (c21 : PySem.W.codeIn K cd21 "_law_honest" = true)
    (k21 : PySem.W.keepIn K (.ref f21) = true)
    (a22 : PySem.W.nsIn K mainGlobals "_law_says" = some (some (.ref f22)))
    (l22 : K.lookup f22 = some ⟨oc22, od22, .func (PySem.W.fnOf "_law_says" "_law_says" (defArgs (top 30)) (defBody (top 30)) (defScope (top 30)) .none kV22 dc22 pm22 an22 cd22 ct22), sl22⟩)
    (c22 : PySem.W.codeIn K cd22 "_law_says" = true)
    (k22 : PySem.W.keepIn K (.ref f22) = true)
    (a23 : PySem.W.nsIn K mainGlobals "_law_is_whole" = some (some (.ref f23)))
    (l23 : K.lookup f23 = some ⟨oc23, od23, .func (PySem.W.fnOf "_law_is_whole" "_law_is_whole" (defArgs (top 31)) (defBody (top 31)) (defScope (top 31)) .none kV23 dc23 pm23 an23 cd23 ct23), sl23⟩)
    (c23 : PySem.W.codeIn K cd23 "_law_is_whole" = true)
    (k23 : PySem.W.keepIn K (.ref f23) = true)
    (a24 : PySem.W.nsIn K mainGlobals "_law_same" = some (some (.ref f24)))
    (l24 : K.lookup f24 = some ⟨oc24, od24, .func (PySem.W.fnOf "_law_same" "_law_same" (defArgs (top 32)) (defBody (top 32)) (defScope (top 32)) .none kV24 dc24 pm24 an24 cd24 ct24), sl24⟩)
    (c24 : PySem.W.codeIn K cd24 "_law_same" = true)
    (k24 : PySem.W.keepIn K (.ref f24) = true)
    (a25 : PySem.W.nsIn K mainGlobals "_law_parts" = some (some (.ref f25)))
    (l25 : K.lookup f25 = some ⟨oc25, od25, .func (PySem.W.fnOf "_law_parts" "_law_parts" (defArgs (top 33)) (defBody (top 33)) (defScope (top 33)) .none kV25 dc25 pm25 an25 cd25 ct25), sl25⟩)
    (c25 : PySem.W.codeIn K cd25 "_law_parts" = true)
    (k25 : PySem.W.keepIn K (.ref f25) = true)
    (a26 : PySem.W.nsIn K mainGlobals "_law_faces" = some (some (.ref f26)))
    (l26 : K.lookup f26 = some ⟨oc26, od26, .func (PySem.W.fnOf "_law_faces" "_law_faces" (defArgs (top 34)) (defBody (top 34)) (defScope (top 34)) .none kV26 dc26 pm26 an26 cd26 ct26), sl26⟩)
    (c26 : PySem.W.codeIn K cd26 "_law_faces" = true)
    (k26 : PySem.W.keepIn K (.ref f26) = true)
    (a27 : PySem.W.nsIn K mainGlobals "_law_cells_of" = some (some (.ref f27)))
    (l27 : K.lookup f27 = some ⟨oc27, od27, .func (PySem.W.fnOf "_law_cells_of" "_law_cells_of" (defArgs (top 35)) (defBody (top 35)) (defScope (top 35)) .none kV27 dc27 pm27 an27 cd27 ct27), sl27⟩)
    (c27 : PySem.W.codeIn K cd27 "_law_cells_of" = true)
    (k27 : PySem.W.keepIn K (.ref f27) = true)
    (a28 : PySem.W.nsIn K mainGlobals "_law_dimension" = some (some (.ref f28)))
    (l28 : K.lookup f28 = some ⟨oc28, od28, .func (PySem.W.fnOf "_law_dimension" "_law_dimension" (defArgs (top 36)) (defBody (top 36)) (defScope (top 36)) .none kV28 dc28 pm28 an28 cd28 ct28), sl28⟩)
    (c28 : PySem.W.codeIn K cd28 "_law_dimension" = true)
    (k28 : PySem.W.keepIn K (.ref f28) = true)
    (a29 : PySem.W.nsIn K mainGlobals "_law_euler" = some (some (.ref f29)))
    (l29 : K.lookup f29 = some ⟨oc29, od29, .func (PySem.W.fnOf "_law_euler" "_law_euler" (defArgs (top 37)) (defBody (top 37)) (defScope (top 37)) .none kV29 dc29 pm29 an29 cd29 ct29), sl29⟩)
    (c29 : PySem.W.codeIn K cd29 "_law_euler" = true)
    (k29 : PySem.W.keepIn K (.ref f29) = true)
    (a30 : PySem.W.nsIn K mainGlobals "_law_drawn_cells" = some (some (.ref f30)))
    (l30 : K.lookup f30 = some ⟨oc30, od30, .func (PySem.W.fnOf "_law_drawn_cells" "_law_drawn_cells" (defArgs (top 38)) (defBody (top 38)) (defScope (top 38)) .none kV30 dc30 pm30 an30 cd30 ct30), sl30⟩)
    (c30 : PySem.W.codeIn K cd30 "_law_drawn_cells" = true)
    (k30 : PySem.W.keepIn K (.ref f30) = true)
    (a31 : PySem.W.nsIn K mainGlobals "_law_is_block" = some (some (.ref f31)))
    (l31 : K.lookup f31 = some ⟨oc31, od31, .func (PySem.W.fnOf "_law_is_block" "_law_is_block" (defArgs (top 39)) (defBody (top 39)) (defScope (top 39)) .none kV31 dc31 pm31 an31 cd31 ct31), sl31⟩)
    (c31 : PySem.W.codeIn K cd31 "_law_is_block" = true)
    (k31 : PySem.W.keepIn K (.ref f31) = true)
    (a32 : PySem.W.nsIn K mainGlobals "_law_is_cells" = some (some (.ref f32)))
    (l32 : K.lookup f32 = some ⟨oc32, od32, .func (PySem.W.fnOf "_law_is_cells" "_law_is_cells" (defArgs (top 40)) (defBody (top 40)) (defScope (top 40)) .none kV32 dc32 pm32 an32 cd32 ct32), sl32⟩)
    (c32 : PySem.W.codeIn K cd32 "_law_is_cells" = true)
    (k32 : PySem.W.keepIn K (.ref f32) = true)
    (a33 : PySem.W.nsIn K mainGlobals "_law_tried" = some (some (.ref f33)))
    (l33 : K.lookup f33 = some ⟨oc33, od33, .func (PySem.W.fnOf "_law_tried" "_law_tried" (defArgs (top 41)) (defBody (top 41)) (defScope (top 41)) .none kV33 dc33 pm33 an33 cd33 ct33), sl33⟩)
    (c33 : PySem.W.codeIn K cd33 "_law_tried" = true)
    (k33 : PySem.W.keepIn K (.ref f33) = true)
    (a34 : PySem.W.nsIn K mainGlobals "law" = some (some (.ref f34)))
    (l34 : K.lookup f34 = some ⟨oc34, od34, .func (PySem.W.fnOf "law" "law" (defArgs (top 42)) (defBody (top 42)) (defScope (top 42)) .none kV34 dc34 pm34 an34 cd34 ct34), sl34⟩)
    (c34 : PySem.W.codeIn K cd34 "law" = true)
    (k34 : PySem.W.keepIn K (.ref f34) = true)
    (n_abs : PySem.W.nsIn K mainGlobals "abs" = some none)
    (n_all : PySem.W.nsIn K mainGlobals "all" = some none)
    (n_any : PySem.W.nsIn K mainGlobals "any" = some none)
    (n_bool : PySem.W.nsIn K mainGlobals "bool" = some none)
    (n_int : PySem.W.nsIn K mainGlobals "int" = some none)
    (n_isinstance : PySem.W.nsIn K mainGlobals "isinstance" = some none)
    (n_len : PySem.W.nsIn K mainGlobals "len" = some none)
    (n_list : PySem.W.nsIn K mainGlobals "list" = some none)
    (n_max : PySem.W.nsIn K mainGlobals "max" = some none)
    (n_range : PySem.W.nsIn K mainGlobals "range" = some none)
    (n_set : PySem.W.nsIn K mainGlobals "set" = some none)
    (n_sorted : PySem.W.nsIn K mainGlobals "sorted" = some none)
    (n_str : PySem.W.nsIn K mainGlobals "str" = some none)
    (n_sum : PySem.W.nsIn K mainGlobals "sum" = some none)
    (n_tuple : PySem.W.nsIn K mainGlobals "tuple" = some none)
    (n_super : PySem.W.nsIn K mainGlobals "super" = some none)
    (v_MOST_POINT : PySem.W.nsIn K mainGlobals "MOST_POINT" = some (some (.int 15 t_MOST_POINT)))
    (v_MOST_FACES : PySem.W.nsIn K mainGlobals "MOST_FACES" = some (some (.int 200 t_MOST_FACES)))
    (aC : PySem.W.nsIn K mainGlobals "Refused" = some (some (.ref cc)))
    (xL : K.lookup cc = some (excClassObj xnm xq cc xN xbs [.ref cF, .type "ValueError", .type "Exception", .type "BaseException", .type "object"] true xsn xsub xab xcol xdd x0 x1 x2 x3 x5 "ValueError.__new__"))
    (xF : K.lookup cF = some (excClassObj ynm yq cF yN ybs [.type "ValueError", .type "Exception", .type "BaseException", .type "object"] true ysn ysub yab ycol ydd y0 y1 y2 y3 y5 "ValueError.__new__"))
    (xFi : PySem.W.findIn K (.ref cF) "__init__" = some (some (.builtin "ValueError.__init__")))
    (xsa : PySem.W.findIn K (.ref cc) "__setattr__" = some (some (.builtin "object.__setattr__")))
    (xga : PySem.W.findIn K (.ref cc) "__getattribute__" = some (some (.builtin "BaseException.__getattribute__")))
    (xgg : PySem.W.findIn K (.ref cc) "__getattr__" = some none)
    (xno : PySem.W.findIn K (.ref cc) "reason" = some none)
    (xi : PySem.W.findIn K (.ref cc) "__init__" = some (some (.ref fI)))
    (xt : PySem.W.typeIn K (.ref fI) = some (.type "function"))
    (xk : PySem.W.keepIn K (.ref cc) = true)
    (xe : PySem.W.subIn K (.ref cc) (.type "BaseException") = some true)
    (xty : PySem.W.typeIn K (.ref cc) = some (.type "type"))
    (xhd : PySem.W.hasDictIn K cc = true)
    (xis : PySem.W.isClsIn K cc = true)
    (xss : PySem.W.subIn K (.ref cc) (.ref cc) = some true)
    (xop : PySem.W.nsIn K cStatics "thirdparty.any" = some none)
    (xfn : K.lookup fI = some ⟨yoc, yod, .func (PySem.W.ksFn "__init__" "Refused.__init__" VE.iA VE.iB VE.iS .none .none ydc ypm yan (.ref cda) yct cA), ysl⟩)
    (xcd : PySem.W.codeIn K (.ref cda) "Refused.__init__" = true)
    (xce : K.lookup cA = some ⟨zcl, zcd, .cell (some (.ref cc)), zsl⟩)
    (xco : K.lookup cda = some ⟨ucl, ucd, .fields uvs, usl⟩)
    (xf2 : uvs[2]? = some (.str ufile utf))
    (xfi : (P.main.file == ufile) = true)
    (xns : (P.main.scope.names.lookup (PySem.Str.ofString "super")).isSome = false)
    : ∃ (c : Addr) (fd : FuncData), (∀ (s : Shared) (u : Value), BindsTo s fd ⟨[u], []⟩ [("script", u)]) ∧ ∀ base : Heap, K.In base → base.Ns mainGlobals mg → FnOk P w K mg base (L2.CX P w) 10 fa fd ["script"] (spX (cnOf P w K c) 1 m_law .v) := by
  have e := hfa.symm.trans (PySem.W.mg_of X G a34)
  cases e
  have xal : PySem.W.alongIn K "__init__" [.ref cF, .type "ValueError", .type "Exception", .type "BaseException", .type "object"] = some (some (.builtin "ValueError.__init__")) := by
    unfold PySem.W.findIn at xFi
    simp only [xF] at xFi
    exact xFi
  have ref : VE.RefTxt P K mg cc fI cA cda := { gC := PySem.W.mg_of X G aC, cls := ⟨_, _, _, _, _, _, _, _, _, _, _, _, _, _, _, xL, rfl, xal, rfl⟩, sa := xsa, noN := xno, iC := xi, tC := xt, kC := xk, exC := xe, tyC := xty, nS := PySem.W.mg_none_of X G n_super, op := xop, cell := ⟨_, _, _, xce⟩, code := ⟨_, _, _, _, _, _, xco, xf2, xfi⟩, noSup := xns, fn := ⟨_, _, _, _, _, _, _, xfn, xcd⟩ }
  have F0 := fun_mk (st := top 4) l0 c0 k0
  have b0 := F0.binds (ps := ["value"]) fun _ _ _ _ _ _ us hl => match us, hl with | [_], _ => rfl
  have F1 := fun_mk (st := top 8) l1 c1 k1
  have b1 := F1.binds (ps := ["value"]) fun _ _ _ _ _ _ us hl => match us, hl with | [_], _ => rfl
  have F2 := fun_mk (st := top 9) l2 c2 k2
  have b2 := F2.binds (ps := ["one", "two"]) fun _ _ _ _ _ _ us hl => match us, hl with | [_, _], _ => rfl
  have F3 := fun_mk (st := top 10) l3 c3 k3
  have b3 := F3.binds (ps := ["block"]) fun _ _ _ _ _ _ us hl => match us, hl with | [_], _ => rfl
  have F4 := fun_mk (st := top 11) l4 c4 k4
  have b4 := F4.binds (ps := ["blocks"]) fun _ _ _ _ _ _ us hl => match us, hl with | [_], _ => rfl
  have F5 := fun_mk (st := top 12) l5 c5 k5
  have b5 := F5.binds (ps := ["value"]) fun _ _ _ _ _ _ us hl => match us, hl with | [_], _ => rfl
  have F6 := fun_mk (st := top 13) l6 c6 k6
  have b6 := F6.binds (ps := ["faces"]) fun _ _ _ _ _ _ us hl => match us, hl with | [_], _ => rfl
  have F7 := fun_mk (st := top 14) l7 c7 k7
  have b7 := F7.binds (ps := ["faces"]) fun _ _ _ _ _ _ us hl => match us, hl with | [_], _ => rfl
  have F8 := fun_mk (st := top 15) l8 c8 k8
  have b8 := F8.binds (ps := ["k", "value"]) fun _ _ _ _ _ _ us hl => match us, hl with | [_, _], _ => rfl
  have F9 := fun_mk (st := top 16) l9 c9 k9
  have b9 := F9.binds (ps := ["k"]) fun _ _ _ _ _ _ us hl => match us, hl with | [_], _ => rfl
  have F10 := fun_mk (st := top 17) l10 c10 k10
  have b10 := F10.binds (ps := ["k", "n"]) fun _ _ _ _ _ _ us hl => match us, hl with | [_, _], _ => rfl
  have F11 := fun_mk (st := top 18) l11 c11 k11
  have b11 := F11.binds (ps := ["k"]) fun _ _ _ _ _ _ us hl => match us, hl with | [_], _ => rfl
  have F12 := fun_mk (st := top 19) l12 c12 k12
  have b12 := F12.binds (ps := ["k"]) fun _ _ _ _ _ _ us hl => match us, hl with | [_], _ => rfl
  have F13 := fun_mk (st := top 20) l13 c13 k13
  have b13 := F13.binds (ps := ["k"]) fun _ _ _ _ _ _ us hl => match us, hl with | [_], _ => rfl
  have F14 := fun_mk (st := top 21) l14 c14 k14
  have b14 := F14.binds (ps := ["k", "f"]) fun _ _ _ _ _ _ us hl => match us, hl with | [_, _], _ => rfl
  have F15 := fun_mk (st := top 22) l15 c15 k15
  have b15 := F15.binds (ps := ["k", "f"]) fun _ _ _ _ _ _ us hl => match us, hl with | [_, _], _ => rfl
  have F16 := fun_mk (st := top 23) l16 c16 k16
  have b16 := F16.binds (ps := ["k", "p"]) fun _ _ _ _ _ _ us hl => match us, hl with | [_, _], _ => rfl
  have F17 := fun_mk (st := top 24) l17 c17 k17
  have b17 := F17.binds (ps := ["k", "n"]) fun _ _ _ _ _ _ us hl => match us, hl with | [_, _], _ => rfl
  have F18 := fun_mk (st := top 26) l18 c18 k18
  have b18 := F18.binds (ps := ["script"]) fun _ _ _ _ _ _ us hl => match us, hl with | [_], _ => rfl
  have F19 := fun_mk (st := top 27) l19 c19 k19
  have b19 := F19.binds (ps := ["state", "m"]) fun _ _ _ _ _ _ us hl => match us, hl with | [_, _], _ => rfl
  have F20 := fun_mk (st := top 28) l20 c20 k20
  have b20 := F20.binds (ps := ["value"]) fun _ _ _ _ _ _ us hl => match us, hl with | [_], _ => rfl
  have F21 := fun_mk (st := top 29) l21 c21 k21
  have b21 := F21.binds (ps := ["value"]) fun _ _ _ _ _ _ us hl => match us, hl with | [_], _ => rfl
  have F22 := fun_mk (st := top 30) l22 c22 k22
  have b22 := F22.binds (ps := ["value", "due"]) fun _ _ _ _ _ _ us hl => match us, hl with | [_, _], _ => rfl
  have F23 := fun_mk (st := top 31) l23 c23 k23
  have b23 := F23.binds (ps := ["value"]) fun _ _ _ _ _ _ us hl => match us, hl with | [_], _ => rfl
  have F24 := fun_mk (st := top 32) l24 c24 k24
  have b24 := F24.binds (ps := ["one", "two"]) fun _ _ _ _ _ _ us hl => match us, hl with | [_, _], _ => rfl
  have F25 := fun_mk (st := top 33) l25 c25 k25
  have b25 := F25.binds (ps := ["points"]) fun _ _ _ _ _ _ us hl => match us, hl with | [_], _ => rfl
  have F26 := fun_mk (st := top 34) l26 c26 k26
  have b26 := F26.binds (ps := ["cells"]) fun _ _ _ _ _ _ us hl => match us, hl with | [_], _ => rfl
  have F27 := fun_mk (st := top 35) l27 c27 k27
  have b27 := F27.binds (ps := ["faces"]) fun _ _ _ _ _ _ us hl => match us, hl with | [_], _ => rfl
  have F28 := fun_mk (st := top 36) l28 c28 k28
  have b28 := F28.binds (ps := ["cells"]) fun _ _ _ _ _ _ us hl => match us, hl with | [_], _ => rfl
  have F29 := fun_mk (st := top 37) l29 c29 k29
  have b29 := F29.binds (ps := ["cells"]) fun _ _ _ _ _ _ us hl => match us, hl with | [_], _ => rfl
  have F30 := fun_mk (st := top 38) l30 c30 k30
  have b30 := F30.binds (ps := ["state", "points", "most"]) fun _ _ _ _ _ _ us hl => match us, hl with | [_, _, _], _ => rfl
  have F31 := fun_mk (st := top 39) l31 c31 k31
  have b31 := F31.binds (ps := ["value"]) fun _ _ _ _ _ _ us hl => match us, hl with | [_], _ => rfl
  have F32 := fun_mk (st := top 40) l32 c32 k32
  have b32 := F32.binds (ps := ["value"]) fun _ _ _ _ _ _ us hl => match us, hl with | [_], _ => rfl
  have F33 := fun_mk (st := top 41) l33 c33 k33
  have b33 := F33.binds (ps := ["faces"]) fun _ _ _ _ _ _ us hl => match us, hl with | [_], _ => rfl
  have F34 := fun_mk (st := top 42) l34 c34 k34
  have b34 := F34.binds (ps := ["script"]) fun _ _ _ _ _ _ us hl => match us, hl with | [_], _ => rfl
  have T : Tb (cnOf P w K cc) mg (fun i => [f0, f1, f2, f3, f4, f5, f6, f7, f8, f9, f10, f11, f12, f13, f14, f15, f16, f17, f18, f19, f20, f21, f22, f23, f24, f25, f26, f27, f28, f29, f30, f31, f32, f33, fa].getD i 0) (fun i => [PySem.W.fnOf "is_integer" "is_integer" (defArgs (top 4)) (defBody (top 4)) (defScope (top 4)) .none kV0 dc0 pm0 an0 cd0 ct0, PySem.W.fnOf "is_block" "is_block" (defArgs (top 8)) (defBody (top 8)) (defScope (top 8)) .none kV1 dc1 pm1 an1 cd1 ct1, PySem.W.fnOf "is_within" "is_within" (defArgs (top 9)) (defBody (top 9)) (defScope (top 9)) .none kV2 dc2 pm2 an2 cd2 ct2, PySem.W.fnOf "parts_of" "parts_of" (defArgs (top 10)) (defBody (top 10)) (defScope (top 10)) .none kV3 dc3 pm3 an3 cd3 ct3, PySem.W.fnOf "faces_in" "faces_in" (defArgs (top 11)) (defBody (top 11)) (defScope (top 11)) .none kV4 dc4 pm4 an4 cd4 ct4, PySem.W.fnOf "is_cells" "is_cells" (defArgs (top 12)) (defBody (top 12)) (defScope (top 12)) .none kV5 dc5 pm5 an5 cd5 ct5, PySem.W.fnOf "facets_among" "facets_among" (defArgs (top 13)) (defBody (top 13)) (defScope (top 13)) .none kV6 dc6 pm6 an6 cd6 ct6, PySem.W.fnOf "cells_from" "cells_from" (defArgs (top 14)) (defBody (top 14)) (defScope (top 14)) .none kV7 dc7 pm7 an7 cd7 ct7, PySem.W.fnOf "is_face" "is_face" (defArgs (top 15)) (defBody (top 15)) (defScope (top 15)) .none kV8 dc8 pm8 an8 cd8 ct8, PySem.W.fnOf "all_faces" "all_faces" (defArgs (top 16)) (defBody (top 16)) (defScope (top 16)) .none kV9 dc9 pm9 an9 cd9 ct9, PySem.W.fnOf "faces_of" "faces_of" (defArgs (top 17)) (defBody (top 17)) (defScope (top 17)) .none kV10 dc10 pm10 an10 cd10 ct10, PySem.W.fnOf "dimension_of" "dimension_of" (defArgs (top 18)) (defBody (top 18)) (defScope (top 18)) .none kV11 dc11 pm11 an11 cd11 ct11, PySem.W.fnOf "face_row" "face_row" (defArgs (top 19)) (defBody (top 19)) (defScope (top 19)) .none kV12 dc12 pm12 an12 cd12 ct12, PySem.W.fnOf "euler_number" "euler_number" (defArgs (top 20)) (defBody (top 20)) (defScope (top 20)) .none kV13 dc13 pm13 an13 cd13 ct13, PySem.W.fnOf "link_of_face" "link_of_face" (defArgs (top 21)) (defBody (top 21)) (defScope (top 21)) .none kV14 dc14 pm14 an14 cd14 ct14, PySem.W.fnOf "star_of_face" "star_of_face" (defArgs (top 22)) (defBody (top 22)) (defScope (top 22)) .none kV15 dc15 pm15 an15 cd15 ct15, PySem.W.fnOf "without_point" "without_point" (defArgs (top 23)) (defBody (top 23)) (defScope (top 23)) .none kV16 dc16 pm16 an16 cd16 ct16, PySem.W.fnOf "skeleton_of" "skeleton_of" (defArgs (top 24)) (defBody (top 24)) (defScope (top 24)) .none kV17 dc17 pm17 an17 cd17 ct17, PySem.W.fnOf "_law_state" "_law_state" (defArgs (top 26)) (defBody (top 26)) (defScope (top 26)) .none kV18 dc18 pm18 an18 cd18 ct18, PySem.W.fnOf "_law_take" "_law_take" (defArgs (top 27)) (defBody (top 27)) (defScope (top 27)) .none kV19 dc19 pm19 an19 cd19 ct19, PySem.W.fnOf "_law_odd" "_law_odd" (defArgs (top 28)) (defBody (top 28)) (defScope (top 28)) .none kV20 dc20 pm20 an20 cd20 ct20, PySem.W.fnOf "_law_honest" "_law_honest" (defArgs (top 29)) (defBody (top 29)) (defScope (top 29)) .none kV21 dc21 pm21 an21 cd21 ct21, PySem.W.fnOf "_law_says" "_law_says" (defArgs (top 30)) (defBody (top 30)) (defScope (top 30)) .none kV22 dc22 pm22 an22 cd22 ct22, PySem.W.fnOf "_law_is_whole" "_law_is_whole" (defArgs (top 31)) (defBody (top 31)) (defScope (top 31)) .none kV23 dc23 pm23 an23 cd23 ct23, PySem.W.fnOf "_law_same" "_law_same" (defArgs (top 32)) (defBody (top 32)) (defScope (top 32)) .none kV24 dc24 pm24 an24 cd24 ct24, PySem.W.fnOf "_law_parts" "_law_parts" (defArgs (top 33)) (defBody (top 33)) (defScope (top 33)) .none kV25 dc25 pm25 an25 cd25 ct25, PySem.W.fnOf "_law_faces" "_law_faces" (defArgs (top 34)) (defBody (top 34)) (defScope (top 34)) .none kV26 dc26 pm26 an26 cd26 ct26, PySem.W.fnOf "_law_cells_of" "_law_cells_of" (defArgs (top 35)) (defBody (top 35)) (defScope (top 35)) .none kV27 dc27 pm27 an27 cd27 ct27, PySem.W.fnOf "_law_dimension" "_law_dimension" (defArgs (top 36)) (defBody (top 36)) (defScope (top 36)) .none kV28 dc28 pm28 an28 cd28 ct28, PySem.W.fnOf "_law_euler" "_law_euler" (defArgs (top 37)) (defBody (top 37)) (defScope (top 37)) .none kV29 dc29 pm29 an29 cd29 ct29, PySem.W.fnOf "_law_drawn_cells" "_law_drawn_cells" (defArgs (top 38)) (defBody (top 38)) (defScope (top 38)) .none kV30 dc30 pm30 an30 cd30 ct30, PySem.W.fnOf "_law_is_block" "_law_is_block" (defArgs (top 39)) (defBody (top 39)) (defScope (top 39)) .none kV31 dc31 pm31 an31 cd31 ct31, PySem.W.fnOf "_law_is_cells" "_law_is_cells" (defArgs (top 40)) (defBody (top 40)) (defScope (top 40)) .none kV32 dc32 pm32 an32 cd32 ct32, PySem.W.fnOf "_law_tried" "_law_tried" (defArgs (top 41)) (defBody (top 41)) (defScope (top 41)) .none kV33 dc33 pm33 an33 cd33 ct33, PySem.W.fnOf "law" "law" (defArgs (top 42)) (defBody (top 42)) (defScope (top 42)) .none kV34 dc34 pm34 an34 cd34 ct34].getD i (PySem.W.fnOf "is_integer" "is_integer" (defArgs (top 4)) (defBody (top 4)) (defScope (top 4)) .none kV0 dc0 pm0 an0 cd0 ct0)) cc := {
    F_is_integer := F0, g_is_integer := PySem.W.mg_of X G a0, k_is_integer := k0, b_is_integer := b0,
    F_is_block := F1, g_is_block := PySem.W.mg_of X G a1, k_is_block := k1, b_is_block := b1,
    F_is_within := F2, g_is_within := PySem.W.mg_of X G a2, k_is_within := k2, b_is_within := b2,
    F_parts_of := F3, g_parts_of := PySem.W.mg_of X G a3, k_parts_of := k3, b_parts_of := b3,
    F_faces_in := F4, g_faces_in := PySem.W.mg_of X G a4, k_faces_in := k4, b_faces_in := b4,
    F_is_cells := F5, g_is_cells := PySem.W.mg_of X G a5, k_is_cells := k5, b_is_cells := b5,
    F_facets_among := F6, g_facets_among := PySem.W.mg_of X G a6, k_facets_among := k6, b_facets_among := b6,
    F_cells_from := F7, g_cells_from := PySem.W.mg_of X G a7, k_cells_from := k7, b_cells_from := b7,
    F_is_face := F8, g_is_face := PySem.W.mg_of X G a8, k_is_face := k8, b_is_face := b8,
    F_all_faces := F9, g_all_faces := PySem.W.mg_of X G a9, k_all_faces := k9, b_all_faces := b9,
    F_faces_of := F10, g_faces_of := PySem.W.mg_of X G a10, k_faces_of := k10, b_faces_of := b10,
    F_dimension_of := F11, g_dimension_of := PySem.W.mg_of X G a11, k_dimension_of := k11, b_dimension_of := b11,
    F_face_row := F12, g_face_row := PySem.W.mg_of X G a12, k_face_row := k12, b_face_row := b12,
    F_euler_number := F13, g_euler_number := PySem.W.mg_of X G a13, k_euler_number := k13, b_euler_number := b13,
    F_link_of_face := F14, g_link_of_face := PySem.W.mg_of X G a14, k_link_of_face := k14, b_link_of_face := b14,
    F_star_of_face := F15, g_star_of_face := PySem.W.mg_of X G a15, k_star_of_face := k15, b_star_of_face := b15,
    F_without_point := F16, g_without_point := PySem.W.mg_of X G a16, k_without_point := k16, b_without_point := b16,
    F_skeleton_of := F17, g_skeleton_of := PySem.W.mg_of X G a17, k_skeleton_of := k17, b_skeleton_of := b17,
    F__law_state := F18, g__law_state := PySem.W.mg_of X G a18, k__law_state := k18, b__law_state := b18,
    F__law_take := F19, g__law_take := PySem.W.mg_of X G a19, k__law_take := k19, b__law_take := b19,
    F__law_odd := F20, g__law_odd := PySem.W.mg_of X G a20, k__law_odd := k20, b__law_odd := b20,
    F__law_honest := F21, g__law_honest := PySem.W.mg_of X G a21, k__law_honest := k21, b__law_honest := b21,
    F__law_says := F22, g__law_says := PySem.W.mg_of X G a22, k__law_says := k22, b__law_says := b22,
    F__law_is_whole := F23, g__law_is_whole := PySem.W.mg_of X G a23, k__law_is_whole := k23, b__law_is_whole := b23,
    F__law_same := F24, g__law_same := PySem.W.mg_of X G a24, k__law_same := k24, b__law_same := b24,
    F__law_parts := F25, g__law_parts := PySem.W.mg_of X G a25, k__law_parts := k25, b__law_parts := b25,
    F__law_faces := F26, g__law_faces := PySem.W.mg_of X G a26, k__law_faces := k26, b__law_faces := b26,
    F__law_cells_of := F27, g__law_cells_of := PySem.W.mg_of X G a27, k__law_cells_of := k27, b__law_cells_of := b27,
    F__law_dimension := F28, g__law_dimension := PySem.W.mg_of X G a28, k__law_dimension := k28, b__law_dimension := b28,
    F__law_euler := F29, g__law_euler := PySem.W.mg_of X G a29, k__law_euler := k29, b__law_euler := b29,
    F__law_drawn_cells := F30, g__law_drawn_cells := PySem.W.mg_of X G a30, k__law_drawn_cells := k30, b__law_drawn_cells := b30,
    F__law_is_block := F31, g__law_is_block := PySem.W.mg_of X G a31, k__law_is_block := k31, b__law_is_block := b31,
    F__law_is_cells := F32, g__law_is_cells := PySem.W.mg_of X G a32, k__law_is_cells := k32, b__law_is_cells := b32,
    F__law_tried := F33, g__law_tried := PySem.W.mg_of X G a33, k__law_tried := k33, b__law_tried := b33,
    F_law := F34, g_law := PySem.W.mg_of X G a34, k_law := k34, b_law := b34,
    m_abs := PySem.W.mg_none_of X G n_abs,
    m_all := PySem.W.mg_none_of X G n_all,
    m_any := PySem.W.mg_none_of X G n_any,
    m_bool := PySem.W.mg_none_of X G n_bool,
    m_int := PySem.W.mg_none_of X G n_int,
    m_isinstance := PySem.W.mg_none_of X G n_isinstance,
    m_len := PySem.W.mg_none_of X G n_len,
    m_list := PySem.W.mg_none_of X G n_list,
    m_max := PySem.W.mg_none_of X G n_max,
    m_range := PySem.W.mg_none_of X G n_range,
    m_set := PySem.W.mg_none_of X G n_set,
    m_sorted := PySem.W.mg_none_of X G n_sorted,
    m_str := PySem.W.mg_none_of X G n_str,
    m_sum := PySem.W.mg_none_of X G n_sum,
    m_tuple := PySem.W.mg_none_of X G n_tuple,
    c_MOST_POINT := ⟨_, PySem.W.mg_of X G v_MOST_POINT⟩,
    c_MOST_FACES := ⟨_, PySem.W.mg_of X G v_MOST_FACES⟩,
    ca0 := rfl, g_Refused := PySem.W.mg_of X G aC, xf := ⟨xga, xgg, xe, xhd⟩, nr := xno,
    sep := fun i j a b hi hj => by
      have hi : (if i = 0 then some cc else none) = some a := hi
      have hj : (if j = 0 then some cc else none) = some b := hj
      by_cases hi0 : i = 0
      · by_cases hj0 : j = 0
        · subst hi0 hj0
          cases hi; cases hj
          exact exm_self xe xis xty xss
        · rw [if_neg hj0] at hj; cases hj
      · rw [if_neg hi0] at hi; cases hi
    refused := fun X0 m p p2 pos j hX hm hc hr hg => by
      obtain ⟨hP, hw, hK⟩ := hX
      refine pmk_ref (fI := fI) (cA := cA) (cda := cda) ?_ hr hg
      rw [hm]
      first | (rw [hP, hK]; exact ref) | (rw [← hP, ← hK]; exact ref) }
  exact ⟨cc, PySem.W.fnOf "law" "law" (defArgs (top 42)) (defBody (top 42)) (defScope (top 42)) .none kV34 dc34 pm34 an34 cd34 ct34, fun s u => .of_eq rfl, fun base _ _ => ok_law T⟩
theorem spec {P : Program} {w : World} {K : PySem.W.Frag} {cc : Addr} (H : L2.Hp) (a : Addr) (ns : List Int) (hO : L2.Only H) (hS : L2.SqL K H a (ns.map L2.V.int)) (h : m_law [.scr (ns.map .int)] = .ok (.bool true)) :
    Mi.spX (cnOf P w K cc) 1 m_law .v [.ref a] H (fun v _ => v = .bl true) fun _ _ _ => False := by
  refine ⟨[.scr (ns.map .int)], fun _ => False, rfl, ?_, fun _ h => h.elim, ?_⟩
  · refine .cons (.scr (Mi.Scr.of hO hS) ?_) .nil
    clear h hS
    induction ns with
    | nil => exact .nil
    | cons n ns ih => exact .cons (.int n) ih
  · rw [h]
    intro v H' N
    obtain ⟨Z', B, -, -, -, -, -, -, r⟩ := N
    cases r with
    | v d => cases d; rfl
theorem walk {l : PySem.W.OpenLaw} {q : Program} {loose : List Str} {XP : (Str → Option Value) → Heap → Prop} {YP : World → Heap → Prop} {d : DefRec} {K : Params → PySem.W.Frag}
    (hm : ∀ ns : List Int, ns.length ≤ 63 → m_law [.scr (ns.map .int)] = .ok (.bool true))
    (hn : l.most = some 63) (hdf : d.params.defaults = []) (hY : ∀ (w : World) (h : Heap), YP w h → (K w.params).In h)
    (F : ∀ (w : World) (mg : Str → Option Value) (fa : Addr) (h : Heap), (K w.params).In h → h.Ns mainGlobals mg → mg d.name = some (.ref fa) →
      ∃ (cc : Addr) (fd : FuncData), (∀ (s : Shared) (u : Value), BindsTo s fd ⟨[u], []⟩ [("script", u)]) ∧ ∀ base : Heap, (K w.params).In base → base.Ns mainGlobals mg → FnOk l.prog w (K w.params) mg base (L2.CX l.prog w) 10 fa fd ["script"] (spX (cnOf l.prog w (K w.params) cc) 1 m_law .v)) :
    PySem.W.WalkO q loose XP YP l.row.toRowW d [] (fun f vs => PySem.call f vs) :=
  L2.walk_of (n := 63) (k := 10) (x := "script") (CX := fun w => L2.CX l.prog w) (sp := fun w vs H Q E => ∀ cc, spX (cnOf l.prog w (K w.params) cc) 1 m_law .v vs H Q E) hn (by decide) hdf ⟨rfl, by decide, by decide⟩ hY
    (fun w mg fa h X G hmg => by
      obtain ⟨cc, fd, hb, ho⟩ := F w mg fa h X G hmg
      refine ⟨fd, hb, fun base kb gb => ?_⟩
      have o := ho base kb gb
      exact ⟨fun vs H Q E h => o.1 vs H Q E (h cc), fun A outer s H args us vs Q E a1 a2 a3 a4 h => o.2 A outer s H args us vs Q E a1 a2 a3 a4 (h cc)⟩)
    (fun w H a ns hl hO hS cc => spec H a ns hO hS (hm ns hl))
    (fun w H s e s' h => by
      obtain ⟨_, _, _, _, _, _, _, _, _, _, _, _, hF⟩ := h
      exact hF)

end K88

set_option maxRecDepth 2000
namespace Pu
abbrev F := List Int
def Inc (f : F) : Prop := f.Pairwise (· < ·)
instance (f : F) : Decidable (Inc f) := by unfold Inc; exact inferInstance
def sub (a b : F) : Bool := a.all fun x => b.contains x
theorem sub_iff {a b : F} : sub a b = true ↔ ∀ x ∈ a, x ∈ b := by simp [sub]
theorem sub_refl (a : F) : sub a a = true := sub_iff.2 fun _ h => h
theorem sub_trans {a b c : F} (h1 : sub a b = true) (h2 : sub b c = true) : sub a c = true := sub_iff.2 fun x hx => sub_iff.1 h2 x (sub_iff.1 h1 x hx)
theorem inc_sublist : ∀ {b a : F}, Inc a → Inc b → (∀ x ∈ a, x ∈ b) → a.Sublist b
  | [], [], _, _, _ => .slnil
  | [], y :: a, _, _, h => by simpa using h y (by simp)
  | x :: b, [], _, _, _ => List.nil_sublist _
  | x :: b, y :: a, ha, hb, h => by
    have ha' := List.pairwise_cons.1 ha
    have hb' := List.pairwise_cons.1 hb
    by_cases e : y = x
    · subst e
      refine .cons_cons _ (inc_sublist ha'.2 hb'.2 fun z hz => ?_)
      rcases List.mem_cons.1 (h z (by simp [hz])) with q | q
      · have := ha'.1 z hz; omega
      · exact q
    · refine .cons _ (inc_sublist ha hb'.2 fun z hz => ?_)
      rcases List.mem_cons.1 (h z hz) with q | q
      · subst q
        have h1 : y ∈ b := by
          rcases List.mem_cons.1 (h y (by simp)) with q | q
          · exact absurd q e
          · exact q
        have h2 := hb'.1 y h1
        rcases List.mem_cons.1 hz with q | q
        · exact absurd q.symm e
        · have := ha'.1 _ q; omega
      · exact q
theorem inc_sub {a b : F} (h : a.Sublist b) (hb : Inc b) : Inc a := List.Pairwise.sublist h hb
theorem inc_eq {a b : F} (ha : Inc a) (hb : Inc b) (h1 : ∀ x ∈ a, x ∈ b) (h2 : ∀ x ∈ b, x ∈ a) : a = b :=
  List.Sublist.eq_of_length_le (inc_sublist ha hb h1) (inc_sublist hb ha h2).length_le
theorem inc_nodup {a : F} (h : Inc a) : a.Nodup := List.Pairwise.imp (fun h => by omega) h
/-- nothing larger around it -/
def mx (l : List F) (o : F) : Bool := !l.any fun t => decide (o.length < t.length) && sub o t
theorem mx_iff {l : List F} {o : F} : mx l o = true ↔ ∀ t ∈ l, o.length < t.length → sub o t = false := by
  simp [mx]
theorem mx_congr {l m : List F} (h : ∀ x, x ∈ l ↔ x ∈ m) (o : F) : mx l o = mx m o := by
  rw [Bool.eq_iff_iff, mx_iff, mx_iff]
  exact ⟨fun q t ht => q t ((h t).2 ht), fun q t ht => q t ((h t).1 ht)⟩
/-- C lists the parts of what S lists -/
def Clo (S C : List F) : Prop := ∀ g, g ∈ C ↔ g ≠ [] ∧ Inc g ∧ ∃ o ∈ S, ∀ x ∈ g, x ∈ o
def Good (S : List F) : Prop := ∀ o ∈ S, o ≠ [] ∧ Inc o
theorem Clo.max {S C : List F} (h : Clo S C) (hS : Good S) (o : F) : (o ∈ S ∧ mx S o = true) ↔ (o ∈ C ∧ mx C o = true) := by
  have hsc : ∀ t ∈ S, t ∈ C := fun t ht => (h t).2 ⟨(hS t ht).1, (hS t ht).2, t, ht, fun _ q => q⟩
  constructor
  · rintro ⟨h1, h2⟩
    refine ⟨hsc o h1, mx_iff.2 fun t ht hl => ?_⟩
    obtain ⟨_, it, b, hb, hx⟩ := (h t).1 ht
    have := (inc_sublist it (hS b hb).2 hx).length_le
    have q := mx_iff.1 h2 b hb (by omega)
    cases e : sub o t with
    | false => rfl
    | true => rw [sub_trans e (sub_iff.2 hx)] at q; cases q
  · rintro ⟨h1, h2⟩
    obtain ⟨_, io, b, hb, hx⟩ := (h o).1 h1
    have hle : b.length ≤ o.length := by
      by_cases q : o.length < b.length
      · have := mx_iff.1 h2 b (hsc b hb) q
        rw [sub_iff.2 hx] at this; cases this
      · omega
    have e := List.Sublist.eq_of_length_le (inc_sublist io (hS b hb).2 hx) hle
    subst e
    exact ⟨hb, mx_iff.2 fun t ht hl => mx_iff.1 h2 t (hsc t ht) hl⟩
/-- antichain -/
def Anti (k : List F) : Prop := ∀ o ∈ k, mx k o = true

/-! order -/
class Ord (le : F → F → Bool) : Prop where
  tr : ∀ a b c, le a b = true → le b c = true → le a c = true
  tot : ∀ a b, (le a b || le b a) = true
  an : ∀ a b, le a b = true → le b a = true → a = b
section
variable {le : F → F → Bool} [O : Ord le]
def SSd (le : F → F → Bool) (l : List F) : Prop := l.Pairwise (fun a b => le a b = true) ∧ l.Nodup
theorem SSd.eq {l m : List F} (hl : SSd le l) (hm : SSd le m) (h : ∀ x, x ∈ l ↔ x ∈ m) : l = m :=
  List.Perm.eq_of_pairwise (le := fun a b => le a b = true) (fun a b _ _ => O.an a b) hl.1 hm.1 ((List.perm_ext_iff_of_nodup hl.2 hm.2).2 h)
def srt (le : F → F → Bool) (l : List F) : List F := l.mergeSort le
theorem mem_srt {l : List F} {x : F} : x ∈ srt le l ↔ x ∈ l := (List.mergeSort_perm _ _).mem_iff
theorem length_srt (l : List F) : (srt le l).length = l.length := (List.mergeSort_perm l le).length_eq
theorem ssd_srt {l : List F} (h : l.Nodup) : SSd le (srt le l) := ⟨List.pairwise_mergeSort O.tr O.tot l, (List.mergeSort_perm l le).nodup_iff.2 h⟩
theorem srt_eq {l m : List F} (hl : l.Nodup) (hm : SSd le m) (h : ∀ x, x ∈ l ↔ x ∈ m) : srt le l = m := (ssd_srt hl).eq hm fun x => mem_srt.trans (h x)
theorem srt_id {m : List F} (hm : SSd le m) : srt le m = m := srt_eq hm.2 hm fun _ => .rfl
theorem SSd.filter {l : List F} (h : SSd le l) (p : F → Bool) : SSd le (l.filter p) := ⟨h.1.filter p, h.2.filter p⟩
theorem SSd.sublist {l m : List F} (h : SSd le l) (s : m.Sublist l) : SSd le m := ⟨h.1.sublist s, h.2.sublist s⟩
/-- facets_among -/
def facetsI (le : F → F → Bool) (dd : List F → List F) (l : List F) : List F := (srt le (dd l)).filter (mx (srt le (dd l)))
/-- _law_cells_of -/
def cellsI (le : F → F → Bool) (l : List F) : List F := srt le (l.filter (mx l))
variable {dd : List F → List F} (hdd : ∀ l, (dd l).Nodup ∧ ∀ x, x ∈ dd l ↔ x ∈ l)
include hdd in
theorem mem_facetsI {l : List F} {x : F} : x ∈ facetsI le dd l ↔ x ∈ l ∧ mx l x = true := by
  unfold facetsI
  have h : ∀ x, x ∈ srt le (dd l) ↔ x ∈ l := fun x => mem_srt.trans ((hdd l).2 x)
  rw [List.mem_filter, h, mx_congr h]
theorem mem_cellsI {l : List F} {x : F} : x ∈ cellsI le l ↔ x ∈ l ∧ mx l x = true := by
  unfold cellsI
  rw [mem_srt, List.mem_filter]
include hdd in
theorem ssd_facetsI (l : List F) : SSd le (facetsI le dd l) := (ssd_srt (hdd l).1).filter _
theorem ssd_cellsI {l : List F} (h : l.Nodup) : SSd le (cellsI le l) := ssd_srt (h.filter _)
include hdd in
theorem facets_cells {l : List F} (h : l.Nodup) : facetsI le dd l = cellsI le l :=
  (ssd_facetsI hdd l).eq (ssd_cellsI h) fun x => (mem_facetsI hdd).trans mem_cellsI.symm
include hdd in
theorem facets_clo {S C : List F} (h : Clo S C) (hS : Good S) (hC : C.Nodup) : facetsI le dd S = cellsI le C :=
  (ssd_facetsI hdd S).eq (ssd_cellsI hC) fun x => (mem_facetsI hdd).trans ((h.max hS x).trans mem_cellsI.symm)
theorem cells_clo {k C : List F} (h : Clo k C) (hk : Good k) (hs : SSd le k) (ha : Anti k) (hC : C.Nodup) : cellsI le C = k :=
  (ssd_cellsI hC).eq hs fun x => mem_cellsI.trans ((h.max hk x).symm.trans ⟨fun q => q.1, fun q => ⟨q, ha x q⟩⟩)
theorem anti_filter {k : List F} (h : Anti k) (p : F → Bool) : Anti (k.filter p) := fun o ho => mx_iff.2 fun t ht hl => mx_iff.1 (h o (List.mem_filter.1 ho).1) t (List.mem_filter.1 ht).1 hl
theorem good_filter {k : List F} (h : Good k) (p : F → Bool) : Good (k.filter p) := fun o ho => h o (List.mem_filter.1 ho).1
theorem anti_cellsI {l : List F} : Anti (cellsI le l) := fun o ho => mx_iff.2 fun t ht hl => mx_iff.1 (mem_cellsI.1 ho).2 t (mem_cellsI.1 ht).1 hl
end

/-! the dict -/
def ins (l : List F) (x : F) : List F := if x ∈ l then l else l ++ [x]
theorem mem_ins {l : List F} {x y : F} : y ∈ ins l x ↔ y ∈ l ∨ y = x := by
  unfold ins
  split
  · exact ⟨.inl, fun h => h.elim id fun e => e ▸ ‹_›⟩
  · simp
theorem nodup_ins {l : List F} {x : F} (h : l.Nodup) : (ins l x).Nodup := by
  unfold ins
  split
  · exact h
  · rename_i n
    rw [List.nodup_append]
    exact ⟨h, by simp, fun a ha b hb e => n (by simp at hb; rw [← hb, ← e]; exact ha)⟩
theorem length_ins (l : List F) (x : F) : l.length ≤ (ins l x).length ∧ (ins l x).length ≤ l.length + 1 := by
  unfold ins
  split <;> simp
def insL (l xs : List F) : List F := xs.foldl ins l
theorem mem_insL {y : F} : ∀ {xs l : List F}, y ∈ insL l xs ↔ y ∈ l ∨ y ∈ xs
  | [], l => by simp [insL]
  | x :: xs, l => by
    show y ∈ insL (ins l x) xs ↔ _
    rw [mem_insL, mem_ins, List.mem_cons, or_assoc]
theorem nodup_insL : ∀ {xs l : List F}, l.Nodup → (insL l xs).Nodup
  | [], l, h => h
  | x :: xs, l, h => nodup_insL (xs := xs) (nodup_ins h)
theorem length_insL : ∀ (xs l : List F), l.length ≤ (insL l xs).length ∧ (insL l xs).length ≤ l.length + xs.length
  | [], l => by simp [insL]
  | x :: xs, l => by
    have h := length_insL xs (ins l x)
    have h2 := length_ins l x
    show l.length ≤ (insL (ins l x) xs).length ∧ (insL (ins l x) xs).length ≤ _
    simp only [List.length_cons]
    omega
def insP (pt : F → List F) (l ks : List F) : List F := ks.foldl (fun a b => insL a (pt b)) l
theorem mem_insP {pt : F → List F} {y : F} : ∀ {ks l : List F}, y ∈ insP pt l ks ↔ y ∈ l ∨ ∃ o ∈ ks, y ∈ pt o
  | [], l => by simp [insP]
  | x :: ks, l => by
    show y ∈ insP pt (insL l (pt x)) ks ↔ _
    rw [mem_insP, mem_insL]
    simp [or_assoc]
theorem nodup_insP {pt : F → List F} : ∀ {ks l : List F}, l.Nodup → (insP pt l ks).Nodup
  | [], l, h => h
  | x :: ks, l, h => nodup_insP (ks := ks) (nodup_insL h)
theorem length_insP {pt : F → List F} : ∀ (ks l : List F), l.length ≤ (insP pt l ks).length
  | [], l => by simp [insP]
  | x :: ks, l => Nat.le_trans (length_insL (pt x) l).1 (length_insP ks _)

/-! the parts -/
def grow (fs : List F) (x : Int) : List F := fs ++ fs.map (· ++ [x])
def growL (fs : List F) (x : Int) : List F := fs.flatMap fun f => [f, f ++ [x]]
theorem mem_grow {fs : List F} {x : Int} {g : F} : g ∈ grow fs x ↔ g ∈ fs ∨ ∃ f ∈ fs, f ++ [x] = g := by simp [grow]
theorem mem_growL {fs : List F} {x : Int} {g : F} : g ∈ growL fs x ↔ g ∈ fs ∨ ∃ f ∈ fs, f ++ [x] = g := by
  simp only [growL, List.mem_flatMap, List.mem_cons, List.not_mem_nil, or_false]
  constructor
  · rintro ⟨f, h, rfl | rfl⟩
    · exact .inl h
    · exact .inr ⟨f, h, rfl⟩
  · rintro (h | ⟨f, h, rfl⟩)
    · exact ⟨g, h, .inl rfl⟩
    · exact ⟨f, h, .inr rfl⟩
theorem mem_fold {gr : List F → Int → List F} (hg : ∀ fs x g, g ∈ gr fs x ↔ g ∈ fs ∨ ∃ f ∈ fs, f ++ [x] = g) : ∀ (b : F) (fs : List F) (g : F), g ∈ b.foldl gr fs ↔ ∃ f ∈ fs, ∃ h, h.Sublist b ∧ g = f ++ h
  | [], fs, g => by
    constructor
    · exact fun h => ⟨g, h, [], .slnil, by simp⟩
    · rintro ⟨f, hf, h, hs, rfl⟩
      rw [List.sublist_nil.1 hs]; simpa using hf
  | x :: b, fs, g => by
    show g ∈ b.foldl gr (gr fs x) ↔ _
    rw [mem_fold hg b]
    constructor
    · rintro ⟨f, hf, h, hs, rfl⟩
      rcases (hg fs x f).1 hf with q | ⟨f0, q, rfl⟩
      · exact ⟨f, q, h, .cons _ hs, rfl⟩
      · exact ⟨f0, q, x :: h, .cons_cons _ hs, by simp⟩
    · rintro ⟨f, hf, h, hs, rfl⟩
      cases hs with
      | cons _ hs => exact ⟨f, (hg fs x f).2 (.inl hf), h, hs, rfl⟩
      | cons_cons _ hs => rename_i h'; exact ⟨f ++ [x], (hg fs x _).2 (.inr ⟨f, hf, rfl⟩), h', hs, by simp⟩
def partsA (b : F) : List F := (b.foldl grow [[]]).filter fun f => decide (0 < f.length)
def partsL (b : F) : List F := (b.foldl growL [[]]).filter fun f => decide (0 < f.length)
theorem mem_partsA {b g : F} : g ∈ partsA b ↔ g ≠ [] ∧ g.Sublist b := by
  unfold partsA
  rw [List.mem_filter, mem_fold fun _ _ _ => mem_grow]
  simp [List.length_pos_iff, and_comm]
theorem mem_partsL {b g : F} : g ∈ partsL b ↔ g ≠ [] ∧ g.Sublist b := by
  unfold partsL
  rw [List.mem_filter, mem_fold fun _ _ _ => mem_growL]
  simp [List.length_pos_iff, and_comm]
theorem clo_insP {pt : F → List F} (hp : ∀ b g, g ∈ pt b ↔ g ≠ [] ∧ g.Sublist b) {k : List F} (hk : Good k) : Clo k (insP pt [] k) := by
  intro g
  rw [mem_insP]
  simp only [List.not_mem_nil, false_or]
  constructor
  · rintro ⟨o, ho, hg⟩
    obtain ⟨h1, h2⟩ := (hp o g).1 hg
    exact ⟨h1, inc_sub h2 (hk o ho).2, o, ho, fun x hx => h2.subset hx⟩
  · rintro ⟨h1, h2, o, ho, hx⟩
    exact ⟨o, ho, (hp o g).2 ⟨h1, inc_sublist h2 (hk o ho).2 hx⟩⟩
theorem Clo.congr {S C D : List F} (h : Clo S C) (hd : ∀ x, x ∈ D ↔ x ∈ C) : Clo S D := fun g => (hd g).trans (h g)
theorem length_foldA : ∀ (b : F) (fs : List F), (b.foldl grow fs).length = fs.length * 2 ^ b.length
  | [], fs => by simp
  | x :: b, fs => by
    show (b.foldl grow (grow fs x)).length = _
    rw [length_foldA b]
    simp [grow, Nat.pow_succ]
    rw [← Nat.two_mul, Nat.mul_comm 2, Nat.mul_assoc, Nat.mul_comm 2]
end Pu

namespace Pu
/-! counting -/
def cnt (n : Nat) (l : List F) : Nat := (l.filter fun g => decide (g.length = n)).length
theorem cnt_cons (n : Nat) (g : F) (l : List F) : cnt n (g :: l) = (if g.length = n then 1 else 0) + cnt n l := by
  unfold cnt
  rw [List.filter_cons]
  by_cases h : g.length = n
  · simp [h]; omega
  · simp [h]
theorem length_cnt : ∀ {l : List F}, (∀ g ∈ l, g ≠ [] ∧ g.length ≤ 4) → l.length = cnt 1 l + cnt 2 l + cnt 3 l + cnt 4 l
  | [], _ => rfl
  | g :: l, h => by
    have ih := length_cnt fun x hx => h x (List.mem_cons_of_mem g hx)
    have hg := h g (by simp)
    have h0 : 0 < g.length := List.length_pos_iff.2 hg.1
    simp only [cnt_cons, List.length_cons, ih]
    have : g.length = 1 ∨ g.length = 2 ∨ g.length = 3 ∨ g.length = 4 := by omega
    rcases this with e | e | e | e <;> simp [e] <;> omega
def all1 : List F := (List.range 7).map fun (i : Nat) => [(i : Int)]
def all2 : List F := (List.range 7).flatMap fun (i : Nat) => ((List.range 7).filter fun j => decide (i < j)).map fun (j : Nat) => [(i : Int), (j : Int)]
theorem cnt_le {n : Nat} {l m : List F} (hl : l.Nodup) (h : ∀ g ∈ l, g.length = n → g ∈ m) : cnt n l ≤ m.length := by
  refine List.Nodup.length_le_of_subset (hl.filter _) fun g hg => ?_
  obtain ⟨h1, h2⟩ := List.mem_filter.1 hg
  exact h g h1 (of_decide_eq_true h2)
theorem three_le : ∀ b : F, b.length ≤ 4 → cnt 3 (partsL b) ≤ 4
  | [], _ => Nat.zero_le _
  | [_], _ => Nat.zero_le _
  | [_, _], _ => Nat.zero_le _
  | [_, _, _], _ => by show 1 ≤ 4; decide
  | [_, _, _, _], _ => by show 4 ≤ 4; decide
  | _ :: _ :: _ :: _ :: _ :: _, h => by simp at h
theorem flat_le {f : F → List F} {c : Nat} : ∀ {k : List F}, (∀ b ∈ k, (f b).length ≤ c) → (k.flatMap f).length ≤ k.length * c
  | [], _ => by simp
  | b :: k, h => by
    have ih := flat_le (k := k) fun x hx => h x (List.mem_cons_of_mem b hx)
    have := h b (by simp)
    rw [List.flatMap_cons, List.length_append, List.length_cons, Nat.succ_mul]
    omega
def Small (o : F) : Prop := o.length ≤ 4 ∧ ∀ x ∈ o, 0 ≤ x ∧ x ≤ 6
theorem count63 {k C : List F} (hk : Good k) (hs : ∀ o ∈ k, Small o) (h7 : k.length ≤ 7) (h : Clo k C) (hn : C.Nodup) : C.length ≤ 63 := by
  have hC : ∀ g ∈ C, g ≠ [] ∧ Inc g ∧ ∃ o ∈ k, g.Sublist o := fun g hg => by
    obtain ⟨h1, h2, o, ho, hx⟩ := (h g).1 hg
    exact ⟨h1, h2, o, ho, inc_sublist h2 (hk o ho).2 hx⟩
  rw [length_cnt fun g hg => by
    obtain ⟨h1, _, o, ho, hsub⟩ := hC g hg
    exact ⟨h1, Nat.le_trans hsub.length_le (hs o ho).1⟩]
  have c1 : cnt 1 C ≤ 7 := cnt_le (m := all1) hn fun g hg e => by
    obtain ⟨_, _, o, ho, hsub⟩ := hC g hg
    obtain ⟨a, rfl⟩ := List.length_eq_one_iff.1 e
    have := (hs o ho).2 a (hsub.subset (by simp))
    simp only [all1, List.mem_map, List.mem_range]
    exact ⟨a.toNat, by omega, by simp; omega⟩
  have c2 : cnt 2 C ≤ 21 := cnt_le (m := all2) hn fun g hg e => by
    obtain ⟨_, hi, o, ho, hsub⟩ := hC g hg
    match g, e with
    | [a, b], _ =>
      have h1 := (hs o ho).2 a (hsub.subset (by simp))
      have h2 := (hs o ho).2 b (hsub.subset (by simp))
      have h3 : a < b := by simpa [Inc] using hi
      simp only [all2, List.mem_flatMap, List.mem_map, List.mem_range, List.mem_filter, decide_eq_true_eq]
      exact ⟨a.toNat, by omega, b.toNat, ⟨by omega, by omega⟩, by simp; omega⟩
  have c3 : cnt 3 C ≤ 28 := by
    refine Nat.le_trans (cnt_le (m := k.flatMap fun b => (partsL b).filter fun g => decide (g.length = 3)) hn fun g hg e => ?_) ?_
    · obtain ⟨h1, _, o, ho, hsub⟩ := hC g hg
      exact List.mem_flatMap.2 ⟨o, ho, List.mem_filter.2 ⟨mem_partsL.2 ⟨h1, hsub⟩, by simpa using e⟩⟩
    · exact Nat.le_trans (flat_le (c := 4) fun b hb => three_le b (hs b hb).1) (by omega)
  have c4 : cnt 4 C ≤ 7 := by
    refine Nat.le_trans (cnt_le (m := k) hn fun g hg e => ?_) h7
    obtain ⟨_, _, o, ho, hsub⟩ := hC g hg
    rw [List.Sublist.eq_of_length_le hsub (by have := (hs o ho).1; omega)]
    exact ho
  omega
/-! the largest ones of a closed set -/
theorem ex_max {D : List F} (h4 : ∀ o ∈ D, o.length ≤ 4) : ∀ (n : Nat) (o : F), o ∈ D → 4 ≤ n + o.length → ∃ t ∈ D, mx D t = true ∧ ∀ x ∈ o, x ∈ t
  | n, o, ho, hn => by
    cases e : mx D o with
    | true => exact ⟨o, ho, e, fun _ h => h⟩
    | false =>
      have : ∃ t ∈ D, o.length < t.length ∧ sub o t = true := by
        simp [mx] at e
        obtain ⟨t, h1, h2, h3⟩ := e
        exact ⟨t, h1, h2, h3⟩
      obtain ⟨t, ht, hl, hs⟩ := this
      match n, hn with
      | 0, hn => have := h4 t ht; omega
      | n + 1, hn =>
        obtain ⟨u, hu, m, hx⟩ := ex_max h4 n t ht (by omega)
        exact ⟨u, hu, m, fun x q => hx x (sub_iff.1 hs x q)⟩
theorem clo_max {S D k : List F} (h : Clo S D) (hS : Good S) (h4 : ∀ o ∈ S, o.length ≤ 4) (hk : ∀ x, x ∈ k ↔ x ∈ D ∧ mx D x = true) : Clo k D := by
  have hD4 : ∀ o ∈ D, o.length ≤ 4 := fun o ho => by
    obtain ⟨_, h2, b, hb, hx⟩ := (h o).1 ho
    exact Nat.le_trans (inc_sublist h2 (hS b hb).2 hx).length_le (h4 b hb)
  intro g
  constructor
  · intro hg
    obtain ⟨h1, h2, b, hb, hx⟩ := (h g).1 hg
    obtain ⟨t, ht, m, hy⟩ := ex_max hD4 4 g hg (by omega)
    exact ⟨h1, h2, t, (hk t).2 ⟨ht, m⟩, hy⟩
  · rintro ⟨h1, h2, o, ho, hx⟩
    obtain ⟨_, _, b, hb, hy⟩ := (h o).1 ((hk o).1 ho).1
    exact (h g).2 ⟨h1, h2, b, hb, fun x q => hy x (hx x q)⟩
/-! int sorting -/
def isort (l : F) : F := l.mergeSort fun a b => decide (a ≤ b)
theorem mem_isort {l : F} {x : Int} : x ∈ isort l ↔ x ∈ l := (List.mergeSort_perm _ _).mem_iff
theorem inc_isort {l : F} (h : l.Nodup) : Inc (isort l) := by
  have h1 : (isort l).Pairwise (fun a b => decide (a ≤ b) = true) := List.pairwise_mergeSort (fun a b c h1 h2 => by simp at *; omega) (fun a b => by simp; omega) l
  have h2 : (isort l).Nodup := (List.mergeSort_perm l _).nodup_iff.2 h
  exact (List.pairwise_and_iff.2 ⟨h1, h2⟩).imp fun ⟨a, b⟩ => by simp at a; omega
theorem isort_ne {l : F} (h : l ≠ []) : isort l ≠ [] := by
  intro e
  apply h
  have := (List.mergeSort_perm l fun a b => decide (a ≤ b)).length_eq
  unfold isort at e
  rw [e] at this
  exact List.length_eq_zero_iff.1 this.symm
/-- a face listed: sorted union -/
theorem in_union {k C : List F} (h : Clo k C) {f g : F} (hf : f ≠ []) (hn : (f ++ g).Nodup) : isort (f ++ g) ∈ C ↔ ∃ o ∈ k, (∀ x ∈ f, x ∈ o) ∧ ∀ x ∈ g, x ∈ o := by
  rw [h]
  constructor
  · rintro ⟨_, _, o, ho, hx⟩
    exact ⟨o, ho, fun x q => hx x (mem_isort.2 (by simp [q])), fun x q => hx x (mem_isort.2 (by simp [q]))⟩
  · rintro ⟨o, ho, h1, h2⟩
    refine ⟨isort_ne (by simp [hf]), inc_isort hn, o, ho, fun x q => ?_⟩
    rcases List.mem_append.1 (mem_isort.1 q) with q | q
    · exact h1 x q
    · exact h2 x q
def linkS (k : List F) (f : F) : List F := ((k.filter fun o => sub f o).map fun o => o.filter fun x => !f.contains x).filter fun o => decide (0 < o.length)
def linkC (C : List F) (f : F) : List F := C.filter fun g => decide ((g.filter fun p => f.contains p).length = 0) && C.contains (isort (f ++ g))
theorem good_linkS {k : List F} (hk : Good k) (f : F) : Good (linkS k f) := fun o ho => by
  obtain ⟨h1, h2⟩ := List.mem_filter.1 ho
  obtain ⟨b, hb, rfl⟩ := List.mem_map.1 h1
  exact ⟨List.length_pos_iff.1 (of_decide_eq_true h2), inc_sub List.filter_sublist (hk b (List.mem_filter.1 hb).1).2⟩
theorem mem_linkS {k : List F} {f g : F} : g ∈ linkS k f ↔ ∃ o ∈ k, (∀ x ∈ f, x ∈ o) ∧ g = (o.filter fun x => !f.contains x) ∧ g ≠ [] := by
  simp only [linkS, List.mem_filter, List.mem_map, sub_iff, decide_eq_true_eq, List.length_pos_iff]
  constructor
  · rintro ⟨⟨o, ⟨h1, h2⟩, rfl⟩, h3⟩
    exact ⟨o, h1, h2, rfl, h3⟩
  · rintro ⟨o, h1, h2, rfl, h3⟩
    exact ⟨⟨o, ⟨h1, h2⟩, rfl⟩, h3⟩
theorem nodup_app {f g : F} (hf : Inc f) (hg : Inc g) (h : ∀ x ∈ g, x ∉ f) : (f ++ g).Nodup :=
  List.nodup_append.2 ⟨inc_nodup hf, inc_nodup hg, fun a ha b hb e => h b hb (e ▸ ha)⟩
theorem link_clo {k C : List F} (h : Clo k C) (hk : Good k) {f : F} (hf : f ∈ C) : Clo (linkS k f) (linkC C f) := by
  obtain ⟨f1, f2, _⟩ := (h f).1 hf
  intro g
  have dis : ∀ g : F, (decide ((g.filter fun p => f.contains p).length = 0) = true) ↔ ∀ x ∈ g, x ∉ f := by
    intro g
    simp [List.length_eq_zero_iff, List.filter_eq_nil_iff]
  simp only [linkC, List.mem_filter, Bool.and_eq_true, dis, List.contains_iff_mem, mem_linkS]
  constructor
  · rintro ⟨hg, hd, hu⟩
    obtain ⟨g1, g2, _⟩ := (h g).1 hg
    obtain ⟨o, ho, h1, h2⟩ := (in_union h f1 (nodup_app f2 g2 hd)).1 hu
    have hx : ∀ x ∈ g, x ∈ o.filter fun x => !f.contains x := fun x q => List.mem_filter.2 ⟨h2 x q, by simpa using hd x q⟩
    refine ⟨g1, g2, _, ⟨o, ho, h1, rfl, fun e => ?_⟩, hx⟩
    obtain ⟨y, hy⟩ := List.exists_mem_of_ne_nil g g1
    have := hx y hy
    rw [e] at this; cases this
  · rintro ⟨g1, g2, _, ⟨o, ho, h1, rfl, h3⟩, hx⟩
    have hd : ∀ x ∈ g, x ∉ f := fun x q => by simpa using (List.mem_filter.1 (hx x q)).2
    have h2 : ∀ x ∈ g, x ∈ o := fun x q => (List.mem_filter.1 (hx x q)).1
    exact ⟨(h g).2 ⟨g1, g2, o, ho, h2⟩, hd, (in_union h f1 (nodup_app f2 g2 hd)).2 ⟨o, ho, h1, h2⟩⟩
def starC (C : List F) (f : F) : List F := C.filter fun g => C.contains (isort (f ++ g.filter fun p => !f.contains p))
theorem star_clo {k C : List F} (h : Clo k C) (hk : Good k) {f : F} (hf : f ∈ C) : Clo (k.filter fun o => sub f o) (starC C f) := by
  obtain ⟨f1, f2, _⟩ := (h f).1 hf
  intro g
  simp only [starC, List.mem_filter, List.contains_iff_mem, sub_iff]
  have hn : ∀ g : F, Inc g → (f ++ g.filter fun p => !f.contains p).Nodup := fun g g2 => nodup_app f2 (inc_sub List.filter_sublist g2) fun x q => by simpa using (List.mem_filter.1 q).2
  constructor
  · rintro ⟨hg, hu⟩
    obtain ⟨g1, g2, _⟩ := (h g).1 hg
    obtain ⟨o, ho, h1, h2⟩ := (in_union h f1 (hn g g2)).1 hu
    refine ⟨g1, g2, o, ⟨ho, h1⟩, fun x q => ?_⟩
    by_cases e : x ∈ f
    · exact h1 x e
    · exact h2 x (List.mem_filter.2 ⟨q, by simpa using e⟩)
  · rintro ⟨g1, g2, o, ⟨ho, h1⟩, hx⟩
    exact ⟨(h g).2 ⟨g1, g2, o, ho, hx⟩, (in_union h f1 (hn g g2)).2 ⟨o, ho, h1, fun x q => hx x (List.mem_filter.1 q).1⟩⟩
def withS (k : List F) (p : Int) : List F := (k.map fun o => o.filter fun x => x != p).filter fun o => decide (0 < o.length)
def withC (C : List F) (p : Int) : List F := C.filter fun g => !g.contains p
theorem good_withS {k : List F} (hk : Good k) (p : Int) : Good (withS k p) := fun o ho => by
  obtain ⟨h1, h2⟩ := List.mem_filter.1 ho
  obtain ⟨b, hb, rfl⟩ := List.mem_map.1 h1
  exact ⟨List.length_pos_iff.1 (of_decide_eq_true h2), inc_sub List.filter_sublist (hk b hb).2⟩
theorem with_clo {k C : List F} (h : Clo k C) (hk : Good k) (p : Int) : Clo (withS k p) (withC C p) := by
  intro g
  simp only [withC, withS, List.mem_filter, List.mem_map, decide_eq_true_eq, List.length_pos_iff]
  constructor
  · rintro ⟨hg, hp⟩
    obtain ⟨g1, g2, o, ho, hx⟩ := (h g).1 hg
    have hp : p ∉ g := by simpa using hp
    have hy : ∀ x ∈ g, x ∈ o.filter fun x => x != p := fun x q => List.mem_filter.2 ⟨hx x q, by simp; intro e; exact hp (e ▸ q)⟩
    refine ⟨g1, g2, _, ⟨⟨o, ho, rfl⟩, fun e => ?_⟩, hy⟩
    obtain ⟨y, q⟩ := List.exists_mem_of_ne_nil g g1
    have := hy y q
    rw [e] at this; cases this
  · rintro ⟨g1, g2, _, ⟨⟨o, ho, rfl⟩, _⟩, hx⟩
    exact ⟨(h g).2 ⟨g1, g2, o, ho, fun x q => (List.mem_filter.1 (hx x q)).1⟩, by simpa using fun q => by simpa using (List.mem_filter.1 (hx p q)).2⟩
end Pu

namespace Pu
/-! adjacency -/
def AdjI (R : α → α → Prop) (d : α) (l : List α) : Prop := ∀ i, i + 1 < l.length → R (l.getD i d) (l.getD (i + 1) d)
theorem adj_pair {R : Int → Int → Prop} (tr : ∀ a b c, R a b → R b c → R a c) {d : Int} : ∀ {l : F}, AdjI R d l → l.Pairwise R
  | [], _ => .nil
  | [a], _ => by simp
  | a :: b :: l, h => by
    have h0 := h 0 (by simp)
    have ht : AdjI R d (b :: l) := fun i hi => h (i + 1) (by simp at hi ⊢; omega)
    have ih := adj_pair tr ht
    refine List.pairwise_cons.2 ⟨fun x hx => ?_, ih⟩
    rcases List.mem_cons.1 hx with e | hx
    · subst e; exact h0
    · exact tr _ _ _ h0 ((List.pairwise_cons.1 ih).1 x hx)
theorem pair_adj {R : Int → Int → Prop} {d : Int} {l : F} (h : l.Pairwise R) : AdjI R d l := fun i hi => by
  have h0 : i < l.length := by omega
  rw [List.getD_eq_getElem?_getD, List.getD_eq_getElem?_getD, List.getElem?_eq_getElem hi, List.getElem?_eq_getElem h0]
  exact List.pairwise_iff_getElem.1 h i (i + 1) h0 hi (by omega)
def adjB (f : F) : Bool := (List.range (f.length - 1)).all fun i => decide (f.getD i 0 < f.getD (i + 1) 0)
theorem adjB_iff {f : F} : adjB f = true ↔ Inc f := by
  unfold adjB Inc
  rw [List.all_eq_true]
  constructor
  · intro h
    exact adj_pair (R := fun a b => a < b) (fun a b c => Int.lt_trans) (d := 0) (l := f) fun i hi => of_decide_eq_true (h i (List.mem_range.2 (by omega)))
  · intro h i hi
    have hi := List.mem_range.1 hi
    have q : i + 1 < f.length := by omega
    exact decide_eq_true (pair_adj (R := fun a b => a < b) (d := 0) h i q)
def adjL (f : F) : Bool := decide (((List.range (f.length - 1)).filter fun i => decide (f.getD (i + 1) 0 ≤ f.getD i 0)).length = 0)
theorem adjL_eq (f : F) : adjL f = adjB f := by
  unfold adjL adjB
  rw [Bool.eq_iff_iff, decide_eq_true_eq, List.length_eq_zero_iff, List.filter_eq_nil_iff, List.all_eq_true]
  constructor
  · intro h i hi
    have := h i hi
    simp only [decide_eq_true_eq] at this ⊢
    omega
  · intro h i hi
    have := h i hi
    simp only [decide_eq_true_eq] at this ⊢
    omega
def rngB (f : F) : Bool := f.all fun x => decide (0 ≤ x) && decide (x ≤ 15)
def isBlk (f : F) : Bool := decide (f.length ≠ 0) && rngB f && adjB f
theorem isBlk_iff {f : F} : isBlk f = true ↔ f ≠ [] ∧ (∀ x ∈ f, 0 ≤ x ∧ x ≤ 15) ∧ Inc f := by
  simp [isBlk, rngB, adjB_iff, and_assoc]
/-! faces_in -/
def goI : List F → List F → Option (List F)
  | l, [] => some l
  | l, b :: bs => if 7 < b.length then none else if 200 < (insL l (partsA b)).length then none else goI (insL l (partsA b)) bs
theorem goI_eq : ∀ (bs l : List F), l.length ≤ 200 → goI l bs = if (∀ b ∈ bs, b.length ≤ 7) ∧ (insP partsA l bs).length ≤ 200 then some (insP partsA l bs) else none
  | [], l, h => by simp [goI, insP, h]
  | b :: bs, l, h => by
    have e : insP partsA l (b :: bs) = insP partsA (insL l (partsA b)) bs := rfl
    unfold goI
    by_cases h1 : 7 < b.length
    · rw [if_pos h1, if_neg]
      rintro ⟨q, _⟩
      have := q b (by simp); omega
    · rw [if_neg h1]
      by_cases h2 : 200 < (insL l (partsA b)).length
      · rw [if_pos h2, if_neg]
        rintro ⟨_, q⟩
        rw [e] at q
        have := length_insP (pt := partsA) bs (insL l (partsA b))
        omega
      · rw [if_neg h2, goI_eq bs _ (by omega), e]
        congr 1
        rw [eq_iff_iff]
        constructor
        · rintro ⟨q1, q2⟩
          exact ⟨fun x hx => by
            rcases List.mem_cons.1 hx with e | hx
            · subst e; omega
            · exact q1 x hx, q2⟩
        · rintro ⟨q1, q2⟩
          exact ⟨fun x hx => q1 x (List.mem_cons_of_mem _ hx), q2⟩
theorem insP_perm (ks : List F) : (insP partsA [] ks).Perm (insP partsL [] ks) :=
  (List.perm_ext_iff_of_nodup (nodup_insP List.nodup_nil) (nodup_insP List.nodup_nil)).2 fun x => by simp [mem_insP, mem_partsA, mem_partsL]
/-! rows -/
def bmp (r : F) (j : Nat) : F := r.set j (r.getD j 0 + 1)
def rowI (n : Nat) (C : List F) : F := (List.range n).map fun i => (cnt (i + 1) C : Int)
theorem bmp_map {n j : Nat} (c : Nat → Int) (hj : j < n) : bmp ((List.range n).map c) j = (List.range n).map fun i => if i = j then c i + 1 else c i := by
  unfold bmp
  apply List.ext_getElem
  · simp
  · intro i h1 h2
    simp at h1
    rw [List.getElem_set]
    by_cases e : j = i
    · subst e
      simp [h1]
    · rw [if_neg e]
      simp [Ne.symm e]
theorem row_fold {n : Nat} : ∀ (C : List F) (c : Nat → Int), (∀ g ∈ C, g ≠ [] ∧ g.length ≤ n) → C.foldl (fun r g => bmp r (g.length - 1)) ((List.range n).map c) = (List.range n).map fun i => c i + (cnt (i + 1) C : Int)
  | [], c, _ => by simp [cnt]
  | g :: C, c, h => by
    have hg := h g (by simp)
    have h0 := List.length_pos_iff.2 hg.1
    show C.foldl _ (bmp ((List.range n).map c) (g.length - 1)) = _
    rw [bmp_map c (by omega), row_fold C _ fun x hx => h x (List.mem_cons_of_mem g hx)]
    apply List.map_congr_left
    intro i _
    rw [cnt_cons]
    by_cases e : i = g.length - 1
    · rw [if_pos e, if_pos (by omega)]; simp; omega
    · rw [if_neg e, if_neg (by omega)]; simp
theorem row_eq {n : Nat} {C : List F} (h : ∀ g ∈ C, g ≠ [] ∧ g.length ≤ n) : C.foldl (fun r g => bmp r (g.length - 1)) (List.replicate n 0) = rowI n C := by
  have e : List.replicate n (0 : Int) = (List.range n).map fun _ => 0 := by
    rw [List.map_const']; simp
  rw [e, row_fold C _ h]
  unfold rowI
  apply List.map_congr_left
  intro i _
  simp
def sgn (g : F) : Int := if (g.length : Int).fmod 2 = 1 then 1 else -1
theorem euler_cnt : ∀ {C : List F}, (∀ g ∈ C, g ≠ [] ∧ g.length ≤ 4) → (C.map sgn).sum = (cnt 1 C : Int) - cnt 2 C + cnt 3 C - cnt 4 C
  | [], _ => rfl
  | g :: C, h => by
    have hg := h g (by simp)
    have h0 := List.length_pos_iff.2 hg.1
    rw [List.map_cons, List.sum_cons, euler_cnt fun x hx => h x (List.mem_cons_of_mem g hx)]
    simp only [cnt_cons, sgn]
    have : g.length = 1 ∨ g.length = 2 ∨ g.length = 3 ∨ g.length = 4 := by omega
    rcases this with e | e | e | e <;> simp [e] <;> omega
theorem cnt_zero {n m : Nat} {C : List F} (h : ∀ g ∈ C, g.length ≤ n) (hm : n < m) : cnt m C = 0 := by
  unfold cnt
  rw [List.length_eq_zero_iff, List.filter_eq_nil_iff]
  intro g hg
  have := h g hg
  simp; omega
def evens : F → F
  | a :: _ :: l => a :: evens l
  | [a] => [a]
  | [] => []
theorem euler_row {n : Nat} {C : List F} (hn : n ≤ 4) (h : ∀ g ∈ C, g ≠ [] ∧ g.length ≤ n) : (evens (rowI n C)).sum - (evens (rowI n C).tail).sum = (C.map sgn).sum := by
  rw [euler_cnt fun g hg => ⟨(h g hg).1, Nat.le_trans (h g hg).2 hn⟩]
  have hz : ∀ m, n < m → cnt m C = 0 := fun m hm => cnt_zero (fun g hg => (h g hg).2) hm
  unfold rowI
  have : n = 0 ∨ n = 1 ∨ n = 2 ∨ n = 3 ∨ n = 4 := by omega
  rcases this with e | e | e | e | e
  · subst e; simp [evens, hz 1, hz 2, hz 3, hz 4]
  · subst e; simp [List.range_succ, evens, hz 2, hz 3, hz 4]
  · subst e; simp [List.range_succ, evens, hz 3, hz 4]
  · subst e; simp [List.range_succ, evens, hz 4]; omega
  · subst e; simp [List.range_succ, evens]; omega
/-! dimension -/
def tp (k : List F) : Nat := k.foldr (fun o m => max o.length m) 0
theorem le_tp {k : List F} {o : F} (h : o ∈ k) : o.length ≤ tp k := by
  induction k with
  | nil => cases h
  | cons x k ih =>
    show o.length ≤ max x.length (tp k)
    rcases List.mem_cons.1 h with e | h
    · subst e; omega
    · have := ih h; omega
theorem tp_mem (k : List F) : tp k = 0 ∨ ∃ o ∈ k, o.length = tp k := by
  induction k with
  | nil => exact .inl rfl
  | cons x k ih =>
    have e : tp (x :: k) = max x.length (tp k) := rfl
    by_cases h : tp k ≤ x.length
    · right; exact ⟨x, by simp, by omega⟩
    · rcases ih with ih | ⟨o, ho, hl⟩
      · omega
      · right; exact ⟨o, List.mem_cons_of_mem x ho, by omega⟩
theorem tp_le {k : List F} {n : Nat} (h : ∀ o ∈ k, o.length ≤ n) : tp k ≤ n := by
  rcases tp_mem k with e | ⟨o, ho, hl⟩
  · omega
  · have := h o ho; omega
/-! is_cells, both ways -/
section
variable (lt : F → F → Bool)
def cellsA (fs : List F) : Bool := fs.all isBlk && ((List.range (fs.length - 1)).all fun i => lt (fs.getD i []) (fs.getD (i + 1) [])) &&
  !((List.range fs.length).any fun i => (List.range fs.length).any fun j => decide (i ≠ j) && sub (fs.getD i []) (fs.getD j [])) && (goI [] fs).isSome
def rowOk (fs : List F) (i : Nat) : Bool := (decide (i = 0) || lt (fs.getD (i - 1) []) (fs.getD i [])) && (List.range fs.length).all fun j => decide (i = j) || !sub (fs.getD i []) (fs.getD j [])
def cellsB (fs : List F) : Bool := (fs.all fun f => isBlk f && decide (f.length < 8)) && (List.range fs.length).all (rowOk lt fs) && decide ((insP partsL [] fs).length ≤ 200)
theorem cells_agree (fs : List F) : cellsA lt fs = cellsB lt fs := by
  rw [Bool.eq_iff_iff]
  simp only [cellsA, cellsB, rowOk, goI_eq fs [] (by simp), Bool.and_eq_true, List.all_eq_true, List.mem_range, Bool.not_eq_true', List.any_eq_false, Bool.or_eq_true, decide_eq_true_eq, (insP_perm fs).length_eq]
  constructor
  · rintro ⟨⟨⟨h1, h2⟩, h3⟩, h4⟩
    split at h4
    · rename_i q
      refine ⟨⟨fun x hx => ⟨h1 x hx, Nat.lt_succ_of_le (q.1 x hx)⟩, fun i hi => ⟨?_, fun j hj => ?_⟩⟩, q.2⟩
      · cases i with
        | zero => exact .inl rfl
        | succ i => exact .inr (h2 i (by omega))
      · have := h3 i hi
        simp only [List.any_eq_true, List.mem_range, Bool.and_eq_true, decide_eq_true_eq, not_exists, not_and] at this
        by_cases e : i = j
        · exact .inl e
        · exact .inr (by simpa using this j hj e)
    · cases h4
  · rintro ⟨⟨h1, h2⟩, h3⟩
    refine ⟨⟨⟨fun x hx => (h1 x hx).1, fun i hi => ?_⟩, fun i hi => ?_⟩, ?_⟩
    · rcases (h2 (i + 1) (by omega)).1 with q | q
      · omega
      · exact q
    · simp only [List.any_eq_true, List.mem_range, Bool.and_eq_true, decide_eq_true_eq, not_exists, not_and]
      intro j hj e
      rcases (h2 i hi).2 j hj with q | q
      · exact absurd q e
      · simpa using q
    · rw [if_pos ⟨fun b hb => Nat.le_of_lt_succ (h1 b hb).2, h3⟩]; rfl
end
end Pu

namespace Pl
open PySem Mi Pu
abbrev I (n : Int) : PV := .int n
abbrev T (f : List Int) : PV := .tup (f.map .int)
abbrev TT (fs : List (List Int)) : PV := .tup (fs.map T)
abbrev LL (fs : List (List Int)) : PV := .lst (fs.map T)
theorem ok_bind {α β : Type} (a : α) (f : α → Res β) : (Res.ok a >>= f) = f a := Eq.trans rfl rfl
theorem exc_bind {α β : Type} (e : Exc) (f : α → Res β) : (Res.exc e >>= f) = .exc e := Eq.trans rfl rfl
/-- a bind whose rest is not looked at -/
structure Ph {α β : Type} (f : α → Res β) : Type where
def bnd {α β : Type} (a : Res α) (f : α → Res β) (_ : Ph f) : Res β := a >>= f
theorem bind_bnd {α β : Type} {a : Res α} {f : α → Res β} : (a >>= f) = bnd a f ⟨⟩ := Eq.trans rfl rfl
theorem ok_bnd {α β : Type} (a : α) (f : α → Res β) (h : Ph f) : bnd (.ok a) f h = f a := Eq.trans rfl rfl
theorem exc_bnd {α β : Type} (e : Exc) (f : α → Res β) (h : Ph f) : bnd (.exc e) f h = .exc e := Eq.trans rfl rfl
@[simp] theorem set_set' {α : Type} (l : List α) (i : Nat) (a b : α) : (l.set i a).set i b = l.set i b := by simp
section
variable {a b c : ES} {s s' : SS} {ρ : Mi.Env} {i : Nat} {f g : PV → PV → Res PV} {h : PV → Res PV} {m : List PV → Res PV} {fs : List ES} {p : PV}
theorem v_ap : eVar i ρ = match ρ[i]? with | some (some p) => .ok (p, ρ) | _ => .stuck := Eq.trans rfl rfl
theorem k_ap : eK p ρ = .ok (p, ρ) := Eq.trans rfl rfl
theorem e1_ap : e1 h a ρ = (a ρ >>= fun r => h r.1 >>= fun p => .ok (p, r.2)) := Eq.trans rfl rfl
theorem e2_ap : e2 f a b ρ = (a ρ >>= fun r => b r.2 >>= fun q => f r.1 q.1 >>= fun p => .ok (p, q.2)) := Eq.trans rfl rfl
theorem ret_ap : sRet a ρ = (a ρ >>= fun r => .ok (.ret r.1, r.2)) := Eq.trans rfl rfl
theorem expr_ap : sExpr a ρ = (a ρ >>= fun r => .ok (.next, r.2)) := Eq.trans rfl rfl
theorem asg_ap : sAsg i a ρ = (a ρ >>= fun r => .ok (.next, r.2.set i (some r.1))) := Eq.trans rfl rfl
theorem nil_ap : sNil ρ = .ok (.next, ρ) := Eq.trans rfl rfl
theorem seq_ap : sSeq s s' ρ = (s ρ >>= fun r => match r.1 with | .next => s' r.2 | .ret p => .ok (.ret p, r.2)) := Eq.trans rfl rfl
theorem if_ap : sIf a s s' ρ = (a ρ >>= fun r => trP r.1 >>= fun k => if k = true then s r.2 else s' r.2) := Eq.trans rfl rfl
theorem ifB_ap : eIfB c a b ρ = (c ρ >>= fun r => trP r.1 >>= fun k => if k then a r.2 else b r.2) := Eq.trans rfl rfl
theorem cnd_s : cnd (some a) ρ = (a ρ >>= fun r => trP r.1 >>= fun b => .ok (b, r.2)) := Eq.trans rfl rfl
theorem cnd_n : cnd none ρ = .ok (true, ρ) := Eq.trans rfl rfl
theorem tr_b {k : Bool} : trP (.bool k) = .ok k := Eq.trans rfl rfl
theorem noD_ap : noD a ρ = (a ρ >>= fun r => match r.1 with | .dct _ => .stuck | _ => .ok r) := Eq.trans rfl rfl
theorem and_ap : eAndB a b ρ = (a ρ >>= fun r => match r.1 with | .bool true => b r.2 | .bool false => .ok r | _ => .stuck) := Eq.trans rfl rfl
theorem or_ap : eOrB a b ρ = (a ρ >>= fun r => match r.1 with | .bool true => .ok r | .bool false => b r.2 | _ => .stuck) := Eq.trans rfl rfl
theorem not_ap : eNotB a ρ = (a ρ >>= fun r => match r.1 with | .bool k => .ok (.bool (!k), r.2) | _ => .stuck) := Eq.trans rfl rfl
theorem chB_ap : eChB f g a b c ρ = (a ρ >>= fun r => b r.2 >>= fun q => f r.1 q.1 >>= fun p => match p with | .bool true => c q.2 >>= fun u => g q.1 u.1 >>= fun z => .ok (z, u.2) | .bool false => .ok (.bool false, q.2) | _ => .stuck) := Eq.trans rfl rfl
theorem tup_ap : eTup fs ρ = (eL fs ρ >>= fun r => .ok (.tup r.1, r.2)) := Eq.trans rfl rfl
theorem lst_ap : eLst fs ρ = (eL fs ρ >>= fun r => .ok (.lst r.1, r.2)) := Eq.trans rfl rfl
theorem eL_n : eL [] ρ = .ok ([], ρ) := Eq.trans rfl rfl
theorem eL_c : eL (a :: fs) ρ = (a ρ >>= fun r => eL fs r.2 >>= fun q => .ok (r.1 :: q.1, q.2)) := Eq.trans rfl rfl
theorem call_ap : eCall m fs ρ = (eL fs ρ >>= fun r => (m r.1).nox >>= fun p => .ok (p, r.2)) := Eq.trans rfl rfl
theorem callX_ap : eCallX m fs ρ = (eL fs ρ >>= fun r => m r.1 >>= fun p => .ok (p, r.2)) := Eq.trans rfl rfl
theorem nox_ok {α : Type} (x : α) : (Res.ok x).nox = .ok x := Eq.trans rfl rfl
theorem for_ap {γ : GS} {it : IS} : sFor γ it s ρ = (it ρ >>= fun r => forL γ s r.1 r.2) := Eq.trans rfl rfl
theorem iSeq_ap : iSeq a ρ = (a ρ >>= fun r => match r.1.seq? with | some xs => .ok (xs, r.2) | none => .stuck) := Eq.trans rfl rfl
theorem seq_t (xs : List PV) : (PV.tup xs).seq? = some xs := Eq.trans rfl rfl
theorem seq_l (xs : List PV) : (PV.lst xs).seq? = some xs := Eq.trans rfl rfl
theorem iR1_ap : iR1 a ρ = (a ρ >>= fun r => rng1 r.1 >>= fun xs => .ok (xs, r.2)) := Eq.trans rfl rfl
theorem iR2_ap : iR2 a b ρ = (a ρ >>= fun r => b r.2 >>= fun q => rng2 r.1 q.1 >>= fun xs => .ok (xs, q.2)) := Eq.trans rfl rfl
theorem name_ap : gName i p ρ = .ok (ρ.set i (some p)) := Eq.trans rfl rfl
theorem app_ap : eApp i a ρ = (eVar i ρ >>= fun _ => a ρ >>= fun e => eVar i e.2 >>= fun l => match l.1 with | .lst xs => (if xs.length < lim then .ok (.non, e.2.set i (some (.lst (xs ++ [e.1])))) else .stuck) | _ => .stuck) := Eq.trans rfl rfl
theorem setD_ap : sSetD i a b ρ = (b ρ >>= fun e => eVar i e.2 >>= fun _ => a e.2 >>= fun x => eVar i x.2 >>= fun l => putP l.1 x.1 e.1 >>= fun z => .ok (.next, x.2.set i (some z))) := Eq.trans rfl rfl
theorem mkF_ok {nl : Nat} {ps : List PV} {q : PV} {ρ' : Mi.Env} (e : s (ps.map some ++ List.replicate nl none) = .ok (.ret q, ρ')) : mkF nl s ps = .ok q := by unfold mkF; rw [e]; rfl
theorem mkF_exc {nl : Nat} {ps : List PV} {x : Exc} (e : s (ps.map some ++ List.replicate nl none) = .exc x) : mkF nl s ps = .exc x := by unfold mkF; rw [e]; rfl
end
theorem set_back {ρ : Mi.Env} {v : Nat} (hv : v < ρ.length) : ρ.set v (ρ.getD v none) = ρ := by
  rw [List.getD_eq_getElem?_getD, List.getElem?_eq_getElem hv]
  exact List.set_getElem_self hv
/-- a comprehension over things that a list of α stands for -/
theorem compA {α : Type} {enc : α → PV} {v : Nat} {c : Option ES} {e : ES} {it : IS} {ρ ρ' : Mi.Env} {xs : List α} (p : α → Bool) (f : α → PV) (hi : it ρ = .ok (xs.map enc, ρ')) (hv : v < ρ'.length)
    (h1 : ∀ x ∈ xs, cnd c (ρ'.set v (some (enc x))) = .ok (p x, ρ'.set v (some (enc x)))) (h2 : ∀ x ∈ xs, p x = true → e (ρ'.set v (some (enc x))) = .ok (f x, ρ'.set v (some (enc x)))) :
    eComp (gName v) c e [v] it ρ = .ok (.lst ((xs.filter p).map f), ρ') := by
  unfold eComp
  rw [hi]
  simp only [ok_bind, wipeE]
  have key : ∀ ys : List α, (∀ x ∈ ys, x ∈ xs) → compL (gName v) c e [v] (ys.map enc) (ρ'.set v none) = .ok ((ys.filter p).map f, ρ'.set v none) := by
    intro ys
    induction ys with
    | nil => intro _; rfl
    | cons x ys ih =>
      intro hm
      have ih := ih fun y hy => hm y (.tail _ hy)
      have hx := hm x (.head _)
      simp only [List.map_cons]
      unfold compL
      simp only [Mi.gName, ok_bind, set_set']
      rw [h1 x hx]
      by_cases hp : p x = true
      · simp [hp, h2 x hx hp, ih, List.filter_cons, wipeE, ok_bind]
      · simp [hp, ih, List.filter_cons, wipeE, ok_bind]
  rw [key xs fun _ h => h]
  simp only [Res.nox, ok_bind, backE, set_set', set_back hv]
theorem comp0A {α : Type} {enc : α → PV} {v : Nat} {e : ES} {it : IS} {ρ ρ' : Mi.Env} {xs : List α} (f : α → PV) (hi : it ρ = .ok (xs.map enc, ρ')) (hv : v < ρ'.length)
    (h2 : ∀ x ∈ xs, e (ρ'.set v (some (enc x))) = .ok (f x, ρ'.set v (some (enc x)))) :
    eComp (gName v) none e [v] it ρ = .ok (.lst (xs.map f), ρ') := by
  rw [compA (fun _ => true) f hi hv (fun _ _ => rfl) fun x hx _ => h2 x hx]
  rw [List.filter_eq_self.2 fun _ _ => rfl]
/-- a loop: an invariant over what is done -/
theorem for_inv {α : Type} {enc : α → PV} {γ : GS} {s : SS} (J : List α → Mi.Env → Prop) : ∀ (xs done : List α) (ρ : Mi.Env), J done ρ →
    (∀ d x r, d ++ x :: r = done ++ xs → ∀ ρ, J d ρ → ∃ ρ1 ρ2, γ (enc x) ρ = .ok ρ1 ∧ s ρ1 = .ok (.next, ρ2) ∧ J (d ++ [x]) ρ2) → ∃ ρ', forL γ s (xs.map enc) ρ = .ok (.next, ρ') ∧ J (done ++ xs) ρ'
  | [], done, ρ, h, _ => ⟨ρ, rfl, by simpa using h⟩
  | x :: xs, done, ρ, h, hs => by
    obtain ⟨ρ1, ρ2, h1, h2, h3⟩ := hs done x xs rfl ρ h
    obtain ⟨ρ', e, j⟩ := for_inv J xs (done ++ [x]) ρ2 h3 fun d y r q => hs d y r (by simpa using q)
    refine ⟨ρ', ?_, by simpa using j⟩
    simp only [List.map_cons]
    unfold forL
    simp only [h1, ok_bind, h2]
    exact e
end Pl

namespace Pl
open PySem Mi Pu
abbrev DI (f : List Int) : List PyData := f.map .int
theorem lay_ints : ∀ f : List Int, PyData.canLayAll0 (DI f) = true
  | [] => rfl
  | x :: f => by simp [PyData.canLayAll0, PyData.canLay0, lay_ints f]
theorem dep_ints : ∀ f : List Int, PyData.depthAll (DI f) = 0
  | [] => rfl
  | x :: f => by simp [PyData.depthAll, PyData.depth, dep_ints f]
theorem lay_tups : ∀ fs : List (List Int), PyData.canLayAll0 (fs.map fun f => .tuple (DI f)) = true
  | [] => rfl
  | f :: fs => by simp [PyData.canLayAll0, PyData.canLay0, lay_ints f, lay_tups fs]
theorem dep_tups : ∀ fs : List (List Int), PyData.depthAll (fs.map fun f => .tuple (DI f)) ≤ 1
  | [] => by simp [PyData.depthAll]
  | f :: fs => by
    have := dep_tups fs
    simp only [List.map_cons, PyData.depthAll, PyData.depth, dep_ints f]
    omega
theorem sh_int (i : Int) : SeqAt.shaped (.int i) = true := rfl
theorem sh_ints (f : List Int) : SeqAt.shaped (.list (DI f)) = true := by
  simp [SeqAt.shaped, PyData.canLay0, PyData.depth, lay_ints, dep_ints]
theorem sh_intsT (f : List Int) : SeqAt.shaped (.tuple (DI f)) = true := by
  simp [SeqAt.shaped, PyData.canLay0, PyData.depth, lay_ints, dep_ints]
theorem sh_tups (fs : List (List Int)) : SeqAt.shaped (.list (fs.map fun f => .tuple (DI f))) = true := by
  have := dep_tups fs
  simp [SeqAt.shaped, PyData.canLay0, PyData.depth, lay_tups]
  omega
theorem data_ints : ∀ f : List Int, PV.dataL (f.map .int) = some (DI f) := dataL_ints
theorem data_T (f : List Int) : PV.data (T f) = some (.tuple (DI f)) := by simp [PV.data, data_ints]
theorem data_tups : ∀ fs : List (List Int), PV.dataL (fs.map T) = some (fs.map fun f => .tuple (DI f))
  | [] => rfl
  | f :: fs => by simp [PV.dataL, data_T, data_tups fs]
theorem eqv_ints : ∀ f g : List Int, PyData.eqvAll (DI f) (DI g) = decide (f = g)
  | [], [] => rfl
  | [], _ :: _ => rfl
  | _ :: _, [] => rfl
  | x :: f, y :: g => by
    simp only [DI, List.map_cons, PyData.eqvAll, PyData.eqv]
    rw [show PyData.eqvAll (f.map .int) (g.map .int) = decide (f = g) from eqv_ints f g]
    by_cases h : x = y <;> by_cases h2 : f = g <;> simp [h, h2]
theorem in_int (x : Int) (f : List Int) : inP (.int x) (T f) = .ok (.bool (f.contains x)) := by
  have h : inD (.int x) (T f) = some (f.contains x) := by
    unfold inD
    simp only [PV.data, PV.seq?, data_ints, sh_int, sh_ints, Bool.and_self, if_true]
    congr 1
    induction f with
    | nil => rfl
    | cons y f ih =>
      simp only [DI, List.map_cons, List.any_cons, List.contains_cons, PyData.eqv] at ih ⊢
      rw [ih]
      rw [show (y == x) = (x == y) from Bool.beq_comm]
  unfold inP
  rw [h]; rfl
theorem in_tup (g : List Int) (fs : List (List Int)) (p : PV) (hp : p.seq? = some (fs.map T)) : inP (T g) p = .ok (.bool (fs.contains g)) := by
  have h : inD (T g) p = some (fs.contains g) := by
    unfold inD
    simp only [data_T, hp, data_tups, sh_intsT, sh_tups, Bool.and_self, if_true]
    congr 1
    clear hp
    induction fs with
    | nil => rfl
    | cons y fs ih =>
      simp only [List.map_cons, List.any_cons, List.contains_cons, PyData.eqv, eqv_ints] at ih ⊢
      rw [ih]
      rw [show (decide (y = g)) = (g == y) from by rw [Bool.eq_iff_iff]; simp only [decide_eq_true_eq, beq_iff_eq]; exact eq_comm]
  unfold inP
  rw [h]; rfl
end Pl

namespace Pl
open PySem Mi Pu
abbrev NK (f : List Int) : NestedKey := .tup (f.map .num)
theorem nkeys_ints : ∀ f : List Int, PV.nkeys (f.map .int) = some (f.map .num)
  | [] => rfl
  | x :: f => by simp only [List.map_cons, PV.nkeys, PV.nkey, nkeys_ints f]
theorem nkey_T (f : List Int) : PV.nkey (T f) = some (NK f) := by simp only [PV.nkey, nkeys_ints, Option.map_some]
theorem nk_depth : ∀ f : List Int, NestedKey.depthAll (f.map .num) = 0
  | [] => rfl
  | x :: f => by simp [NestedKey.depthAll, NestedKey.depth, nk_depth f]
theorem depth_T (f : List Int) : depthOk (T f) = true := by
  unfold depthOk
  rw [nkey_T]
  simp [NestedKey.depth, nk_depth]
theorem num_inj {f g : List Int} (h : NK f = NK g) : f = g := by
  have h := NestedKey.tup.inj h
  exact (List.map_inj_right fun x y h => NestedKey.num.inj h).1 h
abbrev DD (l : List (List Int)) : PV := .dct (l.map fun f => (T f, PV.bool true))
theorem dget_DD (f : List Int) : ∀ l : List (List Int), (dgetP (l.map fun f => (T f, PV.bool true)) (T f)).isSome = decide (f ∈ l)
  | [] => rfl
  | g :: l => by
    have ih := dget_DD f l
    unfold dgetP dgetI at ih ⊢
    simp only [List.map_cons, List.find?_cons, nkey_T] at ih ⊢
    by_cases h : g = f
    · subst h; simp
    · have : (decide (some (NK g) = some (NK f))) = false := by
        apply decide_eq_false
        intro e
        exact h (num_inj (Option.some.inj e))
      rw [this]
      simp only [] at ih ⊢
      rw [ih]
      simp [Ne.symm h]
theorem put_DD {l : List (List Int)} (f : List Int) (h : l.length < lim) : putP (DD l) (T f) (.bool true) = .ok (DD (ins l f)) := by
  unfold putP DD
  have hk : (keyOk (l.map fun f => (T f, PV.bool true)) (T f) && decide ((l.map fun f => (T f, PV.bool true)).length < lim)) = true := by
    simp only [keyOk, depth_T, List.length_map, h, decide_true, Bool.and_true, Bool.or_eq_true, Bool.and_eq_true]
    right
    refine ⟨rfl, ?_⟩
    rw [List.all_map]
    exact List.all_eq_true.2 fun _ _ => rfl
  simp only [hk, if_true]
  congr 2
  unfold dput
  rw [dget_DD]
  unfold ins
  by_cases hm : f ∈ l
  · simp only [hm, decide_true, if_true, List.map_map]
    apply List.map_congr_left
    intro g _
    simp only [Function.comp]
    split <;> rfl
  · simp [hm]
theorem len_DD {l : List (List Int)} (h : l.length < lim) : lenD (DD l) = .ok (.int l.length) := by
  unfold lenD DD
  simp only [List.length_map, h, if_true]
/-! sorting -/
def leI (a b : List Int) : Bool := leD (itp a) (itp b)
instance : Ord leI where
  tr := fun a b c => leD_trans _ _ _
  tot := fun a b => leD_total _ _
  an := fun a b => leD_anti
theorem sort_TT (l : List (List Int)) : (l.map T).mergeSort leD = (srt leI l).map T :=
  (List.map_mergeSort (r := leI) (s := leD) (f := T) (l := l) fun a _ b _ => rfl).symm
theorem alike_ints : ∀ f g : List Int, PySem.W.alikeAll (DI f) (DI g) = true
  | [], g => by cases g <;> rfl
  | _ :: _, [] => rfl
  | x :: f, y :: g => by
    simp only [DI, List.map_cons, PySem.W.alikeAll, PySem.W.alike, Bool.true_and]
    exact alike_ints f g
theorem sortOk_TT {l : List (List Int)} (h : ∀ f ∈ l, f ≠ []) : sortOk (l.map T) = true := by
  unfold sortOk
  rw [data_tups]
  simp only [Bool.and_eq_true, List.all_eq_true, List.mem_map, decide_eq_true_eq]
  refine ⟨⟨?_, ?_⟩, ?_⟩
  · rintro d ⟨f, _, rfl⟩ e ⟨g, _, rfl⟩
    exact alike_ints f g
  · unfold sortableB
    rw [Bool.or_eq_true]
    left
    rw [List.all_eq_true]
    intro d hd
    obtain ⟨f, hf, rfl⟩ := List.mem_map.1 hd
    cases f with
    | nil => exact absurd rfl (h _ hf)
    | cons x f => rfl
  · rintro d ⟨f, _, rfl⟩
    simp only [PyData.depth, dep_ints]
    omega
theorem keysOk_TT (l : List (List Int)) : keysOk (l.map T) = true := by
  unfold keysOk
  rw [List.all_map]
  exact List.all_eq_true.2 fun f _ => depth_T f
theorem sorted_DD {l : List (List Int)} (h : ∀ f ∈ l, f ≠ []) (hl : l.length ≤ lim) : sortedD (DD l) = .ok (LL (srt leI l)) := by
  have e : (l.map fun f => (T f, PV.bool true)).map (·.1) = l.map T := by rw [List.map_map]; rfl
  unfold sortedD DD
  simp only [e, List.length_map, hl, decide_true, sortOk_TT h, keysOk_TT, Bool.and_self, if_true, sort_TT]
theorem sorted_LL {l : List (List Int)} (h : ∀ f ∈ l, f ≠ []) : sortedA (LL l) = .ok (LL (srt leI l)) := by
  unfold sortedA LL
  simp only [sortOk_TT h, if_true, sort_TT]
theorem sorted_TT {l : List (List Int)} (h : ∀ f ∈ l, f ≠ []) : sortedA (TT l) = .ok (LL (srt leI l)) := by
  unfold sortedA TT
  simp only [sortOk_TT h, keysOk_TT, Bool.and_self, if_true, sort_TT]
theorem intsOf_ints : ∀ f : List Int, intsOf (f.map .int) = some f
  | [] => rfl
  | x :: f => by simp [intsOf, intsOf_ints f]
theorem tupsOf_T : ∀ l : List (List Int), tupsOf (l.map T) = some l
  | [] => rfl
  | f :: l => by simp only [List.map_cons, tupsOf, intsOf_ints, tupsOf_T l]
theorem dd_ok (l : List (List Int)) : (dd l).Nodup ∧ ∀ x, x ∈ dd l ↔ x ∈ l := ⟨nodup_dd l, fun _ => mem_dd⟩
theorem sortedSet_T {p : PV} {l : List (List Int)} (hp : p.seq? = some (l.map T)) (h : ∀ f ∈ l, f ≠ []) (hl : l.length < 64) : sortedSetP p = .ok (LL (srt leI (dd l))) := by
  unfold sortedSetP
  simp only [hp, tupsOf_T, List.length_map, hl, decide_true, sortOk_TT h, keysOk_TT, Bool.and_self, if_true]
  show Res.ok (PV.lst (((dd l).map T).mergeSort leD)) = _
  rw [sort_TT]
theorem sort_ints (f : List Int) : (f.map PV.int).mergeSort leD = (isort f).map .int :=
  (List.map_mergeSort (r := fun a b => decide (a ≤ b)) (s := leD) (f := PV.int) (l := f) fun a _ b _ => (leD_int a b).symm).symm
theorem sortOk_ints (f : List Int) : sortOk (f.map .int) = true := by
  unfold sortOk
  rw [data_ints]
  simp only [Bool.and_eq_true, List.all_eq_true, List.mem_map, decide_eq_true_eq]
  refine ⟨⟨?_, ?_⟩, ?_⟩
  · rintro d ⟨x, _, rfl⟩ e ⟨y, _, rfl⟩
    rfl
  · unfold sortableB
    rw [Bool.or_eq_true]
    right
    rw [List.all_map]
    exact List.all_eq_true.2 fun _ _ => rfl
  · rintro d ⟨x, _, rfl⟩
    simp [PyData.depth]
theorem keysOk_ints (f : List Int) : keysOk (f.map .int) = true := by
  unfold keysOk
  rw [List.all_map]
  exact List.all_eq_true.2 fun x _ => by simp [depthOk, PV.nkey, NestedKey.depth]
theorem sorted_T (f : List Int) : sortedA (T f) = .ok (.lst ((isort f).map .int)) := by
  unfold sortedA T
  simp only [sortOk_ints, keysOk_ints, Bool.and_self, if_true, sort_ints]
theorem sorted_L (f : List Int) : sortedA (.lst (f.map .int)) = .ok (.lst ((isort f).map .int)) := by
  unfold sortedA
  simp only [sortOk_ints, if_true, sort_ints]
theorem nkey_int (n : Int) : PV.nkey (.int n) = some (.num n) := by rw [PV.nkey]
abbrev DZ (l : List Int) : PV := .dct (l.map fun n => (.int n, PV.bool true))
def insZ (l : List Int) (x : Int) : List Int := if x ∈ l then l else l ++ [x]
theorem dget_DZ (f : Int) : ∀ l : List Int, (dgetP (l.map fun f => (.int f, PV.bool true)) (.int f)).isSome = decide (f ∈ l)
  | [] => rfl
  | g :: l => by
    have ih := dget_DZ f l
    unfold dgetP dgetI at ih ⊢
    simp only [List.map_cons, List.find?_cons, nkey_int] at ih ⊢
    by_cases h : g = f
    · subst h; simp
    · have : (decide (some (NestedKey.num g) = some (NestedKey.num f))) = false := by
        apply decide_eq_false
        intro e
        exact h (NestedKey.num.inj (Option.some.inj e))
      rw [this]
      simp only [] at ih ⊢
      rw [ih]
      simp [Ne.symm h]
theorem put_DZ {l : List Int} (f : Int) (h : l.length < lim) : putP (DZ l) (.int f) (.bool true) = .ok (DZ (insZ l f)) := by
  unfold putP DZ
  have hk : (keyOk (l.map fun f => (PV.int f, PV.bool true)) (.int f) && decide ((l.map fun f => (PV.int f, PV.bool true)).length < lim)) = true := by
    simp only [keyOk, List.length_map, h, decide_true, Bool.and_true, Bool.or_eq_true, Bool.and_eq_true]
    left
    refine ⟨rfl, ?_⟩
    rw [List.all_map]
    exact List.all_eq_true.2 fun _ _ => rfl
  simp only [hk, if_true]
  congr 2
  unfold dput
  rw [dget_DZ]
  unfold insZ
  by_cases hm : f ∈ l
  · simp only [hm, decide_true, if_true, List.map_map]
    apply List.map_congr_left
    intro g _
    simp only [Function.comp]
    split <;> rfl
  · simp [hm]
theorem sorted_DZ {l : List Int} (hl : l.length ≤ lim) : sortedD (DZ l) = .ok (.lst ((isort l).map .int)) := by
  have e : (l.map fun f => (PV.int f, PV.bool true)).map (·.1) = l.map .int := by rw [List.map_map]; rfl
  unfold sortedD DZ
  simp only [e, List.length_map, hl, decide_true, sortOk_ints, keysOk_ints, Bool.and_self, if_true, sort_ints]
end Pl

namespace Pl
open PySem Mi Pu K88
theorem boolsOf_map {α : Type} (p : α → Bool) : ∀ xs : List α, boolsOf (xs.map fun x => PV.bool (p x)) = some (xs.map p)
  | [] => rfl
  | x :: xs => by simp [boolsOf, boolsOf_map p xs]
theorem all_map {α : Type} (xs : List α) (p : α → Bool) : allP (.lst (xs.map fun x => PV.bool (p x))) = .ok (.bool (xs.all p)) := by
  have h : lstBools (.lst (xs.map fun x => PV.bool (p x))) = some (xs.map p) := boolsOf_map p xs
  unfold allP
  rw [h]
  show Res.ok _ = _
  simp [List.all_map]
theorem any_map {α : Type} (xs : List α) (p : α → Bool) : anyP (.lst (xs.map fun x => PV.bool (p x))) = .ok (.bool (xs.any p)) := by
  have h : lstBools (.lst (xs.map fun x => PV.bool (p x))) = some (xs.map p) := boolsOf_map p xs
  unfold anyP
  rw [h]
  show Res.ok _ = _
  simp [List.any_map]
theorem len_T (f : List Int) : lenS (T f) = .ok (.int f.length) := by show Res.ok (PV.int ((f.map PV.int).length : Int)) = _; rw [List.length_map]
theorem len_L (f : List Int) : lenS (.lst (f.map .int)) = .ok (.int f.length) := by show Res.ok (PV.int ((f.map PV.int).length : Int)) = _; rw [List.length_map]
theorem len_TT (f : List (List Int)) : lenS (TT f) = .ok (.int f.length) := by show Res.ok (PV.int ((f.map T).length : Int)) = _; rw [List.length_map]
theorem len_LL (f : List (List Int)) : lenS (LL f) = .ok (.int f.length) := by show Res.ok (PV.int ((f.map T).length : Int)) = _; rw [List.length_map]
/-! arithmetic and comparisons of ints -/
theorem add_i (a b : Int) : addP (.int a) (.int b) = .ok (.int (a + b)) := rfl
theorem sub_i (a b : Int) : subP (.int a) (.int b) = .ok (.int (a - b)) := rfl
theorem lt_i (a b : Int) : ltP (.int a) (.int b) = .ok (.bool (decide (a < b))) := rfl
theorem le_i (a b : Int) : leP (.int a) (.int b) = .ok (.bool (decide (a ≤ b))) := rfl
theorem gt_i (a b : Int) : gtP (.int a) (.int b) = .ok (.bool (decide (b < a))) := rfl
theorem ge_i (a b : Int) : geP (.int a) (.int b) = .ok (.bool (decide (b ≤ a))) := rfl
theorem eq_i (a b : Int) : eqP (.int a) (.int b) = .ok (.bool (decide (a = b))) := by
  unfold eqP
  simp only [PV.data, sh_int, Bool.and_self, if_true, PyData.eqv]
  rfl
theorem ne_i (a b : Int) : neP (.int a) (.int b) = .ok (.bool (!decide (a = b))) := by
  unfold neP
  simp only [PV.data, sh_int, Bool.and_self, if_true, PyData.eqv]
  rfl
theorem lt_TT (a b : List Int) : ltP (T a) (T b) = .ok (.bool (HT.lexLt a b)) := by
  show (match intsOf (a.map PV.int), intsOf (b.map PV.int) with | some ns, some ms => _ | _, _ => _) = _
  rw [intsOf_ints, intsOf_ints]
/-! range -/
theorem rng1_eq {n : Nat} (h : n ≤ 16777216) : rng1 (.int n) = .ok ((List.range n).map fun (i : Nat) => .int i) := by
  unfold rng1
  have : -(2 ^ 62) ≤ (n : Int) ∧ (n : Int) ≤ 16777216 := ⟨by omega, by omega⟩
  simp only [this, and_self, if_true, rangeL, Int.toNat_natCast]
  simp
theorem rng1_sub {n : Nat} (h : n ≤ 16777216) : rng1 (.int ((n : Int) - 1)) = .ok ((List.range (n - 1)).map fun (i : Nat) => .int i) := by
  unfold rng1
  have : -(2 ^ 62) ≤ (n : Int) - 1 ∧ (n : Int) - 1 ≤ 16777216 := ⟨by omega, by omega⟩
  simp only [this, and_self, if_true, rangeL]
  have : ((n : Int) - 1).toNat = n - 1 := by omega
  rw [this]
  simp
theorem rng2_1 {n : Nat} (h : n ≤ 16777216) : rng2 (.int 1) (.int n) = .ok ((List.range (n - 1)).map fun (i : Nat) => .int ((i : Int) + 1)) := by
  unfold rng2
  have : -(2 ^ 62) ≤ (1 : Int) ∧ (1 : Int) < 2 ^ 62 ∧ -(2 ^ 62) ≤ (n : Int) ∧ (n : Int) < 2 ^ 62 ∧ (n : Int) - 1 ≤ 16777216 := ⟨by omega, by omega, by omega, by omega, by omega⟩
  simp only [this, and_self, if_true, rangeL]
  have e : ((n : Int) - 1).toNat = n - 1 := by omega
  rw [e]
  congr 1
  apply List.map_congr_left
  intro i _
  rw [Int.add_comm]
theorem idx_i {f : List Int} {i : Nat} (h : i < f.length) : idxP (T f) (.int i) = .ok (.int (f.getD i 0)) := by
  show Res.opt (L2.atI (f.map PV.int) i) = _
  have : L2.atI (f.map PV.int) i = some (.int (f.getD i 0)) := by
    unfold L2.atI L2.ixN
    simp only [List.length_map]
    have h1 : ¬ ((i : Int) < 0) := by omega
    simp [h1, h]
  rw [this]; rfl
theorem idx_p {p : PV} {l : List (List Int)} {i : Nat} (hp : p.seq? = some (l.map T)) (h : i < l.length) : idxP p (.int i) = .ok (T (l.getD i [])) := by
  unfold idxP
  rw [hp]
  show Res.opt (L2.atI (l.map T) i) = _
  have : L2.atI (l.map T) i = some (T (l.getD i [])) := by
    unfold L2.atI L2.ixN
    simp only [List.length_map]
    have h1 : ¬ ((i : Int) < 0) := by omega
    simp [h1, h]
  rw [this]; rfl
theorem within_eq (a b : List Int) : m_is_within [T a, T b] = .ok (.bool (sub a b)) := by
  refine mkF_ok (ρ' := [some (T a), some (T b), none]) ?_
  unfold b_is_within
  simp only [↓bind_bnd, ok_bnd, exc_bnd, v_ap, k_ap, e1_ap, e2_ap, ret_ap, expr_ap, asg_ap, nil_ap, seq_ap, if_ap, ifB_ap, tr_b, noD_ap, and_ap, or_ap, not_ap, chB_ap, tup_ap, lst_ap, eL_n, eL_c, call_ap, callX_ap, nox_ok, for_ap, iSeq_ap, seq_t, seq_l, iR1_ap, iR2_ap, name_ap, ok_bind, exc_bind, List.getElem?_cons_zero, List.getElem?_cons_succ, List.set_cons_zero, List.set_cons_succ, List.map_cons, List.map_nil, List.cons_append, List.nil_append, List.replicate_succ, List.replicate_zero, cnd_s, cnd_n]
  rw [comp0A (v := 2) (xs := a) (enc := .int) (ρ' := [some (T a), some (T b), none]) (fun x => .bool (b.contains x)) rfl (Nat.lt_succ_self 2) ?_]
  · simp only [↓bind_bnd, ok_bnd, exc_bnd, v_ap, k_ap, e1_ap, e2_ap, ret_ap, expr_ap, asg_ap, nil_ap, seq_ap, if_ap, ifB_ap, tr_b, noD_ap, and_ap, or_ap, not_ap, chB_ap, tup_ap, lst_ap, eL_n, eL_c, call_ap, callX_ap, nox_ok, for_ap, iSeq_ap, seq_t, seq_l, iR1_ap, iR2_ap, name_ap, ok_bind, exc_bind, List.getElem?_cons_zero, List.getElem?_cons_succ, List.set_cons_zero, List.set_cons_succ, List.map_cons, List.map_nil, List.cons_append, List.nil_append, List.replicate_succ, List.replicate_zero, cnd_s, cnd_n, all_map]
    rfl
  · intro x hx
    simp only [↓bind_bnd, ok_bnd, exc_bnd, v_ap, k_ap, e1_ap, e2_ap, ret_ap, expr_ap, asg_ap, nil_ap, seq_ap, if_ap, ifB_ap, tr_b, noD_ap, and_ap, or_ap, not_ap, chB_ap, tup_ap, lst_ap, eL_n, eL_c, call_ap, callX_ap, nox_ok, for_ap, iSeq_ap, seq_t, seq_l, iR1_ap, iR2_ap, name_ap, ok_bind, exc_bind, List.getElem?_cons_zero, List.getElem?_cons_succ, List.set_cons_zero, List.set_cons_succ, List.map_cons, List.map_nil, List.cons_append, List.nil_append, List.replicate_succ, List.replicate_zero, cnd_s, cnd_n, in_int]
theorem isint_i (x : Int) : m_is_integer [.int x] = .ok (.bool true) := rfl
theorem whole_i (x : Int) : m__law_is_whole [.int x] = .ok (.bool true) := rfl
end Pl

namespace Pl
open PySem Mi Pu K88
theorem isiT (f : List Int) : isiP "tuple" (T f) = .ok (.bool true) := rfl
theorem isiTT (f : List (List Int)) : isiP "tuple" (TT f) = .ok (.bool true) := rfl
theorem nat_eq0 (n : Nat) : decide ((n : Int) = 0) = decide (n = 0) := by rw [decide_eq_decide]; omega
theorem block_eq (f : List Int) (hf : f.length ≤ 16777216) : m_is_block [T f] = .ok (.bool (isBlk f)) := by
  have step : ∃ ρ', b_is_block [some (T f), none, none] = .ok (.ret (.bool (isBlk f)), ρ') := by
    unfold b_is_block isBlk
    simp only [↓bind_bnd, ok_bnd, exc_bnd, v_ap, k_ap, e1_ap, e2_ap, ret_ap, expr_ap, asg_ap, nil_ap, seq_ap, if_ap, ifB_ap, tr_b, noD_ap, and_ap, or_ap, not_ap, chB_ap, tup_ap, lst_ap, eL_n, eL_c, call_ap, callX_ap, nox_ok, for_ap, iSeq_ap, seq_t, seq_l, iR1_ap, iR2_ap, name_ap, ok_bind, exc_bind, List.getElem?_cons_zero, List.getElem?_cons_succ, List.set_cons_zero, List.set_cons_succ, List.map_cons, List.map_nil, List.cons_append, List.nil_append, List.replicate_succ, List.replicate_zero, cnd_s, cnd_n, isiT, len_T, eq_i, nat_eq0, Bool.not_true]
    by_cases h0 : f.length = 0
    · simp only [h0, decide_true, if_true, ok_bind, ok_bnd, ret_ap, k_ap]
      exact ⟨_, rfl⟩
    · simp only [h0, decide_false, Bool.false_eq_true, if_false, ok_bind, ok_bnd]
      simp only [↓bind_bnd, ok_bnd, exc_bnd, v_ap, k_ap, e1_ap, e2_ap, ret_ap, expr_ap, asg_ap, nil_ap, seq_ap, if_ap, ifB_ap, tr_b, noD_ap, and_ap, or_ap, not_ap, chB_ap, tup_ap, lst_ap, eL_n, eL_c, call_ap, callX_ap, nox_ok, for_ap, iSeq_ap, seq_t, seq_l, iR1_ap, iR2_ap, name_ap, ok_bind, exc_bind, List.getElem?_cons_zero, List.getElem?_cons_succ, List.set_cons_zero, List.set_cons_succ, List.map_cons, List.map_nil, List.cons_append, List.nil_append, List.replicate_succ, List.replicate_zero, cnd_s, cnd_n]
      rw [comp0A (v := 2) (xs := f) (enc := .int) (ρ' := [some (T f), none, none]) (fun x => .bool (decide (0 ≤ x) && decide (x ≤ 15))) rfl (Nat.lt_succ_self 2) ?_]
      · simp only [↓bind_bnd, ok_bnd, exc_bnd, v_ap, k_ap, e1_ap, e2_ap, ret_ap, expr_ap, asg_ap, nil_ap, seq_ap, if_ap, ifB_ap, tr_b, noD_ap, and_ap, or_ap, not_ap, chB_ap, tup_ap, lst_ap, eL_n, eL_c, call_ap, callX_ap, nox_ok, for_ap, iSeq_ap, seq_t, seq_l, iR1_ap, iR2_ap, name_ap, ok_bind, exc_bind, List.getElem?_cons_zero, List.getElem?_cons_succ, List.set_cons_zero, List.set_cons_succ, List.map_cons, List.map_nil, List.cons_append, List.nil_append, List.replicate_succ, List.replicate_zero, cnd_s, cnd_n, all_map]
        by_cases h1 : rngB f = true
        · have h1' : (f.all fun x => decide (0 ≤ x) && decide (x ≤ 15)) = true := h1
          simp only [h1, h1', Bool.not_true, Bool.false_eq_true, if_false, ok_bind, ok_bnd]
          simp only [↓bind_bnd, ok_bnd, exc_bnd, v_ap, k_ap, e1_ap, e2_ap, ret_ap, expr_ap, asg_ap, nil_ap, seq_ap, if_ap, ifB_ap, tr_b, noD_ap, and_ap, or_ap, not_ap, chB_ap, tup_ap, lst_ap, eL_n, eL_c, call_ap, callX_ap, nox_ok, for_ap, iSeq_ap, seq_t, seq_l, iR1_ap, iR2_ap, name_ap, ok_bind, exc_bind, List.getElem?_cons_zero, List.getElem?_cons_succ, List.set_cons_zero, List.set_cons_succ, List.map_cons, List.map_nil, List.cons_append, List.nil_append, List.replicate_succ, List.replicate_zero, cnd_s, cnd_n]
          rw [comp0A (v := 1) (xs := List.range (f.length - 1)) (enc := fun (i : Nat) => .int i) (ρ' := [some (T f), none, none]) (fun i => .bool (decide (f.getD i 0 < f.getD (i + 1) 0))) ?_ (by decide : 1 < 3) ?_]
          · simp only [↓bind_bnd, ok_bnd, exc_bnd, v_ap, k_ap, e1_ap, e2_ap, ret_ap, expr_ap, asg_ap, nil_ap, seq_ap, if_ap, ifB_ap, tr_b, noD_ap, and_ap, or_ap, not_ap, chB_ap, tup_ap, lst_ap, eL_n, eL_c, call_ap, callX_ap, nox_ok, for_ap, iSeq_ap, seq_t, seq_l, iR1_ap, iR2_ap, name_ap, ok_bind, exc_bind, List.getElem?_cons_zero, List.getElem?_cons_succ, List.set_cons_zero, List.set_cons_succ, List.map_cons, List.map_nil, List.cons_append, List.nil_append, List.replicate_succ, List.replicate_zero, cnd_s, cnd_n, all_map]
            simp only [ne_eq, h0, not_false_eq_true, decide_true, Bool.true_and]
            exact ⟨_, rfl⟩
          · simp only [↓bind_bnd, ok_bnd, exc_bnd, v_ap, k_ap, e1_ap, e2_ap, ret_ap, expr_ap, asg_ap, nil_ap, seq_ap, if_ap, ifB_ap, tr_b, noD_ap, and_ap, or_ap, not_ap, chB_ap, tup_ap, lst_ap, eL_n, eL_c, call_ap, callX_ap, nox_ok, for_ap, iSeq_ap, seq_t, seq_l, iR1_ap, iR2_ap, name_ap, ok_bind, exc_bind, List.getElem?_cons_zero, List.getElem?_cons_succ, List.set_cons_zero, List.set_cons_succ, List.map_cons, List.map_nil, List.cons_append, List.nil_append, List.replicate_succ, List.replicate_zero, cnd_s, cnd_n, len_T, sub_i]
            rw [rng1_sub hf]; rfl
          · intro i hi
            have hi := List.mem_range.1 hi
            have q : i + 1 < f.length := by omega
            simp only [↓bind_bnd, ok_bnd, exc_bnd, v_ap, k_ap, e1_ap, e2_ap, ret_ap, expr_ap, asg_ap, nil_ap, seq_ap, if_ap, ifB_ap, tr_b, noD_ap, and_ap, or_ap, not_ap, chB_ap, tup_ap, lst_ap, eL_n, eL_c, call_ap, callX_ap, nox_ok, for_ap, iSeq_ap, seq_t, seq_l, iR1_ap, iR2_ap, name_ap, ok_bind, exc_bind, List.getElem?_cons_zero, List.getElem?_cons_succ, List.set_cons_zero, List.set_cons_succ, List.map_cons, List.map_nil, List.cons_append, List.nil_append, List.replicate_succ, List.replicate_zero, cnd_s, cnd_n, idx_i (show i < f.length by omega), add_i]
            rw [show ((i : Int) + 1) = ((i + 1 : Nat) : Int) from by simp, idx_i q]
            simp only [↓bind_bnd, ok_bnd, exc_bnd, v_ap, k_ap, e1_ap, e2_ap, ret_ap, expr_ap, asg_ap, nil_ap, seq_ap, if_ap, ifB_ap, tr_b, noD_ap, and_ap, or_ap, not_ap, chB_ap, tup_ap, lst_ap, eL_n, eL_c, call_ap, callX_ap, nox_ok, for_ap, iSeq_ap, seq_t, seq_l, iR1_ap, iR2_ap, name_ap, ok_bind, exc_bind, List.getElem?_cons_zero, List.getElem?_cons_succ, List.set_cons_zero, List.set_cons_succ, List.map_cons, List.map_nil, List.cons_append, List.nil_append, List.replicate_succ, List.replicate_zero, cnd_s, cnd_n, lt_i]
        · have h1' : (f.all fun x => decide (0 ≤ x) && decide (x ≤ 15)) = false := Bool.eq_false_iff.2 h1
          have h1 : rngB f = false := h1'
          simp only [h1, h1', Bool.not_false, if_true, ok_bind, ok_bnd, ret_ap, k_ap, Bool.and_false, Bool.false_and]
          exact ⟨_, rfl⟩
      · intro x _
        simp only [↓bind_bnd, ok_bnd, exc_bnd, v_ap, k_ap, e1_ap, e2_ap, ret_ap, expr_ap, asg_ap, nil_ap, seq_ap, if_ap, ifB_ap, tr_b, noD_ap, and_ap, or_ap, not_ap, chB_ap, tup_ap, lst_ap, eL_n, eL_c, call_ap, callX_ap, nox_ok, for_ap, iSeq_ap, seq_t, seq_l, iR1_ap, iR2_ap, name_ap, ok_bind, exc_bind, List.getElem?_cons_zero, List.getElem?_cons_succ, List.set_cons_zero, List.set_cons_succ, List.map_cons, List.map_nil, List.cons_append, List.nil_append, List.replicate_succ, List.replicate_zero, cnd_s, cnd_n, isint_i, le_i]
        cases decide (0 ≤ x) <;> simp only [↓bind_bnd, ok_bnd, exc_bnd, v_ap, k_ap, e1_ap, e2_ap, ret_ap, expr_ap, asg_ap, nil_ap, seq_ap, if_ap, ifB_ap, tr_b, noD_ap, and_ap, or_ap, not_ap, chB_ap, tup_ap, lst_ap, eL_n, eL_c, call_ap, callX_ap, nox_ok, for_ap, iSeq_ap, seq_t, seq_l, iR1_ap, iR2_ap, name_ap, ok_bind, exc_bind, List.getElem?_cons_zero, List.getElem?_cons_succ, List.set_cons_zero, List.set_cons_succ, List.map_cons, List.map_nil, List.cons_append, List.nil_append, List.replicate_succ, List.replicate_zero, cnd_s, cnd_n, Bool.true_and, Bool.false_and]
  obtain ⟨ρ', e⟩ := step
  exact mkF_ok e
end Pl

namespace Pl
open PySem Mi Pu K88

theorem length_grow (fs : List (List Int)) (x : Int) : (grow fs x).length = 2 * fs.length := by simp [grow]; omega
theorem add_TT {f : List Int} {x : Int} (h : f.length + 1 ≤ lim) : addP (T f) (.tup [.int x]) = .ok (T (f ++ [x])) := by
  simp only [T, addP, List.length_map, List.length_cons, List.length_nil]
  rw [if_pos (by simpa using h)]
  simp
theorem add_LL {fs gs : List (List Int)} (h : fs.length + gs.length ≤ lim) : addP (LL fs) (LL gs) = .ok (LL (fs ++ gs)) := by
  simp only [LL, addP, List.length_map]
  rw [if_pos h]
  simp
theorem parts_step {B : PV} {x : Int} {fs : List (List Int)} {o : Option PV} (h1 : ∀ f ∈ fs, f.length + 1 ≤ lim) (h2 : 2 * fs.length ≤ lim) :
    sAsg 1 (e2 addP (eVar 1) (eComp (gName 3) none (e2 addP (eVar 3) (eTup [(eVar 2)])) [3] (iSeq (eVar 1)))) [some B, some (LL fs), some (.int x), o] = .ok (.next, [some B, some (LL (grow fs x)), some (.int x), o]) := by
  unfold sAsg
  have hc : eComp (gName 3) none (e2 addP (eVar 3) (eTup [(eVar 2)])) [3] (iSeq (eVar 1)) [some B, some (LL fs), some (.int x), o] = .ok (LL (fs.map (· ++ [x])), [some B, some (LL fs), some (.int x), o]) := by
    rw [comp0A (v := 3) (xs := fs) (enc := T) (ρ' := [some B, some (LL fs), some (.int x), o]) (fun f => T (f ++ [x])) rfl (Nat.lt_succ_self 3) ?_]
    · simp [LL]
    · intro f hf
      have := add_TT (x := x) (h1 f hf)
      simp only [e2, eVar, eTup, eL, List.set, List.getElem?_cons_zero, List.getElem?_cons_succ, ok_bind, ok_bnd]
      rw [this]; rfl
  have : e2 addP (eVar 1) (eComp (gName 3) none (e2 addP (eVar 3) (eTup [(eVar 2)])) [3] (iSeq (eVar 1))) [some B, some (LL fs), some (.int x), o] = .ok (LL (grow fs x), [some B, some (LL fs), some (.int x), o]) := by
    unfold e2
    rw [show eVar 1 [some B, some (LL fs), some (.int x), o] = .ok (LL fs, [some B, some (LL fs), some (.int x), o]) from rfl]
    simp only [ok_bind, ok_bnd]
    rw [show e2 addP (eVar 3) (eTup [(eVar 2)]) = _ from rfl] at hc
    unfold e2 at hc
    rw [hc]
    simp only [ok_bind, ok_bnd]
    rw [add_LL (by simp; omega)]
    rfl
  rw [this]
  rfl
theorem gt_0 (n : Nat) : gtP (.int n) (.int 0) = .ok (.bool (decide (0 < n))) := by simp [gtP]
theorem two_pow_le {k : Nat} (h : k ≤ 7) : 2 ^ k ≤ 128 := Nat.pow_le_pow_right (n := 2) (by decide) h
theorem parts_loop {B : PV} : ∀ (b : List Int) (fs : List (List Int)) (k : Nat) (u o : Option PV), (∀ f ∈ fs, f.length ≤ k) → fs.length ≤ 2 ^ k → k + b.length ≤ 7 →
    ∃ u', forL (gName 2) (sAsg 1 (e2 addP (eVar 1) (eComp (gName 3) none (e2 addP (eVar 3) (eTup [(eVar 2)])) [3] (iSeq (eVar 1))))) (b.map .int) [some B, some (LL fs), u, o] =
      .ok (.next, [some B, some (LL (b.foldl grow fs)), u', o])
  | [], fs, k, u, o, _, _, _ => ⟨u, rfl⟩
  | x :: b, fs, k, u, o, h1, h2, h3 => by
    have h3 : k + b.length + 1 ≤ 7 := h3
    have p7 := two_pow_le (k := k) (by omega)
    have hl : lim = 16777216 := rfl
    obtain ⟨u', ih⟩ := parts_loop (B := B) b (grow fs x) (k + 1) (some (.int x)) o (fun f hf => by
      rcases List.mem_append.1 hf with h | h
      · exact Nat.le_succ_of_le (h1 f h)
      · obtain ⟨g, hg, rfl⟩ := List.mem_map.1 h
        have := h1 g hg
        simp; omega) (by rw [length_grow, Nat.pow_succ]; omega) (by omega)
    refine ⟨u', ?_⟩
    simp only [List.map_cons, List.foldl_cons]
    unfold forL
    rw [show gName 2 (.int x) [some B, some (LL fs), u, o] = .ok [some B, some (LL fs), some (.int x), o] from rfl]
    simp only [ok_bind, ok_bnd]
    rw [parts_step (fun f hf => by have := h1 f hf; omega) (by omega)]
    simp only [ok_bind, ok_bnd]
    exact ih
theorem parts_eq (b : List Int) (h : b.length ≤ 7) : m_parts_of [T b] = .ok (LL (partsA b)) := by
  obtain ⟨u', e⟩ := parts_loop (B := T b) b [[]] 0 none none (by simp) (by simp) (by omega)
  unfold m_parts_of mkF b_parts_of sSeq sFor
  rw [show sAsg 1 (eLst [eTup []]) (List.map some [T b] ++ List.replicate 3 none) = .ok (.next, [some (T b), some (LL [[]]), none, none]) from rfl]
  simp only [ok_bind, ok_bnd]
  rw [show iSeq (eVar 0) [some (T b), some (LL [[]]), none, none] = .ok (b.map .int, [some (T b), some (LL [[]]), none, none]) from rfl]
  simp only [ok_bind, ok_bnd]
  rw [e]
  simp only [ok_bind, ok_bnd, sRet]
  rw [compA (v := 3) (xs := b.foldl grow [[]]) (enc := T) (ρ' := [some (T b), some (LL (b.foldl grow [[]])), u', none]) (fun f => decide (0 < f.length)) T rfl (Nat.lt_succ_self 3) ?_ ?_]
  · rfl
  · intro f _
    simp only [↓bind_bnd, ok_bnd, exc_bnd, v_ap, k_ap, e1_ap, e2_ap, ret_ap, expr_ap, asg_ap, nil_ap, seq_ap, if_ap, ifB_ap, tr_b, noD_ap, and_ap, or_ap, not_ap, chB_ap, tup_ap, lst_ap, eL_n, eL_c, call_ap, callX_ap, nox_ok, for_ap, iSeq_ap, seq_t, seq_l, iR1_ap, iR2_ap, name_ap, ok_bind, exc_bind, List.getElem?_cons_zero, List.getElem?_cons_succ, List.set_cons_zero, List.set_cons_succ, List.map_cons, List.map_nil, List.cons_append, List.nil_append, List.replicate_succ, List.replicate_zero, cnd_s, cnd_n, len_T, gt_0]
  · intro f _ _
    rfl

theorem length_growL (fs : List (List Int)) (x : Int) : (growL fs x).length = 2 * fs.length := by
  induction fs with
  | nil => rfl
  | cons f fs ih => simp only [growL, List.flatMap_cons, List.length_append, List.length_cons, List.length_nil] at ih ⊢; omega
theorem add_LT {gs : List (List Int)} {a b : List Int} (h : gs.length + 2 ≤ lim) : addP (LL gs) (.lst [T a, T b]) = .ok (LL (gs ++ [a, b])) := add_LL (gs := [a, b]) h
theorem inner {B L x : PV} : ∀ (fs gs : List (List Int)) (n : Int) (u : Option PV), (∀ f ∈ fs, f.length + 1 ≤ lim) → gs.length + 2 * fs.length ≤ lim →
    ∃ u', forL (gName 4) (sAsg 3 (e2 addP (eVar 3) (eLst [(eVar 4), (e2 addP (eVar 4) (eTup [(eVar 2)]))]))) (fs.map T) [some B, some L, some (.int n), some (LL gs), u] =
      .ok (.next, [some B, some L, some (.int n), some (LL (gs ++ growL fs n)), u'])
  | [], gs, n, u, _, _ => ⟨u, by simp [growL, forL]⟩
  | f :: fs, gs, n, u, h1, h2 => by
    simp only [List.length_cons] at h2
    obtain ⟨u', ih⟩ := inner (B := B) (L := L) (x := x) fs (gs ++ [f, f ++ [n]]) n (some (T f)) (fun g hg => h1 g (.tail _ hg)) (by simp; omega)
    refine ⟨u', ?_⟩
    simp only [List.map_cons]
    unfold forL
    rw [show gName 4 (T f) [some B, some L, some (.int n), some (LL gs), u] = .ok [some B, some L, some (.int n), some (LL gs), some (T f)] from rfl]
    simp only [ok_bind, ok_bnd]
    have a := add_TT (x := n) (h1 f (.head _))
    have e : sAsg 3 (e2 addP (eVar 3) (eLst [(eVar 4), (e2 addP (eVar 4) (eTup [(eVar 2)]))])) [some B, some L, some (.int n), some (LL gs), some (T f)] = .ok (.next, [some B, some L, some (.int n), some (LL (gs ++ [f, f ++ [n]])), some (T f)]) := by
      simp only [sAsg, e2, eVar, eLst, eTup, eL, List.getElem?_cons_zero, List.getElem?_cons_succ, ok_bind, ok_bnd]
      rw [a]
      simp only [ok_bind, ok_bnd]
      rw [add_LT (by omega)]
      rfl
    rw [e]
    simp only [ok_bind, ok_bnd]
    rw [ih]
    simp [growL]
theorem lparts_loop {B : PV} : ∀ (b : List Int) (fs : List (List Int)) (k : Nat) (u l o : Option PV), (∀ f ∈ fs, f.length ≤ k) → fs.length ≤ 2 ^ k → k + b.length ≤ 7 →
    ∃ u' l' o', forL (gName 2) (sSeq (sAsg 3 (eLst [])) (sSeq (sFor (gName 4) (iSeq (eVar 1)) (sAsg 3 (e2 addP (eVar 3) (eLst [(eVar 4), (e2 addP (eVar 4) (eTup [(eVar 2)]))])))) (sAsg 1 (e1 listP (eVar 3))))) (b.map .int) [some B, some (LL fs), u, l, o] =
      .ok (.next, [some B, some (LL (b.foldl growL fs)), u', l', o'])
  | [], fs, k, u, l, o, _, _, _ => ⟨u, l, o, rfl⟩
  | x :: b, fs, k, u, l, o, h1, h2, h3 => by
    have h3 : k + b.length + 1 ≤ 7 := h3
    have p7 := two_pow_le (k := k) (by omega)
    have hl : lim = 16777216 := rfl
    obtain ⟨i', ei⟩ := inner (B := B) (L := LL fs) (x := .non) fs [] x o (fun f hf => by have := h1 f hf; omega) (by simp; omega)
    obtain ⟨u', l', o', ih⟩ := lparts_loop (B := B) b (growL fs x) (k + 1) (some (.int x)) (some (LL (growL fs x))) i' (fun f hf => by
      obtain ⟨g, hg, hf⟩ := List.mem_flatMap.1 hf
      have := h1 g hg
      simp only [List.mem_cons, List.not_mem_nil, or_false] at hf
      rcases hf with rfl | rfl
      · omega
      · simp; omega) (by rw [length_growL, Nat.pow_succ]; omega) (by omega)
    refine ⟨u', l', o', ?_⟩
    simp only [List.map_cons, List.foldl_cons]
    unfold forL
    rw [show gName 2 (.int x) [some B, some (LL fs), u, l, o] = .ok [some B, some (LL fs), some (.int x), l, o] from rfl]
    simp only [ok_bind, ok_bnd]
    have e1 : sSeq (sAsg 3 (eLst [])) (sSeq (sFor (gName 4) (iSeq (eVar 1)) (sAsg 3 (e2 addP (eVar 3) (eLst [(eVar 4), (e2 addP (eVar 4) (eTup [(eVar 2)]))])))) (sAsg 1 (Mi.e1 listP (eVar 3)))) [some B, some (LL fs), some (.int x), l, o] = .ok (.next, [some B, some (LL (growL fs x)), some (.int x), some (LL (growL fs x)), i']) := by
      unfold sSeq sFor
      rw [show sAsg 3 (eLst []) [some B, some (LL fs), some (.int x), l, o] = .ok (.next, [some B, some (LL fs), some (.int x), some (LL []), o]) from rfl]
      simp only [ok_bind, ok_bnd]
      rw [show iSeq (eVar 1) [some B, some (LL fs), some (.int x), some (LL []), o] = .ok (fs.map T, [some B, some (LL fs), some (.int x), some (LL []), o]) from rfl]
      simp only [ok_bind, ok_bnd]
      rw [ei]
      rfl
    rw [e1]
    simp only [ok_bind, ok_bnd]
    exact ih
theorem lparts_eq (b : List Int) (h : b.length ≤ 7) : m__law_parts [T b] = .ok (LL (partsL b)) := by
  obtain ⟨u', l', o', e⟩ := lparts_loop (B := T b) b [[]] 0 none none none (by simp) (by simp) (by omega)
  unfold m__law_parts mkF b__law_parts
  rw [show ∀ (a c : SS) ρ, sSeq a c ρ = (a ρ >>= fun r => match r.1 with | .next => c r.2 | .ret p => .ok (.ret p, r.2)) from fun _ _ _ => rfl]
  rw [show sAsg 1 (eLst [eTup []]) (List.map some [T b] ++ List.replicate 4 none) = .ok (.next, [some (T b), some (LL [[]]), none, none, none]) from rfl]
  simp only [ok_bind, ok_bnd]
  rw [show ∀ (a c : SS) ρ, sSeq a c ρ = (a ρ >>= fun r => match r.1 with | .next => c r.2 | .ret p => .ok (.ret p, r.2)) from fun _ _ _ => rfl]
  unfold sFor at e ⊢
  rw [show iSeq (eVar 0) [some (T b), some (LL [[]]), none, none, none] = .ok (b.map .int, [some (T b), some (LL [[]]), none, none, none]) from rfl]
  simp only [ok_bind, ok_bnd]
  rw [e]
  simp only [ok_bind, ok_bnd, sRet]
  rw [compA (v := 4) (xs := b.foldl growL [[]]) (enc := T) (ρ' := [some (T b), some (LL (b.foldl growL [[]])), u', l', o']) (fun f => decide (0 < f.length)) T rfl (Nat.lt_succ_self 4) ?_ ?_]
  · rfl
  · intro f _
    simp only [↓bind_bnd, ok_bnd, exc_bnd, v_ap, k_ap, e1_ap, e2_ap, ret_ap, expr_ap, asg_ap, nil_ap, seq_ap, if_ap, ifB_ap, tr_b, noD_ap, and_ap, or_ap, not_ap, chB_ap, tup_ap, lst_ap, eL_n, eL_c, call_ap, callX_ap, nox_ok, for_ap, iSeq_ap, seq_t, seq_l, iR1_ap, iR2_ap, name_ap, ok_bind, exc_bind, List.getElem?_cons_zero, List.getElem?_cons_succ, List.set_cons_zero, List.set_cons_succ, List.map_cons, List.map_nil, List.cons_append, List.nil_append, List.replicate_succ, List.replicate_zero, cnd_s, cnd_n, len_T, gt_0]
  · intro f _ _
    rfl
end Pl

namespace Pl
open PySem Mi Pu K88
theorem put_loop {B b : Option PV} : ∀ (gs l : List (List Int)) (o : Option PV), l.length + gs.length ≤ lim →
    ∃ o', forL (gName 3) (sSetD 1 (eVar 3) (eK (.bool true))) (gs.map T) [B, some (DD l), b, o] = .ok (.next, [B, some (DD (insL l gs)), b, o'])
  | [], l, o, _ => ⟨o, rfl⟩
  | g :: gs, l, o, h => by
    simp only [List.length_cons] at h
    obtain ⟨o', ih⟩ := put_loop (B := B) (b := b) gs (ins l g) (some (T g)) (by have := (length_ins l g).2; omega)
    refine ⟨o', ?_⟩
    rw [List.map_cons]
    unfold forL
    simp only [↓bind_bnd, ok_bnd, exc_bnd, v_ap, k_ap, e1_ap, e2_ap, ret_ap, expr_ap, asg_ap, nil_ap, seq_ap, if_ap, ifB_ap, tr_b, noD_ap, and_ap, or_ap, not_ap, chB_ap, tup_ap, lst_ap, eL_n, eL_c, call_ap, callX_ap, nox_ok, for_ap, iSeq_ap, seq_t, seq_l, iR1_ap, iR2_ap, name_ap, ok_bind, exc_bind, List.getElem?_cons_zero, List.getElem?_cons_succ, List.set_cons_zero, List.set_cons_succ, List.map_cons, List.map_nil, List.cons_append, List.nil_append, List.replicate_succ, List.replicate_zero, cnd_s, cnd_n, setD_ap, put_DD g (show l.length < lim by omega)]
    exact ih
theorem seq_DD (l : List (List Int)) : lenD (DD l) = if l.length < lim then .ok (.int l.length) else .stuck := by
  unfold lenD DD; simp only [List.length_map]
abbrev large : Exc := { cls := 0, arg := some "large" }
theorem len_partsA {b : List Int} (h : b.length ≤ 7) : (partsA b).length ≤ 128 := by
  unfold partsA
  refine Nat.le_trans (List.length_filter_le _ _) ?_
  rw [length_foldA]
  have := two_pow_le h
  simp; omega
theorem faces_loop {B : Option PV} : ∀ (fs l : List (List Int)) (b o : Option PV), l.length ≤ 200 →
    (∀ m, goI l fs = some m → ∃ b' o', forL (gName 2) (sSeq (sIf (e2 gtP (e1 lenS (eVar 2)) (eK (.int 7))) (sRaise 0 "large") sNil)
  (sSeq (sFor (gName 3) (iSeq (eCall m_parts_of [(eVar 2)])) (sSetD 1 (eVar 3) (eK (.bool true))))
  (sIf (e2 gtP (e1 lenD (eVar 1)) (eK (.int 200))) (sRaise 0 "large") sNil))) (fs.map T) [B, some (DD l), b, o] = .ok (.next, [B, some (DD m), b', o'])) ∧
    (goI l fs = none → forL (gName 2) (sSeq (sIf (e2 gtP (e1 lenS (eVar 2)) (eK (.int 7))) (sRaise 0 "large") sNil)
  (sSeq (sFor (gName 3) (iSeq (eCall m_parts_of [(eVar 2)])) (sSetD 1 (eVar 3) (eK (.bool true))))
  (sIf (e2 gtP (e1 lenD (eVar 1)) (eK (.int 200))) (sRaise 0 "large") sNil))) (fs.map T) [B, some (DD l), b, o] = .exc large)
  | [], l, b, o, _ => ⟨fun m h => ⟨b, o, by cases h; rfl⟩, fun h => by cases h⟩
  | f :: fs, l, b, o, hl => by
    have hlim : lim = 16777216 := rfl
    rw [List.map_cons]
    unfold forL goI
    by_cases h7 : 7 < f.length
    · have h7' : (decide ((7 : Int) < (f.length : Int))) = true := decide_eq_true (by omega)
      simp only [h7, if_true]
      refine ⟨fun m h => (by cases h), fun _ => ?_⟩
      simp only [↓bind_bnd, ok_bnd, exc_bnd, v_ap, k_ap, e1_ap, e2_ap, ret_ap, expr_ap, asg_ap, nil_ap, seq_ap, if_ap, ifB_ap, tr_b, noD_ap, and_ap, or_ap, not_ap, chB_ap, tup_ap, lst_ap, eL_n, eL_c, call_ap, callX_ap, nox_ok, for_ap, iSeq_ap, seq_t, seq_l, iR1_ap, iR2_ap, name_ap, ok_bind, exc_bind, List.getElem?_cons_zero, List.getElem?_cons_succ, List.set_cons_zero, List.set_cons_succ, List.map_cons, List.map_nil, List.cons_append, List.nil_append, List.replicate_succ, List.replicate_zero, cnd_s, cnd_n, len_T, gt_i, h7', if_true]
      rfl
    · have h7' : (decide ((7 : Int) < (f.length : Int))) = false := decide_eq_false (by omega)
      have hp := len_partsA (b := f) (by omega)
      obtain ⟨o', e⟩ := put_loop (B := B) (b := some (T f)) (partsA f) l o (by omega)
      have hl2 := (length_insL (partsA f) l).2
      simp only [h7, if_false]
      simp only [↓bind_bnd, ok_bnd, exc_bnd, v_ap, k_ap, e1_ap, e2_ap, ret_ap, expr_ap, asg_ap, nil_ap, seq_ap, if_ap, ifB_ap, tr_b, noD_ap, and_ap, or_ap, not_ap, chB_ap, tup_ap, lst_ap, eL_n, eL_c, call_ap, callX_ap, nox_ok, for_ap, iSeq_ap, seq_t, seq_l, iR1_ap, iR2_ap, name_ap, ok_bind, exc_bind, List.getElem?_cons_zero, List.getElem?_cons_succ, List.set_cons_zero, List.set_cons_succ, List.map_cons, List.map_nil, List.cons_append, List.nil_append, List.replicate_succ, List.replicate_zero, cnd_s, cnd_n, len_T, gt_i, h7', Bool.false_eq_true, if_false, parts_eq f (by omega), e, seq_DD, show (insL l (partsA f)).length < lim by omega, if_true]
      by_cases h2 : 200 < (insL l (partsA f)).length
      · have h2' : (decide ((200 : Int) < ((insL l (partsA f)).length : Int))) = true := decide_eq_true (by omega)
        simp only [h2, h2', if_true]
        exact ⟨fun m h => (by cases h), fun _ => rfl⟩
      · have h2' : (decide ((200 : Int) < ((insL l (partsA f)).length : Int))) = false := decide_eq_false (by omega)
        simp only [h2, h2', if_false, Bool.false_eq_true, ok_bind, ok_bnd]
        exact faces_loop fs _ _ _ (by omega)
theorem faces_ok {fs m : List (List Int)} (h : goI [] fs = some m) : m_faces_in [TT fs] = .ok (DD m) := by
  obtain ⟨b', o', e⟩ := (faces_loop (B := some (TT fs)) fs [] none none (by simp)).1 m h
  have e0 : DD [] = .dct [] := rfl
  rw [e0] at e
  refine mkF_ok (ρ' := [some (TT fs), some (DD m), b', o']) ?_
  unfold b_faces_in
  simp only [↓bind_bnd, ok_bnd, exc_bnd, v_ap, k_ap, e1_ap, e2_ap, ret_ap, expr_ap, asg_ap, nil_ap, seq_ap, if_ap, ifB_ap, tr_b, noD_ap, and_ap, or_ap, not_ap, chB_ap, tup_ap, lst_ap, eL_n, eL_c, call_ap, callX_ap, nox_ok, for_ap, iSeq_ap, seq_t, seq_l, iR1_ap, iR2_ap, name_ap, ok_bind, exc_bind, List.getElem?_cons_zero, List.getElem?_cons_succ, List.set_cons_zero, List.set_cons_succ, List.map_cons, List.map_nil, List.cons_append, List.nil_append, List.replicate_succ, List.replicate_zero, cnd_s, cnd_n, e]
theorem faces_exc {fs : List (List Int)} (h : goI [] fs = none) : m_faces_in [TT fs] = .exc large := by
  have e := (faces_loop (B := some (TT fs)) fs [] none none (by simp)).2 h
  have e0 : DD [] = .dct [] := rfl
  rw [e0] at e
  refine mkF_exc ?_
  unfold b_faces_in
  simp only [↓bind_bnd, ok_bnd, exc_bnd, v_ap, k_ap, e1_ap, e2_ap, ret_ap, expr_ap, asg_ap, nil_ap, seq_ap, if_ap, ifB_ap, tr_b, noD_ap, and_ap, or_ap, not_ap, chB_ap, tup_ap, lst_ap, eL_n, eL_c, call_ap, callX_ap, nox_ok, for_ap, iSeq_ap, seq_t, seq_l, iR1_ap, iR2_ap, name_ap, ok_bind, exc_bind, List.getElem?_cons_zero, List.getElem?_cons_succ, List.set_cons_zero, List.set_cons_succ, List.map_cons, List.map_nil, List.cons_append, List.nil_append, List.replicate_succ, List.replicate_zero, cnd_s, cnd_n, e]
/-- _law_faces -/
theorem lawf_loop {B : Option PV} : ∀ (fs l : List (List Int)) (b o : Option PV), (∀ f ∈ fs, f.length ≤ 7) → l.length + 128 * fs.length ≤ lim →
    ∃ b' o', forL (gName 2) (sFor (gName 3) (iSeq (eCall m__law_parts [(eVar 2)])) (sSetD 1 (eVar 3) (eK (.bool true)))) (fs.map T) [B, some (DD l), b, o] = .ok (.next, [B, some (DD (insP partsL l fs)), b', o'])
  | [], l, b, o, _, _ => ⟨b, o, rfl⟩
  | f :: fs, l, b, o, h7, hl => by
    have hlen : (partsL f).length ≤ 128 := by
      unfold partsL
      refine Nat.le_trans (List.length_filter_le _ _) ?_
      have key : ∀ (b : List Int) (fs : List (List Int)), (b.foldl growL fs).length = fs.length * 2 ^ b.length := by
        intro b
        induction b with
        | nil => intro fs; simp
        | cons x b ih =>
          intro fs
          show (b.foldl growL (growL fs x)).length = _
          rw [ih, length_growL, List.length_cons, Nat.pow_succ, Nat.mul_comm 2, Nat.mul_assoc, Nat.mul_comm 2]
      rw [key]
      have := two_pow_le (h7 f (by simp))
      simp; omega
    simp only [List.length_cons] at hl
    obtain ⟨o', e⟩ := put_loop (B := B) (b := some (T f)) (partsL f) l o (by omega)
    have hl2 := (length_insL (partsL f) l).2
    obtain ⟨b2, o2, ih⟩ := lawf_loop (B := B) fs (insL l (partsL f)) (some (T f)) o' (fun x hx => h7 x (List.mem_cons_of_mem f hx)) (by omega)
    refine ⟨b2, o2, ?_⟩
    rw [List.map_cons]
    unfold forL
    simp only [↓bind_bnd, ok_bnd, exc_bnd, v_ap, k_ap, e1_ap, e2_ap, ret_ap, expr_ap, asg_ap, nil_ap, seq_ap, if_ap, ifB_ap, tr_b, noD_ap, and_ap, or_ap, not_ap, chB_ap, tup_ap, lst_ap, eL_n, eL_c, call_ap, callX_ap, nox_ok, for_ap, iSeq_ap, seq_t, seq_l, iR1_ap, iR2_ap, name_ap, ok_bind, exc_bind, List.getElem?_cons_zero, List.getElem?_cons_succ, List.set_cons_zero, List.set_cons_succ, List.map_cons, List.map_nil, List.cons_append, List.nil_append, List.replicate_succ, List.replicate_zero, cnd_s, cnd_n, lparts_eq f (h7 f (by simp)), e]
    exact ih
theorem ne_insP {ks l : List (List Int)} (hl : ∀ f ∈ l, f ≠ []) : ∀ f ∈ insP partsL l ks, f ≠ [] := fun f hf => by
  rcases mem_insP.1 hf with q | ⟨o, _, q⟩
  · exact hl f q
  · exact (mem_partsL.1 q).1
def facesL (fs : List (List Int)) : List (List Int) := srt leI (insP partsL [] fs)
theorem len_insP : ∀ (ks l : List (List Int)), (∀ f ∈ ks, f.length ≤ 7) → (insP partsL l ks).length ≤ l.length + 128 * ks.length
  | [], l, _ => by simp [insP]
  | f :: ks, l, h7 => by
    have hlen : (partsL f).length ≤ 128 := by
      unfold partsL
      refine Nat.le_trans (List.length_filter_le _ _) ?_
      have key : ∀ (b : List Int) (fs : List (List Int)), (b.foldl growL fs).length = fs.length * 2 ^ b.length := by
        intro b
        induction b with
        | nil => intro fs; simp
        | cons x b ih =>
          intro fs
          show (b.foldl growL (growL fs x)).length = _
          rw [ih, length_growL, List.length_cons, Nat.pow_succ, Nat.mul_comm 2, Nat.mul_assoc, Nat.mul_comm 2]
      rw [key]
      have := two_pow_le (h7 f (by simp))
      simp; omega
    have h1 := (length_insL (partsL f) l).2
    have h2 := len_insP ks (insL l (partsL f)) fun x hx => h7 x (List.mem_cons_of_mem f hx)
    show (insP partsL (insL l (partsL f)) ks).length ≤ _
    simp only [List.length_cons]
    omega
theorem lfaces_eq {p : PV} {fs : List (List Int)} (hp : p.seq? = some (fs.map T)) (h7 : ∀ f ∈ fs, f.length ≤ 7) (hl : fs.length ≤ 100000) : m__law_faces [p] = .ok (LL (facesL fs)) := by
  have hlim : lim = 16777216 := rfl
  obtain ⟨b', o', e⟩ := lawf_loop (B := some p) fs [] none none h7 (by simp; omega)
  have e0 : DD [] = .dct [] := rfl
  rw [e0] at e
  have := len_insP fs [] h7
  refine mkF_ok (ρ' := [some p, some (DD (insP partsL [] fs)), b', o']) ?_
  unfold b__law_faces
  simp only [↓bind_bnd, ok_bnd, exc_bnd, v_ap, k_ap, e1_ap, e2_ap, ret_ap, expr_ap, asg_ap, nil_ap, seq_ap, if_ap, ifB_ap, tr_b, noD_ap, and_ap, or_ap, not_ap, chB_ap, tup_ap, lst_ap, eL_n, eL_c, call_ap, callX_ap, nox_ok, for_ap, iSeq_ap, seq_t, seq_l, iR1_ap, iR2_ap, name_ap, ok_bind, exc_bind, List.getElem?_cons_zero, List.getElem?_cons_succ, List.set_cons_zero, List.set_cons_succ, List.map_cons, List.map_nil, List.cons_append, List.nil_append, List.replicate_succ, List.replicate_zero, cnd_s, cnd_n, hp, e, sorted_DD (ne_insP (ks := fs) (l := []) (by simp)) (show (insP partsL [] fs).length ≤ lim by simp at this; omega)]
  rfl
end Pl

namespace Pl
open PySem Mi Pu K88
theorem compLA {α : Type} {enc : α → PV} {v : Nat} {e : ES} {ρ : Mi.Env} (f : α → PV) : ∀ (xs : List α), (∀ x ∈ xs, e (ρ.set v (some (enc x))) = .ok (f x, ρ.set v (some (enc x)))) →
    compL (gName v) none e [v] (xs.map enc) (ρ.set v none) = .ok (xs.map f, ρ.set v none)
  | [], _ => rfl
  | x :: xs, h => by
    have ih := compLA f xs fun y hy => h y (.tail _ hy)
    simp only [List.map_cons]
    unfold compL
    simp only [Mi.gName, ok_bind, ok_bnd, set_set', cnd_n, if_true, h x (.head _), wipeE, ih]
theorem for_all {α : Type} {enc : α → PV} {γ : GS} {s : SS} {r : PV} (ok : α → Bool) (J : Mi.Env → Prop) : ∀ (xs : List α),
    (∀ x ∈ xs, ∀ ρ, J ρ → ∃ ρ1, γ (enc x) ρ = .ok ρ1 ∧ ((ok x = true ∧ ∃ ρ2, s ρ1 = .ok (.next, ρ2) ∧ J ρ2) ∨ (ok x = false ∧ ∃ ρ2, s ρ1 = .ok (.ret r, ρ2)))) →
    ∀ ρ, J ρ → (xs.all ok = true ∧ ∃ ρ', forL γ s (xs.map enc) ρ = .ok (.next, ρ') ∧ J ρ') ∨ (xs.all ok = false ∧ ∃ ρ', forL γ s (xs.map enc) ρ = .ok (.ret r, ρ'))
  | [], _, ρ, j => .inl ⟨rfl, ρ, rfl, j⟩
  | x :: xs, h, ρ, j => by
    obtain ⟨ρ1, h1, h2⟩ := h x (.head _) ρ j
    rcases h2 with ⟨o, ρ2, e, j2⟩ | ⟨o, ρ2, e⟩
    · rcases for_all ok J xs (fun y hy => h y (.tail _ hy)) ρ2 j2 with ⟨a, ρ', f, j3⟩ | ⟨a, ρ', f⟩
      · refine .inl ⟨by simp [o, a], ρ', ?_, j3⟩
        rw [List.map_cons]; unfold forL; simp only [h1, ok_bind, ok_bnd, e, f]
      · refine .inr ⟨by rw [List.all_cons, o, a]; rfl, ρ', ?_⟩
        rw [List.map_cons]; unfold forL; simp only [h1, ok_bind, ok_bnd, e, f]
    · refine .inr ⟨by rw [List.all_cons, o]; rfl, ρ2, ?_⟩
      rw [List.map_cons]; unfold forL; simp only [h1, ok_bind, ok_bnd, e]
theorem bools2 {α β : Type} (b : α → β → Bool) (qs : List β) : ∀ ps : List α, boolsOf (ps.flatMap fun i => qs.map fun j => PV.bool (b i j)) = some (ps.flatMap fun i => qs.map (b i))
  | [] => rfl
  | p :: ps => by
    have ap : ∀ (xs : List Bool) (ys : List PV) (zs : List Bool), boolsOf ys = some zs → boolsOf (xs.map PV.bool ++ ys) = some (xs ++ zs) := by
      intro xs
      induction xs with
      | nil => intro ys zs h; exact h
      | cons x xs ih => intro ys zs h; simp [boolsOf, ih ys zs h]
    have := ap (qs.map (b p)) _ _ (bools2 b qs ps)
    rw [List.map_map] at this
    simp only [List.flatMap_cons]
    exact this
theorem any2 {α β : Type} (b : α → β → Bool) (ps : List α) (qs : List β) : anyP (.lst (ps.flatMap fun i => qs.map fun j => PV.bool (b i j))) = .ok (.bool (ps.any fun i => qs.any fun j => b i j)) := by
  have h : lstBools (.lst (ps.flatMap fun i => qs.map fun j => PV.bool (b i j))) = some (ps.flatMap fun i => qs.map (b i)) := bools2 b qs ps
  unfold anyP
  rw [h]
  show Res.ok _ = _
  simp [List.any_flatMap, List.any_map]
theorem sq_eq : sq = 4096 := by unfold sq; rfl
theorem goI_le {fs m : List (List Int)} (h : goI [] fs = some m) : m.length ≤ 200 := by
  rw [goI_eq fs [] (by simp)] at h
  split at h
  · rename_i q; cases h; exact q.2
  · cases h
theorem comp2_eq {fs : List (List Int)} (hl : fs.length ≤ 4000) {o1 o2 o3 : Option PV} : eComp2 (gName 1) none (iR1 (e1 lenS (eVar 0))) (gName 2) none (eAndB (e2 neP (eVar 1) (eVar 2)) (eCall m_is_within [(e2 idxP (eVar 0) (eVar 1)), (e2 idxP (eVar 0) (eVar 2))])) [1, 2] [2] (iR1 (e1 lenS (eVar 0))) [some (TT fs), o1, o2, o3] =
    .ok (.lst ((List.range fs.length).flatMap fun i => (List.range fs.length).map fun j => .bool (decide (i ≠ j) && sub (fs.getD i []) (fs.getD j []))), [some (TT fs), o1, o2, o3]) := by
  have key : ∀ ps : List Nat, (∀ i ∈ ps, i < fs.length) → compL2 (gName 1) none (iR1 (e1 lenS (eVar 0))) (gName 2) none (eAndB (e2 neP (eVar 1) (eVar 2)) (eCall m_is_within [(e2 idxP (eVar 0) (eVar 1)), (e2 idxP (eVar 0) (eVar 2))])) [1, 2] [2] (ps.map fun (i : Nat) => .int i) [some (TT fs), none, none, o3] =
      .ok (ps.flatMap fun i => (List.range fs.length).map fun j => .bool (decide (i ≠ j) && sub (fs.getD i []) (fs.getD j [])), [some (TT fs), none, none, o3]) := by
    intro ps
    induction ps with
    | nil => intro _; rfl
    | cons i ps ih =>
      intro hp
      have ih := ih fun j hj => hp j (.tail _ hj)
      have hi := hp i (.head _)
      have hin := compLA (enc := fun (j : Nat) => PV.int j) (v := 2) (e := eAndB (e2 neP (eVar 1) (eVar 2)) (eCall m_is_within [(e2 idxP (eVar 0) (eVar 1)), (e2 idxP (eVar 0) (eVar 2))])) (ρ := [some (TT fs), some (.int i), none, o3])
        (fun j => .bool (decide (i ≠ j) && sub (fs.getD i []) (fs.getD j []))) (List.range fs.length) fun j hj => by
          have hj := List.mem_range.1 hj
          simp only [↓bind_bnd, ok_bnd, exc_bnd, v_ap, k_ap, e1_ap, e2_ap, ret_ap, expr_ap, asg_ap, nil_ap, seq_ap, if_ap, ifB_ap, tr_b, noD_ap, and_ap, or_ap, not_ap, chB_ap, tup_ap, lst_ap, eL_n, eL_c, call_ap, callX_ap, nox_ok, for_ap, iSeq_ap, seq_t, seq_l, iR1_ap, iR2_ap, name_ap, ok_bind, exc_bind, List.getElem?_cons_zero, List.getElem?_cons_succ, List.set_cons_zero, List.set_cons_succ, List.map_cons, List.map_nil, List.cons_append, List.nil_append, List.replicate_succ, List.replicate_zero, cnd_s, cnd_n, ne_i, idx_p (p := TT fs) rfl hi, idx_p (p := TT fs) rfl hj, within_eq]
          by_cases e : i = j
          · subst e; simp
          · have e' : ¬ ((i : Int) = (j : Int)) := by omega
            simp [e, e']
      simp only [List.set_cons_succ, List.set_cons_zero] at hin
      rw [List.map_cons]
      unfold compL2
      simp only [↓bind_bnd, ok_bnd, exc_bnd, v_ap, k_ap, e1_ap, e2_ap, ret_ap, expr_ap, asg_ap, nil_ap, seq_ap, if_ap, ifB_ap, tr_b, noD_ap, and_ap, or_ap, not_ap, chB_ap, tup_ap, lst_ap, eL_n, eL_c, call_ap, callX_ap, nox_ok, for_ap, iSeq_ap, seq_t, seq_l, iR1_ap, iR2_ap, name_ap, ok_bind, exc_bind, List.getElem?_cons_zero, List.getElem?_cons_succ, List.set_cons_zero, List.set_cons_succ, List.map_cons, List.map_nil, List.cons_append, List.nil_append, List.replicate_succ, List.replicate_zero, cnd_s, cnd_n, len_TT, rng1_eq (show fs.length ≤ 16777216 by omega), if_true, List.length_map, List.length_range, sq_eq, show fs.length ≤ 4096 by omega, wipeE]
      rw [hin]
      simp only [↓bind_bnd, ok_bnd, exc_bnd, v_ap, k_ap, e1_ap, e2_ap, ret_ap, expr_ap, asg_ap, nil_ap, seq_ap, if_ap, ifB_ap, tr_b, noD_ap, and_ap, or_ap, not_ap, chB_ap, tup_ap, lst_ap, eL_n, eL_c, call_ap, callX_ap, nox_ok, for_ap, iSeq_ap, seq_t, seq_l, iR1_ap, iR2_ap, name_ap, ok_bind, exc_bind, List.getElem?_cons_zero, List.getElem?_cons_succ, List.set_cons_zero, List.set_cons_succ, List.map_cons, List.map_nil, List.cons_append, List.nil_append, List.replicate_succ, List.replicate_zero, cnd_s, cnd_n, wipeE]
      rw [ih]
      simp only [ok_bind, ok_bnd, List.flatMap_cons]
  unfold eComp2
  simp only [↓bind_bnd, ok_bnd, exc_bnd, v_ap, k_ap, e1_ap, e2_ap, ret_ap, expr_ap, asg_ap, nil_ap, seq_ap, if_ap, ifB_ap, tr_b, noD_ap, and_ap, or_ap, not_ap, chB_ap, tup_ap, lst_ap, eL_n, eL_c, call_ap, callX_ap, nox_ok, for_ap, iSeq_ap, seq_t, seq_l, iR1_ap, iR2_ap, name_ap, ok_bind, exc_bind, List.getElem?_cons_zero, List.getElem?_cons_succ, List.set_cons_zero, List.set_cons_succ, List.map_cons, List.map_nil, List.cons_append, List.nil_append, List.replicate_succ, List.replicate_zero, cnd_s, cnd_n, len_TT, rng1_eq (show fs.length ≤ 16777216 by omega), if_true, List.length_map, List.length_range, sq_eq, show fs.length ≤ 4096 by omega, wipeE]
  rw [key _ fun i hi => List.mem_range.1 hi]
  simp only [↓bind_bnd, ok_bnd, exc_bnd, v_ap, k_ap, e1_ap, e2_ap, ret_ap, expr_ap, asg_ap, nil_ap, seq_ap, if_ap, ifB_ap, tr_b, noD_ap, and_ap, or_ap, not_ap, chB_ap, tup_ap, lst_ap, eL_n, eL_c, call_ap, callX_ap, nox_ok, for_ap, iSeq_ap, seq_t, seq_l, iR1_ap, iR2_ap, name_ap, ok_bind, exc_bind, List.getElem?_cons_zero, List.getElem?_cons_succ, List.set_cons_zero, List.set_cons_succ, List.map_cons, List.map_nil, List.cons_append, List.nil_append, List.replicate_succ, List.replicate_zero, cnd_s, cnd_n, backE, List.getD_cons_succ, List.getD_cons_zero]
theorem is_cells_eq {fs : List (List Int)} (hf : ∀ f ∈ fs, f.length ≤ 16777216) (hl : fs.length ≤ 4000) : m_is_cells [TT fs] = .ok (.bool (cellsA HT.lexLt fs)) := by
  have step : ∃ ρ', b_is_cells [some (TT fs), none, none, none] = .ok (.ret (.bool (cellsA HT.lexLt fs)), ρ') := by
    unfold b_is_cells cellsA
    simp only [↓bind_bnd, ok_bnd, exc_bnd, v_ap, k_ap, e1_ap, e2_ap, ret_ap, expr_ap, asg_ap, nil_ap, seq_ap, if_ap, ifB_ap, tr_b, noD_ap, and_ap, or_ap, not_ap, chB_ap, tup_ap, lst_ap, eL_n, eL_c, call_ap, callX_ap, nox_ok, for_ap, iSeq_ap, seq_t, seq_l, iR1_ap, iR2_ap, name_ap, ok_bind, exc_bind, List.getElem?_cons_zero, List.getElem?_cons_succ, List.set_cons_zero, List.set_cons_succ, List.map_cons, List.map_nil, List.cons_append, List.nil_append, List.replicate_succ, List.replicate_zero, cnd_s, cnd_n, isiTT, Bool.not_true]
    rw [comp0A (v := 3) (xs := fs) (enc := T) (ρ' := [some (TT fs), none, none, none]) (fun f => .bool (isBlk f)) rfl (Nat.lt_succ_self 3) ?_]
    · simp only [↓bind_bnd, ok_bnd, exc_bnd, v_ap, k_ap, e1_ap, e2_ap, ret_ap, expr_ap, asg_ap, nil_ap, seq_ap, if_ap, ifB_ap, tr_b, noD_ap, and_ap, or_ap, not_ap, chB_ap, tup_ap, lst_ap, eL_n, eL_c, call_ap, callX_ap, nox_ok, for_ap, iSeq_ap, seq_t, seq_l, iR1_ap, iR2_ap, name_ap, ok_bind, exc_bind, List.getElem?_cons_zero, List.getElem?_cons_succ, List.set_cons_zero, List.set_cons_succ, List.map_cons, List.map_nil, List.cons_append, List.nil_append, List.replicate_succ, List.replicate_zero, cnd_s, cnd_n, all_map]
      by_cases h1 : fs.all isBlk = true
      · simp only [h1, Bool.not_true, Bool.false_eq_true, if_false, ok_bind, ok_bnd]
        simp only [↓bind_bnd, ok_bnd, exc_bnd, v_ap, k_ap, e1_ap, e2_ap, ret_ap, expr_ap, asg_ap, nil_ap, seq_ap, if_ap, ifB_ap, tr_b, noD_ap, and_ap, or_ap, not_ap, chB_ap, tup_ap, lst_ap, eL_n, eL_c, call_ap, callX_ap, nox_ok, for_ap, iSeq_ap, seq_t, seq_l, iR1_ap, iR2_ap, name_ap, ok_bind, exc_bind, List.getElem?_cons_zero, List.getElem?_cons_succ, List.set_cons_zero, List.set_cons_succ, List.map_cons, List.map_nil, List.cons_append, List.nil_append, List.replicate_succ, List.replicate_zero, cnd_s, cnd_n]
        rw [comp0A (v := 1) (xs := List.range (fs.length - 1)) (enc := fun (i : Nat) => .int i) (ρ' := [some (TT fs), none, none, none]) (fun i => .bool (HT.lexLt (fs.getD i []) (fs.getD (i + 1) []))) ?_ (by decide : 1 < 4) ?_]
        · simp only [↓bind_bnd, ok_bnd, exc_bnd, v_ap, k_ap, e1_ap, e2_ap, ret_ap, expr_ap, asg_ap, nil_ap, seq_ap, if_ap, ifB_ap, tr_b, noD_ap, and_ap, or_ap, not_ap, chB_ap, tup_ap, lst_ap, eL_n, eL_c, call_ap, callX_ap, nox_ok, for_ap, iSeq_ap, seq_t, seq_l, iR1_ap, iR2_ap, name_ap, ok_bind, exc_bind, List.getElem?_cons_zero, List.getElem?_cons_succ, List.set_cons_zero, List.set_cons_succ, List.map_cons, List.map_nil, List.cons_append, List.nil_append, List.replicate_succ, List.replicate_zero, cnd_s, cnd_n, all_map]
          by_cases h2 : ((List.range (fs.length - 1)).all fun i => HT.lexLt (fs.getD i []) (fs.getD (i + 1) [])) = true
          · simp only [h2, Bool.not_true, Bool.false_eq_true, if_false, ok_bind, ok_bnd]
            simp only [↓bind_bnd, ok_bnd, exc_bnd, v_ap, k_ap, e1_ap, e2_ap, ret_ap, expr_ap, asg_ap, nil_ap, seq_ap, if_ap, ifB_ap, tr_b, noD_ap, and_ap, or_ap, not_ap, chB_ap, tup_ap, lst_ap, eL_n, eL_c, call_ap, callX_ap, nox_ok, for_ap, iSeq_ap, seq_t, seq_l, iR1_ap, iR2_ap, name_ap, ok_bind, exc_bind, List.getElem?_cons_zero, List.getElem?_cons_succ, List.set_cons_zero, List.set_cons_succ, List.map_cons, List.map_nil, List.cons_append, List.nil_append, List.replicate_succ, List.replicate_zero, cnd_s, cnd_n]
            rw [comp2_eq hl]
            simp only [↓bind_bnd, ok_bnd, exc_bnd, v_ap, k_ap, e1_ap, e2_ap, ret_ap, expr_ap, asg_ap, nil_ap, seq_ap, if_ap, ifB_ap, tr_b, noD_ap, and_ap, or_ap, not_ap, chB_ap, tup_ap, lst_ap, eL_n, eL_c, call_ap, callX_ap, nox_ok, for_ap, iSeq_ap, seq_t, seq_l, iR1_ap, iR2_ap, name_ap, ok_bind, exc_bind, List.getElem?_cons_zero, List.getElem?_cons_succ, List.set_cons_zero, List.set_cons_succ, List.map_cons, List.map_nil, List.cons_append, List.nil_append, List.replicate_succ, List.replicate_zero, cnd_s, cnd_n, any2]
            by_cases h3 : ((List.range fs.length).any fun i => (List.range fs.length).any fun j => decide (i ≠ j) && sub (fs.getD i []) (fs.getD j [])) = true
            · simp only [h3, if_true, ok_bind, ok_bnd, Bool.not_true, Bool.and_false, Bool.false_and]
              exact ⟨_, rfl⟩
            · have h3' := Bool.eq_false_iff.2 h3
              simp only [h3', Bool.false_eq_true, if_false, ok_bind, ok_bnd, Bool.not_false, Bool.and_true, Bool.true_and]
              unfold sTry
              cases hg : goI [] fs with
              | none =>
                simp only [↓bind_bnd, ok_bnd, exc_bnd, v_ap, k_ap, e1_ap, e2_ap, ret_ap, expr_ap, asg_ap, nil_ap, seq_ap, if_ap, ifB_ap, tr_b, noD_ap, and_ap, or_ap, not_ap, chB_ap, tup_ap, lst_ap, eL_n, eL_c, call_ap, callX_ap, nox_ok, for_ap, iSeq_ap, seq_t, seq_l, iR1_ap, iR2_ap, name_ap, ok_bind, exc_bind, List.getElem?_cons_zero, List.getElem?_cons_succ, List.set_cons_zero, List.set_cons_succ, List.map_cons, List.map_nil, List.cons_append, List.nil_append, List.replicate_succ, List.replicate_zero, cnd_s, cnd_n, faces_exc hg, if_true]
                exact ⟨_, rfl⟩
              | some m =>
                have hm := goI_le hg
                have hlim : lim = 16777216 := rfl
                simp only [↓bind_bnd, ok_bnd, exc_bnd, v_ap, k_ap, e1_ap, e2_ap, ret_ap, expr_ap, asg_ap, nil_ap, seq_ap, if_ap, ifB_ap, tr_b, noD_ap, and_ap, or_ap, not_ap, chB_ap, tup_ap, lst_ap, eL_n, eL_c, call_ap, callX_ap, nox_ok, for_ap, iSeq_ap, seq_t, seq_l, iR1_ap, iR2_ap, name_ap, ok_bind, exc_bind, List.getElem?_cons_zero, List.getElem?_cons_succ, List.set_cons_zero, List.set_cons_succ, List.map_cons, List.map_nil, List.cons_append, List.nil_append, List.replicate_succ, List.replicate_zero, cnd_s, cnd_n, faces_ok hg, seq_DD, show m.length < lim by omega, if_true, le_i]
                refine ⟨[some (TT fs), none, none, none], ?_⟩
                rw [decide_eq_true (show (m.length : Int) ≤ 200 by omega)]
                rfl
          · have h2' := Bool.eq_false_iff.2 h2
            simp only [h2', Bool.not_false, if_true, ok_bind, ok_bnd, Bool.and_false, Bool.false_and]
            exact ⟨_, rfl⟩
        · simp only [↓bind_bnd, ok_bnd, exc_bnd, v_ap, k_ap, e1_ap, e2_ap, ret_ap, expr_ap, asg_ap, nil_ap, seq_ap, if_ap, ifB_ap, tr_b, noD_ap, and_ap, or_ap, not_ap, chB_ap, tup_ap, lst_ap, eL_n, eL_c, call_ap, callX_ap, nox_ok, for_ap, iSeq_ap, seq_t, seq_l, iR1_ap, iR2_ap, name_ap, ok_bind, exc_bind, List.getElem?_cons_zero, List.getElem?_cons_succ, List.set_cons_zero, List.set_cons_succ, List.map_cons, List.map_nil, List.cons_append, List.nil_append, List.replicate_succ, List.replicate_zero, cnd_s, cnd_n, len_TT, sub_i, rng1_sub (show fs.length ≤ 16777216 by omega)]
        · intro i hi
          have hi := List.mem_range.1 hi
          have q : i + 1 < fs.length := by omega
          simp only [↓bind_bnd, ok_bnd, exc_bnd, v_ap, k_ap, e1_ap, e2_ap, ret_ap, expr_ap, asg_ap, nil_ap, seq_ap, if_ap, ifB_ap, tr_b, noD_ap, and_ap, or_ap, not_ap, chB_ap, tup_ap, lst_ap, eL_n, eL_c, call_ap, callX_ap, nox_ok, for_ap, iSeq_ap, seq_t, seq_l, iR1_ap, iR2_ap, name_ap, ok_bind, exc_bind, List.getElem?_cons_zero, List.getElem?_cons_succ, List.set_cons_zero, List.set_cons_succ, List.map_cons, List.map_nil, List.cons_append, List.nil_append, List.replicate_succ, List.replicate_zero, cnd_s, cnd_n, idx_p (p := TT fs) rfl (show i < fs.length by omega), add_i]
          rw [show ((i : Int) + 1) = ((i + 1 : Nat) : Int) from by simp, idx_p (p := TT fs) rfl q]
          simp only [↓bind_bnd, ok_bnd, exc_bnd, v_ap, k_ap, e1_ap, e2_ap, ret_ap, expr_ap, asg_ap, nil_ap, seq_ap, if_ap, ifB_ap, tr_b, noD_ap, and_ap, or_ap, not_ap, chB_ap, tup_ap, lst_ap, eL_n, eL_c, call_ap, callX_ap, nox_ok, for_ap, iSeq_ap, seq_t, seq_l, iR1_ap, iR2_ap, name_ap, ok_bind, exc_bind, List.getElem?_cons_zero, List.getElem?_cons_succ, List.set_cons_zero, List.set_cons_succ, List.map_cons, List.map_nil, List.cons_append, List.nil_append, List.replicate_succ, List.replicate_zero, cnd_s, cnd_n, lt_TT]
      · have h1' := Bool.eq_false_iff.2 h1
        simp only [h1', Bool.not_false, if_true, ok_bind, ok_bnd, Bool.false_and]
        exact ⟨_, rfl⟩
    · intro f hm
      simp only [↓bind_bnd, ok_bnd, exc_bnd, v_ap, k_ap, e1_ap, e2_ap, ret_ap, expr_ap, asg_ap, nil_ap, seq_ap, if_ap, ifB_ap, tr_b, noD_ap, and_ap, or_ap, not_ap, chB_ap, tup_ap, lst_ap, eL_n, eL_c, call_ap, callX_ap, nox_ok, for_ap, iSeq_ap, seq_t, seq_l, iR1_ap, iR2_ap, name_ap, ok_bind, exc_bind, List.getElem?_cons_zero, List.getElem?_cons_succ, List.set_cons_zero, List.set_cons_succ, List.map_cons, List.map_nil, List.cons_append, List.nil_append, List.replicate_succ, List.replicate_zero, cnd_s, cnd_n, block_eq f (hf f hm)]
  obtain ⟨ρ', e⟩ := step
  exact mkF_ok e
end Pl

namespace Pl
open PySem Mi Pu K88
theorem lblk_comp {f : List Int} (hf : f.length ≤ 16777216) : eComp (gName 1) (some (e2 leP (e2 idxP (eVar 0) (eVar 1)) (e2 idxP (eVar 0) (e2 subP (eVar 1) (eK (.int 1)))))) (eVar 1) [1] (iR2 (eK (.int 1)) (e1 lenS (eVar 0))) [some (T f), none, none] =
    .ok (.lst (((List.range (f.length - 1)).filter fun i => decide (f.getD (i + 1) 0 ≤ f.getD i 0)).map fun (i : Nat) => .int ((i : Int) + 1)), [some (T f), none, none]) := by
  rw [compA (v := 1) (xs := List.range (f.length - 1)) (enc := fun (i : Nat) => .int ((i : Int) + 1)) (ρ' := [some (T f), none, none]) (fun i => decide (f.getD (i + 1) 0 ≤ f.getD i 0)) (fun i => .int ((i : Int) + 1)) ?_ (by decide : 1 < 3) ?_ ?_]
  · simp only [↓bind_bnd, ok_bnd, exc_bnd, v_ap, k_ap, e1_ap, e2_ap, ret_ap, expr_ap, asg_ap, nil_ap, seq_ap, if_ap, ifB_ap, tr_b, noD_ap, and_ap, or_ap, not_ap, chB_ap, tup_ap, lst_ap, eL_n, eL_c, call_ap, callX_ap, nox_ok, for_ap, iSeq_ap, seq_t, seq_l, iR1_ap, iR2_ap, name_ap, ok_bind, exc_bind, List.getElem?_cons_zero, List.getElem?_cons_succ, List.set_cons_zero, List.set_cons_succ, List.map_cons, List.map_nil, List.cons_append, List.nil_append, List.replicate_succ, List.replicate_zero, cnd_s, cnd_n, len_T]
    rw [rng2_1 hf]; rfl
  · intro i hi
    have hi := List.mem_range.1 hi
    have q : i + 1 < f.length := by omega
    simp only [↓bind_bnd, ok_bnd, exc_bnd, v_ap, k_ap, e1_ap, e2_ap, ret_ap, expr_ap, asg_ap, nil_ap, seq_ap, if_ap, ifB_ap, tr_b, noD_ap, and_ap, or_ap, not_ap, chB_ap, tup_ap, lst_ap, eL_n, eL_c, call_ap, callX_ap, nox_ok, for_ap, iSeq_ap, seq_t, seq_l, iR1_ap, iR2_ap, name_ap, ok_bind, exc_bind, List.getElem?_cons_zero, List.getElem?_cons_succ, List.set_cons_zero, List.set_cons_succ, List.map_cons, List.map_nil, List.cons_append, List.nil_append, List.replicate_succ, List.replicate_zero, cnd_s, cnd_n, sub_i]
    rw [show ((i : Int) + 1) = ((i + 1 : Nat) : Int) from by simp, idx_i q]
    simp only [↓bind_bnd, ok_bnd, exc_bnd, v_ap, k_ap, e1_ap, e2_ap, ret_ap, expr_ap, asg_ap, nil_ap, seq_ap, if_ap, ifB_ap, tr_b, noD_ap, and_ap, or_ap, not_ap, chB_ap, tup_ap, lst_ap, eL_n, eL_c, call_ap, callX_ap, nox_ok, for_ap, iSeq_ap, seq_t, seq_l, iR1_ap, iR2_ap, name_ap, ok_bind, exc_bind, List.getElem?_cons_zero, List.getElem?_cons_succ, List.set_cons_zero, List.set_cons_succ, List.map_cons, List.map_nil, List.cons_append, List.nil_append, List.replicate_succ, List.replicate_zero, cnd_s, cnd_n, sub_i]
    rw [show (((i + 1 : Nat) : Int) - 1) = (i : Int) from by simp, idx_i (show i < f.length by omega)]
    simp only [↓bind_bnd, ok_bnd, exc_bnd, v_ap, k_ap, e1_ap, e2_ap, ret_ap, expr_ap, asg_ap, nil_ap, seq_ap, if_ap, ifB_ap, tr_b, noD_ap, and_ap, or_ap, not_ap, chB_ap, tup_ap, lst_ap, eL_n, eL_c, call_ap, callX_ap, nox_ok, for_ap, iSeq_ap, seq_t, seq_l, iR1_ap, iR2_ap, name_ap, ok_bind, exc_bind, List.getElem?_cons_zero, List.getElem?_cons_succ, List.set_cons_zero, List.set_cons_succ, List.map_cons, List.map_nil, List.cons_append, List.nil_append, List.replicate_succ, List.replicate_zero, cnd_s, cnd_n, le_i]
  · intro i _ _
    simp only [↓bind_bnd, ok_bnd, exc_bnd, v_ap, k_ap, e1_ap, e2_ap, ret_ap, expr_ap, asg_ap, nil_ap, seq_ap, if_ap, ifB_ap, tr_b, noD_ap, and_ap, or_ap, not_ap, chB_ap, tup_ap, lst_ap, eL_n, eL_c, call_ap, callX_ap, nox_ok, for_ap, iSeq_ap, seq_t, seq_l, iR1_ap, iR2_ap, name_ap, ok_bind, exc_bind, List.getElem?_cons_zero, List.getElem?_cons_succ, List.set_cons_zero, List.set_cons_succ, List.map_cons, List.map_nil, List.cons_append, List.nil_append, List.replicate_succ, List.replicate_zero, cnd_s, cnd_n]
theorem len_ii (n : List Nat) : lenS (.lst (n.map fun (i : Nat) => PV.int ((i : Int) + 1))) = .ok (.int n.length) := by
  show Res.ok (PV.int ((n.map fun (i : Nat) => PV.int ((i : Int) + 1)).length : Int)) = _; rw [List.length_map]
theorem lblock_eq (f : List Int) (hf : f.length ≤ 16777216) : m__law_is_block [T f] = .ok (.bool (isBlk f)) := by
  have step : ∃ ρ', b__law_is_block [some (T f), none, none] = .ok (.ret (.bool (isBlk f)), ρ') := by
    unfold b__law_is_block isBlk
    rw [← adjL_eq]
    simp only [↓bind_bnd, ok_bnd, exc_bnd, v_ap, k_ap, e1_ap, e2_ap, ret_ap, expr_ap, asg_ap, nil_ap, seq_ap, if_ap, ifB_ap, tr_b, noD_ap, and_ap, or_ap, not_ap, chB_ap, tup_ap, lst_ap, eL_n, eL_c, call_ap, callX_ap, nox_ok, for_ap, iSeq_ap, seq_t, seq_l, iR1_ap, iR2_ap, name_ap, ok_bind, exc_bind, List.getElem?_cons_zero, List.getElem?_cons_succ, List.set_cons_zero, List.set_cons_succ, List.map_cons, List.map_nil, List.cons_append, List.nil_append, List.replicate_succ, List.replicate_zero, cnd_s, cnd_n, isiT, len_T, eq_i, nat_eq0, Bool.not_true]
    by_cases h0 : f.length = 0
    · simp only [h0, decide_true, if_true, ok_bind, ok_bnd, ret_ap, k_ap]
      exact ⟨_, rfl⟩
    · simp only [h0, decide_false, Bool.false_eq_true, if_false, ok_bind, ok_bnd]
      rw [comp0A (v := 2) (xs := f) (enc := .int) (ρ' := [some (T f), none, none]) (fun x => .bool (decide (0 ≤ x) && decide (x ≤ 15))) rfl (Nat.lt_succ_self 2) ?_]
      · simp only [↓bind_bnd, ok_bnd, exc_bnd, v_ap, k_ap, e1_ap, e2_ap, ret_ap, expr_ap, asg_ap, nil_ap, seq_ap, if_ap, ifB_ap, tr_b, noD_ap, and_ap, or_ap, not_ap, chB_ap, tup_ap, lst_ap, eL_n, eL_c, call_ap, callX_ap, nox_ok, for_ap, iSeq_ap, seq_t, seq_l, iR1_ap, iR2_ap, name_ap, ok_bind, exc_bind, List.getElem?_cons_zero, List.getElem?_cons_succ, List.set_cons_zero, List.set_cons_succ, List.map_cons, List.map_nil, List.cons_append, List.nil_append, List.replicate_succ, List.replicate_zero, cnd_s, cnd_n, all_map]
        by_cases h1 : rngB f = true
        · have h1' : (f.all fun x => decide (0 ≤ x) && decide (x ≤ 15)) = true := h1
          simp only [h1, h1', Bool.not_true, Bool.false_eq_true, if_false, ok_bind, ok_bnd]
          simp only [↓bind_bnd, ok_bnd, exc_bnd, v_ap, k_ap, e1_ap, e2_ap, ret_ap, expr_ap, asg_ap, nil_ap, seq_ap, if_ap, ifB_ap, tr_b, noD_ap, and_ap, or_ap, not_ap, chB_ap, tup_ap, lst_ap, eL_n, eL_c, call_ap, callX_ap, nox_ok, for_ap, iSeq_ap, seq_t, seq_l, iR1_ap, iR2_ap, name_ap, ok_bind, exc_bind, List.getElem?_cons_zero, List.getElem?_cons_succ, List.set_cons_zero, List.set_cons_succ, List.map_cons, List.map_nil, List.cons_append, List.nil_append, List.replicate_succ, List.replicate_zero, cnd_s, cnd_n]
          rw [lblk_comp hf]
          simp only [↓bind_bnd, ok_bnd, exc_bnd, v_ap, k_ap, e1_ap, e2_ap, ret_ap, expr_ap, asg_ap, nil_ap, seq_ap, if_ap, ifB_ap, tr_b, noD_ap, and_ap, or_ap, not_ap, chB_ap, tup_ap, lst_ap, eL_n, eL_c, call_ap, callX_ap, nox_ok, for_ap, iSeq_ap, seq_t, seq_l, iR1_ap, iR2_ap, name_ap, ok_bind, exc_bind, List.getElem?_cons_zero, List.getElem?_cons_succ, List.set_cons_zero, List.set_cons_succ, List.map_cons, List.map_nil, List.cons_append, List.nil_append, List.replicate_succ, List.replicate_zero, cnd_s, cnd_n, len_ii, eq_i, nat_eq0]
          simp only [ne_eq, h0, not_false_eq_true, decide_true, Bool.true_and]
          exact ⟨_, rfl⟩
        · have h1' : (f.all fun x => decide (0 ≤ x) && decide (x ≤ 15)) = false := Bool.eq_false_iff.2 h1
          have h1 : rngB f = false := h1'
          simp only [h1, h1', Bool.not_false, if_true, ok_bind, ok_bnd, ret_ap, k_ap, Bool.and_false, Bool.false_and]
          exact ⟨_, rfl⟩
      · intro x _
        simp only [↓bind_bnd, ok_bnd, exc_bnd, v_ap, k_ap, e1_ap, e2_ap, ret_ap, expr_ap, asg_ap, nil_ap, seq_ap, if_ap, ifB_ap, tr_b, noD_ap, and_ap, or_ap, not_ap, chB_ap, tup_ap, lst_ap, eL_n, eL_c, call_ap, callX_ap, nox_ok, for_ap, iSeq_ap, seq_t, seq_l, iR1_ap, iR2_ap, name_ap, ok_bind, exc_bind, List.getElem?_cons_zero, List.getElem?_cons_succ, List.set_cons_zero, List.set_cons_succ, List.map_cons, List.map_nil, List.cons_append, List.nil_append, List.replicate_succ, List.replicate_zero, cnd_s, cnd_n, whole_i, le_i]
        cases decide (0 ≤ x) <;> simp only [↓bind_bnd, ok_bnd, exc_bnd, v_ap, k_ap, e1_ap, e2_ap, ret_ap, expr_ap, asg_ap, nil_ap, seq_ap, if_ap, ifB_ap, tr_b, noD_ap, and_ap, or_ap, not_ap, chB_ap, tup_ap, lst_ap, eL_n, eL_c, call_ap, callX_ap, nox_ok, for_ap, iSeq_ap, seq_t, seq_l, iR1_ap, iR2_ap, name_ap, ok_bind, exc_bind, List.getElem?_cons_zero, List.getElem?_cons_succ, List.set_cons_zero, List.set_cons_succ, List.map_cons, List.map_nil, List.cons_append, List.nil_append, List.replicate_succ, List.replicate_zero, cnd_s, cnd_n, Bool.true_and, Bool.false_and]
  obtain ⟨ρ', e⟩ := step
  exact mkF_ok e
theorem allin_eq {fs : List (List Int)} {i j : Nat} (hi : i < fs.length) (hj : j < fs.length) {o : Option PV} :
    eComp (gName 4) none (e2 inP (eVar 4) (e2 idxP (eVar 0) (eVar 2))) [4] (iSeq (e2 idxP (eVar 0) (eVar 1))) [some (TT fs), some (.int i), some (.int j), o, none] =
    .ok (.lst ((fs.getD i []).map fun x => .bool ((fs.getD j []).contains x)), [some (TT fs), some (.int i), some (.int j), o, none]) := by
  rw [comp0A (v := 4) (xs := fs.getD i []) (enc := .int) (ρ' := [some (TT fs), some (.int i), some (.int j), o, none]) (fun x => .bool ((fs.getD j []).contains x)) ?_ (by decide : 4 < 5) ?_]
  · simp only [↓bind_bnd, ok_bnd, exc_bnd, v_ap, k_ap, e1_ap, e2_ap, ret_ap, expr_ap, asg_ap, nil_ap, seq_ap, if_ap, ifB_ap, tr_b, noD_ap, and_ap, or_ap, not_ap, chB_ap, tup_ap, lst_ap, eL_n, eL_c, call_ap, callX_ap, nox_ok, for_ap, iSeq_ap, seq_t, seq_l, iR1_ap, iR2_ap, name_ap, ok_bind, exc_bind, List.getElem?_cons_zero, List.getElem?_cons_succ, List.set_cons_zero, List.set_cons_succ, List.map_cons, List.map_nil, List.cons_append, List.nil_append, List.replicate_succ, List.replicate_zero, cnd_s, cnd_n, idx_p (p := TT fs) rfl hi]
  · intro x _
    simp only [↓bind_bnd, ok_bnd, exc_bnd, v_ap, k_ap, e1_ap, e2_ap, ret_ap, expr_ap, asg_ap, nil_ap, seq_ap, if_ap, ifB_ap, tr_b, noD_ap, and_ap, or_ap, not_ap, chB_ap, tup_ap, lst_ap, eL_n, eL_c, call_ap, callX_ap, nox_ok, for_ap, iSeq_ap, seq_t, seq_l, iR1_ap, iR2_ap, name_ap, ok_bind, exc_bind, List.getElem?_cons_zero, List.getElem?_cons_succ, List.set_cons_zero, List.set_cons_succ, List.map_cons, List.map_nil, List.cons_append, List.nil_append, List.replicate_succ, List.replicate_zero, cnd_s, cnd_n, idx_p (p := TT fs) rfl hj, in_int]
theorem lis_cells_eq {fs : List (List Int)} (hf : ∀ f ∈ fs, f.length ≤ 16777216) (hl : fs.length ≤ 4000) : m__law_is_cells [TT fs] = .ok (.bool (cellsB HT.lexLt fs)) := by
  have step : ∃ ρ', b__law_is_cells [some (TT fs), none, none, none, none] = .ok (.ret (.bool (cellsB HT.lexLt fs)), ρ') := by
    unfold b__law_is_cells cellsB
    simp only [↓bind_bnd, ok_bnd, exc_bnd, v_ap, k_ap, e1_ap, e2_ap, ret_ap, expr_ap, asg_ap, nil_ap, seq_ap, if_ap, ifB_ap, tr_b, noD_ap, and_ap, or_ap, not_ap, chB_ap, tup_ap, lst_ap, eL_n, eL_c, call_ap, callX_ap, nox_ok, for_ap, iSeq_ap, seq_t, seq_l, iR1_ap, iR2_ap, name_ap, ok_bind, exc_bind, List.getElem?_cons_zero, List.getElem?_cons_succ, List.set_cons_zero, List.set_cons_succ, List.map_cons, List.map_nil, List.cons_append, List.nil_append, List.replicate_succ, List.replicate_zero, cnd_s, cnd_n, isiTT, Bool.not_true]
    rw [comp0A (v := 3) (xs := fs) (enc := T) (ρ' := [some (TT fs), none, none, none, none]) (fun f => .bool (isBlk f && decide (f.length < 8))) rfl (by decide : 3 < 5) ?_]
    · simp only [↓bind_bnd, ok_bnd, exc_bnd, v_ap, k_ap, e1_ap, e2_ap, ret_ap, expr_ap, asg_ap, nil_ap, seq_ap, if_ap, ifB_ap, tr_b, noD_ap, and_ap, or_ap, not_ap, chB_ap, tup_ap, lst_ap, eL_n, eL_c, call_ap, callX_ap, nox_ok, for_ap, iSeq_ap, seq_t, seq_l, iR1_ap, iR2_ap, name_ap, ok_bind, exc_bind, List.getElem?_cons_zero, List.getElem?_cons_succ, List.set_cons_zero, List.set_cons_succ, List.map_cons, List.map_nil, List.cons_append, List.nil_append, List.replicate_succ, List.replicate_zero, cnd_s, cnd_n, all_map]
      by_cases h1 : (fs.all fun f => isBlk f && decide (f.length < 8)) = true
      · simp only [h1, Bool.not_true, Bool.false_eq_true, if_false, ok_bind, ok_bnd]
        simp only [↓bind_bnd, ok_bnd, exc_bnd, v_ap, k_ap, e1_ap, e2_ap, ret_ap, expr_ap, asg_ap, nil_ap, seq_ap, if_ap, ifB_ap, tr_b, noD_ap, and_ap, or_ap, not_ap, chB_ap, tup_ap, lst_ap, eL_n, eL_c, call_ap, callX_ap, nox_ok, for_ap, iSeq_ap, seq_t, seq_l, iR1_ap, iR2_ap, name_ap, ok_bind, exc_bind, List.getElem?_cons_zero, List.getElem?_cons_succ, List.set_cons_zero, List.set_cons_succ, List.map_cons, List.map_nil, List.cons_append, List.nil_append, List.replicate_succ, List.replicate_zero, cnd_s, cnd_n, len_TT, rng1_eq (show fs.length ≤ 16777216 by omega)]
        have main := for_all (enc := fun (i : Nat) => PV.int i) (γ := gName 1) (r := .bool false) (s := (sSeq (sIf (eAndB (e2 gtP (eVar 1) (eK (.int 0))) (eNotB (e2 ltP (e2 idxP (eVar 0) (e2 subP (eVar 1) (eK (.int 1)))) (e2 idxP (eVar 0) (eVar 1))))) (sRet (eK (.bool false))) sNil)
            (sFor (gName 2) (iR1 (e1 lenS (eVar 0))) (sIf (eAndB (e2 neP (eVar 1) (eVar 2)) (noD (e1 allP (eComp (gName 4) none (e2 inP (eVar 4) (e2 idxP (eVar 0) (eVar 2))) [4] (iSeq (e2 idxP (eVar 0) (eVar 1))))))) (sRet (eK (.bool false))) sNil))))
            (rowOk HT.lexLt fs) (fun ρ => ∃ u v, ρ = [some (TT fs), u, v, none, none]) (List.range fs.length) (fun i hi ρ hρ => by
          obtain ⟨u, v, rfl⟩ := hρ
          have hi := List.mem_range.1 hi
          refine ⟨[some (TT fs), some (.int i), v, none, none], rfl, ?_⟩
          have inner := for_all (enc := fun (j : Nat) => PV.int j) (γ := gName 2) (r := .bool false) (s := (sIf (eAndB (e2 neP (eVar 1) (eVar 2)) (noD (e1 allP (eComp (gName 4) none (e2 inP (eVar 4) (e2 idxP (eVar 0) (eVar 2))) [4] (iSeq (e2 idxP (eVar 0) (eVar 1))))))) (sRet (eK (.bool false))) sNil))
            (fun j => decide (i = j) || !sub (fs.getD i []) (fs.getD j [])) (fun ρ => ∃ v, ρ = [some (TT fs), some (.int i), v, none, none]) (List.range fs.length) (fun j hj ρ hρ => by
              obtain ⟨v, rfl⟩ := hρ
              have hj := List.mem_range.1 hj
              refine ⟨[some (TT fs), some (.int i), some (.int j), none, none], rfl, ?_⟩
              have ha := allin_eq (fs := fs) hi hj (o := none)
              simp only [↓bind_bnd, ok_bnd, exc_bnd, v_ap, k_ap, e1_ap, e2_ap, ret_ap, expr_ap, asg_ap, nil_ap, seq_ap, if_ap, ifB_ap, tr_b, noD_ap, and_ap, or_ap, not_ap, chB_ap, tup_ap, lst_ap, eL_n, eL_c, call_ap, callX_ap, nox_ok, for_ap, iSeq_ap, seq_t, seq_l, iR1_ap, iR2_ap, name_ap, ok_bind, exc_bind, List.getElem?_cons_zero, List.getElem?_cons_succ, List.set_cons_zero, List.set_cons_succ, List.map_cons, List.map_nil, List.cons_append, List.nil_append, List.replicate_succ, List.replicate_zero, cnd_s, cnd_n, ne_i]
              by_cases e : i = j
              · left
                refine ⟨by simp [e], [some (TT fs), some (.int i), some (.int j), none, none], ?_, _, rfl⟩
                simp [e, ok_bind, ok_bnd, tr_b, nil_ap, ret_ap, k_ap, bind_bnd]
              · have e' : ¬ ((i : Int) = (j : Int)) := by omega
                simp only [e', decide_false, Bool.not_false]
                rw [ha]
                simp only [↓bind_bnd, ok_bnd, exc_bnd, v_ap, k_ap, e1_ap, e2_ap, ret_ap, expr_ap, asg_ap, nil_ap, seq_ap, if_ap, ifB_ap, tr_b, noD_ap, and_ap, or_ap, not_ap, chB_ap, tup_ap, lst_ap, eL_n, eL_c, call_ap, callX_ap, nox_ok, for_ap, iSeq_ap, seq_t, seq_l, iR1_ap, iR2_ap, name_ap, ok_bind, exc_bind, List.getElem?_cons_zero, List.getElem?_cons_succ, List.set_cons_zero, List.set_cons_succ, List.map_cons, List.map_nil, List.cons_append, List.nil_append, List.replicate_succ, List.replicate_zero, cnd_s, cnd_n, all_map]
                rw [show ((fs.getD i []).all fun x => (fs.getD j []).contains x) = sub (fs.getD i []) (fs.getD j []) from rfl]
                cases hs : sub (fs.getD i []) (fs.getD j []) with
                | true =>
                  right
                  exact ⟨by simp [e], _, rfl⟩
                | false =>
                  left
                  exact ⟨by simp, _, rfl, _, rfl⟩) [some (TT fs), some (.int i), v, none, none] ⟨v, rfl⟩
          have inn : sFor (gName 2) (iR1 (e1 lenS (eVar 0))) (sIf (eAndB (e2 neP (eVar 1) (eVar 2)) (noD (e1 allP (eComp (gName 4) none (e2 inP (eVar 4) (e2 idxP (eVar 0) (eVar 2))) [4] (iSeq (e2 idxP (eVar 0) (eVar 1))))))) (sRet (eK (.bool false))) sNil) [some (TT fs), some (.int i), v, none, none] = forL (gName 2) (sIf (eAndB (e2 neP (eVar 1) (eVar 2)) (noD (e1 allP (eComp (gName 4) none (e2 inP (eVar 4) (e2 idxP (eVar 0) (eVar 2))) [4] (iSeq (e2 idxP (eVar 0) (eVar 1))))))) (sRet (eK (.bool false))) sNil) ((List.range fs.length).map fun (j : Nat) => PV.int j) [some (TT fs), some (.int i), v, none, none] := by
            simp only [↓bind_bnd, ok_bnd, exc_bnd, v_ap, k_ap, e1_ap, e2_ap, ret_ap, expr_ap, asg_ap, nil_ap, seq_ap, if_ap, ifB_ap, tr_b, noD_ap, and_ap, or_ap, not_ap, chB_ap, tup_ap, lst_ap, eL_n, eL_c, call_ap, callX_ap, nox_ok, for_ap, iSeq_ap, seq_t, seq_l, iR1_ap, iR2_ap, name_ap, ok_bind, exc_bind, List.getElem?_cons_zero, List.getElem?_cons_succ, List.set_cons_zero, List.set_cons_succ, List.map_cons, List.map_nil, List.cons_append, List.nil_append, List.replicate_succ, List.replicate_zero, cnd_s, cnd_n, len_TT, rng1_eq (show fs.length ≤ 16777216 by omega)]
          rw [seq_ap]
          have fin : sIf (eAndB (e2 gtP (eVar 1) (eK (.int 0))) (eNotB (e2 ltP (e2 idxP (eVar 0) (e2 subP (eVar 1) (eK (.int 1)))) (e2 idxP (eVar 0) (eVar 1))))) (sRet (eK (.bool false))) sNil [some (TT fs), some (.int i), v, none, none] =
              if (decide (i = 0) || HT.lexLt (fs.getD (i - 1) []) (fs.getD i [])) = true then .ok (.next, [some (TT fs), some (.int i), v, none, none]) else .ok (.ret (.bool false), [some (TT fs), some (.int i), v, none, none]) := by
            simp only [↓bind_bnd, ok_bnd, exc_bnd, v_ap, k_ap, e1_ap, e2_ap, ret_ap, expr_ap, asg_ap, nil_ap, seq_ap, if_ap, ifB_ap, tr_b, noD_ap, and_ap, or_ap, not_ap, chB_ap, tup_ap, lst_ap, eL_n, eL_c, call_ap, callX_ap, nox_ok, for_ap, iSeq_ap, seq_t, seq_l, iR1_ap, iR2_ap, name_ap, ok_bind, exc_bind, List.getElem?_cons_zero, List.getElem?_cons_succ, List.set_cons_zero, List.set_cons_succ, List.map_cons, List.map_nil, List.cons_append, List.nil_append, List.replicate_succ, List.replicate_zero, cnd_s, cnd_n, gt_i]
            by_cases e : i = 0
            · subst e; simp [ok_bind, ok_bnd, tr_b, nil_ap, ret_ap, k_ap, bind_bnd]
            · have e' : (decide ((0 : Int) < (i : Int))) = true := decide_eq_true (by omega)
              simp only [e', sub_i, ok_bind, ok_bnd]
              rw [show ((i : Int) - 1) = ((i - 1 : Nat) : Int) from by omega, idx_p (p := TT fs) rfl (show i - 1 < fs.length by omega)]
              simp only [↓bind_bnd, ok_bnd, exc_bnd, v_ap, k_ap, e1_ap, e2_ap, ret_ap, expr_ap, asg_ap, nil_ap, seq_ap, if_ap, ifB_ap, tr_b, noD_ap, and_ap, or_ap, not_ap, chB_ap, tup_ap, lst_ap, eL_n, eL_c, call_ap, callX_ap, nox_ok, for_ap, iSeq_ap, seq_t, seq_l, iR1_ap, iR2_ap, name_ap, ok_bind, exc_bind, List.getElem?_cons_zero, List.getElem?_cons_succ, List.set_cons_zero, List.set_cons_succ, List.map_cons, List.map_nil, List.cons_append, List.nil_append, List.replicate_succ, List.replicate_zero, cnd_s, cnd_n, idx_p (p := TT fs) rfl hi, lt_TT]
              cases HT.lexLt (fs.getD (i - 1) []) (fs.getD i []) <;> simp [e, ok_bind, ok_bnd, tr_b, nil_ap, ret_ap, k_ap, bind_bnd]
          rw [fin]
          unfold rowOk
          by_cases hb : (decide (i = 0) || HT.lexLt (fs.getD (i - 1) []) (fs.getD i [])) = true
          · rw [if_pos hb, hb]
            simp only [ok_bind, ok_bnd, Bool.true_and]
            rw [inn]
            rcases inner with ⟨a, ρ', e, w, rfl⟩ | ⟨a, ρ', e⟩
            · exact .inl ⟨a, _, e, _, _, rfl⟩
            · exact .inr ⟨a, _, e⟩
          · rw [if_neg hb, Bool.eq_false_iff.2 hb]
            right
            exact ⟨rfl, _, rfl⟩) [some (TT fs), none, none, none, none] ⟨_, _, rfl⟩
        rcases main with ⟨a, ρ', e, u, v, rfl⟩ | ⟨a, ρ', e⟩
        · rw [e, a]
          have h7 : ∀ f ∈ fs, f.length ≤ 7 := fun f hm => by
            have := List.all_eq_true.1 h1 f hm
            simp only [Bool.and_eq_true, decide_eq_true_eq] at this
            omega
          have hx : (facesL fs).length = (insP partsL [] fs).length := length_srt _
          simp only [↓bind_bnd, ok_bnd, exc_bnd, v_ap, k_ap, e1_ap, e2_ap, ret_ap, expr_ap, asg_ap, nil_ap, seq_ap, if_ap, ifB_ap, tr_b, noD_ap, and_ap, or_ap, not_ap, chB_ap, tup_ap, lst_ap, eL_n, eL_c, call_ap, callX_ap, nox_ok, for_ap, iSeq_ap, seq_t, seq_l, iR1_ap, iR2_ap, name_ap, ok_bind, exc_bind, List.getElem?_cons_zero, List.getElem?_cons_succ, List.set_cons_zero, List.set_cons_succ, List.map_cons, List.map_nil, List.cons_append, List.nil_append, List.replicate_succ, List.replicate_zero, cnd_s, cnd_n, lfaces_eq (p := TT fs) rfl h7 (by omega), len_LL, le_i, hx, Bool.true_and]
          refine ⟨[some (TT fs), u, v, none, none], ?_⟩
          rw [show (decide (((insP partsL [] fs).length : Int) ≤ 200)) = decide ((insP partsL [] fs).length ≤ 200) from by rw [decide_eq_decide]; omega]
        · rw [e, a]
          simp only [ok_bind, ok_bnd, Bool.and_false, Bool.false_and]
          exact ⟨_, rfl⟩
      · have h1' := Bool.eq_false_iff.2 h1
        simp only [h1', Bool.not_false, if_true, ok_bind, ok_bnd, Bool.false_and]
        exact ⟨_, rfl⟩
    · intro f hm
      simp only [↓bind_bnd, ok_bnd, exc_bnd, v_ap, k_ap, e1_ap, e2_ap, ret_ap, expr_ap, asg_ap, nil_ap, seq_ap, if_ap, ifB_ap, tr_b, noD_ap, and_ap, or_ap, not_ap, chB_ap, tup_ap, lst_ap, eL_n, eL_c, call_ap, callX_ap, nox_ok, for_ap, iSeq_ap, seq_t, seq_l, iR1_ap, iR2_ap, name_ap, ok_bind, exc_bind, List.getElem?_cons_zero, List.getElem?_cons_succ, List.set_cons_zero, List.set_cons_succ, List.map_cons, List.map_nil, List.cons_append, List.nil_append, List.replicate_succ, List.replicate_zero, cnd_s, cnd_n, lblock_eq f (hf f hm), len_T, lt_i]
      cases isBlk f
      · rfl
      · simp only [Bool.true_and]
        rw [show (decide ((f.length : Int) < 8)) = decide (f.length < 8) from by rw [decide_eq_decide]; omega]
  obtain ⟨ρ', e⟩ := step
  exact mkF_ok e
end Pl

namespace Pl
open PySem Mi Pu K88
theorem tup_l (xs : List PV) : tupleP (.lst xs) = .ok (.tup xs) := Eq.trans rfl rfl
theorem tup_t (xs : List PV) : tupleP (.tup xs) = .ok (.tup xs) := Eq.trans rfl rfl
theorem list_l (xs : List PV) : listP (.lst xs) = .ok (.lst xs) := Eq.trans rfl rfl
theorem list_t (xs : List PV) : listP (.tup xs) = .ok (.lst xs) := Eq.trans rfl rfl
theorem natlt (a b : Nat) : decide ((a : Int) < (b : Int)) = decide (a < b) := by rw [decide_eq_decide]; omega
theorem notin_int (x : Int) (f : List Int) : notInP (.int x) (T f) = .ok (.bool (!f.contains x)) := by
  have h := in_int x f
  unfold inP at h
  unfold notInP
  cases e : inD (.int x) (T f) with
  | none => rw [e] at h; cases h
  | some b =>
    rw [e] at h
    simp only [Res.opt, ok_bind, ok_bnd] at h ⊢
    injection h with h
    injection h with h
    rw [h]
theorem facets_eq {p : PV} {fs : List (List Int)} (hp : p.seq? = some (fs.map T)) (hne : ∀ f ∈ fs, f ≠ []) (hl : fs.length < 64) : m_facets_among [p] = .ok (TT (facetsI leI dd fs)) := by
  refine mkF_ok (ρ' := [some p, some (LL (srt leI (dd fs))), none, none]) ?_
  unfold b_facets_among
  simp only [↓bind_bnd, ok_bnd, exc_bnd, v_ap, k_ap, e1_ap, e2_ap, ret_ap, expr_ap, asg_ap, nil_ap, seq_ap, if_ap, ifB_ap, tr_b, noD_ap, and_ap, or_ap, not_ap, chB_ap, tup_ap, lst_ap, eL_n, eL_c, call_ap, callX_ap, nox_ok, for_ap, iSeq_ap, seq_t, seq_l, iR1_ap, iR2_ap, name_ap, ok_bind, exc_bind, List.getElem?_cons_zero, List.getElem?_cons_succ, List.set_cons_zero, List.set_cons_succ, List.map_cons, List.map_nil, List.cons_append, List.nil_append, List.replicate_succ, List.replicate_zero, cnd_s, cnd_n, sortedSet_T hp hne hl]
  rw [compA (v := 2) (xs := srt leI (dd fs)) (enc := T) (ρ' := [some p, some (LL (srt leI (dd fs))), none, none]) (mx (srt leI (dd fs))) T rfl (by decide : 2 < 4) ?_ ?_]
  · simp only [↓bind_bnd, ok_bnd, exc_bnd, v_ap, k_ap, e1_ap, e2_ap, ret_ap, expr_ap, asg_ap, nil_ap, seq_ap, if_ap, ifB_ap, tr_b, noD_ap, and_ap, or_ap, not_ap, chB_ap, tup_ap, lst_ap, eL_n, eL_c, call_ap, callX_ap, nox_ok, for_ap, iSeq_ap, seq_t, seq_l, iR1_ap, iR2_ap, name_ap, ok_bind, exc_bind, List.getElem?_cons_zero, List.getElem?_cons_succ, List.set_cons_zero, List.set_cons_succ, List.map_cons, List.map_nil, List.cons_append, List.nil_append, List.replicate_succ, List.replicate_zero, cnd_s, cnd_n, tup_l]
    rfl
  · intro o ho
    simp only [↓bind_bnd, ok_bnd, exc_bnd, v_ap, k_ap, e1_ap, e2_ap, ret_ap, expr_ap, asg_ap, nil_ap, seq_ap, if_ap, ifB_ap, tr_b, noD_ap, and_ap, or_ap, not_ap, chB_ap, tup_ap, lst_ap, eL_n, eL_c, call_ap, callX_ap, nox_ok, for_ap, iSeq_ap, seq_t, seq_l, iR1_ap, iR2_ap, name_ap, ok_bind, exc_bind, List.getElem?_cons_zero, List.getElem?_cons_succ, List.set_cons_zero, List.set_cons_succ, List.map_cons, List.map_nil, List.cons_append, List.nil_append, List.replicate_succ, List.replicate_zero, cnd_s, cnd_n]
    rw [comp0A (v := 3) (xs := srt leI (dd fs)) (enc := T) (ρ' := [some p, some (LL (srt leI (dd fs))), some (T o), none]) (fun t => .bool (decide (o.length < t.length) && sub o t)) rfl (by decide : 3 < 4) ?_]
    · simp only [↓bind_bnd, ok_bnd, exc_bnd, v_ap, k_ap, e1_ap, e2_ap, ret_ap, expr_ap, asg_ap, nil_ap, seq_ap, if_ap, ifB_ap, tr_b, noD_ap, and_ap, or_ap, not_ap, chB_ap, tup_ap, lst_ap, eL_n, eL_c, call_ap, callX_ap, nox_ok, for_ap, iSeq_ap, seq_t, seq_l, iR1_ap, iR2_ap, name_ap, ok_bind, exc_bind, List.getElem?_cons_zero, List.getElem?_cons_succ, List.set_cons_zero, List.set_cons_succ, List.map_cons, List.map_nil, List.cons_append, List.nil_append, List.replicate_succ, List.replicate_zero, cnd_s, cnd_n, any_map]
      rfl
    · intro t ht
      simp only [↓bind_bnd, ok_bnd, exc_bnd, v_ap, k_ap, e1_ap, e2_ap, ret_ap, expr_ap, asg_ap, nil_ap, seq_ap, if_ap, ifB_ap, tr_b, noD_ap, and_ap, or_ap, not_ap, chB_ap, tup_ap, lst_ap, eL_n, eL_c, call_ap, callX_ap, nox_ok, for_ap, iSeq_ap, seq_t, seq_l, iR1_ap, iR2_ap, name_ap, ok_bind, exc_bind, List.getElem?_cons_zero, List.getElem?_cons_succ, List.set_cons_zero, List.set_cons_succ, List.map_cons, List.map_nil, List.cons_append, List.nil_append, List.replicate_succ, List.replicate_zero, cnd_s, cnd_n, len_T, lt_i, natlt]
      cases decide (o.length < t.length) <;> simp only [↓bind_bnd, ok_bnd, exc_bnd, v_ap, k_ap, e1_ap, e2_ap, ret_ap, expr_ap, asg_ap, nil_ap, seq_ap, if_ap, ifB_ap, tr_b, noD_ap, and_ap, or_ap, not_ap, chB_ap, tup_ap, lst_ap, eL_n, eL_c, call_ap, callX_ap, nox_ok, for_ap, iSeq_ap, seq_t, seq_l, iR1_ap, iR2_ap, name_ap, ok_bind, exc_bind, List.getElem?_cons_zero, List.getElem?_cons_succ, List.set_cons_zero, List.set_cons_succ, List.map_cons, List.map_nil, List.cons_append, List.nil_append, List.replicate_succ, List.replicate_zero, cnd_s, cnd_n, within_eq, Bool.true_and, Bool.false_and]
  · intro o _ _
    simp only [↓bind_bnd, ok_bnd, exc_bnd, v_ap, k_ap, e1_ap, e2_ap, ret_ap, expr_ap, asg_ap, nil_ap, seq_ap, if_ap, ifB_ap, tr_b, noD_ap, and_ap, or_ap, not_ap, chB_ap, tup_ap, lst_ap, eL_n, eL_c, call_ap, callX_ap, nox_ok, for_ap, iSeq_ap, seq_t, seq_l, iR1_ap, iR2_ap, name_ap, ok_bind, exc_bind, List.getElem?_cons_zero, List.getElem?_cons_succ, List.set_cons_zero, List.set_cons_succ, List.map_cons, List.map_nil, List.cons_append, List.nil_append, List.replicate_succ, List.replicate_zero, cnd_s, cnd_n]
theorem cells_from_eq {fs : List (List Int)} (hne : ∀ f ∈ fs, f ≠ []) (hl : fs.length < 64) :
    m_cells_from [TT fs] = if (goI [] (facetsI leI dd fs)).isSome then .ok (TT (facetsI leI dd fs)) else .exc large := by
  cases hg : goI [] (facetsI leI dd fs) with
  | none =>
    simp only [Option.isSome_none, Bool.false_eq_true, if_false]
    refine mkF_exc ?_
    unfold b_cells_from
    simp only [↓bind_bnd, ok_bnd, exc_bnd, v_ap, k_ap, e1_ap, e2_ap, ret_ap, expr_ap, asg_ap, nil_ap, seq_ap, if_ap, ifB_ap, tr_b, noD_ap, and_ap, or_ap, not_ap, chB_ap, tup_ap, lst_ap, eL_n, eL_c, call_ap, callX_ap, nox_ok, for_ap, iSeq_ap, seq_t, seq_l, iR1_ap, iR2_ap, name_ap, ok_bind, exc_bind, List.getElem?_cons_zero, List.getElem?_cons_succ, List.set_cons_zero, List.set_cons_succ, List.map_cons, List.map_nil, List.cons_append, List.nil_append, List.replicate_succ, List.replicate_zero, cnd_s, cnd_n, facets_eq (p := TT fs) rfl hne hl, faces_exc hg]
  | some m =>
    simp only [Option.isSome_some, if_true]
    refine mkF_ok (ρ' := [some (TT fs), some (TT (facetsI leI dd fs))]) ?_
    unfold b_cells_from
    simp only [↓bind_bnd, ok_bnd, exc_bnd, v_ap, k_ap, e1_ap, e2_ap, ret_ap, expr_ap, asg_ap, nil_ap, seq_ap, if_ap, ifB_ap, tr_b, noD_ap, and_ap, or_ap, not_ap, chB_ap, tup_ap, lst_ap, eL_n, eL_c, call_ap, callX_ap, nox_ok, for_ap, iSeq_ap, seq_t, seq_l, iR1_ap, iR2_ap, name_ap, ok_bind, exc_bind, List.getElem?_cons_zero, List.getElem?_cons_succ, List.set_cons_zero, List.set_cons_succ, List.map_cons, List.map_nil, List.cons_append, List.nil_append, List.replicate_succ, List.replicate_zero, cnd_s, cnd_n, facets_eq (p := TT fs) rfl hne hl, faces_ok hg]
theorem is_face_eq {k : List (List Int)} {f : List Int} (hf : f.length ≤ 16777216) : m_is_face [TT k, T f] = .ok (.bool (isBlk f && k.any fun o => sub f o)) := by
  refine mkF_ok (ρ' := [some (TT k), some (T f), none]) ?_
  unfold b_is_face
  simp only [↓bind_bnd, ok_bnd, exc_bnd, v_ap, k_ap, e1_ap, e2_ap, ret_ap, expr_ap, asg_ap, nil_ap, seq_ap, if_ap, ifB_ap, tr_b, noD_ap, and_ap, or_ap, not_ap, chB_ap, tup_ap, lst_ap, eL_n, eL_c, call_ap, callX_ap, nox_ok, for_ap, iSeq_ap, seq_t, seq_l, iR1_ap, iR2_ap, name_ap, ok_bind, exc_bind, List.getElem?_cons_zero, List.getElem?_cons_succ, List.set_cons_zero, List.set_cons_succ, List.map_cons, List.map_nil, List.cons_append, List.nil_append, List.replicate_succ, List.replicate_zero, cnd_s, cnd_n, block_eq f hf]
  cases isBlk f with
  | false => simp only [↓bind_bnd, ok_bnd, exc_bnd, v_ap, k_ap, e1_ap, e2_ap, ret_ap, expr_ap, asg_ap, nil_ap, seq_ap, if_ap, ifB_ap, tr_b, noD_ap, and_ap, or_ap, not_ap, chB_ap, tup_ap, lst_ap, eL_n, eL_c, call_ap, callX_ap, nox_ok, for_ap, iSeq_ap, seq_t, seq_l, iR1_ap, iR2_ap, name_ap, ok_bind, exc_bind, List.getElem?_cons_zero, List.getElem?_cons_succ, List.set_cons_zero, List.set_cons_succ, List.map_cons, List.map_nil, List.cons_append, List.nil_append, List.replicate_succ, List.replicate_zero, cnd_s, cnd_n, Bool.false_and]
  | true =>
    simp only []
    rw [comp0A (v := 2) (xs := k) (enc := T) (ρ' := [some (TT k), some (T f), none]) (fun o => .bool (sub f o)) rfl (by decide : 2 < 3) ?_]
    · simp only [↓bind_bnd, ok_bnd, exc_bnd, v_ap, k_ap, e1_ap, e2_ap, ret_ap, expr_ap, asg_ap, nil_ap, seq_ap, if_ap, ifB_ap, tr_b, noD_ap, and_ap, or_ap, not_ap, chB_ap, tup_ap, lst_ap, eL_n, eL_c, call_ap, callX_ap, nox_ok, for_ap, iSeq_ap, seq_t, seq_l, iR1_ap, iR2_ap, name_ap, ok_bind, exc_bind, List.getElem?_cons_zero, List.getElem?_cons_succ, List.set_cons_zero, List.set_cons_succ, List.map_cons, List.map_nil, List.cons_append, List.nil_append, List.replicate_succ, List.replicate_zero, cnd_s, cnd_n, any_map, Bool.true_and]
    · intro o _
      simp only [↓bind_bnd, ok_bnd, exc_bnd, v_ap, k_ap, e1_ap, e2_ap, ret_ap, expr_ap, asg_ap, nil_ap, seq_ap, if_ap, ifB_ap, tr_b, noD_ap, and_ap, or_ap, not_ap, chB_ap, tup_ap, lst_ap, eL_n, eL_c, call_ap, callX_ap, nox_ok, for_ap, iSeq_ap, seq_t, seq_l, iR1_ap, iR2_ap, name_ap, ok_bind, exc_bind, List.getElem?_cons_zero, List.getElem?_cons_succ, List.set_cons_zero, List.set_cons_succ, List.map_cons, List.map_nil, List.cons_append, List.nil_append, List.replicate_succ, List.replicate_zero, cnd_s, cnd_n, within_eq]
/-- cells whose faces are few -/
structure Q (k : List (List Int)) : Prop where
  good : Good k
  four : ∀ o ∈ k, o.length ≤ 4
  few : (insP partsL [] k).length ≤ 63
section
variable {k : List (List Int)} (q : Q k)
include q
theorem Q.go : goI [] k = some (insP partsA [] k) := by
  rw [goI_eq k [] (by simp), if_pos]
  have h1 := q.four
  have h2 := q.few
  rw [← (insP_perm k).length_eq] at h2
  exact ⟨fun b hb => by have := h1 b hb; omega, by omega⟩
theorem Q.clo : Clo k (facesL k) := (clo_insP (fun _ _ => mem_partsL) q.good).congr fun _ => mem_srt
theorem Q.ssd : SSd leI (facesL k) := ssd_srt (nodup_insP List.nodup_nil)
theorem Q.len : (facesL k).length ≤ 63 := by unfold facesL; rw [length_srt]; exact q.few
theorem Q.ne : ∀ f ∈ facesL k, f ≠ [] := fun f hf => ((q.clo f).1 hf).1
theorem Q.le : ∀ f ∈ facesL k, f.length ≤ tp k := fun f hf => by
  obtain ⟨_, h2, o, ho, hx⟩ := (q.clo f).1 hf
  exact Nat.le_trans (inc_sublist h2 (q.good o ho).2 hx).length_le (le_tp ho)
theorem Q.tp4 : tp k ≤ 4 := tp_le q.four
theorem all_faces_eq : m_all_faces [TT k] = .ok (LL (facesL k)) := by
  have hg := q.go
  have h2 := q.few
  have pm := insP_perm k
  have e : srt leI (insP partsA [] k) = facesL k := srt_eq (nodup_insP List.nodup_nil) q.ssd fun x => by unfold facesL; rw [mem_srt]; exact pm.mem_iff
  have hlim : lim = 16777216 := rfl
  refine mkF_ok (ρ' := [some (TT k)]) ?_
  unfold b_all_faces
  simp only [↓bind_bnd, ok_bnd, exc_bnd, v_ap, k_ap, e1_ap, e2_ap, ret_ap, expr_ap, asg_ap, nil_ap, seq_ap, if_ap, ifB_ap, tr_b, noD_ap, and_ap, or_ap, not_ap, chB_ap, tup_ap, lst_ap, eL_n, eL_c, call_ap, callX_ap, nox_ok, for_ap, iSeq_ap, seq_t, seq_l, iR1_ap, iR2_ap, name_ap, ok_bind, exc_bind, List.getElem?_cons_zero, List.getElem?_cons_succ, List.set_cons_zero, List.set_cons_succ, List.map_cons, List.map_nil, List.cons_append, List.nil_append, List.replicate_succ, List.replicate_zero, cnd_s, cnd_n, faces_ok hg, sorted_DD (l := insP partsA [] k) (fun f hf => ne_insP (ks := k) (l := []) (by simp) f (pm.mem_iff.1 hf)) (show (insP partsA [] k).length ≤ lim by rw [pm.length_eq]; omega), e]
theorem faces_of_eq (n : Int) : m_faces_of [TT k, .int n] = .ok (TT ((facesL k).filter fun g => decide ((g.length : Int) = n + 1))) := by
  refine mkF_ok (ρ' := [some (TT k), some (.int n), none]) ?_
  unfold b_faces_of
  simp only [↓bind_bnd, ok_bnd, exc_bnd, v_ap, k_ap, e1_ap, e2_ap, ret_ap, expr_ap, asg_ap, nil_ap, seq_ap, if_ap, ifB_ap, tr_b, noD_ap, and_ap, or_ap, not_ap, chB_ap, tup_ap, lst_ap, eL_n, eL_c, call_ap, callX_ap, nox_ok, for_ap, iSeq_ap, seq_t, seq_l, iR1_ap, iR2_ap, name_ap, ok_bind, exc_bind, List.getElem?_cons_zero, List.getElem?_cons_succ, List.set_cons_zero, List.set_cons_succ, List.map_cons, List.map_nil, List.cons_append, List.nil_append, List.replicate_succ, List.replicate_zero, cnd_s, cnd_n]
  rw [compA (v := 2) (xs := facesL k) (enc := T) (ρ' := [some (TT k), some (.int n), none]) (fun g => decide ((g.length : Int) = n + 1)) T ?_ (by decide : 2 < 3) ?_ ?_]
  · simp only [↓bind_bnd, ok_bnd, exc_bnd, v_ap, k_ap, e1_ap, e2_ap, ret_ap, expr_ap, asg_ap, nil_ap, seq_ap, if_ap, ifB_ap, tr_b, noD_ap, and_ap, or_ap, not_ap, chB_ap, tup_ap, lst_ap, eL_n, eL_c, call_ap, callX_ap, nox_ok, for_ap, iSeq_ap, seq_t, seq_l, iR1_ap, iR2_ap, name_ap, ok_bind, exc_bind, List.getElem?_cons_zero, List.getElem?_cons_succ, List.set_cons_zero, List.set_cons_succ, List.map_cons, List.map_nil, List.cons_append, List.nil_append, List.replicate_succ, List.replicate_zero, cnd_s, cnd_n, tup_l]
  · simp only [↓bind_bnd, ok_bnd, exc_bnd, v_ap, k_ap, e1_ap, e2_ap, ret_ap, expr_ap, asg_ap, nil_ap, seq_ap, if_ap, ifB_ap, tr_b, noD_ap, and_ap, or_ap, not_ap, chB_ap, tup_ap, lst_ap, eL_n, eL_c, call_ap, callX_ap, nox_ok, for_ap, iSeq_ap, seq_t, seq_l, iR1_ap, iR2_ap, name_ap, ok_bind, exc_bind, List.getElem?_cons_zero, List.getElem?_cons_succ, List.set_cons_zero, List.set_cons_succ, List.map_cons, List.map_nil, List.cons_append, List.nil_append, List.replicate_succ, List.replicate_zero, cnd_s, cnd_n, all_faces_eq q]
  · intro g _
    simp only [↓bind_bnd, ok_bnd, exc_bnd, v_ap, k_ap, e1_ap, e2_ap, ret_ap, expr_ap, asg_ap, nil_ap, seq_ap, if_ap, ifB_ap, tr_b, noD_ap, and_ap, or_ap, not_ap, chB_ap, tup_ap, lst_ap, eL_n, eL_c, call_ap, callX_ap, nox_ok, for_ap, iSeq_ap, seq_t, seq_l, iR1_ap, iR2_ap, name_ap, ok_bind, exc_bind, List.getElem?_cons_zero, List.getElem?_cons_succ, List.set_cons_zero, List.set_cons_succ, List.map_cons, List.map_nil, List.cons_append, List.nil_append, List.replicate_succ, List.replicate_zero, cnd_s, cnd_n, len_T, add_i, eq_i]
  · intro g _ _
    simp only [↓bind_bnd, ok_bnd, exc_bnd, v_ap, k_ap, e1_ap, e2_ap, ret_ap, expr_ap, asg_ap, nil_ap, seq_ap, if_ap, ifB_ap, tr_b, noD_ap, and_ap, or_ap, not_ap, chB_ap, tup_ap, lst_ap, eL_n, eL_c, call_ap, callX_ap, nox_ok, for_ap, iSeq_ap, seq_t, seq_l, iR1_ap, iR2_ap, name_ap, ok_bind, exc_bind, List.getElem?_cons_zero, List.getElem?_cons_succ, List.set_cons_zero, List.set_cons_succ, List.map_cons, List.map_nil, List.cons_append, List.nil_append, List.replicate_succ, List.replicate_zero, cnd_s, cnd_n]
theorem skeleton_eq (n : Int) : m_skeleton_of [TT k, .int n] = .ok (TT (facetsI leI dd ((facesL k).filter fun g => decide ((g.length : Int) ≤ n + 1)))) := by
  have hl : ((facesL k).filter fun g => decide ((g.length : Int) ≤ n + 1)).length < 64 := by
    have := List.length_filter_le (fun g => decide ((g.length : Int) ≤ n + 1)) (facesL k)
    have := q.len
    omega
  refine mkF_ok (ρ' := [some (TT k), some (.int n), none]) ?_
  unfold b_skeleton_of
  simp only [↓bind_bnd, ok_bnd, exc_bnd, v_ap, k_ap, e1_ap, e2_ap, ret_ap, expr_ap, asg_ap, nil_ap, seq_ap, if_ap, ifB_ap, tr_b, noD_ap, and_ap, or_ap, not_ap, chB_ap, tup_ap, lst_ap, eL_n, eL_c, call_ap, callX_ap, nox_ok, for_ap, iSeq_ap, seq_t, seq_l, iR1_ap, iR2_ap, name_ap, ok_bind, exc_bind, List.getElem?_cons_zero, List.getElem?_cons_succ, List.set_cons_zero, List.set_cons_succ, List.map_cons, List.map_nil, List.cons_append, List.nil_append, List.replicate_succ, List.replicate_zero, cnd_s, cnd_n]
  rw [compA (v := 2) (xs := facesL k) (enc := T) (ρ' := [some (TT k), some (.int n), none]) (fun g => decide ((g.length : Int) ≤ n + 1)) T ?_ (by decide : 2 < 3) ?_ ?_]
  · simp only [↓bind_bnd, ok_bnd, exc_bnd, v_ap, k_ap, e1_ap, e2_ap, ret_ap, expr_ap, asg_ap, nil_ap, seq_ap, if_ap, ifB_ap, tr_b, noD_ap, and_ap, or_ap, not_ap, chB_ap, tup_ap, lst_ap, eL_n, eL_c, call_ap, callX_ap, nox_ok, for_ap, iSeq_ap, seq_t, seq_l, iR1_ap, iR2_ap, name_ap, ok_bind, exc_bind, List.getElem?_cons_zero, List.getElem?_cons_succ, List.set_cons_zero, List.set_cons_succ, List.map_cons, List.map_nil, List.cons_append, List.nil_append, List.replicate_succ, List.replicate_zero, cnd_s, cnd_n, facets_eq (p := LL ((facesL k).filter fun g => decide ((g.length : Int) ≤ n + 1))) rfl (fun f hf => q.ne f (List.mem_filter.1 hf).1) hl]
  · simp only [↓bind_bnd, ok_bnd, exc_bnd, v_ap, k_ap, e1_ap, e2_ap, ret_ap, expr_ap, asg_ap, nil_ap, seq_ap, if_ap, ifB_ap, tr_b, noD_ap, and_ap, or_ap, not_ap, chB_ap, tup_ap, lst_ap, eL_n, eL_c, call_ap, callX_ap, nox_ok, for_ap, iSeq_ap, seq_t, seq_l, iR1_ap, iR2_ap, name_ap, ok_bind, exc_bind, List.getElem?_cons_zero, List.getElem?_cons_succ, List.set_cons_zero, List.set_cons_succ, List.map_cons, List.map_nil, List.cons_append, List.nil_append, List.replicate_succ, List.replicate_zero, cnd_s, cnd_n, all_faces_eq q]
  · intro g _
    simp only [↓bind_bnd, ok_bnd, exc_bnd, v_ap, k_ap, e1_ap, e2_ap, ret_ap, expr_ap, asg_ap, nil_ap, seq_ap, if_ap, ifB_ap, tr_b, noD_ap, and_ap, or_ap, not_ap, chB_ap, tup_ap, lst_ap, eL_n, eL_c, call_ap, callX_ap, nox_ok, for_ap, iSeq_ap, seq_t, seq_l, iR1_ap, iR2_ap, name_ap, ok_bind, exc_bind, List.getElem?_cons_zero, List.getElem?_cons_succ, List.set_cons_zero, List.set_cons_succ, List.map_cons, List.map_nil, List.cons_append, List.nil_append, List.replicate_succ, List.replicate_zero, cnd_s, cnd_n, len_T, add_i, le_i]
  · intro g _ _
    simp only [↓bind_bnd, ok_bnd, exc_bnd, v_ap, k_ap, e1_ap, e2_ap, ret_ap, expr_ap, asg_ap, nil_ap, seq_ap, if_ap, ifB_ap, tr_b, noD_ap, and_ap, or_ap, not_ap, chB_ap, tup_ap, lst_ap, eL_n, eL_c, call_ap, callX_ap, nox_ok, for_ap, iSeq_ap, seq_t, seq_l, iR1_ap, iR2_ap, name_ap, ok_bind, exc_bind, List.getElem?_cons_zero, List.getElem?_cons_succ, List.set_cons_zero, List.set_cons_succ, List.map_cons, List.map_nil, List.cons_append, List.nil_append, List.replicate_succ, List.replicate_zero, cnd_s, cnd_n]
end
theorem max_eq {k : List (List Int)} : maxP (.lst (k.map (fun o => PV.int o.length) ++ [.int 0])) = .ok (.int (tp k)) := by
  have h : lstInts (.lst (k.map (fun o => PV.int o.length) ++ [.int 0])) = some (k.map (fun o => (o.length : Int)) ++ [0]) := by
    have : k.map (fun o => PV.int o.length) ++ [.int 0] = (k.map (fun (o : List Int) => (o.length : Int)) ++ [0]).map PV.int := by simp
    show intsOf _ = _
    rw [this, intsOf_ints]
  unfold maxP
  rw [h]
  simp only []
  rw [maxI_eq (m := tp k)]
  · rfl
  · rcases tp_mem k with e | ⟨o, ho, hl⟩
    · simp [e]
    · rw [← hl]; simp; exact .inl ⟨o, ho, rfl⟩
  · intro y hy
    rcases List.mem_append.1 hy with hy | hy
    · obtain ⟨o, ho, rfl⟩ := List.mem_map.1 hy
      have := le_tp ho; omega
    · simp at hy; subst hy; omega
theorem dim_body {k : List (List Int)} (hl : k.length < lim) : (sRet (e2 subP (e1 maxP (e2 addP (eComp (gName 1) none (e1 lenS (eVar 1)) [1] (iSeq (eVar 0))) (eLst [(eK (.int 0))]))) (eK (.int 1)))) [some (TT k), none] = .ok (.ret (.int ((tp k : Int) - 1)), [some (TT k), none]) := by
  simp only [↓bind_bnd, ok_bnd, exc_bnd, v_ap, k_ap, e1_ap, e2_ap, ret_ap, expr_ap, asg_ap, nil_ap, seq_ap, if_ap, ifB_ap, tr_b, noD_ap, and_ap, or_ap, not_ap, chB_ap, tup_ap, lst_ap, eL_n, eL_c, call_ap, callX_ap, nox_ok, for_ap, iSeq_ap, seq_t, seq_l, iR1_ap, iR2_ap, name_ap, ok_bind, exc_bind, List.getElem?_cons_zero, List.getElem?_cons_succ, List.set_cons_zero, List.set_cons_succ, List.map_cons, List.map_nil, List.cons_append, List.nil_append, List.replicate_succ, List.replicate_zero, cnd_s, cnd_n]
  rw [comp0A (v := 1) (xs := k) (enc := T) (ρ' := [some (TT k), none]) (fun o => .int o.length) rfl (by decide : 1 < 2) ?_]
  · have ha : addP (.lst (k.map fun o => PV.int o.length)) (.lst [.int 0]) = .ok (.lst (k.map (fun o => PV.int o.length) ++ [.int 0])) := by
      simp only [addP, List.length_map, List.length_cons, List.length_nil]
      rw [if_pos (by omega)]
    simp only [↓bind_bnd, ok_bnd, exc_bnd, v_ap, k_ap, e1_ap, e2_ap, ret_ap, expr_ap, asg_ap, nil_ap, seq_ap, if_ap, ifB_ap, tr_b, noD_ap, and_ap, or_ap, not_ap, chB_ap, tup_ap, lst_ap, eL_n, eL_c, call_ap, callX_ap, nox_ok, for_ap, iSeq_ap, seq_t, seq_l, iR1_ap, iR2_ap, name_ap, ok_bind, exc_bind, List.getElem?_cons_zero, List.getElem?_cons_succ, List.set_cons_zero, List.set_cons_succ, List.map_cons, List.map_nil, List.cons_append, List.nil_append, List.replicate_succ, List.replicate_zero, cnd_s, cnd_n, ha, max_eq, sub_i]
  · intro o _
    simp only [↓bind_bnd, ok_bnd, exc_bnd, v_ap, k_ap, e1_ap, e2_ap, ret_ap, expr_ap, asg_ap, nil_ap, seq_ap, if_ap, ifB_ap, tr_b, noD_ap, and_ap, or_ap, not_ap, chB_ap, tup_ap, lst_ap, eL_n, eL_c, call_ap, callX_ap, nox_ok, for_ap, iSeq_ap, seq_t, seq_l, iR1_ap, iR2_ap, name_ap, ok_bind, exc_bind, List.getElem?_cons_zero, List.getElem?_cons_succ, List.set_cons_zero, List.set_cons_succ, List.map_cons, List.map_nil, List.cons_append, List.nil_append, List.replicate_succ, List.replicate_zero, cnd_s, cnd_n, len_T]
theorem dim_eq {k : List (List Int)} (hl : k.length < lim) : m_dimension_of [TT k] = .ok (.int ((tp k : Int) - 1)) := mkF_ok (dim_body hl)
theorem ldim_eq {k : List (List Int)} (hl : k.length < lim) : m__law_dimension [TT k] = .ok (.int ((tp k : Int) - 1)) := mkF_ok (dim_body hl)
end Pl

namespace Pl
open PySem Mi Pu K88
/-! honest, same -/
theorem sh_word : SeqAt.shaped (.str "a word that nothing else is") = true := by decide +kernel
theorem sh_told : SeqAt.shaped (.str "told") = true := by decide +kernel
theorem sh_refused : SeqAt.shaped (.str "refused") = true := by decide +kernel
theorem data_s (s : Str) : PV.data (.str s) = some (.str s) := Eq.trans rfl rfl
theorem data_i (s : Int) : PV.data (.int s) = some (.int s) := Eq.trans rfl rfl
theorem eq_is (i : Int) {s : Str} (sh_str : SeqAt.shaped (.str s) = true) : eqP (.int i) (.str s) = .ok (.bool false) := by
  unfold eqP
  simp only [data_i, data_s, sh_int, sh_str, Bool.and_self, if_true]
  rfl
theorem eq_Ts (f : List Int) {s : Str} (sh_str : SeqAt.shaped (.str s) = true) : eqP (T f) (.str s) = .ok (.bool false) := by
  unfold eqP
  simp only [data_T, data_s, sh_intsT, sh_str, Bool.and_self, if_true]
  rfl
theorem shT_tups (fs : List (List Int)) : SeqAt.shaped (.tuple (fs.map fun f => .tuple (DI f))) = true := by
  have := dep_tups fs
  simp [SeqAt.shaped, PyData.canLay0, PyData.depth, lay_tups]
  omega
theorem data_TT (fs : List (List Int)) : PV.data (TT fs) = some (.tuple (fs.map fun f => .tuple (DI f))) := by simp only [PV.data, data_tups, Option.map_some]
theorem eq_TTs (f : List (List Int)) {s : Str} (sh_str : SeqAt.shaped (.str s) = true) : eqP (TT f) (.str s) = .ok (.bool false) := by
  unfold eqP
  simp only [data_TT, data_s, shT_tups, sh_str, Bool.and_self, if_true]
  rfl
theorem eq_ss {s : Str} (sh_str : SeqAt.shaped (.str s) = true) : eqP (.str s) (.str s) = .ok (.bool true) := by
  unfold eqP
  simp only [data_s, sh_str, Bool.and_self, if_true, PyData.eqv, decide_true]
  simp
theorem isi2_i (i : Int) : isiP2 "tuple" "list" (.int i) = .ok (.bool false) := Eq.trans rfl rfl
theorem isi2_t (xs : List PV) : isiP2 "tuple" "list" (.tup xs) = .ok (.bool true) := Eq.trans rfl rfl
theorem odd_i (n : Nat) (i : Int) : m__law_odd (n + 1) [.int i] = .ok (.bool false) := by
  refine mkF_ok (ρ' := [some (.int i), none]) ?_
  unfold b__law_odd
  simp only [↓bind_bnd, ok_bnd, exc_bnd, v_ap, k_ap, e1_ap, e2_ap, ret_ap, expr_ap, asg_ap, nil_ap, seq_ap, if_ap, ifB_ap, tr_b, noD_ap, and_ap, or_ap, not_ap, chB_ap, tup_ap, lst_ap, eL_n, eL_c, call_ap, callX_ap, nox_ok, for_ap, iSeq_ap, seq_t, seq_l, iR1_ap, iR2_ap, name_ap, ok_bind, exc_bind, List.getElem?_cons_zero, List.getElem?_cons_succ, List.set_cons_zero, List.set_cons_succ, List.map_cons, List.map_nil, List.cons_append, List.nil_append, List.replicate_succ, List.replicate_zero, cnd_s, cnd_n, eq_is _ sh_word, Bool.false_eq_true, if_false, isi2_i]
theorem len_nil : lenS (.lst []) = .ok (.int 0) := rfl
theorem odd_T (n : Nat) (f : List Int) : m__law_odd (n + 2) [T f] = .ok (.bool false) := by
  refine mkF_ok (ρ' := [some (T f), none]) ?_
  unfold b__law_odd
  simp only [↓bind_bnd, ok_bnd, exc_bnd, v_ap, k_ap, e1_ap, e2_ap, ret_ap, expr_ap, asg_ap, nil_ap, seq_ap, if_ap, ifB_ap, tr_b, noD_ap, and_ap, or_ap, not_ap, chB_ap, tup_ap, lst_ap, eL_n, eL_c, call_ap, callX_ap, nox_ok, for_ap, iSeq_ap, seq_t, seq_l, iR1_ap, iR2_ap, name_ap, ok_bind, exc_bind, List.getElem?_cons_zero, List.getElem?_cons_succ, List.set_cons_zero, List.set_cons_succ, List.map_cons, List.map_nil, List.cons_append, List.nil_append, List.replicate_succ, List.replicate_zero, cnd_s, cnd_n, eq_Ts _ sh_word, Bool.false_eq_true, if_false, isi2_t]
  rw [compA (v := 1) (xs := f) (enc := .int) (ρ' := [some (T f), none]) (fun _ => false) .int rfl (by decide : 1 < 2) ?_ ?_]
  · rw [show f.filter (fun _ => false) = [] from by simp]
    simp only [↓bind_bnd, ok_bnd, exc_bnd, v_ap, k_ap, e1_ap, e2_ap, ret_ap, expr_ap, asg_ap, nil_ap, seq_ap, if_ap, ifB_ap, tr_b, noD_ap, and_ap, or_ap, not_ap, chB_ap, tup_ap, lst_ap, eL_n, eL_c, call_ap, callX_ap, nox_ok, for_ap, iSeq_ap, seq_t, seq_l, iR1_ap, iR2_ap, name_ap, ok_bind, exc_bind, List.getElem?_cons_zero, List.getElem?_cons_succ, List.set_cons_zero, List.set_cons_succ, List.map_cons, List.map_nil, List.cons_append, List.nil_append, List.replicate_succ, List.replicate_zero, cnd_s, cnd_n, len_nil, gt_i]
    rfl
  · intro x _
    simp only [↓bind_bnd, ok_bnd, exc_bnd, v_ap, k_ap, e1_ap, e2_ap, ret_ap, expr_ap, asg_ap, nil_ap, seq_ap, if_ap, ifB_ap, tr_b, noD_ap, and_ap, or_ap, not_ap, chB_ap, tup_ap, lst_ap, eL_n, eL_c, call_ap, callX_ap, nox_ok, for_ap, iSeq_ap, seq_t, seq_l, iR1_ap, iR2_ap, name_ap, ok_bind, exc_bind, List.getElem?_cons_zero, List.getElem?_cons_succ, List.set_cons_zero, List.set_cons_succ, List.map_cons, List.map_nil, List.cons_append, List.nil_append, List.replicate_succ, List.replicate_zero, cnd_s, cnd_n, odd_i]
  · intro x _ h
    cases h
theorem odd_TT (n : Nat) (f : List (List Int)) : m__law_odd (n + 3) [TT f] = .ok (.bool false) := by
  refine mkF_ok (ρ' := [some (TT f), none]) ?_
  unfold b__law_odd
  simp only [↓bind_bnd, ok_bnd, exc_bnd, v_ap, k_ap, e1_ap, e2_ap, ret_ap, expr_ap, asg_ap, nil_ap, seq_ap, if_ap, ifB_ap, tr_b, noD_ap, and_ap, or_ap, not_ap, chB_ap, tup_ap, lst_ap, eL_n, eL_c, call_ap, callX_ap, nox_ok, for_ap, iSeq_ap, seq_t, seq_l, iR1_ap, iR2_ap, name_ap, ok_bind, exc_bind, List.getElem?_cons_zero, List.getElem?_cons_succ, List.set_cons_zero, List.set_cons_succ, List.map_cons, List.map_nil, List.cons_append, List.nil_append, List.replicate_succ, List.replicate_zero, cnd_s, cnd_n, eq_TTs _ sh_word, Bool.false_eq_true, if_false, isi2_t]
  rw [compA (v := 1) (xs := f) (enc := T) (ρ' := [some (TT f), none]) (fun _ => false) T rfl (by decide : 1 < 2) ?_ ?_]
  · rw [show f.filter (fun _ => false) = [] from by simp]
    simp only [↓bind_bnd, ok_bnd, exc_bnd, v_ap, k_ap, e1_ap, e2_ap, ret_ap, expr_ap, asg_ap, nil_ap, seq_ap, if_ap, ifB_ap, tr_b, noD_ap, and_ap, or_ap, not_ap, chB_ap, tup_ap, lst_ap, eL_n, eL_c, call_ap, callX_ap, nox_ok, for_ap, iSeq_ap, seq_t, seq_l, iR1_ap, iR2_ap, name_ap, ok_bind, exc_bind, List.getElem?_cons_zero, List.getElem?_cons_succ, List.set_cons_zero, List.set_cons_succ, List.map_cons, List.map_nil, List.cons_append, List.nil_append, List.replicate_succ, List.replicate_zero, cnd_s, cnd_n, len_nil, gt_i]
    rfl
  · intro x _
    simp only [↓bind_bnd, ok_bnd, exc_bnd, v_ap, k_ap, e1_ap, e2_ap, ret_ap, expr_ap, asg_ap, nil_ap, seq_ap, if_ap, ifB_ap, tr_b, noD_ap, and_ap, or_ap, not_ap, chB_ap, tup_ap, lst_ap, eL_n, eL_c, call_ap, callX_ap, nox_ok, for_ap, iSeq_ap, seq_t, seq_l, iR1_ap, iR2_ap, name_ap, ok_bind, exc_bind, List.getElem?_cons_zero, List.getElem?_cons_succ, List.set_cons_zero, List.set_cons_succ, List.map_cons, List.map_nil, List.cons_append, List.nil_append, List.replicate_succ, List.replicate_zero, cnd_s, cnd_n, odd_T]
  · intro x _ h
    cases h
theorem honest_of {p : PV} (h : m__law_odd 6 [p] = .ok (.bool false)) : m__law_honest [p] = .ok p := by
  refine mkF_ok (ρ' := [some p]) ?_
  unfold b__law_honest
  simp only [↓bind_bnd, ok_bnd, exc_bnd, v_ap, k_ap, e1_ap, e2_ap, ret_ap, expr_ap, asg_ap, nil_ap, seq_ap, if_ap, ifB_ap, tr_b, noD_ap, and_ap, or_ap, not_ap, chB_ap, tup_ap, lst_ap, eL_n, eL_c, call_ap, callX_ap, nox_ok, for_ap, iSeq_ap, seq_t, seq_l, iR1_ap, iR2_ap, name_ap, ok_bind, exc_bind, List.getElem?_cons_zero, List.getElem?_cons_succ, List.set_cons_zero, List.set_cons_succ, List.map_cons, List.map_nil, List.cons_append, List.nil_append, List.replicate_succ, List.replicate_zero, cnd_s, cnd_n, h, Bool.false_eq_true, if_false]
theorem honest_i (i : Int) : m__law_honest [.int i] = .ok (.int i) := honest_of (odd_i 5 i)
theorem honest_T (f : List Int) : m__law_honest [T f] = .ok (T f) := honest_of (odd_T 4 f)
theorem honest_TT (f : List (List Int)) : m__law_honest [TT f] = .ok (TT f) := honest_of (odd_TT 3 f)
theorem isiB_i (i : Int) : isiP "bool" (.int i) = .ok (.bool false) := Eq.trans rfl rfl
theorem isiB_t (xs : List PV) : isiP "bool" (.tup xs) = .ok (.bool false) := Eq.trans rfl rfl
theorem isiB_s (s : Str) : isiP "bool" (.str s) = .ok (.bool false) := Eq.trans rfl rfl
theorem isiB_b (b : Bool) : isiP "bool" (.bool b) = .ok (.bool true) := Eq.trans rfl rfl
theorem isiT_i (i : Int) : isiP "tuple" (.int i) = .ok (.bool false) := Eq.trans rfl rfl
theorem isiT_t (xs : List PV) : isiP "tuple" (.tup xs) = .ok (.bool true) := Eq.trans rfl rfl
theorem isiT_s (s : Str) : isiP "tuple" (.str s) = .ok (.bool false) := Eq.trans rfl rfl
theorem isiS_i (i : Int) : isiP "str" (.int i) = .ok (.bool false) := Eq.trans rfl rfl
theorem isiS_s (s : Str) : isiP "str" (.str s) = .ok (.bool true) := Eq.trans rfl rfl
theorem isN_i (i : Int) : isNP' (.int i) .non = .ok (.bool false) := Eq.trans rfl rfl
theorem same_i (n : Nat) (i : Int) : m__law_same (n + 1) [.int i, .int i] = .ok (.bool true) := by
  refine mkF_ok (ρ' := [some (.int i), some (.int i), none]) ?_
  unfold b__law_same
  simp only [↓bind_bnd, ok_bnd, exc_bnd, v_ap, k_ap, e1_ap, e2_ap, ret_ap, expr_ap, asg_ap, nil_ap, seq_ap, if_ap, ifB_ap, tr_b, noD_ap, and_ap, or_ap, not_ap, chB_ap, tup_ap, lst_ap, eL_n, eL_c, call_ap, callX_ap, nox_ok, for_ap, iSeq_ap, seq_t, seq_l, iR1_ap, iR2_ap, name_ap, ok_bind, exc_bind, List.getElem?_cons_zero, List.getElem?_cons_succ, List.set_cons_zero, List.set_cons_succ, List.map_cons, List.map_nil, List.cons_append, List.nil_append, List.replicate_succ, List.replicate_zero, cnd_s, cnd_n, isiB_i, isiT_i, isiS_i, isN_i, Bool.false_eq_true, if_false, whole_i, eq_i, decide_true]
theorem same_s (n : Nat) {s : Str} (hs : SeqAt.shaped (.str s) = true) : m__law_same (n + 1) [.str s, .str s] = .ok (.bool true) := by
  refine mkF_ok (ρ' := [some (.str s), some (.str s), none]) ?_
  unfold b__law_same
  simp only [↓bind_bnd, ok_bnd, exc_bnd, v_ap, k_ap, e1_ap, e2_ap, ret_ap, expr_ap, asg_ap, nil_ap, seq_ap, if_ap, ifB_ap, tr_b, noD_ap, and_ap, or_ap, not_ap, chB_ap, tup_ap, lst_ap, eL_n, eL_c, call_ap, callX_ap, nox_ok, for_ap, iSeq_ap, seq_t, seq_l, iR1_ap, iR2_ap, name_ap, ok_bind, exc_bind, List.getElem?_cons_zero, List.getElem?_cons_succ, List.set_cons_zero, List.set_cons_succ, List.map_cons, List.map_nil, List.cons_append, List.nil_append, List.replicate_succ, List.replicate_zero, cnd_s, cnd_n, isiB_s, isiT_s, isiS_s, Bool.false_eq_true, if_false, if_true, eq_ss hs]
theorem idx_t {xs : List PV} {i : Nat} (h : i < xs.length) : idxP (.tup xs) (.int i) = .ok xs[i] := by
  show Res.opt (L2.atI xs i) = _
  have : L2.atI xs i = some xs[i] := by
    unfold L2.atI L2.ixN
    have h1 : ¬ ((i : Int) < 0) := by omega
    simp [h1, h]
  rw [this]; rfl
theorem len_t (xs : List PV) : lenS (.tup xs) = .ok (.int xs.length) := Eq.trans rfl rfl
theorem same_t {n : Nat} {xs : List PV} (hl : xs.length ≤ 16777216) (h : ∀ x ∈ xs, m__law_same n [x, x] = .ok (.bool true)) : m__law_same (n + 1) [.tup xs, .tup xs] = .ok (.bool true) := by
  refine mkF_ok (ρ' := [some (.tup xs), some (.tup xs), none]) ?_
  unfold b__law_same
  simp only [↓bind_bnd, ok_bnd, exc_bnd, v_ap, k_ap, e1_ap, e2_ap, ret_ap, expr_ap, asg_ap, nil_ap, seq_ap, if_ap, ifB_ap, tr_b, noD_ap, and_ap, or_ap, not_ap, chB_ap, tup_ap, lst_ap, eL_n, eL_c, call_ap, callX_ap, nox_ok, for_ap, iSeq_ap, seq_t, seq_l, iR1_ap, iR2_ap, name_ap, ok_bind, exc_bind, List.getElem?_cons_zero, List.getElem?_cons_succ, List.set_cons_zero, List.set_cons_succ, List.map_cons, List.map_nil, List.cons_append, List.nil_append, List.replicate_succ, List.replicate_zero, cnd_s, cnd_n, isiB_t, isiT_t, Bool.false_eq_true, if_false, if_true, len_t, eq_i, decide_true]
  rw [comp0A (v := 2) (xs := List.range xs.length) (enc := fun (i : Nat) => .int i) (ρ' := [some (.tup xs), some (.tup xs), none]) (fun _ => .bool true) ?_ (by decide : 2 < 3) ?_]
  · simp only [↓bind_bnd, ok_bnd, exc_bnd, v_ap, k_ap, e1_ap, e2_ap, ret_ap, expr_ap, asg_ap, nil_ap, seq_ap, if_ap, ifB_ap, tr_b, noD_ap, and_ap, or_ap, not_ap, chB_ap, tup_ap, lst_ap, eL_n, eL_c, call_ap, callX_ap, nox_ok, for_ap, iSeq_ap, seq_t, seq_l, iR1_ap, iR2_ap, name_ap, ok_bind, exc_bind, List.getElem?_cons_zero, List.getElem?_cons_succ, List.set_cons_zero, List.set_cons_succ, List.map_cons, List.map_nil, List.cons_append, List.nil_append, List.replicate_succ, List.replicate_zero, cnd_s, cnd_n, all_map]
    simp
  · simp only [↓bind_bnd, ok_bnd, exc_bnd, v_ap, k_ap, e1_ap, e2_ap, ret_ap, expr_ap, asg_ap, nil_ap, seq_ap, if_ap, ifB_ap, tr_b, noD_ap, and_ap, or_ap, not_ap, chB_ap, tup_ap, lst_ap, eL_n, eL_c, call_ap, callX_ap, nox_ok, for_ap, iSeq_ap, seq_t, seq_l, iR1_ap, iR2_ap, name_ap, ok_bind, exc_bind, List.getElem?_cons_zero, List.getElem?_cons_succ, List.set_cons_zero, List.set_cons_succ, List.map_cons, List.map_nil, List.cons_append, List.nil_append, List.replicate_succ, List.replicate_zero, cnd_s, cnd_n, len_t, rng1_eq hl]
  · intro i hi
    have hi := List.mem_range.1 hi
    simp only [↓bind_bnd, ok_bnd, exc_bnd, v_ap, k_ap, e1_ap, e2_ap, ret_ap, expr_ap, asg_ap, nil_ap, seq_ap, if_ap, ifB_ap, tr_b, noD_ap, and_ap, or_ap, not_ap, chB_ap, tup_ap, lst_ap, eL_n, eL_c, call_ap, callX_ap, nox_ok, for_ap, iSeq_ap, seq_t, seq_l, iR1_ap, iR2_ap, name_ap, ok_bind, exc_bind, List.getElem?_cons_zero, List.getElem?_cons_succ, List.set_cons_zero, List.set_cons_succ, List.map_cons, List.map_nil, List.cons_append, List.nil_append, List.replicate_succ, List.replicate_zero, cnd_s, cnd_n, idx_t hi, h xs[i] (List.getElem_mem hi)]
theorem same_T (n : Nat) {f : List Int} (hl : f.length ≤ 16777216) : m__law_same (n + 2) [T f, T f] = .ok (.bool true) := same_t (by simpa using hl) fun x hx => by
  obtain ⟨i, _, rfl⟩ := List.mem_map.1 hx
  exact same_i n i
theorem same_TT (n : Nat) {fs : List (List Int)} (hl : fs.length ≤ 16777216) (hf : ∀ f ∈ fs, f.length ≤ 16777216) : m__law_same (n + 3) [TT fs, TT fs] = .ok (.bool true) := same_t (by simpa using hl) fun x hx => by
  obtain ⟨f, hm, rfl⟩ := List.mem_map.1 hx
  exact same_T n (hf f hm)
theorem same_told (n : Nat) {s : Str} (hs : SeqAt.shaped (.str s) = true) {fs : List (List Int)} (hl : fs.length ≤ 16777216) (hf : ∀ f ∈ fs, f.length ≤ 16777216) : m__law_same (n + 4) [.tup [.str s, TT fs], .tup [.str s, TT fs]] = .ok (.bool true) := same_t (by simp) fun x hx => by
  rcases List.mem_cons.1 hx with e | hx
  · subst e; exact same_s _ hs
  · rcases List.mem_cons.1 hx with e | hx
    · subst e; exact same_TT n hl hf
    · cases hx
theorem says_b (b : Bool) : m__law_says [.bool b, .bool b] = .ok (.bool true) := by
  cases b <;> rfl
/-! tried -/
theorem tried_ok {fs : List (List Int)} (hne : ∀ f ∈ fs, f ≠ []) (hl : fs.length < 64) (h : (goI [] (facetsI leI dd fs)).isSome = true) : m__law_tried [TT fs] = .ok (.tup [.str "told", TT (facetsI leI dd fs)]) := by
  have hc := cells_from_eq hne hl
  rw [if_pos h] at hc
  refine mkF_ok (ρ' := [some (TT fs), none]) ?_
  unfold b__law_tried sTryAs
  simp only [↓bind_bnd, ok_bnd, exc_bnd, v_ap, k_ap, e1_ap, e2_ap, ret_ap, expr_ap, asg_ap, nil_ap, seq_ap, if_ap, ifB_ap, tr_b, noD_ap, and_ap, or_ap, not_ap, chB_ap, tup_ap, lst_ap, eL_n, eL_c, call_ap, callX_ap, nox_ok, for_ap, iSeq_ap, seq_t, seq_l, iR1_ap, iR2_ap, name_ap, ok_bind, exc_bind, List.getElem?_cons_zero, List.getElem?_cons_succ, List.set_cons_zero, List.set_cons_succ, List.map_cons, List.map_nil, List.cons_append, List.nil_append, List.replicate_succ, List.replicate_zero, cnd_s, cnd_n, hc, honest_TT]
theorem tried_exc {fs : List (List Int)} (hne : ∀ f ∈ fs, f ≠ []) (hl : fs.length < 64) (h : (goI [] (facetsI leI dd fs)).isSome = false) : m__law_tried [TT fs] = .ok (.tup [.str "refused", .str "large"]) := by
  have hc := cells_from_eq hne hl
  rw [h] at hc
  simp only [Bool.false_eq_true, if_false] at hc
  refine mkF_ok (ρ' := [none, none]) ?_
  unfold b__law_tried sTryAs
  simp only [↓bind_bnd, ok_bnd, exc_bnd, v_ap, k_ap, e1_ap, e2_ap, ret_ap, expr_ap, asg_ap, nil_ap, seq_ap, if_ap, ifB_ap, tr_b, noD_ap, and_ap, or_ap, not_ap, chB_ap, tup_ap, lst_ap, eL_n, eL_c, call_ap, callX_ap, nox_ok, for_ap, iSeq_ap, seq_t, seq_l, iR1_ap, iR2_ap, name_ap, ok_bind, exc_bind, List.getElem?_cons_zero, List.getElem?_cons_succ, List.set_cons_zero, List.set_cons_succ, List.map_cons, List.map_nil, List.cons_append, List.nil_append, List.replicate_succ, List.replicate_zero, cnd_s, cnd_n, hc, if_true]
/-! _law_cells_of -/
theorem lcells_loop {p : PV} {fs : List (List Int)} (hp : p.seq? = some (fs.map T)) (hl : fs.length < lim) : ∀ (gs l : List (List Int)) (o : Option PV), l.length + gs.length ≤ fs.length →
    ∃ o', forL (gName 2) (sIf (e2 eqP (e1 lenS (eComp (gName 3) (some (eAndB (e2 gtP (e1 lenS (eVar 3)) (e1 lenS (eVar 2))) (noD (e1 allP (eComp (gName 4) none (e2 inP (eVar 4) (eVar 3)) [4] (iSeq (eVar 2))))))) (eVar 3) [3] (iSeq (eVar 0)))) (eK (.int 0))) (sExpr (eApp 1 (eVar 2))) sNil)
      (gs.map T) [some p, some (LL l), o, none, none] = .ok (.next, [some p, some (LL (l ++ gs.filter (mx fs))), o', none, none])
  | [], l, o, _ => ⟨o, by simp [forL]⟩
  | g :: gs, l, o, h => by
    simp only [List.length_cons] at h
    have hc : eComp (gName 3) (some (eAndB (e2 gtP (e1 lenS (eVar 3)) (e1 lenS (eVar 2))) (noD (e1 allP (eComp (gName 4) none (e2 inP (eVar 4) (eVar 3)) [4] (iSeq (eVar 2))))))) (eVar 3) [3] (iSeq (eVar 0)) [some p, some (LL l), some (T g), none, none] =
        .ok (LL (fs.filter fun t => decide (g.length < t.length) && sub g t), [some p, some (LL l), some (T g), none, none]) := by
      rw [compA (v := 3) (xs := fs) (enc := T) (ρ' := [some p, some (LL l), some (T g), none, none]) (fun t => decide (g.length < t.length) && sub g t) T ?_ (by decide : 3 < 5) ?_ ?_]
      · simp only [↓bind_bnd, ok_bnd, exc_bnd, v_ap, k_ap, e1_ap, e2_ap, ret_ap, expr_ap, asg_ap, nil_ap, seq_ap, if_ap, ifB_ap, tr_b, noD_ap, and_ap, or_ap, not_ap, chB_ap, tup_ap, lst_ap, eL_n, eL_c, call_ap, callX_ap, nox_ok, for_ap, iSeq_ap, seq_t, seq_l, iR1_ap, iR2_ap, name_ap, ok_bind, exc_bind, List.getElem?_cons_zero, List.getElem?_cons_succ, List.set_cons_zero, List.set_cons_succ, List.map_cons, List.map_nil, List.cons_append, List.nil_append, List.replicate_succ, List.replicate_zero, cnd_s, cnd_n, hp]
      · intro t _
        simp only [↓bind_bnd, ok_bnd, exc_bnd, v_ap, k_ap, e1_ap, e2_ap, ret_ap, expr_ap, asg_ap, nil_ap, seq_ap, if_ap, ifB_ap, tr_b, noD_ap, and_ap, or_ap, not_ap, chB_ap, tup_ap, lst_ap, eL_n, eL_c, call_ap, callX_ap, nox_ok, for_ap, iSeq_ap, seq_t, seq_l, iR1_ap, iR2_ap, name_ap, ok_bind, exc_bind, List.getElem?_cons_zero, List.getElem?_cons_succ, List.set_cons_zero, List.set_cons_succ, List.map_cons, List.map_nil, List.cons_append, List.nil_append, List.replicate_succ, List.replicate_zero, cnd_s, cnd_n, len_T, gt_i, natlt]
        cases decide (g.length < t.length) with
        | false => simp only [↓bind_bnd, ok_bnd, exc_bnd, v_ap, k_ap, e1_ap, e2_ap, ret_ap, expr_ap, asg_ap, nil_ap, seq_ap, if_ap, ifB_ap, tr_b, noD_ap, and_ap, or_ap, not_ap, chB_ap, tup_ap, lst_ap, eL_n, eL_c, call_ap, callX_ap, nox_ok, for_ap, iSeq_ap, seq_t, seq_l, iR1_ap, iR2_ap, name_ap, ok_bind, exc_bind, List.getElem?_cons_zero, List.getElem?_cons_succ, List.set_cons_zero, List.set_cons_succ, List.map_cons, List.map_nil, List.cons_append, List.nil_append, List.replicate_succ, List.replicate_zero, cnd_s, cnd_n, Bool.false_and]
        | true =>
          simp only []
          rw [comp0A (v := 4) (xs := g) (enc := .int) (ρ' := [some p, some (LL l), some (T g), some (T t), none]) (fun x => .bool (t.contains x)) rfl (by decide : 4 < 5) ?_]
          · simp only [↓bind_bnd, ok_bnd, exc_bnd, v_ap, k_ap, e1_ap, e2_ap, ret_ap, expr_ap, asg_ap, nil_ap, seq_ap, if_ap, ifB_ap, tr_b, noD_ap, and_ap, or_ap, not_ap, chB_ap, tup_ap, lst_ap, eL_n, eL_c, call_ap, callX_ap, nox_ok, for_ap, iSeq_ap, seq_t, seq_l, iR1_ap, iR2_ap, name_ap, ok_bind, exc_bind, List.getElem?_cons_zero, List.getElem?_cons_succ, List.set_cons_zero, List.set_cons_succ, List.map_cons, List.map_nil, List.cons_append, List.nil_append, List.replicate_succ, List.replicate_zero, cnd_s, cnd_n, all_map, Bool.true_and]
            rfl
          · intro x _
            simp only [↓bind_bnd, ok_bnd, exc_bnd, v_ap, k_ap, e1_ap, e2_ap, ret_ap, expr_ap, asg_ap, nil_ap, seq_ap, if_ap, ifB_ap, tr_b, noD_ap, and_ap, or_ap, not_ap, chB_ap, tup_ap, lst_ap, eL_n, eL_c, call_ap, callX_ap, nox_ok, for_ap, iSeq_ap, seq_t, seq_l, iR1_ap, iR2_ap, name_ap, ok_bind, exc_bind, List.getElem?_cons_zero, List.getElem?_cons_succ, List.set_cons_zero, List.set_cons_succ, List.map_cons, List.map_nil, List.cons_append, List.nil_append, List.replicate_succ, List.replicate_zero, cnd_s, cnd_n, in_int]
      · intro t _ _
        simp only [↓bind_bnd, ok_bnd, exc_bnd, v_ap, k_ap, e1_ap, e2_ap, ret_ap, expr_ap, asg_ap, nil_ap, seq_ap, if_ap, ifB_ap, tr_b, noD_ap, and_ap, or_ap, not_ap, chB_ap, tup_ap, lst_ap, eL_n, eL_c, call_ap, callX_ap, nox_ok, for_ap, iSeq_ap, seq_t, seq_l, iR1_ap, iR2_ap, name_ap, ok_bind, exc_bind, List.getElem?_cons_zero, List.getElem?_cons_succ, List.set_cons_zero, List.set_cons_succ, List.map_cons, List.map_nil, List.cons_append, List.nil_append, List.replicate_succ, List.replicate_zero, cnd_s, cnd_n]
    have hm : decide (((fs.filter fun t => decide (g.length < t.length) && sub g t).length : Int) = 0) = mx fs g := by
      rw [nat_eq0, Bool.eq_iff_iff, decide_eq_true_eq, List.length_eq_zero_iff, List.filter_eq_nil_iff]
      unfold mx
      simp
    cases e : mx fs g with
    | true =>
      obtain ⟨o', ih⟩ := lcells_loop hp hl gs (l ++ [g]) (some (T g)) (by simp; omega)
      refine ⟨o', ?_⟩
      rw [List.map_cons]
      unfold forL
      simp only [↓bind_bnd, ok_bnd, exc_bnd, v_ap, k_ap, e1_ap, e2_ap, ret_ap, expr_ap, asg_ap, nil_ap, seq_ap, if_ap, ifB_ap, tr_b, noD_ap, and_ap, or_ap, not_ap, chB_ap, tup_ap, lst_ap, eL_n, eL_c, call_ap, callX_ap, nox_ok, for_ap, iSeq_ap, seq_t, seq_l, iR1_ap, iR2_ap, name_ap, ok_bind, exc_bind, List.getElem?_cons_zero, List.getElem?_cons_succ, List.set_cons_zero, List.set_cons_succ, List.map_cons, List.map_nil, List.cons_append, List.nil_append, List.replicate_succ, List.replicate_zero, cnd_s, cnd_n, hc, len_LL, eq_i, hm, e, if_true, app_ap, List.length_map, show l.length < lim by omega]
      rw [show l.map T ++ [T g] = (l ++ [g]).map T from by simp, ih]
      simp [e]
    | false =>
      obtain ⟨o', ih⟩ := lcells_loop hp hl gs l (some (T g)) (by omega)
      refine ⟨o', ?_⟩
      rw [List.map_cons]
      unfold forL
      simp only [↓bind_bnd, ok_bnd, exc_bnd, v_ap, k_ap, e1_ap, e2_ap, ret_ap, expr_ap, asg_ap, nil_ap, seq_ap, if_ap, ifB_ap, tr_b, noD_ap, and_ap, or_ap, not_ap, chB_ap, tup_ap, lst_ap, eL_n, eL_c, call_ap, callX_ap, nox_ok, for_ap, iSeq_ap, seq_t, seq_l, iR1_ap, iR2_ap, name_ap, ok_bind, exc_bind, List.getElem?_cons_zero, List.getElem?_cons_succ, List.set_cons_zero, List.set_cons_succ, List.map_cons, List.map_nil, List.cons_append, List.nil_append, List.replicate_succ, List.replicate_zero, cnd_s, cnd_n, hc, len_LL, eq_i, hm, e, if_false, Bool.false_eq_true]
      rw [ih]
      simp [e]
theorem lcells_eq {p : PV} {fs : List (List Int)} (hp : p.seq? = some (fs.map T)) (hne : ∀ f ∈ fs, f ≠ []) (hl : fs.length < lim) : m__law_cells_of [p] = .ok (TT (cellsI leI fs)) := by
  obtain ⟨o', e⟩ := lcells_loop hp hl fs [] none (by simp)
  have e0 : LL [] = .lst [] := rfl
  rw [e0] at e
  simp only [List.nil_append] at e
  refine mkF_ok (ρ' := [some p, some (LL (fs.filter (mx fs))), o', none, none]) ?_
  unfold b__law_cells_of
  simp only [↓bind_bnd, ok_bnd, exc_bnd, v_ap, k_ap, e1_ap, e2_ap, ret_ap, expr_ap, asg_ap, nil_ap, seq_ap, if_ap, ifB_ap, tr_b, noD_ap, and_ap, or_ap, not_ap, chB_ap, tup_ap, lst_ap, eL_n, eL_c, call_ap, callX_ap, nox_ok, for_ap, iSeq_ap, seq_t, seq_l, iR1_ap, iR2_ap, name_ap, ok_bind, exc_bind, List.getElem?_cons_zero, List.getElem?_cons_succ, List.set_cons_zero, List.set_cons_succ, List.map_cons, List.map_nil, List.cons_append, List.nil_append, List.replicate_succ, List.replicate_zero, cnd_s, cnd_n, hp, e, sorted_LL (l := fs.filter (mx fs)) fun f hf => hne f (List.mem_filter.1 hf).1, tup_l]
  rfl
end Pl

namespace Pl
open PySem Mi Pu K88
section
variable {k : List (List Int)} {f : List Int}
theorem pos_nat (n : Nat) : decide ((0 : Int) < (n : Int)) = decide (0 < n) := by rw [decide_eq_decide]; omega
theorem linkS_len : (linkS k f).length ≤ k.length := by
  unfold linkS
  refine Nat.le_trans (List.length_filter_le _ _) ?_
  rw [List.length_map]
  exact List.length_filter_le _ _
theorem withS_len {p : Int} : (withS k p).length ≤ k.length := by
  unfold withS
  refine Nat.le_trans (List.length_filter_le _ _) ?_
  rw [List.length_map]
  exact Nat.le_refl _
theorem link_eq (hk : Good k) (hl : k.length < 64) : m_link_of_face [TT k, T f] = .ok (TT (facetsI leI dd (linkS k f))) := by
  refine mkF_ok (ρ' := [some (TT k), some (T f), some (LL ((k.filter fun o => sub f o).map fun o => o.filter fun x => !f.contains x)), none, none]) ?_
  unfold b_link_of_face
  simp only [↓bind_bnd, ok_bnd, exc_bnd, v_ap, k_ap, e1_ap, e2_ap, ret_ap, expr_ap, asg_ap, nil_ap, seq_ap, if_ap, ifB_ap, tr_b, noD_ap, and_ap, or_ap, not_ap, chB_ap, tup_ap, lst_ap, eL_n, eL_c, call_ap, callX_ap, nox_ok, for_ap, iSeq_ap, seq_t, seq_l, iR1_ap, iR2_ap, name_ap, ok_bind, exc_bind, List.getElem?_cons_zero, List.getElem?_cons_succ, List.set_cons_zero, List.set_cons_succ, List.map_cons, List.map_nil, List.cons_append, List.nil_append, List.replicate_succ, List.replicate_zero, cnd_s, cnd_n]
  rw [compA (v := 3) (xs := k) (enc := T) (ρ' := [some (TT k), some (T f), none, none, none]) (fun o => sub f o) (fun o => T (o.filter fun x => !f.contains x)) rfl (by decide : 3 < 5) ?_ ?_]
  · simp only [↓bind_bnd, ok_bnd, exc_bnd, v_ap, k_ap, e1_ap, e2_ap, ret_ap, expr_ap, asg_ap, nil_ap, seq_ap, if_ap, ifB_ap, tr_b, noD_ap, and_ap, or_ap, not_ap, chB_ap, tup_ap, lst_ap, eL_n, eL_c, call_ap, callX_ap, nox_ok, for_ap, iSeq_ap, seq_t, seq_l, iR1_ap, iR2_ap, name_ap, ok_bind, exc_bind, List.getElem?_cons_zero, List.getElem?_cons_succ, List.set_cons_zero, List.set_cons_succ, List.map_cons, List.map_nil, List.cons_append, List.nil_append, List.replicate_succ, List.replicate_zero, cnd_s, cnd_n]
    rw [compA (v := 3) (xs := (k.filter fun o => sub f o).map fun o => o.filter fun x => !f.contains x) (enc := T) (ρ' := [some (TT k), some (T f), some (LL ((k.filter fun o => sub f o).map fun o => o.filter fun x => !f.contains x)), none, none]) (fun o => decide (0 < o.length)) T ?_ (by decide : 3 < 5) ?_ ?_]
    · have hf := facets_eq (p := LL (linkS k f)) rfl (fun o ho => (good_linkS hk f o ho).1) (Nat.lt_of_le_of_lt linkS_len hl)
      unfold linkS at hf ⊢
      simp only [↓bind_bnd, ok_bnd, exc_bnd, v_ap, k_ap, e1_ap, e2_ap, ret_ap, expr_ap, asg_ap, nil_ap, seq_ap, if_ap, ifB_ap, tr_b, noD_ap, and_ap, or_ap, not_ap, chB_ap, tup_ap, lst_ap, eL_n, eL_c, call_ap, callX_ap, nox_ok, for_ap, iSeq_ap, seq_t, seq_l, iR1_ap, iR2_ap, name_ap, ok_bind, exc_bind, List.getElem?_cons_zero, List.getElem?_cons_succ, List.set_cons_zero, List.set_cons_succ, List.map_cons, List.map_nil, List.cons_append, List.nil_append, List.replicate_succ, List.replicate_zero, cnd_s, cnd_n, hf]
    · simp only [↓bind_bnd, ok_bnd, exc_bnd, v_ap, k_ap, e1_ap, e2_ap, ret_ap, expr_ap, asg_ap, nil_ap, seq_ap, if_ap, ifB_ap, tr_b, noD_ap, and_ap, or_ap, not_ap, chB_ap, tup_ap, lst_ap, eL_n, eL_c, call_ap, callX_ap, nox_ok, for_ap, iSeq_ap, seq_t, seq_l, iR1_ap, iR2_ap, name_ap, ok_bind, exc_bind, List.getElem?_cons_zero, List.getElem?_cons_succ, List.set_cons_zero, List.set_cons_succ, List.map_cons, List.map_nil, List.cons_append, List.nil_append, List.replicate_succ, List.replicate_zero, cnd_s, cnd_n]
      simp only [LL, List.map_map]
      rfl
    · intro o _
      simp only [↓bind_bnd, ok_bnd, exc_bnd, v_ap, k_ap, e1_ap, e2_ap, ret_ap, expr_ap, asg_ap, nil_ap, seq_ap, if_ap, ifB_ap, tr_b, noD_ap, and_ap, or_ap, not_ap, chB_ap, tup_ap, lst_ap, eL_n, eL_c, call_ap, callX_ap, nox_ok, for_ap, iSeq_ap, seq_t, seq_l, iR1_ap, iR2_ap, name_ap, ok_bind, exc_bind, List.getElem?_cons_zero, List.getElem?_cons_succ, List.set_cons_zero, List.set_cons_succ, List.map_cons, List.map_nil, List.cons_append, List.nil_append, List.replicate_succ, List.replicate_zero, cnd_s, cnd_n, len_T, gt_i, pos_nat]
    · intro o _ _
      simp only [↓bind_bnd, ok_bnd, exc_bnd, v_ap, k_ap, e1_ap, e2_ap, ret_ap, expr_ap, asg_ap, nil_ap, seq_ap, if_ap, ifB_ap, tr_b, noD_ap, and_ap, or_ap, not_ap, chB_ap, tup_ap, lst_ap, eL_n, eL_c, call_ap, callX_ap, nox_ok, for_ap, iSeq_ap, seq_t, seq_l, iR1_ap, iR2_ap, name_ap, ok_bind, exc_bind, List.getElem?_cons_zero, List.getElem?_cons_succ, List.set_cons_zero, List.set_cons_succ, List.map_cons, List.map_nil, List.cons_append, List.nil_append, List.replicate_succ, List.replicate_zero, cnd_s, cnd_n]
  · intro o _
    simp only [↓bind_bnd, ok_bnd, exc_bnd, v_ap, k_ap, e1_ap, e2_ap, ret_ap, expr_ap, asg_ap, nil_ap, seq_ap, if_ap, ifB_ap, tr_b, noD_ap, and_ap, or_ap, not_ap, chB_ap, tup_ap, lst_ap, eL_n, eL_c, call_ap, callX_ap, nox_ok, for_ap, iSeq_ap, seq_t, seq_l, iR1_ap, iR2_ap, name_ap, ok_bind, exc_bind, List.getElem?_cons_zero, List.getElem?_cons_succ, List.set_cons_zero, List.set_cons_succ, List.map_cons, List.map_nil, List.cons_append, List.nil_append, List.replicate_succ, List.replicate_zero, cnd_s, cnd_n, within_eq]
  · intro o _ _
    simp only [↓bind_bnd, ok_bnd, exc_bnd, v_ap, k_ap, e1_ap, e2_ap, ret_ap, expr_ap, asg_ap, nil_ap, seq_ap, if_ap, ifB_ap, tr_b, noD_ap, and_ap, or_ap, not_ap, chB_ap, tup_ap, lst_ap, eL_n, eL_c, call_ap, callX_ap, nox_ok, for_ap, iSeq_ap, seq_t, seq_l, iR1_ap, iR2_ap, name_ap, ok_bind, exc_bind, List.getElem?_cons_zero, List.getElem?_cons_succ, List.set_cons_zero, List.set_cons_succ, List.map_cons, List.map_nil, List.cons_append, List.nil_append, List.replicate_succ, List.replicate_zero, cnd_s, cnd_n]
    rw [compA (v := 4) (xs := o) (enc := .int) (ρ' := [some (TT k), some (T f), none, some (T o), none]) (fun x => !f.contains x) .int rfl (by decide : 4 < 5) ?_ ?_]
    · simp only [↓bind_bnd, ok_bnd, exc_bnd, v_ap, k_ap, e1_ap, e2_ap, ret_ap, expr_ap, asg_ap, nil_ap, seq_ap, if_ap, ifB_ap, tr_b, noD_ap, and_ap, or_ap, not_ap, chB_ap, tup_ap, lst_ap, eL_n, eL_c, call_ap, callX_ap, nox_ok, for_ap, iSeq_ap, seq_t, seq_l, iR1_ap, iR2_ap, name_ap, ok_bind, exc_bind, List.getElem?_cons_zero, List.getElem?_cons_succ, List.set_cons_zero, List.set_cons_succ, List.map_cons, List.map_nil, List.cons_append, List.nil_append, List.replicate_succ, List.replicate_zero, cnd_s, cnd_n, tup_l]
    · intro x _
      simp only [↓bind_bnd, ok_bnd, exc_bnd, v_ap, k_ap, e1_ap, e2_ap, ret_ap, expr_ap, asg_ap, nil_ap, seq_ap, if_ap, ifB_ap, tr_b, noD_ap, and_ap, or_ap, not_ap, chB_ap, tup_ap, lst_ap, eL_n, eL_c, call_ap, callX_ap, nox_ok, for_ap, iSeq_ap, seq_t, seq_l, iR1_ap, iR2_ap, name_ap, ok_bind, exc_bind, List.getElem?_cons_zero, List.getElem?_cons_succ, List.set_cons_zero, List.set_cons_succ, List.map_cons, List.map_nil, List.cons_append, List.nil_append, List.replicate_succ, List.replicate_zero, cnd_s, cnd_n, notin_int]
    · intro x _ _
      simp only [↓bind_bnd, ok_bnd, exc_bnd, v_ap, k_ap, e1_ap, e2_ap, ret_ap, expr_ap, asg_ap, nil_ap, seq_ap, if_ap, ifB_ap, tr_b, noD_ap, and_ap, or_ap, not_ap, chB_ap, tup_ap, lst_ap, eL_n, eL_c, call_ap, callX_ap, nox_ok, for_ap, iSeq_ap, seq_t, seq_l, iR1_ap, iR2_ap, name_ap, ok_bind, exc_bind, List.getElem?_cons_zero, List.getElem?_cons_succ, List.set_cons_zero, List.set_cons_succ, List.map_cons, List.map_nil, List.cons_append, List.nil_append, List.replicate_succ, List.replicate_zero, cnd_s, cnd_n]
theorem without_eq {p : Int} (hk : Good k) (hl : k.length < 64) : m_without_point [TT k, .int p] = .ok (TT (facetsI leI dd (withS k p))) := by
  refine mkF_ok (ρ' := [some (TT k), some (.int p), some (LL (k.map fun o => o.filter fun x => x != p)), none, none]) ?_
  unfold b_without_point
  simp only [↓bind_bnd, ok_bnd, exc_bnd, v_ap, k_ap, e1_ap, e2_ap, ret_ap, expr_ap, asg_ap, nil_ap, seq_ap, if_ap, ifB_ap, tr_b, noD_ap, and_ap, or_ap, not_ap, chB_ap, tup_ap, lst_ap, eL_n, eL_c, call_ap, callX_ap, nox_ok, for_ap, iSeq_ap, seq_t, seq_l, iR1_ap, iR2_ap, name_ap, ok_bind, exc_bind, List.getElem?_cons_zero, List.getElem?_cons_succ, List.set_cons_zero, List.set_cons_succ, List.map_cons, List.map_nil, List.cons_append, List.nil_append, List.replicate_succ, List.replicate_zero, cnd_s, cnd_n]
  rw [comp0A (v := 3) (xs := k) (enc := T) (ρ' := [some (TT k), some (.int p), none, none, none]) (fun o => T (o.filter fun x => x != p)) rfl (by decide : 3 < 5) ?_]
  · simp only [↓bind_bnd, ok_bnd, exc_bnd, v_ap, k_ap, e1_ap, e2_ap, ret_ap, expr_ap, asg_ap, nil_ap, seq_ap, if_ap, ifB_ap, tr_b, noD_ap, and_ap, or_ap, not_ap, chB_ap, tup_ap, lst_ap, eL_n, eL_c, call_ap, callX_ap, nox_ok, for_ap, iSeq_ap, seq_t, seq_l, iR1_ap, iR2_ap, name_ap, ok_bind, exc_bind, List.getElem?_cons_zero, List.getElem?_cons_succ, List.set_cons_zero, List.set_cons_succ, List.map_cons, List.map_nil, List.cons_append, List.nil_append, List.replicate_succ, List.replicate_zero, cnd_s, cnd_n]
    rw [compA (v := 3) (xs := k.map fun o => o.filter fun x => x != p) (enc := T) (ρ' := [some (TT k), some (.int p), some (LL (k.map fun o => o.filter fun x => x != p)), none, none]) (fun o => decide (0 < o.length)) T ?_ (by decide : 3 < 5) ?_ ?_]
    · have hf := facets_eq (p := LL (withS k p)) rfl (fun o ho => (good_withS hk p o ho).1) (Nat.lt_of_le_of_lt withS_len hl)
      unfold withS at hf ⊢
      simp only [↓bind_bnd, ok_bnd, exc_bnd, v_ap, k_ap, e1_ap, e2_ap, ret_ap, expr_ap, asg_ap, nil_ap, seq_ap, if_ap, ifB_ap, tr_b, noD_ap, and_ap, or_ap, not_ap, chB_ap, tup_ap, lst_ap, eL_n, eL_c, call_ap, callX_ap, nox_ok, for_ap, iSeq_ap, seq_t, seq_l, iR1_ap, iR2_ap, name_ap, ok_bind, exc_bind, List.getElem?_cons_zero, List.getElem?_cons_succ, List.set_cons_zero, List.set_cons_succ, List.map_cons, List.map_nil, List.cons_append, List.nil_append, List.replicate_succ, List.replicate_zero, cnd_s, cnd_n, hf]
    · simp only [↓bind_bnd, ok_bnd, exc_bnd, v_ap, k_ap, e1_ap, e2_ap, ret_ap, expr_ap, asg_ap, nil_ap, seq_ap, if_ap, ifB_ap, tr_b, noD_ap, and_ap, or_ap, not_ap, chB_ap, tup_ap, lst_ap, eL_n, eL_c, call_ap, callX_ap, nox_ok, for_ap, iSeq_ap, seq_t, seq_l, iR1_ap, iR2_ap, name_ap, ok_bind, exc_bind, List.getElem?_cons_zero, List.getElem?_cons_succ, List.set_cons_zero, List.set_cons_succ, List.map_cons, List.map_nil, List.cons_append, List.nil_append, List.replicate_succ, List.replicate_zero, cnd_s, cnd_n]
      simp only [LL, List.map_map]
      rfl
    · intro o _
      simp only [↓bind_bnd, ok_bnd, exc_bnd, v_ap, k_ap, e1_ap, e2_ap, ret_ap, expr_ap, asg_ap, nil_ap, seq_ap, if_ap, ifB_ap, tr_b, noD_ap, and_ap, or_ap, not_ap, chB_ap, tup_ap, lst_ap, eL_n, eL_c, call_ap, callX_ap, nox_ok, for_ap, iSeq_ap, seq_t, seq_l, iR1_ap, iR2_ap, name_ap, ok_bind, exc_bind, List.getElem?_cons_zero, List.getElem?_cons_succ, List.set_cons_zero, List.set_cons_succ, List.map_cons, List.map_nil, List.cons_append, List.nil_append, List.replicate_succ, List.replicate_zero, cnd_s, cnd_n, len_T, gt_i, pos_nat]
    · intro o _ _
      simp only [↓bind_bnd, ok_bnd, exc_bnd, v_ap, k_ap, e1_ap, e2_ap, ret_ap, expr_ap, asg_ap, nil_ap, seq_ap, if_ap, ifB_ap, tr_b, noD_ap, and_ap, or_ap, not_ap, chB_ap, tup_ap, lst_ap, eL_n, eL_c, call_ap, callX_ap, nox_ok, for_ap, iSeq_ap, seq_t, seq_l, iR1_ap, iR2_ap, name_ap, ok_bind, exc_bind, List.getElem?_cons_zero, List.getElem?_cons_succ, List.set_cons_zero, List.set_cons_succ, List.map_cons, List.map_nil, List.cons_append, List.nil_append, List.replicate_succ, List.replicate_zero, cnd_s, cnd_n]
  · intro o _
    simp only [↓bind_bnd, ok_bnd, exc_bnd, v_ap, k_ap, e1_ap, e2_ap, ret_ap, expr_ap, asg_ap, nil_ap, seq_ap, if_ap, ifB_ap, tr_b, noD_ap, and_ap, or_ap, not_ap, chB_ap, tup_ap, lst_ap, eL_n, eL_c, call_ap, callX_ap, nox_ok, for_ap, iSeq_ap, seq_t, seq_l, iR1_ap, iR2_ap, name_ap, ok_bind, exc_bind, List.getElem?_cons_zero, List.getElem?_cons_succ, List.set_cons_zero, List.set_cons_succ, List.map_cons, List.map_nil, List.cons_append, List.nil_append, List.replicate_succ, List.replicate_zero, cnd_s, cnd_n]
    rw [compA (v := 4) (xs := o) (enc := .int) (ρ' := [some (TT k), some (.int p), none, some (T o), none]) (fun x => x != p) .int rfl (by decide : 4 < 5) ?_ ?_]
    · simp only [↓bind_bnd, ok_bnd, exc_bnd, v_ap, k_ap, e1_ap, e2_ap, ret_ap, expr_ap, asg_ap, nil_ap, seq_ap, if_ap, ifB_ap, tr_b, noD_ap, and_ap, or_ap, not_ap, chB_ap, tup_ap, lst_ap, eL_n, eL_c, call_ap, callX_ap, nox_ok, for_ap, iSeq_ap, seq_t, seq_l, iR1_ap, iR2_ap, name_ap, ok_bind, exc_bind, List.getElem?_cons_zero, List.getElem?_cons_succ, List.set_cons_zero, List.set_cons_succ, List.map_cons, List.map_nil, List.cons_append, List.nil_append, List.replicate_succ, List.replicate_zero, cnd_s, cnd_n, tup_l]
    · intro x _
      simp only [↓bind_bnd, ok_bnd, exc_bnd, v_ap, k_ap, e1_ap, e2_ap, ret_ap, expr_ap, asg_ap, nil_ap, seq_ap, if_ap, ifB_ap, tr_b, noD_ap, and_ap, or_ap, not_ap, chB_ap, tup_ap, lst_ap, eL_n, eL_c, call_ap, callX_ap, nox_ok, for_ap, iSeq_ap, seq_t, seq_l, iR1_ap, iR2_ap, name_ap, ok_bind, exc_bind, List.getElem?_cons_zero, List.getElem?_cons_succ, List.set_cons_zero, List.set_cons_succ, List.map_cons, List.map_nil, List.cons_append, List.nil_append, List.replicate_succ, List.replicate_zero, cnd_s, cnd_n, ne_i]
      by_cases e : x = p
      · subst e; simp
      · simp [e]
    · intro x _ _
      simp only [↓bind_bnd, ok_bnd, exc_bnd, v_ap, k_ap, e1_ap, e2_ap, ret_ap, expr_ap, asg_ap, nil_ap, seq_ap, if_ap, ifB_ap, tr_b, noD_ap, and_ap, or_ap, not_ap, chB_ap, tup_ap, lst_ap, eL_n, eL_c, call_ap, callX_ap, nox_ok, for_ap, iSeq_ap, seq_t, seq_l, iR1_ap, iR2_ap, name_ap, ok_bind, exc_bind, List.getElem?_cons_zero, List.getElem?_cons_succ, List.set_cons_zero, List.set_cons_succ, List.map_cons, List.map_nil, List.cons_append, List.nil_append, List.replicate_succ, List.replicate_zero, cnd_s, cnd_n]
theorem star_eq : m_star_of_face [TT k, T f] = .ok (TT (k.filter fun o => sub f o)) := by
  refine mkF_ok (ρ' := [some (TT k), some (T f), none]) ?_
  unfold b_star_of_face
  simp only [↓bind_bnd, ok_bnd, exc_bnd, v_ap, k_ap, e1_ap, e2_ap, ret_ap, expr_ap, asg_ap, nil_ap, seq_ap, if_ap, ifB_ap, tr_b, noD_ap, and_ap, or_ap, not_ap, chB_ap, tup_ap, lst_ap, eL_n, eL_c, call_ap, callX_ap, nox_ok, for_ap, iSeq_ap, seq_t, seq_l, iR1_ap, iR2_ap, name_ap, ok_bind, exc_bind, List.getElem?_cons_zero, List.getElem?_cons_succ, List.set_cons_zero, List.set_cons_succ, List.map_cons, List.map_nil, List.cons_append, List.nil_append, List.replicate_succ, List.replicate_zero, cnd_s, cnd_n]
  rw [compA (v := 2) (xs := k) (enc := T) (ρ' := [some (TT k), some (T f), none]) (fun o => sub f o) T rfl (by decide : 2 < 3) ?_ ?_]
  · simp only [↓bind_bnd, ok_bnd, exc_bnd, v_ap, k_ap, e1_ap, e2_ap, ret_ap, expr_ap, asg_ap, nil_ap, seq_ap, if_ap, ifB_ap, tr_b, noD_ap, and_ap, or_ap, not_ap, chB_ap, tup_ap, lst_ap, eL_n, eL_c, call_ap, callX_ap, nox_ok, for_ap, iSeq_ap, seq_t, seq_l, iR1_ap, iR2_ap, name_ap, ok_bind, exc_bind, List.getElem?_cons_zero, List.getElem?_cons_succ, List.set_cons_zero, List.set_cons_succ, List.map_cons, List.map_nil, List.cons_append, List.nil_append, List.replicate_succ, List.replicate_zero, cnd_s, cnd_n, tup_l]
  · intro o _
    simp only [↓bind_bnd, ok_bnd, exc_bnd, v_ap, k_ap, e1_ap, e2_ap, ret_ap, expr_ap, asg_ap, nil_ap, seq_ap, if_ap, ifB_ap, tr_b, noD_ap, and_ap, or_ap, not_ap, chB_ap, tup_ap, lst_ap, eL_n, eL_c, call_ap, callX_ap, nox_ok, for_ap, iSeq_ap, seq_t, seq_l, iR1_ap, iR2_ap, name_ap, ok_bind, exc_bind, List.getElem?_cons_zero, List.getElem?_cons_succ, List.set_cons_zero, List.set_cons_succ, List.map_cons, List.map_nil, List.cons_append, List.nil_append, List.replicate_succ, List.replicate_zero, cnd_s, cnd_n, within_eq]
  · intro o _ _
    simp only [↓bind_bnd, ok_bnd, exc_bnd, v_ap, k_ap, e1_ap, e2_ap, ret_ap, expr_ap, asg_ap, nil_ap, seq_ap, if_ap, ifB_ap, tr_b, noD_ap, and_ap, or_ap, not_ap, chB_ap, tup_ap, lst_ap, eL_n, eL_c, call_ap, callX_ap, nox_ok, for_ap, iSeq_ap, seq_t, seq_l, iR1_ap, iR2_ap, name_ap, ok_bind, exc_bind, List.getElem?_cons_zero, List.getElem?_cons_succ, List.set_cons_zero, List.set_cons_succ, List.map_cons, List.map_nil, List.cons_append, List.nil_append, List.replicate_succ, List.replicate_zero, cnd_s, cnd_n]
end
/-! rows -/
theorem ixN_i {n i : Nat} (h : i < n) : L2.ixN n (i : Int) = some i := by
  unfold L2.ixN
  have h1 : ¬ ((i : Int) < 0) := by omega
  simp [h1, h]
theorem bump_step {K : Option PV} {r g : List Int} (h0 : g ≠ []) (h : g.length ≤ r.length) :
    sAugL addI 1 (e2 subP (e1 lenS (eVar 2)) (eK (.int 1))) (eK (.int 1)) [K, some (.lst (r.map .int)), some (T g)] = .ok (.next, [K, some (.lst ((bmp r (g.length - 1)).map .int)), some (T g)]) := by
  have hp := List.length_pos_iff.2 h0
  have hi : ((g.length : Int) - 1) = ((g.length - 1 : Nat) : Int) := by omega
  have hx : idxP (.lst (r.map .int)) (.int ((g.length - 1 : Nat) : Int)) = .ok (.int (r.getD (g.length - 1) 0)) := by
    show Res.opt (L2.atI (r.map PV.int) _) = _
    have : L2.atI (r.map PV.int) ((g.length - 1 : Nat) : Int) = some (.int (r.getD (g.length - 1) 0)) := by
      unfold L2.atI
      rw [ixN_i (by simp; omega)]
      have hlt : g.length - 1 < r.length := by omega
      simp [hlt]
    rw [this]; rfl
  unfold sAugL
  simp only [↓bind_bnd, ok_bnd, exc_bnd, v_ap, k_ap, e1_ap, e2_ap, ret_ap, expr_ap, asg_ap, nil_ap, seq_ap, if_ap, ifB_ap, tr_b, noD_ap, and_ap, or_ap, not_ap, chB_ap, tup_ap, lst_ap, eL_n, eL_c, call_ap, callX_ap, nox_ok, for_ap, iSeq_ap, seq_t, seq_l, iR1_ap, iR2_ap, name_ap, ok_bind, exc_bind, List.getElem?_cons_zero, List.getElem?_cons_succ, List.set_cons_zero, List.set_cons_succ, List.map_cons, List.map_nil, List.cons_append, List.nil_append, List.replicate_succ, List.replicate_zero, cnd_s, cnd_n, len_T, sub_i, hi, hx]
  have ha : ∀ a b : Int, addI (.int a) (.int b) = .ok (.int (a + b)) := fun _ _ => rfl
  simp only [↓bind_bnd, ok_bnd, exc_bnd, v_ap, k_ap, e1_ap, e2_ap, ret_ap, expr_ap, asg_ap, nil_ap, seq_ap, if_ap, ifB_ap, tr_b, noD_ap, and_ap, or_ap, not_ap, chB_ap, tup_ap, lst_ap, eL_n, eL_c, call_ap, callX_ap, nox_ok, for_ap, iSeq_ap, seq_t, seq_l, iR1_ap, iR2_ap, name_ap, ok_bind, exc_bind, List.getElem?_cons_zero, List.getElem?_cons_succ, List.set_cons_zero, List.set_cons_succ, List.map_cons, List.map_nil, List.cons_append, List.nil_append, List.replicate_succ, List.replicate_zero, cnd_s, cnd_n, ha]
  have hs : setP (.lst (r.map .int)) (.int ((g.length - 1 : Nat) : Int)) (.int (r.getD (g.length - 1) 0 + 1)) = .ok (.lst ((bmp r (g.length - 1)).map .int)) := by
    unfold setP
    simp only []
    rw [ixN_i (by simp; omega)]
    simp [bmp, List.map_set]
  simp only [↓bind_bnd, ok_bnd, exc_bnd, v_ap, k_ap, e1_ap, e2_ap, ret_ap, expr_ap, asg_ap, nil_ap, seq_ap, if_ap, ifB_ap, tr_b, noD_ap, and_ap, or_ap, not_ap, chB_ap, tup_ap, lst_ap, eL_n, eL_c, call_ap, callX_ap, nox_ok, for_ap, iSeq_ap, seq_t, seq_l, iR1_ap, iR2_ap, name_ap, ok_bind, exc_bind, List.getElem?_cons_zero, List.getElem?_cons_succ, List.set_cons_zero, List.set_cons_succ, List.map_cons, List.map_nil, List.cons_append, List.nil_append, List.replicate_succ, List.replicate_zero, cnd_s, cnd_n, hs]
theorem length_bump (r : List Int) (j : Nat) : (bmp r j).length = r.length := by simp [bmp]
theorem row_loop {K : Option PV} : ∀ (C : List (List Int)) (r : List Int) (o : Option PV), (∀ g ∈ C, g ≠ [] ∧ g.length ≤ r.length) →
    ∃ o', forL (gName 2) (sAugL addI 1 (e2 subP (e1 lenS (eVar 2)) (eK (.int 1))) (eK (.int 1))) (C.map T) [K, some (.lst (r.map .int)), o] =
      .ok (.next, [K, some (.lst ((C.foldl (fun r g => bmp r (g.length - 1)) r).map .int)), o'])
  | [], r, o, _ => ⟨o, rfl⟩
  | g :: C, r, o, h => by
    obtain ⟨o', ih⟩ := row_loop (K := K) C (bmp r (g.length - 1)) (some (T g)) fun x hx => by rw [length_bump]; exact h x (List.mem_cons_of_mem g hx)
    have hg := h g (by simp)
    refine ⟨o', ?_⟩
    rw [List.map_cons]
    unfold forL
    simp only [↓bind_bnd, ok_bnd, exc_bnd, v_ap, k_ap, e1_ap, e2_ap, ret_ap, expr_ap, asg_ap, nil_ap, seq_ap, if_ap, ifB_ap, tr_b, noD_ap, and_ap, or_ap, not_ap, chB_ap, tup_ap, lst_ap, eL_n, eL_c, call_ap, callX_ap, nox_ok, for_ap, iSeq_ap, seq_t, seq_l, iR1_ap, iR2_ap, name_ap, ok_bind, exc_bind, List.getElem?_cons_zero, List.getElem?_cons_succ, List.set_cons_zero, List.set_cons_succ, List.map_cons, List.map_nil, List.cons_append, List.nil_append, List.replicate_succ, List.replicate_zero, cnd_s, cnd_n, bump_step hg.1 hg.2]
    exact ih
theorem rep_0 {n : Nat} (h : n ≤ 100) : repP (.lst [.int 0]) (.int n) = .ok (.lst ((List.replicate n 0).map .int)) := by
  have hlim : lim = 16777216 := rfl
  unfold repP
  simp only [Int.toNat_natCast, List.length_cons, List.length_nil]
  rw [if_pos ⟨by omega, by omega, by omega⟩]
  congr 2
  unfold repL
  rw [List.map_replicate]
  induction n with
  | zero => rfl
  | succ n ih => rw [List.replicate_succ, List.flatten_cons, ih (by omega)]; rfl
theorem face_row_eq {k : List (List Int)} (q : Q k) (hl : k.length < lim) : m_face_row [TT k] = .ok (T (rowI (tp k) (facesL k))) := by
  have ht := q.tp4
  obtain ⟨o', e⟩ := row_loop (K := some (TT k)) (facesL k) (List.replicate (tp k) 0) none fun g hg => ⟨q.ne g hg, by rw [List.length_replicate]; exact q.le g hg⟩
  rw [row_eq fun g hg => ⟨q.ne g hg, q.le g hg⟩] at e
  refine mkF_ok (ρ' := [some (TT k), some (.lst ((rowI (tp k) (facesL k)).map .int)), o']) ?_
  unfold b_face_row
  simp only [↓bind_bnd, ok_bnd, exc_bnd, v_ap, k_ap, e1_ap, e2_ap, ret_ap, expr_ap, asg_ap, nil_ap, seq_ap, if_ap, ifB_ap, tr_b, noD_ap, and_ap, or_ap, not_ap, chB_ap, tup_ap, lst_ap, eL_n, eL_c, call_ap, callX_ap, nox_ok, for_ap, iSeq_ap, seq_t, seq_l, iR1_ap, iR2_ap, name_ap, ok_bind, exc_bind, List.getElem?_cons_zero, List.getElem?_cons_succ, List.set_cons_zero, List.set_cons_succ, List.map_cons, List.map_nil, List.cons_append, List.nil_append, List.replicate_succ, List.replicate_zero, cnd_s, cnd_n, dim_eq hl, add_i, show ((tp k : Int) - 1 + 1) = (tp k : Int) from by omega, rep_0 (show tp k ≤ 100 by omega), all_faces_eq q]
  rw [e]
  simp only [↓bind_bnd, ok_bnd, exc_bnd, v_ap, k_ap, e1_ap, e2_ap, ret_ap, expr_ap, asg_ap, nil_ap, seq_ap, if_ap, ifB_ap, tr_b, noD_ap, and_ap, or_ap, not_ap, chB_ap, tup_ap, lst_ap, eL_n, eL_c, call_ap, callX_ap, nox_ok, for_ap, iSeq_ap, seq_t, seq_l, iR1_ap, iR2_ap, name_ap, ok_bind, exc_bind, List.getElem?_cons_zero, List.getElem?_cons_succ, List.set_cons_zero, List.set_cons_succ, List.map_cons, List.map_nil, List.cons_append, List.nil_append, List.replicate_succ, List.replicate_zero, cnd_s, cnd_n, tup_l]
theorem sum_t (r : List Int) : sumP (T r) = .ok (.int r.sum) := by
  unfold sumP
  have : intsP (T r) = some r := intsOf_ints r
  rw [this]; rfl
theorem sum_l (r : List Int) : sumP (.lst (r.map .int)) = .ok (.int r.sum) := by
  unfold sumP
  have : intsP (.lst (r.map .int)) = some r := intsOf_ints r
  rw [this]; rfl
theorem step_ev : ∀ r : List Int, r.length ≤ 4 → stepP (T r) none none 2 = .ok (T (evens r))
  | [], _ => by unfold stepP; kernel_rfl
  | [_], _ => by unfold stepP; kernel_rfl
  | [_, _], _ => by unfold stepP; kernel_rfl
  | [_, _, _], _ => by unfold stepP; kernel_rfl
  | [_, _, _, _], _ => by unfold stepP; kernel_rfl
  | _ :: _ :: _ :: _ :: _ :: _, h => by simp at h
theorem step_od : ∀ r : List Int, r.length ≤ 4 → stepP (T r) (some 1) none 2 = .ok (T (evens r.tail))
  | [], _ => by unfold stepP; kernel_rfl
  | [_], _ => by unfold stepP; kernel_rfl
  | [_, _], _ => by unfold stepP; kernel_rfl
  | [_, _, _], _ => by unfold stepP; kernel_rfl
  | [_, _, _, _], _ => by unfold stepP; kernel_rfl
  | _ :: _ :: _ :: _ :: _ :: _, h => by simp at h
theorem euler_eq {k : List (List Int)} (q : Q k) (hl : k.length < lim) : m_euler_number [TT k] = .ok (.int ((facesL k).map sgn).sum) := by
  have ht := q.tp4
  have hr : (rowI (tp k) (facesL k)).length ≤ 4 := by simp [rowI]; exact ht
  refine mkF_ok (ρ' := [some (TT k), some (T (rowI (tp k) (facesL k)))]) ?_
  unfold b_euler_number eSlS optE
  simp only [↓bind_bnd, ok_bnd, exc_bnd, v_ap, k_ap, e1_ap, e2_ap, ret_ap, expr_ap, asg_ap, nil_ap, seq_ap, if_ap, ifB_ap, tr_b, noD_ap, and_ap, or_ap, not_ap, chB_ap, tup_ap, lst_ap, eL_n, eL_c, call_ap, callX_ap, nox_ok, for_ap, iSeq_ap, seq_t, seq_l, iR1_ap, iR2_ap, name_ap, ok_bind, exc_bind, List.getElem?_cons_zero, List.getElem?_cons_succ, List.set_cons_zero, List.set_cons_succ, List.map_cons, List.map_nil, List.cons_append, List.nil_append, List.replicate_succ, List.replicate_zero, cnd_s, cnd_n, face_row_eq q hl, step_ev _ hr, step_od _ hr, sum_t, sub_i]
  rw [euler_row ht fun g hg => ⟨q.ne g hg, q.le g hg⟩]
theorem leuler_eq {k : List (List Int)} (h7 : ∀ f ∈ k, f.length ≤ 7) (hl : k.length ≤ 100000) : m__law_euler [TT k] = .ok (.int ((facesL k).map sgn).sum) := by
  refine mkF_ok (ρ' := [some (TT k), none]) ?_
  unfold b__law_euler
  simp only [↓bind_bnd, ok_bnd, exc_bnd, v_ap, k_ap, e1_ap, e2_ap, ret_ap, expr_ap, asg_ap, nil_ap, seq_ap, if_ap, ifB_ap, tr_b, noD_ap, and_ap, or_ap, not_ap, chB_ap, tup_ap, lst_ap, eL_n, eL_c, call_ap, callX_ap, nox_ok, for_ap, iSeq_ap, seq_t, seq_l, iR1_ap, iR2_ap, name_ap, ok_bind, exc_bind, List.getElem?_cons_zero, List.getElem?_cons_succ, List.set_cons_zero, List.set_cons_succ, List.map_cons, List.map_nil, List.cons_append, List.nil_append, List.replicate_succ, List.replicate_zero, cnd_s, cnd_n]
  rw [comp0A (v := 1) (xs := facesL k) (enc := T) (ρ' := [some (TT k), none]) (fun g => .int (sgn g)) ?_ (by decide : 1 < 2) ?_]
  · rw [show (facesL k).map (fun g => PV.int (sgn g)) = ((facesL k).map sgn).map .int from by rw [List.map_map]; rfl]
    simp only [↓bind_bnd, ok_bnd, exc_bnd, v_ap, k_ap, e1_ap, e2_ap, ret_ap, expr_ap, asg_ap, nil_ap, seq_ap, if_ap, ifB_ap, tr_b, noD_ap, and_ap, or_ap, not_ap, chB_ap, tup_ap, lst_ap, eL_n, eL_c, call_ap, callX_ap, nox_ok, for_ap, iSeq_ap, seq_t, seq_l, iR1_ap, iR2_ap, name_ap, ok_bind, exc_bind, List.getElem?_cons_zero, List.getElem?_cons_succ, List.set_cons_zero, List.set_cons_succ, List.map_cons, List.map_nil, List.cons_append, List.nil_append, List.replicate_succ, List.replicate_zero, cnd_s, cnd_n, sum_l]
  · simp only [↓bind_bnd, ok_bnd, exc_bnd, v_ap, k_ap, e1_ap, e2_ap, ret_ap, expr_ap, asg_ap, nil_ap, seq_ap, if_ap, ifB_ap, tr_b, noD_ap, and_ap, or_ap, not_ap, chB_ap, tup_ap, lst_ap, eL_n, eL_c, call_ap, callX_ap, nox_ok, for_ap, iSeq_ap, seq_t, seq_l, iR1_ap, iR2_ap, name_ap, ok_bind, exc_bind, List.getElem?_cons_zero, List.getElem?_cons_succ, List.set_cons_zero, List.set_cons_succ, List.map_cons, List.map_nil, List.cons_append, List.nil_append, List.replicate_succ, List.replicate_zero, cnd_s, cnd_n, lfaces_eq (p := TT k) rfl h7 hl]
  · intro g _
    have h1 : ∀ a : Int, intP (.int a) = .ok (.int a) := fun _ => rfl
    have h2 : ∀ a : Int, modP (.int a) (.int 2) = .ok (.int (a.fmod 2)) := fun _ => rfl
    have h3 : ∀ a : Int, negP (.int a) = .ok (.int (-a)) := fun _ => rfl
    simp only [↓bind_bnd, ok_bnd, exc_bnd, v_ap, k_ap, e1_ap, e2_ap, ret_ap, expr_ap, asg_ap, nil_ap, seq_ap, if_ap, ifB_ap, tr_b, noD_ap, and_ap, or_ap, not_ap, chB_ap, tup_ap, lst_ap, eL_n, eL_c, call_ap, callX_ap, nox_ok, for_ap, iSeq_ap, seq_t, seq_l, iR1_ap, iR2_ap, name_ap, ok_bind, exc_bind, List.getElem?_cons_zero, List.getElem?_cons_succ, List.set_cons_zero, List.set_cons_succ, List.map_cons, List.map_nil, List.cons_append, List.nil_append, List.replicate_succ, List.replicate_zero, cnd_s, cnd_n, len_T, h1, h2, h3, eq_i]
    unfold sgn
    by_cases e : ((g.length : Int).fmod 2) = 1
    · simp [e, ok_bind, ok_bnd, tr_b]
    · simp [e, ok_bind, ok_bnd, tr_b]
end Pl

namespace Pl
open PySem Mi Pu K88
abbrev S (s t : Int) : Option PV := some (.lst [.int s, .int t])
theorem mulOk_r {a b : Int} (h : decide (-(2 ^ 64) < b ∧ b < 2 ^ 64) = true) : mulP (.int a) (.int b) = .ok (.int (a * b)) := by
  unfold mulP
  have : mulOk a b = true := by unfold mulOk; rw [h]; simp
  simp only [this, if_true]
theorem abs_ok (a : Int) : absP (.int a) = .ok (.int (if a < 0 then -a else a)) := rfl
theorem mod_ok {a b : Int} (h : b ≠ 0) : modP (.int a) (.int b) = .ok (.int (a.fmod b)) := by
  unfold modP
  simp [h]
theorem int_ok (a : Int) : intP (.int a) = .ok (.int a) := rfl
theorem fdiv_ok {a b : Int} (h : 0 < b) (h2 : b < 1073741824) : fdivP (.int a) (.int b) = .ok (.int (a.fdiv b)) := by
  unfold fdivP
  have : divOk b = true := by
    unfold divOk
    have h1 : (b != 0) = true := by simp; omega
    have h3 : decide (b.natAbs < 1073741824) = true := decide_eq_true (by omega)
    simp [h1, h3]
  simp only [this, if_true]
theorem state_eq (ns : List Int) : ∃ s t, m__law_state [.scr (ns.map .int)] = .ok (.lst [.int s, .int t]) := by
  have hc : cutP (.scr (ns.map .int)) none (some 63) = .ok (.lst ((cutL ns none (some 63)).map .int)) := by
    unfold cutP
    simp only []
    unfold cutL
    rw [List.map_take, List.map_drop, List.length_map]
  obtain ⟨ρ', e, s, t, o, rfl⟩ := for_inv (enc := PV.int) (γ := gName 3) (s := sSeq (sAsg 1 (e2 addP (e2 mulP (eVar 1) (eK (.int 1000003))) (e1 absP (eVar 3))))
      (sAsg 2 (e2 modP (e1 intP (e2 addP (e2 mulP (eVar 2) (eK (.int 48271))) (eVar 3))) (eK (.int 2147483647)))))
    (fun _ ρ => ∃ s t o, ρ = [some (.scr (ns.map .int)), some (.int s), some (.int t), o]) (cutL ns none (some 63)) [] [some (.scr (ns.map .int)), some (.int 0), some (.int 1), none] ⟨0, 1, none, rfl⟩ (fun d x r _ ρ hρ => by
      obtain ⟨s, t, o, rfl⟩ := hρ
      refine ⟨[some (.scr (ns.map .int)), some (.int s), some (.int t), some (.int x)], [some (.scr (ns.map .int)), some (.int (s * 1000003 + (if x < 0 then -x else x))), some (.int ((t * 48271 + x).fmod 2147483647)), some (.int x)], rfl, ?_, _, _, _, rfl⟩
      · simp only [↓bind_bnd, ok_bnd, exc_bnd, v_ap, k_ap, e1_ap, e2_ap, ret_ap, expr_ap, asg_ap, nil_ap, seq_ap, if_ap, ifB_ap, tr_b, noD_ap, and_ap, or_ap, not_ap, chB_ap, tup_ap, lst_ap, eL_n, eL_c, call_ap, callX_ap, nox_ok, for_ap, iSeq_ap, seq_t, seq_l, iR1_ap, iR2_ap, name_ap, ok_bind, exc_bind, List.getElem?_cons_zero, List.getElem?_cons_succ, List.set_cons_zero, List.set_cons_succ, List.map_cons, List.map_nil, List.cons_append, List.nil_append, List.replicate_succ, List.replicate_zero, cnd_s, cnd_n, mulOk_r (a := s) (b := 1000003) (by decide), mulOk_r (a := t) (b := 48271) (by decide), abs_ok, add_i, int_ok, mod_ok (a := t * 48271 + x) (b := 2147483647) (by decide)])
  refine ⟨s, t, mkF_ok (ρ' := [some (.scr (ns.map .int)), some (.int s), some (.int t), o]) ?_⟩
  unfold b__law_state eSl optE
  simp only [↓bind_bnd, ok_bnd, exc_bnd, v_ap, k_ap, e1_ap, e2_ap, ret_ap, expr_ap, asg_ap, nil_ap, seq_ap, if_ap, ifB_ap, tr_b, noD_ap, and_ap, or_ap, not_ap, chB_ap, tup_ap, lst_ap, eL_n, eL_c, call_ap, callX_ap, nox_ok, for_ap, iSeq_ap, seq_t, seq_l, iR1_ap, iR2_ap, name_ap, ok_bind, exc_bind, List.getElem?_cons_zero, List.getElem?_cons_succ, List.set_cons_zero, List.set_cons_succ, List.map_cons, List.map_nil, List.cons_append, List.nil_append, List.replicate_succ, List.replicate_zero, cnd_s, cnd_n, hc]
  rw [e]
  simp only [↓bind_bnd, ok_bnd, exc_bnd, v_ap, k_ap, e1_ap, e2_ap, ret_ap, expr_ap, asg_ap, nil_ap, seq_ap, if_ap, ifB_ap, tr_b, noD_ap, and_ap, or_ap, not_ap, chB_ap, tup_ap, lst_ap, eL_n, eL_c, call_ap, callX_ap, nox_ok, for_ap, iSeq_ap, seq_t, seq_l, iR1_ap, iR2_ap, name_ap, ok_bind, exc_bind, List.getElem?_cons_zero, List.getElem?_cons_succ, List.set_cons_zero, List.set_cons_succ, List.map_cons, List.map_nil, List.cons_append, List.nil_append, List.replicate_succ, List.replicate_zero, cnd_s, cnd_n]
theorem ixO_ap {k : Nat} {a : ES} {ρ : Mi.Env} : eIxO k a ρ = (eVar k ρ >>= fun _ => a ρ >>= fun i => eVar k i.2 >>= fun l => idxP l.1 i.1 >>= fun z => .ok (z, i.2)) := Eq.trans rfl rfl
theorem setL_ap {k : Nat} {fi fe : ES} {ρ : Mi.Env} : sSetL k fi fe ρ = (fe ρ >>= fun e => eVar k e.2 >>= fun _ => fi e.2 >>= fun i => eVar k i.2 >>= fun l => setP l.1 i.1 e.1 >>= fun z => .ok (.next, i.2.set k (some z))) := Eq.trans rfl rfl
theorem ix0 (s t : Int) : idxP (.lst [.int s, .int t]) (.int 0) = .ok (.int s) := Eq.trans rfl rfl
theorem ix1 (s t : Int) : idxP (.lst [.int s, .int t]) (.int 1) = .ok (.int t) := Eq.trans rfl rfl
theorem st0 (s t a : Int) : setP (.lst [.int s, .int t]) (.int 0) (.int a) = .ok (.lst [.int a, .int t]) := Eq.trans rfl rfl
theorem st1 (s t a : Int) : setP (.lst [.int s, .int t]) (.int 1) (.int a) = .ok (.lst [.int s, .int a]) := Eq.trans rfl rfl
theorem take_eq (s t : Int) {m : Int} (h1 : 1 ≤ m) (h2 : m < 1073741824) : ∃ v s' t', m__law_take [.int s, .int t] [.int m] = .ok (.int v, [.int s', .int t']) ∧ 0 ≤ v ∧ v < m := by
  by_cases hs : 0 < s
  · refine ⟨s.fmod m, s.fdiv m, t, ?_, Int.fmod_nonneg_of_pos _ (by omega), Int.fmod_lt_of_pos _ (by omega)⟩
    unfold m__law_take mkR b__law_take
    simp only [↓bind_bnd, ok_bnd, exc_bnd, v_ap, k_ap, e1_ap, e2_ap, ret_ap, expr_ap, asg_ap, nil_ap, seq_ap, if_ap, ifB_ap, tr_b, noD_ap, and_ap, or_ap, not_ap, chB_ap, tup_ap, lst_ap, eL_n, eL_c, call_ap, callX_ap, nox_ok, for_ap, iSeq_ap, seq_t, seq_l, iR1_ap, iR2_ap, name_ap, ok_bind, exc_bind, List.getElem?_cons_zero, List.getElem?_cons_succ, List.set_cons_zero, List.set_cons_succ, List.map_cons, List.map_nil, List.cons_append, List.nil_append, List.replicate_succ, List.replicate_zero, cnd_s, cnd_n, ixO_ap, setL_ap, ix0, st0, gt_i, hs, decide_true, if_true, int_ok, mod_ok (a := s) (b := m) (by omega), fdiv_ok (a := s) (b := m) (by omega) h2]
  · refine ⟨(((t * 48271 + 11).fmod 2147483647).fdiv 7).fmod m, s, (t * 48271 + 11).fmod 2147483647, ?_, Int.fmod_nonneg_of_pos _ (by omega), Int.fmod_lt_of_pos _ (by omega)⟩
    unfold m__law_take mkR b__law_take
    simp only [↓bind_bnd, ok_bnd, exc_bnd, v_ap, k_ap, e1_ap, e2_ap, ret_ap, expr_ap, asg_ap, nil_ap, seq_ap, if_ap, ifB_ap, tr_b, noD_ap, and_ap, or_ap, not_ap, chB_ap, tup_ap, lst_ap, eL_n, eL_c, call_ap, callX_ap, nox_ok, for_ap, iSeq_ap, seq_t, seq_l, iR1_ap, iR2_ap, name_ap, ok_bind, exc_bind, List.getElem?_cons_zero, List.getElem?_cons_succ, List.set_cons_zero, List.set_cons_succ, List.map_cons, List.map_nil, List.cons_append, List.nil_append, List.replicate_succ, List.replicate_zero, cnd_s, cnd_n, ixO_ap, setL_ap, ix0, ix1, st1, gt_i, hs, decide_false, Bool.false_eq_true, if_false, int_ok, mulOk_r (a := t) (b := 48271) (by decide), add_i, mod_ok (a := t * 48271 + 11) (b := 2147483647) (by decide),
      fdiv_ok (a := (t * 48271 + 11).fmod 2147483647) (b := 7) (by decide) (by decide), mod_ok (a := ((t * 48271 + 11).fmod 2147483647).fdiv 7) (b := m) (by omega)]
theorem callR_take {i : Nat} {fs : List ES} {ρ : Mi.Env} {s t m : Int} (hi : ρ[i]? = some (S s t)) (he : eL fs ρ = .ok ([.int m], ρ)) (h1 : 1 ≤ m) (h2 : m < 1073741824) :
    ∃ v s' t', eCallR m__law_take i fs ρ = .ok (.int v, ρ.set i (S s' t')) ∧ 0 ≤ v ∧ v < m := by
  obtain ⟨v, s', t', e, h3, h4⟩ := take_eq s t h1 h2
  refine ⟨v, s', t', ?_, h3, h4⟩
  unfold eCallR
  rw [v_ap, hi]
  simp only [ok_bind, ok_bnd, he, v_ap, hi, e, nox_ok]
/-! a sort that runs -/
section
variable {α : Type} (le : α → α → Bool)
def insr (x : α) : List α → List α
  | [] => [x]
  | y :: l => if le x y then x :: y :: l else y :: insr x l
def isrt : List α → List α
  | [] => []
  | x :: l => insr le x (isrt l)
theorem insr_perm (x : α) : ∀ l, (insr le x l).Perm (x :: l)
  | [] => .refl _
  | y :: l => by
    unfold insr
    split
    · exact .refl _
    · exact ((insr_perm x l).cons y).trans (.swap _ _ _)
theorem isrt_perm : ∀ l, (isrt le l).Perm l
  | [] => .refl _
  | x :: l => (insr_perm le x _).trans ((isrt_perm l).cons x)
variable {le} (tr : ∀ a b c, le a b = true → le b c = true → le a c = true) (tot : ∀ a b, (le a b || le b a) = true) (an : ∀ a b, le a b = true → le b a = true → a = b)
include tr tot in
theorem insr_sorted (x : α) : ∀ l, l.Pairwise (fun a b => le a b = true) → (insr le x l).Pairwise (fun a b => le a b = true)
  | [], _ => by simp [insr]
  | y :: l, h => by
    obtain ⟨h1, h2⟩ := List.pairwise_cons.1 h
    unfold insr
    by_cases c : le x y = true
    · rw [if_pos c]
      refine List.pairwise_cons.2 ⟨fun z hz => ?_, h⟩
      rcases List.mem_cons.1 hz with e | hz
      · rw [e]; exact c
      · exact tr _ _ _ c (h1 z hz)
    · rw [if_neg c]
      refine List.pairwise_cons.2 ⟨fun z hz => ?_, insr_sorted x l h2⟩
      rcases List.mem_cons.1 ((insr_perm le x l).mem_iff.1 hz) with e | hz
      · subst e
        have := tot z y
        rw [Bool.or_eq_true] at this
        exact this.elim (fun q => absurd q c) id
      · exact h1 z hz
include tr tot in
theorem isrt_sorted : ∀ l, (isrt le l).Pairwise (fun a b => le a b = true)
  | [] => .nil
  | x :: l => insr_sorted tr tot x _ (isrt_sorted l)
include tr tot an in
theorem isrt_eq (l : List α) : l.mergeSort le = isrt le l :=
  List.Perm.eq_of_pairwise (le := fun a b => le a b = true) (fun a b _ _ => an a b) (List.pairwise_mergeSort tr tot l) (isrt_sorted tr tot l) ((List.mergeSort_perm l le).trans (isrt_perm le l).symm)
end
def leZ (a b : Int) : Bool := decide (a ≤ b)
theorem isort_isrt (l : List Int) : isort l = isrt leZ l := isrt_eq (fun a b c h1 h2 => by simp [leZ] at *; omega) (fun a b => by simp [leZ]; omega) (fun a b h1 h2 => by simp [leZ] at *; omega) l
def leX (a b : List Int) : Bool := !HT.lexLt b a
theorem leI_leX : leI = leX := by
  funext a b
  exact leD_itp a b
theorem srt_isrt (l : List (List Int)) : srt leI l = isrt leX l := by
  rw [← leI_leX]
  exact isrt_eq (Ord.tr (le := leI)) (Ord.tot (le := leI)) (Ord.an (le := leI)) l
end Pl

namespace Pl
open PySem Mi Pu K88
structure Kok (k : List (List Int)) : Prop extends Q k where
  ssd : SSd leI k
  anti : Anti k
  ne : k ≠ []
def chk (k : List (List Int)) : Bool := (k.all fun o => decide (o ≠ []) && adjB o && decide (o.length ≤ 4) && mx k o) && decide ((insP partsL [] k).length ≤ 63) && decide (k ≠ []) && decide (k.Pairwise fun a b => leX a b = true) && decide k.Nodup
theorem kok_of {k : List (List Int)} (h : chk k = true) : Kok k := by
  simp only [chk, Bool.and_eq_true, List.all_eq_true, decide_eq_true_eq, adjB_iff] at h
  obtain ⟨⟨⟨⟨h1, h2⟩, h3⟩, h4⟩, h5⟩ := h
  exact { good := fun o ho => ⟨(h1 o ho).1.1.1, (h1 o ho).1.1.2⟩, four := fun o ho => (h1 o ho).1.2, few := h2, ssd := by rw [leI_leX]; exact ⟨h4, h5⟩, anti := fun o ho => (h1 o ho).2, ne := h3 }
theorem mkR_ok {nl : Nat} {s : SS} {xs ps ys : List PV} {p : PV} {ρ : Mi.Env} (e : s (some (.lst xs) :: (ps.map some ++ List.replicate nl none)) = .ok (.ret p, some (.lst ys) :: ρ)) : mkR nl s xs ps = .ok (p, ys) := by
  unfold mkR; rw [e]; rfl
def tri (a b c : Int) (i : Nat) : List Int := isort [(a + (i : Int)).fmod 7, (b + (i : Int)).fmod 7, (c + (i : Int)).fmod 7]
theorem tri_comp {s t : Int} {a b c : Int} {x : Option PV} : eComp (gName 11) none (e1 tupleP (e1 sortedA (eComp (gName 13) none (e2 modP (e1 intP (e2 addP (eVar 13) (eVar 11))) (eK (.int 7))) [13] (iSeq (eTup [(eK (.int a)), (eK (.int b)), (eK (.int c))]))))) [11] (iR1 (eK (.int 7))) [S s t, some (.int 7), some (.int 7), some (.int 0), none, none, x, none, none, none, none, none, none, none] =
    .ok (LL ((List.range 7).map (tri a b c)), [S s t, some (.int 7), some (.int 7), some (.int 0), none, none, x, none, none, none, none, none, none, none]) := by
  rw [comp0A (v := 11) (xs := List.range 7) (enc := fun (i : Nat) => .int i) (ρ' := [S s t, some (.int 7), some (.int 7), some (.int 0), none, none, x, none, none, none, none, none, none, none]) (fun i => T (tri a b c i)) ?_ (by decide : 11 < 14) ?_]
  · rw [LL, List.map_map]; rfl
  · simp only [↓bind_bnd, ok_bnd, exc_bnd, v_ap, k_ap, e1_ap, e2_ap, ret_ap, expr_ap, asg_ap, nil_ap, seq_ap, if_ap, ifB_ap, tr_b, noD_ap, and_ap, or_ap, not_ap, chB_ap, tup_ap, lst_ap, eL_n, eL_c, call_ap, callX_ap, nox_ok, for_ap, iSeq_ap, seq_t, seq_l, iR1_ap, iR2_ap, name_ap, ok_bind, exc_bind, List.getElem?_cons_zero, List.getElem?_cons_succ, List.set_cons_zero, List.set_cons_succ, List.map_cons, List.map_nil, List.cons_append, List.nil_append, List.replicate_succ, List.replicate_zero, cnd_s, cnd_n, rng1_eq (n := 7) (by decide)]
    rw [show (7 : Int) = ((7 : Nat) : Int) from rfl, rng1_eq (n := 7) (by decide)]
    rfl
  · intro i _
    simp only [↓bind_bnd, ok_bnd, exc_bnd, v_ap, k_ap, e1_ap, e2_ap, ret_ap, expr_ap, asg_ap, nil_ap, seq_ap, if_ap, ifB_ap, tr_b, noD_ap, and_ap, or_ap, not_ap, chB_ap, tup_ap, lst_ap, eL_n, eL_c, call_ap, callX_ap, nox_ok, for_ap, iSeq_ap, seq_t, seq_l, iR1_ap, iR2_ap, name_ap, ok_bind, exc_bind, List.getElem?_cons_zero, List.getElem?_cons_succ, List.set_cons_zero, List.set_cons_succ, List.map_cons, List.map_nil, List.cons_append, List.nil_append, List.replicate_succ, List.replicate_zero, cnd_s, cnd_n]
    rw [comp0A (v := 13) (xs := [a, b, c]) (enc := .int) (ρ' := [S s t, some (.int 7), some (.int 7), some (.int 0), none, none, x, none, none, none, none, some (.int i), none, none]) (fun p => .int ((p + (i : Int)).fmod 7)) rfl (by decide : 13 < 14) ?_]
    · have := sorted_L [(a + (i : Int)).fmod 7, (b + (i : Int)).fmod 7, (c + (i : Int)).fmod 7]
      simp only [↓bind_bnd, ok_bnd, exc_bnd, v_ap, k_ap, e1_ap, e2_ap, ret_ap, expr_ap, asg_ap, nil_ap, seq_ap, if_ap, ifB_ap, tr_b, noD_ap, and_ap, or_ap, not_ap, chB_ap, tup_ap, lst_ap, eL_n, eL_c, call_ap, callX_ap, nox_ok, for_ap, iSeq_ap, seq_t, seq_l, iR1_ap, iR2_ap, name_ap, ok_bind, exc_bind, List.getElem?_cons_zero, List.getElem?_cons_succ, List.set_cons_zero, List.set_cons_succ, List.map_cons, List.map_nil, List.cons_append, List.nil_append, List.replicate_succ, List.replicate_zero, cnd_s, cnd_n] at this ⊢
      rw [this]
      simp only [↓bind_bnd, ok_bnd, exc_bnd, v_ap, k_ap, e1_ap, e2_ap, ret_ap, expr_ap, asg_ap, nil_ap, seq_ap, if_ap, ifB_ap, tr_b, noD_ap, and_ap, or_ap, not_ap, chB_ap, tup_ap, lst_ap, eL_n, eL_c, call_ap, callX_ap, nox_ok, for_ap, iSeq_ap, seq_t, seq_l, iR1_ap, iR2_ap, name_ap, ok_bind, exc_bind, List.getElem?_cons_zero, List.getElem?_cons_succ, List.set_cons_zero, List.set_cons_succ, List.map_cons, List.map_nil, List.cons_append, List.nil_append, List.replicate_succ, List.replicate_zero, cnd_s, cnd_n, tup_l]
      rfl
    · intro p _
      simp only [↓bind_bnd, ok_bnd, exc_bnd, v_ap, k_ap, e1_ap, e2_ap, ret_ap, expr_ap, asg_ap, nil_ap, seq_ap, if_ap, ifB_ap, tr_b, noD_ap, and_ap, or_ap, not_ap, chB_ap, tup_ap, lst_ap, eL_n, eL_c, call_ap, callX_ap, nox_ok, for_ap, iSeq_ap, seq_t, seq_l, iR1_ap, iR2_ap, name_ap, ok_bind, exc_bind, List.getElem?_cons_zero, List.getElem?_cons_succ, List.set_cons_zero, List.set_cons_succ, List.map_cons, List.map_nil, List.cons_append, List.nil_append, List.replicate_succ, List.replicate_zero, cnd_s, cnd_n, add_i, int_ok, mod_ok (a := p + (i : Int)) (b := 7) (by decide)]
def K0 : List (List Int) := srt leI ((List.range 7).map (tri 0 1 3) ++ (List.range 7).map (tri 0 2 3))
def K0' : List (List Int) := isrt leX (((List.range 7).map fun (i : Nat) => isrt leZ [((0 : Int) + (i : Int)).fmod 7, ((1 : Int) + (i : Int)).fmod 7, ((3 : Int) + (i : Int)).fmod 7]) ++ ((List.range 7).map fun (i : Nat) => isrt leZ [((0 : Int) + (i : Int)).fmod 7, ((2 : Int) + (i : Int)).fmod 7, ((3 : Int) + (i : Int)).fmod 7]))
theorem K0_eq : K0 = K0' := by
  unfold K0 K0'
  rw [srt_isrt]
  have h : ∀ a b c : Int, tri a b c = fun (i : Nat) => isrt leZ [(a + (i : Int)).fmod 7, (b + (i : Int)).fmod 7, (c + (i : Int)).fmod 7] := fun a b c => by
    funext i
    unfold tri
    rw [isort_isrt]
  rw [h, h]
theorem K0_ok : Kok K0 := by rw [K0_eq]; exact kok_of (by decide +kernel)
theorem tri_ne (a b c : Int) (i : Nat) : tri a b c i ≠ [] := isort_ne (by simp)
theorem pick0 {s t : Int} : (sSeq (sAsg 6 (eComp (gName 11) none (e1 tupleP (e1 sortedA (eComp (gName 13) none (e2 modP (e1 intP (e2 addP (eVar 13) (eVar 11))) (eK (.int 7))) [13] (iSeq (eTup [(eK (.int 0)), (eK (.int 1)), (eK (.int 3))]))))) [11] (iR1 (eK (.int 7)))))
  (sRet (e1 tupleP (e1 sortedA (e2 addP (eVar 6) (eComp (gName 11) none (e1 tupleP (e1 sortedA (eComp (gName 13) none (e2 modP (e1 intP (e2 addP (eVar 13) (eVar 11))) (eK (.int 7))) [13] (iSeq (eTup [(eK (.int 0)), (eK (.int 2)), (eK (.int 3))]))))) [11] (iR1 (eK (.int 7))))))))) [S s t, some (.int 7), some (.int 7), some (.int 0), none, none, none, none, none, none, none, none, none, none] =
    .ok (.ret (TT K0), [S s t, some (.int 7), some (.int 7), some (.int 0), none, none, some (LL ((List.range 7).map (tri 0 1 3))), none, none, none, none, none, none, none]) := by
  have h1 := tri_comp (s := s) (t := t) (a := 0) (b := 1) (c := 3) (x := none)
  have h2 := tri_comp (s := s) (t := t) (a := 0) (b := 2) (c := 3) (x := some (LL ((List.range 7).map (tri 0 1 3))))
  simp only [↓bind_bnd, ok_bnd, exc_bnd, v_ap, k_ap, e1_ap, e2_ap, ret_ap, expr_ap, asg_ap, nil_ap, seq_ap, if_ap, ifB_ap, tr_b, noD_ap, and_ap, or_ap, not_ap, chB_ap, tup_ap, lst_ap, eL_n, eL_c, call_ap, callX_ap, nox_ok, for_ap, iSeq_ap, seq_t, seq_l, iR1_ap, iR2_ap, name_ap, ok_bind, exc_bind, List.getElem?_cons_zero, List.getElem?_cons_succ, List.set_cons_zero, List.set_cons_succ, List.map_cons, List.map_nil, List.cons_append, List.nil_append, List.replicate_succ, List.replicate_zero, cnd_s, cnd_n, h1, h2]
  rw [add_LL (by simp [lim])]
  simp only [↓bind_bnd, ok_bnd, exc_bnd, v_ap, k_ap, e1_ap, e2_ap, ret_ap, expr_ap, asg_ap, nil_ap, seq_ap, if_ap, ifB_ap, tr_b, noD_ap, and_ap, or_ap, not_ap, chB_ap, tup_ap, lst_ap, eL_n, eL_c, call_ap, callX_ap, nox_ok, for_ap, iSeq_ap, seq_t, seq_l, iR1_ap, iR2_ap, name_ap, ok_bind, exc_bind, List.getElem?_cons_zero, List.getElem?_cons_succ, List.set_cons_zero, List.set_cons_succ, List.map_cons, List.map_nil, List.cons_append, List.nil_append, List.replicate_succ, List.replicate_zero, cnd_s, cnd_n]
  rw [sorted_LL (fun f hf => by
    rcases List.mem_append.1 hf with hf | hf
    · obtain ⟨i, _, rfl⟩ := List.mem_map.1 hf; exact tri_ne _ _ _ _
    · obtain ⟨i, _, rfl⟩ := List.mem_map.1 hf; exact tri_ne _ _ _ _)]
  simp only [↓bind_bnd, ok_bnd, exc_bnd, v_ap, k_ap, e1_ap, e2_ap, ret_ap, expr_ap, asg_ap, nil_ap, seq_ap, if_ap, ifB_ap, tr_b, noD_ap, and_ap, or_ap, not_ap, chB_ap, tup_ap, lst_ap, eL_n, eL_c, call_ap, callX_ap, nox_ok, for_ap, iSeq_ap, seq_t, seq_l, iR1_ap, iR2_ap, name_ap, ok_bind, exc_bind, List.getElem?_cons_zero, List.getElem?_cons_succ, List.set_cons_zero, List.set_cons_succ, List.map_cons, List.map_nil, List.cons_append, List.nil_append, List.replicate_succ, List.replicate_zero, cnd_s, cnd_n, tup_l]
  rfl
def K1 : List (List Int) := [[0, 1, 2], [0, 1, 3], [0, 2, 4], [0, 3, 5], [0, 4, 5], [1, 2, 5], [1, 3, 4], [1, 4, 5], [2, 3, 4], [2, 3, 5]]
theorem K1_ok : Kok K1 := kok_of (by decide +kernel)
def simp0 (N : Nat) : List (List Int) := (List.range N).map fun (q : Nat) => ((List.range N).filter fun (p : Nat) => !decide ((p : Int) = (q : Int))).map fun (p : Nat) => (p : Int)
def K2 (N : Nat) : List (List Int) := srt leI (simp0 N)
theorem K2_ok (N : Nat) (h1 : 3 ≤ N) (h2 : N ≤ 5) : Kok (K2 N) := by
  unfold K2
  rw [srt_isrt]
  have : N = 3 ∨ N = 4 ∨ N = 5 := by omega
  rcases this with e | e | e <;> (subst e; exact kok_of (by decide +kernel))
theorem pick2 {s t : Int} {n : Nat} (h1 : 1 ≤ n) (h2 : n ≤ 3) : (sRet (e1 tupleP (e1 sortedA (eComp (gName 12) none (e1 tupleP (eComp (gName 13) (some (e2 neP (eVar 13) (eVar 12))) (eVar 13) [13] (iR1 (e2 addP (eVar 7) (eK (.int 2)))))) [12] (iR1 (e2 addP (eVar 7) (eK (.int 2)))))))) [S s t, some (.int 7), some (.int 7), some (.int 2), none, none, none, some (.int n), none, none, none, none, none, none] =
    .ok (.ret (TT (K2 (n + 2))), [S s t, some (.int 7), some (.int 7), some (.int 2), none, none, none, some (.int n), none, none, none, none, none, none]) := by
  have hr : rng1 (.int ((n : Int) + 2)) = .ok ((List.range (n + 2)).map fun (i : Nat) => .int i) := by
    rw [show ((n : Int) + 2) = ((n + 2 : Nat) : Int) from by simp, rng1_eq (by omega)]
  simp only [↓bind_bnd, ok_bnd, exc_bnd, v_ap, k_ap, e1_ap, e2_ap, ret_ap, expr_ap, asg_ap, nil_ap, seq_ap, if_ap, ifB_ap, tr_b, noD_ap, and_ap, or_ap, not_ap, chB_ap, tup_ap, lst_ap, eL_n, eL_c, call_ap, callX_ap, nox_ok, for_ap, iSeq_ap, seq_t, seq_l, iR1_ap, iR2_ap, name_ap, ok_bind, exc_bind, List.getElem?_cons_zero, List.getElem?_cons_succ, List.set_cons_zero, List.set_cons_succ, List.map_cons, List.map_nil, List.cons_append, List.nil_append, List.replicate_succ, List.replicate_zero, cnd_s, cnd_n]
  rw [comp0A (v := 12) (xs := List.range (n + 2)) (enc := fun (i : Nat) => .int i) (ρ' := [S s t, some (.int 7), some (.int 7), some (.int 2), none, none, none, some (.int n), none, none, none, none, none, none]) (fun q => T (((List.range (n + 2)).filter fun (p : Nat) => !decide ((p : Int) = (q : Int))).map fun (p : Nat) => (p : Int))) ?_ (by decide : 12 < 14) ?_]
  · have hs := sorted_LL (l := simp0 (n + 2)) (fun f hf => by
      have : n = 1 ∨ n = 2 ∨ n = 3 := by omega
      rcases this with e | e | e <;> (subst e; revert f; decide +kernel))
    have e : (simp0 (n + 2)).map T = (List.range (n + 2)).map fun (q : Nat) => T (((List.range (n + 2)).filter fun (p : Nat) => !decide ((p : Int) = (q : Int))).map fun (p : Nat) => (p : Int)) := by
      unfold simp0
      rw [List.map_map]; rfl
    simp only [LL, e] at hs
    simp only [↓bind_bnd, ok_bnd, exc_bnd, v_ap, k_ap, e1_ap, e2_ap, ret_ap, expr_ap, asg_ap, nil_ap, seq_ap, if_ap, ifB_ap, tr_b, noD_ap, and_ap, or_ap, not_ap, chB_ap, tup_ap, lst_ap, eL_n, eL_c, call_ap, callX_ap, nox_ok, for_ap, iSeq_ap, seq_t, seq_l, iR1_ap, iR2_ap, name_ap, ok_bind, exc_bind, List.getElem?_cons_zero, List.getElem?_cons_succ, List.set_cons_zero, List.set_cons_succ, List.map_cons, List.map_nil, List.cons_append, List.nil_append, List.replicate_succ, List.replicate_zero, cnd_s, cnd_n, hs, tup_l]
    rfl
  · simp only [↓bind_bnd, ok_bnd, exc_bnd, v_ap, k_ap, e1_ap, e2_ap, ret_ap, expr_ap, asg_ap, nil_ap, seq_ap, if_ap, ifB_ap, tr_b, noD_ap, and_ap, or_ap, not_ap, chB_ap, tup_ap, lst_ap, eL_n, eL_c, call_ap, callX_ap, nox_ok, for_ap, iSeq_ap, seq_t, seq_l, iR1_ap, iR2_ap, name_ap, ok_bind, exc_bind, List.getElem?_cons_zero, List.getElem?_cons_succ, List.set_cons_zero, List.set_cons_succ, List.map_cons, List.map_nil, List.cons_append, List.nil_append, List.replicate_succ, List.replicate_zero, cnd_s, cnd_n, add_i, hr]
  · intro q _
    simp only [↓bind_bnd, ok_bnd, exc_bnd, v_ap, k_ap, e1_ap, e2_ap, ret_ap, expr_ap, asg_ap, nil_ap, seq_ap, if_ap, ifB_ap, tr_b, noD_ap, and_ap, or_ap, not_ap, chB_ap, tup_ap, lst_ap, eL_n, eL_c, call_ap, callX_ap, nox_ok, for_ap, iSeq_ap, seq_t, seq_l, iR1_ap, iR2_ap, name_ap, ok_bind, exc_bind, List.getElem?_cons_zero, List.getElem?_cons_succ, List.set_cons_zero, List.set_cons_succ, List.map_cons, List.map_nil, List.cons_append, List.nil_append, List.replicate_succ, List.replicate_zero, cnd_s, cnd_n]
    rw [compA (v := 13) (xs := List.range (n + 2)) (enc := fun (i : Nat) => .int i) (ρ' := [S s t, some (.int 7), some (.int 7), some (.int 2), none, none, none, some (.int n), none, none, none, none, some (.int q), none]) (fun p => !decide ((p : Int) = (q : Int))) (fun (p : Nat) => .int p) ?_ (by decide : 13 < 14) ?_ ?_]
    · simp only [↓bind_bnd, ok_bnd, exc_bnd, v_ap, k_ap, e1_ap, e2_ap, ret_ap, expr_ap, asg_ap, nil_ap, seq_ap, if_ap, ifB_ap, tr_b, noD_ap, and_ap, or_ap, not_ap, chB_ap, tup_ap, lst_ap, eL_n, eL_c, call_ap, callX_ap, nox_ok, for_ap, iSeq_ap, seq_t, seq_l, iR1_ap, iR2_ap, name_ap, ok_bind, exc_bind, List.getElem?_cons_zero, List.getElem?_cons_succ, List.set_cons_zero, List.set_cons_succ, List.map_cons, List.map_nil, List.cons_append, List.nil_append, List.replicate_succ, List.replicate_zero, cnd_s, cnd_n, tup_l, T, List.map_map]
      rfl
    · simp only [↓bind_bnd, ok_bnd, exc_bnd, v_ap, k_ap, e1_ap, e2_ap, ret_ap, expr_ap, asg_ap, nil_ap, seq_ap, if_ap, ifB_ap, tr_b, noD_ap, and_ap, or_ap, not_ap, chB_ap, tup_ap, lst_ap, eL_n, eL_c, call_ap, callX_ap, nox_ok, for_ap, iSeq_ap, seq_t, seq_l, iR1_ap, iR2_ap, name_ap, ok_bind, exc_bind, List.getElem?_cons_zero, List.getElem?_cons_succ, List.set_cons_zero, List.set_cons_succ, List.map_cons, List.map_nil, List.cons_append, List.nil_append, List.replicate_succ, List.replicate_zero, cnd_s, cnd_n, add_i, hr]
    · intro p _
      simp only [↓bind_bnd, ok_bnd, exc_bnd, v_ap, k_ap, e1_ap, e2_ap, ret_ap, expr_ap, asg_ap, nil_ap, seq_ap, if_ap, ifB_ap, tr_b, noD_ap, and_ap, or_ap, not_ap, chB_ap, tup_ap, lst_ap, eL_n, eL_c, call_ap, callX_ap, nox_ok, for_ap, iSeq_ap, seq_t, seq_l, iR1_ap, iR2_ap, name_ap, ok_bind, exc_bind, List.getElem?_cons_zero, List.getElem?_cons_succ, List.set_cons_zero, List.set_cons_succ, List.map_cons, List.map_nil, List.cons_append, List.nil_append, List.replicate_succ, List.replicate_zero, cnd_s, cnd_n, ne_i]
    · intro p _ _
      simp only [↓bind_bnd, ok_bnd, exc_bnd, v_ap, k_ap, e1_ap, e2_ap, ret_ap, expr_ap, asg_ap, nil_ap, seq_ap, if_ap, ifB_ap, tr_b, noD_ap, and_ap, or_ap, not_ap, chB_ap, tup_ap, lst_ap, eL_n, eL_c, call_ap, callX_ap, nox_ok, for_ap, iSeq_ap, seq_t, seq_l, iR1_ap, iR2_ap, name_ap, ok_bind, exc_bind, List.getElem?_cons_zero, List.getElem?_cons_succ, List.set_cons_zero, List.set_cons_succ, List.map_cons, List.map_nil, List.cons_append, List.nil_append, List.replicate_succ, List.replicate_zero, cnd_s, cnd_n]
end Pl

namespace Pl
open PySem Mi Pu K88
theorem mem_insZ {l : List Int} {x y : Int} : y ∈ insZ l x ↔ y ∈ l ∨ y = x := by
  unfold insZ
  split
  · exact ⟨.inl, fun h => h.elim id fun e => e ▸ ‹_›⟩
  · simp
theorem nodup_insZ {l : List Int} {x : Int} (h : l.Nodup) : (insZ l x).Nodup := by
  unfold insZ
  split
  · exact h
  · rename_i n
    rw [List.nodup_append]
    exact ⟨h, by simp, fun a ha b hb e => n (by simp at hb; rw [← hb, ← e]; exact ha)⟩
theorem length_insZ (l : List Int) (x : Int) : (insZ l x).length ≤ l.length + 1 := by
  unfold insZ
  split <;> simp
/-- what a block is drawn from -/
def OwnOk (n : Nat) (l : List Int) : Prop := l.Nodup ∧ l.length ≤ n ∧ (0 < n → l ≠ []) ∧ ∀ x ∈ l, 0 ≤ x ∧ x ≤ 6
theorem rngC {n : Nat} (h : n ≤ 16777216) (a : Int) (ha : a = n) : rng1 (.int a) = .ok ((List.range n).map fun (i : Nat) => .int i) := by subst ha; exact rng1_eq h
theorem own_loop {P F U X : Option PV} (n : Nat) (s t : Int) (O : Option PV) (hn : n ≤ 100) : ∃ s' t' l O', OwnOk n l ∧
    forL (gName 9) (sSetD 8 (eCallR m__law_take 0 [(eVar 1)]) (eK (.bool true))) ((List.range n).map fun (i : Nat) => .int i) [S s t, some (.int 7), some (.int 7), P, F, U, none, none, some (DZ []), O, X, none, none, none] =
      .ok (.next, [S s' t', some (.int 7), some (.int 7), P, F, U, none, none, some (DZ l), O', X, none, none, none]) := by
  obtain ⟨ρ', e, s', t', l, O', rfl, ok⟩ := for_inv (enc := fun (i : Nat) => PV.int i) (γ := gName 9) (s := sSetD 8 (eCallR m__law_take 0 [(eVar 1)]) (eK (.bool true)))
    (fun done ρ => ∃ s t l O, ρ = [S s t, some (.int 7), some (.int 7), P, F, U, none, none, some (DZ l), O, X, none, none, none] ∧ OwnOk done.length l) (List.range n) [] [S s t, some (.int 7), some (.int 7), P, F, U, none, none, some (DZ []), O, X, none, none, none]
    ⟨s, t, [], O, rfl, .nil, Nat.le_refl _, fun h => absurd h (Nat.lt_irrefl _), fun _ h => by cases h⟩ (fun d i r hd ρ hρ => by
      obtain ⟨s, t, l, O, rfl, h1, h2, h3, h4⟩ := hρ
      obtain ⟨v, s2, t2, e, v1, v2⟩ := callR_take (i := 0) (fs := [eVar 1]) (ρ := [S s t, some (.int 7), some (.int 7), P, F, U, none, none, some (DZ l), some (.int i), X, none, none, none]) (s := s) (t := t) (m := 7) rfl rfl (by decide) (by decide)
      have hd' : d.length ≤ n := by
        have := congrArg List.length hd
        simp at this
        omega
      have hlim : lim = 16777216 := rfl
      refine ⟨[S s t, some (.int 7), some (.int 7), P, F, U, none, none, some (DZ l), some (.int i), X, none, none, none], [S s2 t2, some (.int 7), some (.int 7), P, F, U, none, none, some (DZ (insZ l v)), some (.int i), X, none, none, none], rfl, ?_, s2, t2, insZ l v, some (.int i), rfl, nodup_insZ h1, ?_, fun _ e => ?_, fun x hx => ?_⟩
      · simp only [↓bind_bnd, ok_bnd, exc_bnd, v_ap, k_ap, e1_ap, e2_ap, ret_ap, expr_ap, asg_ap, nil_ap, seq_ap, if_ap, ifB_ap, tr_b, noD_ap, and_ap, or_ap, not_ap, chB_ap, tup_ap, lst_ap, eL_n, eL_c, call_ap, callX_ap, nox_ok, for_ap, iSeq_ap, seq_t, seq_l, iR1_ap, iR2_ap, name_ap, ok_bind, exc_bind, List.getElem?_cons_zero, List.getElem?_cons_succ, List.set_cons_zero, List.set_cons_succ, List.map_cons, List.map_nil, List.cons_append, List.nil_append, List.replicate_succ, List.replicate_zero, cnd_s, cnd_n, setD_ap, e, put_DZ (l := l) v (show l.length < lim by omega)]
      · have := length_insZ l v
        simp; omega
      · have : v ∈ insZ l v := mem_insZ.2 (.inr rfl)
        rw [e] at this; cases this
      · rcases mem_insZ.1 hx with q | q
        · exact h4 x q
        · subst q; omega)
  simp only [List.nil_append, List.length_range] at ok
  exact ⟨s', t', l, O', ok, e⟩
theorem put4_loop {St P U D O : Option PV} : ∀ (gs l : List (List Int)) (o : Option PV), l.length + gs.length ≤ lim →
    ∃ o', forL (gName 10) (sSetD 4 (eVar 10) (eK (.bool true))) (gs.map T) [St, some (.int 7), some (.int 7), P, some (DD l), U, none, none, D, O, o, none, none, none] = .ok (.next, [St, some (.int 7), some (.int 7), P, some (DD (insL l gs)), U, none, none, D, O, o', none, none, none])
  | [], l, o, _ => ⟨o, rfl⟩
  | g :: gs, l, o, h => by
    simp only [List.length_cons] at h
    obtain ⟨o', ih⟩ := put4_loop (St := St) (P := P) (U := U) (D := D) (O := O) gs (ins l g) (some (T g)) (by have := (length_ins l g).2; omega)
    refine ⟨o', ?_⟩
    rw [List.map_cons]
    unfold forL
    simp only [↓bind_bnd, ok_bnd, exc_bnd, v_ap, k_ap, e1_ap, e2_ap, ret_ap, expr_ap, asg_ap, nil_ap, seq_ap, if_ap, ifB_ap, tr_b, noD_ap, and_ap, or_ap, not_ap, chB_ap, tup_ap, lst_ap, eL_n, eL_c, call_ap, callX_ap, nox_ok, for_ap, iSeq_ap, seq_t, seq_l, iR1_ap, iR2_ap, name_ap, ok_bind, exc_bind, List.getElem?_cons_zero, List.getElem?_cons_succ, List.set_cons_zero, List.set_cons_succ, List.map_cons, List.map_nil, List.cons_append, List.nil_append, List.replicate_succ, List.replicate_zero, cnd_s, cnd_n, setD_ap, put_DD g (show l.length < lim by omega)]
    exact ih
def bodyF : SS := (sSeq (sAsg 8 (eK (.dct [])))
  (sSeq (sFor (gName 9) (iR1 (e2 addP (eK (.int 1)) (eCallR m__law_take 0 [(eK (.int 4))]))) (sSetD 8 (eCallR m__law_take 0 [(eVar 1)]) (eK (.bool true))))
  (sFor (gName 10) (iSeq (eCall m__law_parts [(e1 tupleP (e1 sortedD (eVar 8)))])) (sSetD 4 (eVar 10) (eK (.bool true))))))
theorem block_of {n : Nat} {l : List Int} (h : OwnOk n l) (h0 : 0 < n) (h4 : n ≤ 4) : isort l ≠ [] ∧ Inc (isort l) ∧ Small (isort l) :=
  ⟨isort_ne (h.2.2.1 h0), inc_isort h.1, by
    have := (List.mergeSort_perm l fun a b => decide (a ≤ b)).length_eq
    have h2 := h.2.1
    show (l.mergeSort _).length ≤ 4
    omega, fun x hx => h.2.2.2 x (mem_isort.1 hx)⟩
theorem bodyF_eq {P U D O X : Option PV} (s t : Int) {l : List (List Int)} (hl : l.length ≤ 10000) : ∃ s' t' b D' O' X', b ≠ [] ∧ Inc b ∧ Small b ∧
    bodyF [S s t, some (.int 7), some (.int 7), P, some (DD l), U, none, none, D, O, X, none, none, none] = .ok (.next, [S s' t', some (.int 7), some (.int 7), P, some (DD (insL l (partsL b))), U, none, none, D', O', X', none, none, none]) := by
  have hlim : lim = 16777216 := rfl
  obtain ⟨v, s2, t2, e1, v1, v2⟩ := callR_take (i := 0) (fs := [eK (.int 4)]) (ρ := [S s t, some (.int 7), some (.int 7), P, some (DD l), U, none, none, some (.dct []), O, X, none, none, none]) (s := s) (t := t) (m := 4) rfl rfl (by decide) (by decide)
  have hv : ((1 : Int) + v) = ((v.toNat + 1 : Nat) : Int) := by omega
  obtain ⟨s3, t3, m, O', ok, e2⟩ := own_loop (P := P) (F := some (DD l)) (U := U) (X := X) (v.toNat + 1) s2 t2 O (by omega)
  have hb := block_of ok (by omega) (by omega)
  have hm := ok.2.1
  have h7 : (isort m).length ≤ 7 := by have := hb.2.2.1; omega
  have hp : (partsL (isort m)).length ≤ 128 := by
    have := len_insP [isort m] [] (by simpa using h7)
    have h3 : insP partsL [] [isort m] = insL [] (partsL (isort m)) := rfl
    unfold partsL
    refine Nat.le_trans (List.length_filter_le _ _) ?_
    have key : ∀ (b : List Int) (fs : List (List Int)), (b.foldl growL fs).length = fs.length * 2 ^ b.length := by
      intro b
      induction b with
      | nil => intro fs; simp
      | cons x b ih =>
        intro fs
        show (b.foldl growL (growL fs x)).length = _
        rw [ih, length_growL, List.length_cons, Nat.pow_succ, Nat.mul_comm 2, Nat.mul_assoc, Nat.mul_comm 2]
    rw [key]
    have := two_pow_le h7
    simp; omega
  obtain ⟨X', e3⟩ := put4_loop (St := S s3 t3) (P := P) (U := U) (D := some (DZ m)) (O := O') (partsL (isort m)) l X (by omega)
  have e0 : DZ [] = .dct [] := rfl
  rw [e0] at e2
  refine ⟨s3, t3, isort m, some (DZ m), O', X', hb.1, hb.2.1, hb.2.2, ?_⟩
  unfold bodyF
  simp only [↓bind_bnd, ok_bnd, exc_bnd, v_ap, k_ap, e1_ap, e2_ap, ret_ap, expr_ap, asg_ap, nil_ap, seq_ap, if_ap, ifB_ap, tr_b, noD_ap, and_ap, or_ap, not_ap, chB_ap, tup_ap, lst_ap, eL_n, eL_c, call_ap, callX_ap, nox_ok, for_ap, iSeq_ap, seq_t, seq_l, iR1_ap, iR2_ap, name_ap, ok_bind, exc_bind, List.getElem?_cons_zero, List.getElem?_cons_succ, List.set_cons_zero, List.set_cons_succ, List.map_cons, List.map_nil, List.cons_append, List.nil_append, List.replicate_succ, List.replicate_zero, cnd_s, cnd_n, e1, add_i, rngC (n := v.toNat + 1) (by omega) _ hv]
  rw [e2]
  simp only [↓bind_bnd, ok_bnd, exc_bnd, v_ap, k_ap, e1_ap, e2_ap, ret_ap, expr_ap, asg_ap, nil_ap, seq_ap, if_ap, ifB_ap, tr_b, noD_ap, and_ap, or_ap, not_ap, chB_ap, tup_ap, lst_ap, eL_n, eL_c, call_ap, callX_ap, nox_ok, for_ap, iSeq_ap, seq_t, seq_l, iR1_ap, iR2_ap, name_ap, ok_bind, exc_bind, List.getElem?_cons_zero, List.getElem?_cons_succ, List.set_cons_zero, List.set_cons_succ, List.map_cons, List.map_nil, List.cons_append, List.nil_append, List.replicate_succ, List.replicate_zero, cnd_s, cnd_n, sorted_DZ (l := m) (by omega), tup_l, lparts_eq (isort m) h7]
  rw [e3]
theorem insP_snoc (pt : F → List F) (l ks : List F) (b : F) : insP pt l (ks ++ [b]) = insL (insP pt l ks) (pt b) := by simp [insP]
theorem turns_loop {P : Option PV} (n : Nat) (s t : Int) (hn : n ≤ 7) : ∃ s' t' ks U D O X, ks.length = n ∧ Good ks ∧ (∀ o ∈ ks, Small o) ∧
    forL (gName 5) bodyF ((List.range n).map fun (i : Nat) => .int i) [S s t, some (.int 7), some (.int 7), P, some (.dct []), none, none, none, none, none, none, none, none, none] = .ok (.next, [S s' t', some (.int 7), some (.int 7), P, some (DD (insP partsL [] ks)), U, none, none, D, O, X, none, none, none]) := by
  obtain ⟨ρ', e, s', t', ks, U, D, O, X, rfl, h1, h2, h3⟩ := for_inv (enc := fun (i : Nat) => PV.int i) (γ := gName 5) (s := bodyF)
    (fun done ρ => ∃ s t ks U D O X, ρ = [S s t, some (.int 7), some (.int 7), P, some (DD (insP partsL [] ks)), U, none, none, D, O, X, none, none, none] ∧ ks.length = done.length ∧ Good ks ∧ ∀ o ∈ ks, Small o) (List.range n) [] [S s t, some (.int 7), some (.int 7), P, some (.dct []), none, none, none, none, none, none, none, none, none]
    ⟨s, t, [], none, none, none, none, rfl, rfl, fun _ h => (by cases h), fun _ h => (by cases h)⟩ (fun d i r hd ρ hρ => by
      obtain ⟨s, t, ks, U, D, O, X, rfl, h1, h2, h3⟩ := hρ
      have hd' : d.length ≤ n := by
        have := congrArg List.length hd
        simp at this
        omega
      have hle := len_insP ks [] fun o ho => by have := (h3 o ho).1; omega
      obtain ⟨s2, t2, b, D', O', X', b1, b2, b3, e⟩ := bodyF_eq (P := P) (U := some (.int i)) (D := D) (O := O) (X := X) s t (l := insP partsL [] ks) (by simp at hle; omega)
      refine ⟨_, _, rfl, e, s2, t2, ks ++ [b], _, _, _, _, by rw [insP_snoc], by simp [h1], fun o ho => ?_, fun o ho => ?_⟩
      · rcases List.mem_append.1 ho with q | q
        · exact h2 o q
        · simp at q; subst q; exact ⟨b1, b2⟩
      · rcases List.mem_append.1 ho with q | q
        · exact h3 o q
        · simp at q; subst q; exact b3)
  simp only [List.nil_append, List.length_range] at h1
  exact ⟨s', t', ks, U, D, O, X, h1, h2, h3, e⟩
theorem drawn_kok {ks : List (List Int)} (h1 : 1 ≤ ks.length) (h7 : ks.length ≤ 7) (hk : Good ks) (hs : ∀ o ∈ ks, Small o) : Kok (cellsI leI (facesL ks)) := by
  have hn : (insP partsL [] ks).Nodup := nodup_insP List.nodup_nil
  have hc : Clo ks (facesL ks) := (clo_insP (fun _ _ => mem_partsL) hk).congr fun _ => mem_srt
  have hn2 : (facesL ks).Nodup := (ssd_srt (le := leI) hn).2
  have hD : ∀ o ∈ facesL ks, o ≠ [] ∧ Inc o ∧ o.length ≤ 4 := fun o ho => by
    obtain ⟨q1, q2, b, hb, hx⟩ := (hc o).1 ho
    exact ⟨q1, q2, Nat.le_trans (inc_sublist q2 (hk b hb).2 hx).length_le (hs b hb).1⟩
  have hc2 : Clo (cellsI leI (facesL ks)) (facesL ks) := clo_max hc hk (fun o ho => (hs o ho).1) fun x => mem_cellsI
  have good : Good (cellsI leI (facesL ks)) := fun o ho => ⟨(hD o (mem_cellsI.1 ho).1).1, (hD o (mem_cellsI.1 ho).1).2.1⟩
  refine { good := good, four := fun o ho => (hD o (mem_cellsI.1 ho).1).2.2, few := ?_, ssd := ssd_cellsI hn2, anti := anti_cellsI, ne := fun e => ?_ }
  · have c3 : Clo (cellsI leI (facesL ks)) (insP partsL [] (cellsI leI (facesL ks))) := clo_insP (fun _ _ => mem_partsL) good
    exact Nat.le_trans (List.Nodup.length_le_of_subset (nodup_insP List.nodup_nil) fun x hx => (hc2 x).2 ((c3 x).1 hx)) (count63 hk hs h7 hc hn2)
  · match ks, h1 with
    | b :: ks, _ =>
      have hb : b ∈ facesL (b :: ks) := (hc b).2 ⟨(hk b (by simp)).1, (hk b (by simp)).2, b, by simp, fun _ h => h⟩
      obtain ⟨t, ht, m, _⟩ := ex_max (fun o ho => (hD o ho).2.2) 4 b hb (by omega)
      have : t ∈ cellsI leI (facesL (b :: ks)) := mem_cellsI.2 ⟨ht, m⟩
      rw [e] at this
      cases this
theorem s_next {a b : SS} {ρ ρ' : Mi.Env} (h : a ρ = .ok (.next, ρ')) : sSeq a b ρ = b ρ' := by unfold sSeq; rw [h]; rfl
theorem s_ret {a b : SS} {p : PV} {ρ ρ' : Mi.Env} (h : a ρ = .ok (.ret p, ρ')) : sSeq a b ρ = .ok (.ret p, ρ') := by unfold sSeq; rw [h]; rfl
theorem if_t {c : ES} {a b : SS} {ρ ρ' : Mi.Env} (h : c ρ = .ok (.bool true, ρ')) : sIf c a b ρ = a ρ' := by unfold sIf; rw [h]; rfl
theorem if_f {c : ES} {a b : SS} {ρ ρ' : Mi.Env} (h : c ρ = .ok (.bool false, ρ')) : sIf c a b ρ = b ρ' := by unfold sIf; rw [h]; rfl
theorem asg_ok {a : ES} {i : Nat} {p : PV} {ρ ρ' : Mi.Env} (h : a ρ = .ok (p, ρ')) : sAsg i a ρ = .ok (.next, ρ'.set i (some p)) := by unfold sAsg; rw [h]; rfl
theorem drawn_eq (s t : Int) : ∃ k s' t', m__law_drawn_cells [.int s, .int t] [.int 7, .int 7] = .ok (TT k, [.int s', .int t']) ∧ Kok k := by
  obtain ⟨v, s1, t1, e, v1, v2⟩ := callR_take (i := 0) (fs := [eK (.int 9)]) (ρ := [S s t, some (.int 7), some (.int 7), none, none, none, none, none, none, none, none, none, none, none]) (s := s) (t := t) (m := 9) rfl rfl (by decide) (by decide)
  have hlim : lim = 16777216 := rfl
  have c (i : Int) : e2 eqP (eVar 3) (eK (.int i)) [S s1 t1, some (.int 7), some (.int 7), some (.int v), none, none, none, none, none, none, none, none, none, none] = .ok (.bool (decide (v = i)), [S s1 t1, some (.int 7), some (.int 7), some (.int v), none, none, none, none, none, none, none, none, none, none]) := by
    simp only [↓bind_bnd, ok_bnd, exc_bnd, v_ap, k_ap, e1_ap, e2_ap, ret_ap, expr_ap, asg_ap, nil_ap, seq_ap, if_ap, ifB_ap, tr_b, noD_ap, and_ap, or_ap, not_ap, chB_ap, tup_ap, lst_ap, eL_n, eL_c, call_ap, callX_ap, nox_ok, for_ap, iSeq_ap, seq_t, seq_l, iR1_ap, iR2_ap, name_ap, ok_bind, exc_bind, List.getElem?_cons_zero, List.getElem?_cons_succ, List.set_cons_zero, List.set_cons_succ, List.map_cons, List.map_nil, List.cons_append, List.nil_append, List.replicate_succ, List.replicate_zero, cnd_s, cnd_n, eq_i]
  by_cases h0 : v = 0
  · have c0 := c 0
    rw [decide_eq_true h0] at c0
    subst h0
    refine ⟨K0, s1, t1, mkR_ok (((s_next (asg_ok e)).trans (s_ret ((if_t c0).trans pick0)))), K0_ok⟩
  have c0 := c 0
  rw [decide_eq_false h0] at c0
  by_cases h1 : v = 1
  · have c1 := c 1
    rw [decide_eq_true h1] at c1
    subst h1
    refine ⟨K1, s1, t1, mkR_ok ((s_next (asg_ok e)).trans ((s_next ((if_f c0).trans rfl)).trans (s_ret ((if_t c1).trans rfl)))), K1_ok⟩
  have c1 := c 1
  rw [decide_eq_false h1] at c1
  by_cases h2 : v = 2
  · have c2 := c 2
    rw [decide_eq_true h2] at c2
    subst h2
    obtain ⟨w, s2, t2, ew, w1, w2⟩ := callR_take (i := 0) (fs := [eK (.int 3)]) (ρ := [S s1 t1, some (.int 7), some (.int 7), some (.int 2), none, none, none, none, none, none, none, none, none, none]) (s := s1) (t := t1) (m := 3) rfl rfl (by decide) (by decide)
    have hw : (1 : Int) + w = ((w.toNat + 1 : Nat) : Int) := by omega
    have a7 : sAsg 7 (e2 addP (eK (.int 1)) (eCallR m__law_take 0 [(eK (.int 3))])) [S s1 t1, some (.int 7), some (.int 7), some (.int 2), none, none, none, none, none, none, none, none, none, none] = .ok (.next, [S s2 t2, some (.int 7), some (.int 7), some (.int 2), none, none, none, some (.int (w.toNat + 1 : Nat)), none, none, none, none, none, none]) := by
      simp only [↓bind_bnd, ok_bnd, exc_bnd, v_ap, k_ap, e1_ap, e2_ap, ret_ap, expr_ap, asg_ap, nil_ap, seq_ap, if_ap, ifB_ap, tr_b, noD_ap, and_ap, or_ap, not_ap, chB_ap, tup_ap, lst_ap, eL_n, eL_c, call_ap, callX_ap, nox_ok, for_ap, iSeq_ap, seq_t, seq_l, iR1_ap, iR2_ap, name_ap, ok_bind, exc_bind, List.getElem?_cons_zero, List.getElem?_cons_succ, List.set_cons_zero, List.set_cons_succ, List.map_cons, List.map_nil, List.cons_append, List.nil_append, List.replicate_succ, List.replicate_zero, cnd_s, cnd_n, ew, add_i, hw]
    refine ⟨K2 (w.toNat + 1 + 2), s2, t2, mkR_ok ((s_next (asg_ok e)).trans ((s_next ((if_f c0).trans rfl)).trans ((s_next ((if_f c1).trans rfl)).trans (s_ret ((if_t c2).trans ((s_next a7).trans (pick2 (by omega) (by omega)))))))), K2_ok _ (by omega) (by omega)⟩
  have c2 := c 2
  rw [decide_eq_false h2] at c2
  obtain ⟨w, s2, t2, ew, w1, w2⟩ := callR_take (i := 0) (fs := [eVar 2]) (ρ := [S s1 t1, some (.int 7), some (.int 7), some (.int v), some (.dct []), none, none, none, none, none, none, none, none, none]) (s := s1) (t := t1) (m := 7) rfl rfl (by decide) (by decide)
  have hw : (1 : Int) + w = ((w.toNat + 1 : Nat) : Int) := by omega
  obtain ⟨s3, t3, ks, U, D, O, X, k1, k2, k3, e3⟩ := turns_loop (P := some (.int v)) (w.toNat + 1) s2 t2 (by omega)
  have a4 : sAsg 4 (eK (.dct [])) [S s1 t1, some (.int 7), some (.int 7), some (.int v), none, none, none, none, none, none, none, none, none, none] = .ok (.next, [S s1 t1, some (.int 7), some (.int 7), some (.int v), some (.dct []), none, none, none, none, none, none, none, none, none]) := rfl
  have a5 : sFor (gName 5) (iR1 (e2 addP (eK (.int 1)) (eCallR m__law_take 0 [(eVar 2)]))) bodyF [S s1 t1, some (.int 7), some (.int 7), some (.int v), some (.dct []), none, none, none, none, none, none, none, none, none] = .ok (.next, [S s3 t3, some (.int 7), some (.int 7), some (.int v), some (DD (insP partsL [] ks)), U, none, none, D, O, X, none, none, none]) := by
    simp only [↓bind_bnd, ok_bnd, exc_bnd, v_ap, k_ap, e1_ap, e2_ap, ret_ap, expr_ap, asg_ap, nil_ap, seq_ap, if_ap, ifB_ap, tr_b, noD_ap, and_ap, or_ap, not_ap, chB_ap, tup_ap, lst_ap, eL_n, eL_c, call_ap, callX_ap, nox_ok, for_ap, iSeq_ap, seq_t, seq_l, iR1_ap, iR2_ap, name_ap, ok_bind, exc_bind, List.getElem?_cons_zero, List.getElem?_cons_succ, List.set_cons_zero, List.set_cons_succ, List.map_cons, List.map_nil, List.cons_append, List.nil_append, List.replicate_succ, List.replicate_zero, cnd_s, cnd_n, ew, add_i, rngC (n := w.toNat + 1) (by omega) _ hw]
    exact e3
  have hle := len_insP ks [] fun o ho => by have := (k3 o ho).1; omega
  simp at hle
  have hl2 : (facesL ks).length = (insP partsL [] ks).length := length_srt _
  have a6 : sRet (eCall m__law_cells_of [(e1 sortedD (eVar 4))]) [S s3 t3, some (.int 7), some (.int 7), some (.int v), some (DD (insP partsL [] ks)), U, none, none, D, O, X, none, none, none] =
      .ok (.ret (TT (cellsI leI (facesL ks))), [S s3 t3, some (.int 7), some (.int 7), some (.int v), some (DD (insP partsL [] ks)), U, none, none, D, O, X, none, none, none]) := by
    have hne := ne_insP (ks := ks) (l := []) (by simp)
    have hs := sorted_DD (l := insP partsL [] ks) hne (by omega)
    have hc := lcells_eq (p := LL (facesL ks)) (fs := facesL ks) rfl (fun f hf => hne f (mem_srt.1 hf)) (by omega)
    unfold facesL at hc ⊢
    simp only [↓bind_bnd, ok_bnd, exc_bnd, v_ap, k_ap, e1_ap, e2_ap, ret_ap, expr_ap, asg_ap, nil_ap, seq_ap, if_ap, ifB_ap, tr_b, noD_ap, and_ap, or_ap, not_ap, chB_ap, tup_ap, lst_ap, eL_n, eL_c, call_ap, callX_ap, nox_ok, for_ap, iSeq_ap, seq_t, seq_l, iR1_ap, iR2_ap, name_ap, ok_bind, exc_bind, List.getElem?_cons_zero, List.getElem?_cons_succ, List.set_cons_zero, List.set_cons_succ, List.map_cons, List.map_nil, List.cons_append, List.nil_append, List.replicate_succ, List.replicate_zero, cnd_s, cnd_n, hs, hc]
  refine ⟨cellsI leI (facesL ks), s3, t3, mkR_ok ((s_next (asg_ok e)).trans ((s_next ((if_f c0).trans rfl)).trans ((s_next ((if_f c1).trans rfl)).trans ((s_next ((if_f c2).trans rfl)).trans ((s_next a4).trans ((s_next a5).trans a6)))))), drawn_kok (by omega) (by omega) k2 k3⟩
end Pl

namespace Pl
open PySem Mi Pu K88
/-! slices -/
theorem stepL_map {α β : Type} (g : α → β) (xs : List α) (lo hi : Option Int) (st : Int) : HTx.stepL (xs.map g) lo hi st = (HTx.stepL xs lo hi st).map g := by
  unfold HTx.stepL
  rw [List.length_map, List.map_filterMap]
  congr 1
  funext m
  rw [List.getElem?_map]
theorem stepL_mem {α : Type} {xs : List α} {lo hi : Option Int} {st : Int} {x : α} (h : x ∈ HTx.stepL xs lo hi st) : x ∈ xs := by
  unfold HTx.stepL at h
  obtain ⟨m, _, e⟩ := List.mem_filterMap.1 h
  exact List.mem_of_getElem? e
theorem stepL_len {α : Type} (xs : List α) : (HTx.stepL xs none none (-1)).length ≤ xs.length := by
  unfold HTx.stepL
  refine Nat.le_trans (List.length_filterMap_le _ _) ?_
  rw [List.length_range]
  simp only [Builtin.Slice.sliceAdjust, Builtin.Slice.slicePlaces]
  simp
  split <;> omega
theorem rev_TT {k : List (List Int)} (h : k.length ≤ lim) : stepP (TT k) none none (-1) = .ok (TT (HTx.stepL k none none (-1))) := by
  unfold stepP
  simp only [TT, stepL_map, List.length_map]
  rw [if_pos ⟨by decide, by decide, Nat.le_trans (stepL_len k) h⟩]
theorem rev_T {k : List Int} (h : k.length ≤ lim) : stepP (T k) none none (-1) = .ok (T (HTx.stepL k none none (-1))) := by
  unfold stepP
  simp only [T, stepL_map, List.length_map]
  rw [if_pos ⟨by decide, by decide, Nat.le_trans (stepL_len k) h⟩]
theorem cutL_map {α β : Type} (g : α → β) (xs : List α) (lo hi : Option Int) : cutL (xs.map g) lo hi = (cutL xs lo hi).map g := by
  unfold cutL
  rw [List.map_take, List.map_drop, List.length_map]
theorem cutL_mem {α : Type} {xs : List α} {lo hi : Option Int} {x : α} (h : x ∈ cutL xs lo hi) : x ∈ xs := by
  unfold cutL at h
  exact List.mem_of_mem_drop (List.mem_of_mem_take h)
theorem cutL_len {α : Type} (xs : List α) (lo hi : Option Int) : (cutL xs lo hi).length ≤ xs.length := by
  unfold cutL
  rw [List.length_take, List.length_drop]
  omega
theorem cut_TT (k : List (List Int)) (lo hi : Option Int) : cutP (TT k) lo hi = .ok (TT (cutL k lo hi)) := by
  show Res.ok (PV.tup (cutL (k.map T) lo hi)) = _
  rw [cutL_map]
theorem cut_T (k : List Int) (lo hi : Option Int) : cutP (T k) lo hi = .ok (T (cutL k lo hi)) := by
  show Res.ok (PV.tup (cutL (k.map .int) lo hi)) = _
  rw [cutL_map]
theorem addTT {k l : List (List Int)} (h : k.length + l.length ≤ lim) : addP (TT k) (TT l) = .ok (TT (k ++ l)) := by
  unfold addP
  simp only [TT, List.length_map, List.map_append]
  rw [if_pos h]
theorem addT {k l : List Int} (h : k.length + l.length ≤ lim) : addP (T k) (T l) = .ok (T (k ++ l)) := by
  unfold addP
  simp only [T, List.length_map, List.map_append]
  rw [if_pos h]
/-! values that both judge alike -/
def Fine (v : PV) : Prop := ∃ b, m_is_cells [v] = .ok (.bool b) ∧ m__law_is_cells [v] = .ok (.bool b)
theorem fine_TT {fs : List (List Int)} (hf : ∀ f ∈ fs, f.length ≤ 100) (hl : fs.length ≤ 4000) : Fine (TT fs) := by
  refine ⟨cellsA HT.lexLt fs, is_cells_eq (fun f h => by have := hf f h; omega) hl, ?_⟩
  rw [cells_agree]
  exact lis_cells_eq (fun f h => by have := hf f h; omega) hl
theorem fine_l (xs : List PV) : Fine (.lst xs) := ⟨false, by kernel_rfl, by kernel_rfl⟩
theorem fine_n : Fine .non := ⟨false, by kernel_rfl, by kernel_rfl⟩
theorem fine_i (i : Int) : Fine (.int i) := ⟨false, by kernel_rfl, by kernel_rfl⟩
theorem fine_b : Fine (.tup [.tup [.bool true, .int 2]]) := ⟨false, by kernel_rfl, by kernel_rfl⟩
theorem fine_s : Fine (.tup [.tup [.str "0"]]) := ⟨false, by kernel_rfl, by kernel_rfl⟩
theorem fine_tl : Fine (.tup [.lst [.int 0, .int 1]]) := ⟨false, by kernel_rfl, by kernel_rfl⟩
theorem tupR1_eq {n : Nat} (h : n ≤ 100) : tupR1 (.int n) = .ok (T ((List.range n).map fun (i : Nat) => (i : Int))) := by
  unfold tupR1
  have : -(2 ^ 62) ≤ (n : Int) ∧ (n : Int) ≤ 16777216 := ⟨by omega, by omega⟩
  simp only [this, and_self, if_true, rangeL, Int.toNat_natCast, T, List.map_map]
  congr 2
  apply List.map_congr_left
  intro i _
  simp
theorem tupR2_eq : tupR2 (.int 7) (.int 14) = .ok (T [7, 8, 9, 10, 11, 12, 13]) := by
  unfold tupR2
  kernel_rfl
/-! the state in comprehensions -/
abbrev r7 : List Int := (List.range 7).map fun (i : Nat) => (i : Int)
abbrev r8 : List Int := (List.range 8).map fun (i : Nat) => (i : Int)
abbrev r714 : List Int := [7, 8, 9, 10, 11, 12, 13]
structure Kf (k : List (List Int)) (f : List Int) : Prop extends Kok k where
  fin : f ∈ facesL k
section
variable {k : List (List Int)}
theorem Kok.len (h : Kok k) : k.length ≤ 63 := by
  have q := h.toQ
  have h1 : k ⊆ facesL k := fun o ho => (q.clo o).2 ⟨(h.good o ho).1, (h.good o ho).2, o, ho, fun _ h => h⟩
  exact Nat.le_trans (h.ssd.2.length_le_of_subset h1) q.len
theorem Kok.fne (h : Kok k) : facesL k ≠ [] := by
  obtain ⟨o, ho⟩ := List.exists_mem_of_ne_nil k h.ne
  have h1 : o ∈ facesL k := (h.toQ.clo o).2 ⟨(h.good o ho).1, (h.good o ho).2, o, ho, fun _ h => h⟩
  intro e
  rw [e] at h1; cases h1
theorem Kok.tp1 (h : Kok k) : 1 ≤ tp k := by
  obtain ⟨o, ho⟩ := List.exists_mem_of_ne_nil k h.ne
  have h1 := le_tp ho
  have h2 := List.length_pos_iff.2 (h.good o ho).1
  omega
end
def vals (k : List (List Int)) (f : List Int) : List PV := [TT k, .lst (k.map T), TT (HTx.stepL k none none (-1)), TT (k ++ cutL k (some (-1)) none), TT (cutL k (some 1) none), TT (k ++ [f]), TT (srt leI (k ++ [f])), TT [], TT [[]], TT [[0, 1], [1, 2], [0, 16]], TT [[1, 0]], TT [[0, 0]]]
def valsB : List PV := [.tup [.tup [.bool true, .int 2]], .tup [.tup [.str "0"]], .non, .int 5, TT [[0, 1, 2, 3, 4, 5, 6, 7]], TT [r7], TT [r7, r714], .tup [.lst [.int 0, .int 1]]]
theorem vals_fine {k : List (List Int)} {f : List Int} (h : Kf k f) : ∀ v ∈ vals k f ++ valsB, Fine v := by
  have hl := h.toKok.len
  have h4 := h.four
  have hf4 : f.length ≤ 4 := Nat.le_trans (h.toQ.le f h.fin) h.toQ.tp4
  have hk : ∀ o ∈ k, o.length ≤ 100 := fun o ho => by have := h4 o ho; omega
  have hkf : ∀ o ∈ k ++ [f], o.length ≤ 100 := fun o ho => by
    rcases List.mem_append.1 ho with q | q
    · exact hk o q
    · simp at q; subst q; omega
  intro v hv
  simp only [vals, valsB, List.cons_append, List.nil_append, List.mem_cons, List.not_mem_nil, or_false] at hv
  rcases hv with e | e | e | e | e | e | e | e | e | e | e | e | e | e | e | e | e | e | e | e <;> subst e
  · exact fine_TT hk (by omega)
  · exact fine_l _
  · exact fine_TT (fun o ho => hk o (stepL_mem ho)) (by have := stepL_len k; omega)
  · refine fine_TT (fun o ho => ?_) (by have := cutL_len k (some (-1)) none; simp; omega)
    rcases List.mem_append.1 ho with q | q
    · exact hk o q
    · exact hk o (cutL_mem q)
  · exact fine_TT (fun o ho => hk o (cutL_mem ho)) (by have := cutL_len k (some 1) none; omega)
  · exact fine_TT hkf (by simp; omega)
  · exact fine_TT (fun o ho => hkf o (mem_srt.1 ho)) (by rw [length_srt]; simp; omega)
  · exact fine_TT (by decide) (by decide)
  · exact fine_TT (by decide) (by decide)
  · exact fine_TT (by decide) (by decide)
  · exact fine_TT (by decide) (by decide)
  · exact fine_TT (by decide) (by decide)
  · exact fine_b
  · exact fine_s
  · exact fine_n
  · exact fine_i 5
  · exact fine_TT (by decide) (by decide)
  · exact fine_TT (by decide) (by decide)
  · exact fine_TT (by decide) (by decide)
  · exact fine_tl
end Pl

namespace Pl
open PySem Mi Pu K88
section
variable {x0 x1 x2 x3 x4 x5 x6 x7 x8 x9 x10 x11 x12 x13 x14 x15 x16 x17 x18 : Option PV}
theorem l0 (ns : List Int) : ∃ s t, (sAsg 1 (eCall m__law_state [(eVar 0)])) [some (.scr (ns.map .int)), x1, x2, x3, x4, x5, x6, x7, x8, x9, x10, x11, x12, x13, x14, x15, x16, x17, x18] = .ok (.next, [some (.scr (ns.map .int)), S s t, x2, x3, x4, x5, x6, x7, x8, x9, x10, x11, x12, x13, x14, x15, x16, x17, x18]) := by
  obtain ⟨s, t, e⟩ := state_eq ns
  refine ⟨s, t, ?_⟩
  simp only [↓bind_bnd, ok_bnd, exc_bnd, v_ap, k_ap, e1_ap, e2_ap, ret_ap, expr_ap, asg_ap, nil_ap, seq_ap, if_ap, ifB_ap, tr_b, noD_ap, and_ap, or_ap, not_ap, chB_ap, tup_ap, lst_ap, eL_n, eL_c, call_ap, callX_ap, nox_ok, for_ap, iSeq_ap, seq_t, seq_l, iR1_ap, iR2_ap, name_ap, ok_bind, exc_bind, List.getElem?_cons_zero, List.getElem?_cons_succ, List.set_cons_zero, List.set_cons_succ, List.map_cons, List.map_nil, List.cons_append, List.nil_append, List.replicate_succ, List.replicate_zero, cnd_s, cnd_n, e]
theorem callR_ap {g : List PV → List PV → Res (PV × List PV)} {i : Nat} {fs : List ES} {ρ : Mi.Env} : eCallR g i fs ρ = (eVar i ρ >>= fun _ => eL fs ρ >>= fun r => eVar i r.2 >>= fun z => match z.1 with
    | .lst xs => (g xs r.1).nox >>= fun q => .ok (q.1, r.2.set i (some (.lst q.2)))
    | _ => .stuck) := Eq.trans rfl rfl
theorem l1 (s t : Int) : ∃ s' t' k, Kok k ∧ (sAsg 2 (eCallR m__law_drawn_cells 1 [(eK (.int 7)), (eK (.int 7))])) [x0, S s t, x2, x3, x4, x5, x6, x7, x8, x9, x10, x11, x12, x13, x14, x15, x16, x17, x18] = .ok (.next, [x0, S s' t', some (TT k), x3, x4, x5, x6, x7, x8, x9, x10, x11, x12, x13, x14, x15, x16, x17, x18]) := by
  obtain ⟨k, s', t', e, h⟩ := drawn_eq s t
  refine ⟨s', t', k, h, ?_⟩
  simp only [↓bind_bnd, ok_bnd, exc_bnd, v_ap, k_ap, e1_ap, e2_ap, ret_ap, expr_ap, asg_ap, nil_ap, seq_ap, if_ap, ifB_ap, tr_b, noD_ap, and_ap, or_ap, not_ap, chB_ap, tup_ap, lst_ap, eL_n, eL_c, call_ap, callX_ap, nox_ok, for_ap, iSeq_ap, seq_t, seq_l, iR1_ap, iR2_ap, name_ap, ok_bind, exc_bind, List.getElem?_cons_zero, List.getElem?_cons_succ, List.set_cons_zero, List.set_cons_succ, List.map_cons, List.map_nil, List.cons_append, List.nil_append, List.replicate_succ, List.replicate_zero, cnd_s, cnd_n, callR_ap, e]
theorem asgG_ap {g : GS} {a : ES} {ρ : Mi.Env} : sAsgG g a ρ = (a ρ >>= fun e => g e.1 e.2 >>= fun ρ1 => .ok (.next, ρ1)) := Eq.trans rfl rfl
theorem gtup2 {i j : Nat} {p q : PV} {ρ : Mi.Env} : gTupP [gName i, gName j] (.tup [p, q]) ρ = .ok ((ρ.set i (some p)).set j (some q)) := Eq.trans rfl rfl
theorem seven {k : List (List Int)} (h : Kok k) : ∀ f ∈ k, f.length ≤ 7 := fun f hf => by have := h.four f hf; omega
theorem l2 {k : List (List Int)} (h : Kok k) : (sAsgG (gTupP [(gName 13), (gName 14)]) (eTup [(eCall m__law_faces [(eVar 2)]), (eCall m__law_dimension [(eVar 2)])])) [x0, x1, some (TT k), x3, x4, x5, x6, x7, x8, x9, x10, x11, x12, x13, x14, x15, x16, x17, x18] = .ok (.next, [x0, x1, some (TT k), x3, x4, x5, x6, x7, x8, x9, x10, x11, x12, some (LL (facesL k)), some (.int ((tp k : Int) - 1)), x15, x16, x17, x18]) := by
  have hl := h.len
  have hlim : lim = 16777216 := rfl
  simp only [↓bind_bnd, ok_bnd, exc_bnd, v_ap, k_ap, e1_ap, e2_ap, ret_ap, expr_ap, asg_ap, nil_ap, seq_ap, if_ap, ifB_ap, tr_b, noD_ap, and_ap, or_ap, not_ap, chB_ap, tup_ap, lst_ap, eL_n, eL_c, call_ap, callX_ap, nox_ok, for_ap, iSeq_ap, seq_t, seq_l, iR1_ap, iR2_ap, name_ap, ok_bind, exc_bind, List.getElem?_cons_zero, List.getElem?_cons_succ, List.set_cons_zero, List.set_cons_succ, List.map_cons, List.map_nil, List.cons_append, List.nil_append, List.replicate_succ, List.replicate_zero, cnd_s, cnd_n, asgG_ap, lfaces_eq (p := TT k) rfl (seven h) (by omega), ldim_eq (k := k) (by omega), gtup2]
theorem Kok.flen {k : List (List Int)} (h : Kok k) : 1 ≤ (facesL k).length ∧ (facesL k).length ≤ 63 :=
  ⟨List.length_pos_iff.2 h.fne, h.toQ.len⟩
theorem idx_f {l : List (List Int)} {v : Int} (h0 : 0 ≤ v) (h1 : v < l.length) : ∃ f ∈ l, idxP (LL l) (.int v) = .ok (T f) := by
  have hv : v = ((v.toNat : Nat) : Int) := by omega
  have hlt : v.toNat < l.length := by omega
  refine ⟨l.getD v.toNat [], ?_, ?_⟩
  · rw [List.getD_eq_getElem?_getD, List.getElem?_eq_getElem hlt]
    exact List.getElem_mem hlt
  · rw [hv]
    exact idx_p (p := LL l) rfl (by simpa using hlt)
theorem l3 {k : List (List Int)} (h : Kok k) (s t : Int) : ∃ s' t' f, Kf k f ∧ (sAsg 3 (e2 idxP (eVar 13) (eCallR m__law_take 1 [(e1 lenS (eVar 13))]))) [x0, S s t, x2, x3, x4, x5, x6, x7, x8, x9, x10, x11, x12, some (LL (facesL k)), x14, x15, x16, x17, x18] = .ok (.next, [x0, S s' t', x2, some (T f), x4, x5, x6, x7, x8, x9, x10, x11, x12, some (LL (facesL k)), x14, x15, x16, x17, x18]) := by
  obtain ⟨h1, h63⟩ := h.flen
  obtain ⟨v, s', t', e, v1, v2⟩ := callR_take (i := 1) (fs := [e1 lenS (eVar 13)]) (ρ := [x0, S s t, x2, x3, x4, x5, x6, x7, x8, x9, x10, x11, x12, some (LL (facesL k)), x14, x15, x16, x17, x18]) (s := s) (t := t) (m := (facesL k).length) rfl (by simp only [↓bind_bnd, ok_bnd, exc_bnd, v_ap, k_ap, e1_ap, e2_ap, ret_ap, expr_ap, asg_ap, nil_ap, seq_ap, if_ap, ifB_ap, tr_b, noD_ap, and_ap, or_ap, not_ap, chB_ap, tup_ap, lst_ap, eL_n, eL_c, call_ap, callX_ap, nox_ok, for_ap, iSeq_ap, seq_t, seq_l, iR1_ap, iR2_ap, name_ap, ok_bind, exc_bind, List.getElem?_cons_zero, List.getElem?_cons_succ, List.set_cons_zero, List.set_cons_succ, List.map_cons, List.map_nil, List.cons_append, List.nil_append, List.replicate_succ, List.replicate_zero, cnd_s, cnd_n, len_LL]) (by omega) (by omega)
  obtain ⟨f, hf, ef⟩ := idx_f v1 v2
  refine ⟨s', t', f, { toKok := h, fin := hf }, ?_⟩
  simp only [↓bind_bnd, ok_bnd, exc_bnd, v_ap, k_ap, e1_ap, e2_ap, ret_ap, expr_ap, asg_ap, nil_ap, seq_ap, if_ap, ifB_ap, tr_b, noD_ap, and_ap, or_ap, not_ap, chB_ap, tup_ap, lst_ap, eL_n, eL_c, call_ap, callX_ap, nox_ok, for_ap, iSeq_ap, seq_t, seq_l, iR1_ap, iR2_ap, name_ap, ok_bind, exc_bind, List.getElem?_cons_zero, List.getElem?_cons_succ, List.set_cons_zero, List.set_cons_succ, List.map_cons, List.map_nil, List.cons_append, List.nil_append, List.replicate_succ, List.replicate_zero, cnd_s, cnd_n, e, ef]
theorem opt_n {ρ : Mi.Env} : optE none ρ = .ok (none, ρ) := Eq.trans rfl rfl
theorem opt_s {f : ES} {ρ : Mi.Env} : optE (some f) ρ = (f ρ >>= fun r => match r.1 with | .int i => .ok (some i, r.2) | _ => .stuck) := Eq.trans rfl rfl
theorem sl_ap {fa : ES} {lo hi : Option ES} {ρ : Mi.Env} : eSl fa lo hi ρ = (fa ρ >>= fun r => optE lo r.2 >>= fun u => optE hi u.2 >>= fun w => cutP r.1 u.1 w.1 >>= fun p => .ok (p, w.2)) := Eq.trans rfl rfl
theorem slS_ap {fa : ES} {lo hi : Option ES} {st : Int} {ρ : Mi.Env} : eSlS fa lo hi st ρ = (fa ρ >>= fun r => optE lo r.2 >>= fun u => optE hi u.2 >>= fun w => stepP r.1 u.1 w.1 st >>= fun p => .ok (p, w.2)) := Eq.trans rfl rfl
theorem neg_ok (a : Int) : negP (.int a) = .ok (.int (-a)) := Eq.trans rfl rfl
theorem tup1 (f : List Int) : PV.tup [T f] = TT [f] := rfl
theorem tup1i (x : Int) : PV.tup [.int x] = T [x] := rfl
theorem l4 {k : List (List Int)} {f : List Int} (h : Kf k f) : (sAsg 4 (eLst [(eVar 2), (e1 listP (eVar 2)), (eSlS (eVar 2) none none (-1)), (e2 addP (eVar 2) (eSl (eVar 2) (some (e1 negP (eK (.int 1)))) none)), (eSl (eVar 2) (some (eK (.int 1))) none), (e2 addP (eVar 2) (eTup [(eVar 3)])), (e1 tupleP (e1 sortedA (e2 addP (eVar 2) (eTup [(eVar 3)])))), (eTup []), (eTup [(eTup [])]), (eTup [(eTup [(eK (.int 0)), (eK (.int 1))]), (eTup [(eK (.int 1)), (eK (.int 2))]), (eTup [(eK (.int 0)), (eK (.int 16))])]), (eTup [(eTup [(eK (.int 1)), (eK (.int 0))])]), (eTup [(eTup [(eK (.int 0)), (eK (.int 0))])])])) [x0, x1, some (TT k), some (T f), x4, x5, x6, x7, x8, x9, x10, x11, x12, x13, x14, x15, x16, x17, x18] = .ok (.next, [x0, x1, some (TT k), some (T f), some (.lst (vals k f)), x5, x6, x7, x8, x9, x10, x11, x12, x13, x14, x15, x16, x17, x18]) := by
  have hl := h.toKok.len
  have hlim : lim = 16777216 := rfl
  have hc := cutL_len k (some (-1)) none
  have hne : ∀ o ∈ k ++ [f], o ≠ [] := fun o ho => by
    rcases List.mem_append.1 ho with q | q
    · exact (h.good o q).1
    · simp at q; subst q; exact h.toQ.ne _ h.fin
  simp only [↓bind_bnd, ok_bnd, exc_bnd, v_ap, k_ap, e1_ap, e2_ap, ret_ap, expr_ap, asg_ap, nil_ap, seq_ap, if_ap, ifB_ap, tr_b, noD_ap, and_ap, or_ap, not_ap, chB_ap, tup_ap, lst_ap, eL_n, eL_c, call_ap, callX_ap, nox_ok, for_ap, iSeq_ap, seq_t, seq_l, iR1_ap, iR2_ap, name_ap, ok_bind, exc_bind, List.getElem?_cons_zero, List.getElem?_cons_succ, List.set_cons_zero, List.set_cons_succ, List.map_cons, List.map_nil, List.cons_append, List.nil_append, List.replicate_succ, List.replicate_zero, cnd_s, cnd_n, list_t, slS_ap, sl_ap, opt_n, opt_s, neg_ok, rev_TT (k := k) (by omega), cut_TT, addTT (k := k) (l := cutL k (some (-1)) none) (by omega), tup1, addTT (k := k) (l := [f]) (by simp; omega), sorted_TT hne, tup_l]
  rfl
theorem l5 {k : List (List Int)} {f : List Int} : (sAsg 4 (e2 addP (eVar 4) (eLst [(eTup [(eTup [(eK (.bool true)), (eK (.int 2))])]), (eTup [(eTup [(eK (.str "0"))])]), (eK .non), (eK (.int 5)), (eTup [(eTup [(eK (.int 0)), (eK (.int 1)), (eK (.int 2)), (eK (.int 3)), (eK (.int 4)), (eK (.int 5)), (eK (.int 6)), (eK (.int 7))])]), (eTup [(e1 tupR1 (eK (.int 7)))]), (eTup [(e1 tupR1 (eK (.int 7))), (e2 tupR2 (eK (.int 7)) (eK (.int 14)))]), (eTup [(eLst [(eK (.int 0)), (eK (.int 1))])])]))) [x0, x1, x2, x3, some (.lst (vals k f)), x5, x6, x7, x8, x9, x10, x11, x12, x13, x14, x15, x16, x17, x18] = .ok (.next, [x0, x1, x2, x3, some (.lst (vals k f ++ valsB)), x5, x6, x7, x8, x9, x10, x11, x12, x13, x14, x15, x16, x17, x18]) := by
  have h7 := tupR1_eq (n := 7) (by decide)
  have e7 : ((7 : Nat) : Int) = 7 := rfl
  rw [e7] at h7
  have ha : addP (.lst (vals k f)) (.lst valsB) = .ok (.lst (vals k f ++ valsB)) := by
    unfold addP
    simp only []
    rw [if_pos (by show 12 + 8 ≤ 16777216; decide)]
  have hv : valsB = [.tup [.tup [.bool true, .int 2]], .tup [.tup [.str "0"]], .non, .int 5, .tup [.tup [.int 0, .int 1, .int 2, .int 3, .int 4, .int 5, .int 6, .int 7]], .tup [T r7], .tup [T r7, T r714], .tup [.lst [.int 0, .int 1]]] := rfl
  rw [hv] at ha ⊢
  simp only [↓bind_bnd, ok_bnd, exc_bnd, v_ap, k_ap, e1_ap, e2_ap, ret_ap, expr_ap, asg_ap, nil_ap, seq_ap, if_ap, ifB_ap, tr_b, noD_ap, and_ap, or_ap, not_ap, chB_ap, tup_ap, lst_ap, eL_n, eL_c, call_ap, callX_ap, nox_ok, for_ap, iSeq_ap, seq_t, seq_l, iR1_ap, iR2_ap, name_ap, ok_bind, exc_bind, List.getElem?_cons_zero, List.getElem?_cons_succ, List.set_cons_zero, List.set_cons_succ, List.map_cons, List.map_nil, List.cons_append, List.nil_append, List.replicate_succ, List.replicate_zero, cnd_s, cnd_n, h7, tupR2_eq]
  rw [ha]
  simp only [↓bind_bnd, ok_bnd, exc_bnd, v_ap, k_ap, e1_ap, e2_ap, ret_ap, expr_ap, asg_ap, nil_ap, seq_ap, if_ap, ifB_ap, tr_b, noD_ap, and_ap, or_ap, not_ap, chB_ap, tup_ap, lst_ap, eL_n, eL_c, call_ap, callX_ap, nox_ok, for_ap, iSeq_ap, seq_t, seq_l, iR1_ap, iR2_ap, name_ap, ok_bind, exc_bind, List.getElem?_cons_zero, List.getElem?_cons_succ, List.set_cons_zero, List.set_cons_succ, List.map_cons, List.map_nil, List.cons_append, List.nil_append, List.replicate_succ, List.replicate_zero, cnd_s, cnd_n]
theorem l6 {k : List (List Int)} {f : List Int} (h : Kf k f) : ∃ y, (sFor (gName 5) (iSeq (eVar 4)) (sIf (eNotB (noD (eCall m__law_says [(eCall m_is_cells [(eVar 5)]), (eCall m__law_is_cells [(eVar 5)])]))) (sRet (eK (.bool false))) sNil)) [x0, x1, x2, x3, some (.lst (vals k f ++ valsB)), x5, x6, x7, x8, x9, x10, x11, x12, x13, x14, x15, x16, x17, x18] = .ok (.next, [x0, x1, x2, x3, some (.lst (vals k f ++ valsB)), y, x6, x7, x8, x9, x10, x11, x12, x13, x14, x15, x16, x17, x18]) := by
  simp only [↓bind_bnd, ok_bnd, exc_bnd, v_ap, k_ap, e1_ap, e2_ap, ret_ap, expr_ap, asg_ap, nil_ap, seq_ap, if_ap, ifB_ap, tr_b, noD_ap, and_ap, or_ap, not_ap, chB_ap, tup_ap, lst_ap, eL_n, eL_c, call_ap, callX_ap, nox_ok, for_ap, iSeq_ap, seq_t, seq_l, iR1_ap, iR2_ap, name_ap, ok_bind, exc_bind, List.getElem?_cons_zero, List.getElem?_cons_succ, List.set_cons_zero, List.set_cons_succ, List.map_cons, List.map_nil, List.cons_append, List.nil_append, List.replicate_succ, List.replicate_zero, cnd_s, cnd_n]
  have := for_all (enc := fun v => v) (γ := gName 5) (r := .bool false) (s := sIf (eNotB (noD (eCall m__law_says [(eCall m_is_cells [(eVar 5)]), (eCall m__law_is_cells [(eVar 5)])]))) (sRet (eK (.bool false))) sNil) (fun _ => true)
    (fun ρ => ∃ y, ρ = [x0, x1, x2, x3, some (.lst (vals k f ++ valsB)), y, x6, x7, x8, x9, x10, x11, x12, x13, x14, x15, x16, x17, x18]) (vals k f ++ valsB) (fun v hv ρ hρ => by
      obtain ⟨y, rfl⟩ := hρ
      obtain ⟨b, b1, b2⟩ := vals_fine h v hv
      refine ⟨[x0, x1, x2, x3, some (.lst (vals k f ++ valsB)), some v, x6, x7, x8, x9, x10, x11, x12, x13, x14, x15, x16, x17, x18], rfl, .inl ⟨rfl, [x0, x1, x2, x3, some (.lst (vals k f ++ valsB)), some v, x6, x7, x8, x9, x10, x11, x12, x13, x14, x15, x16, x17, x18], ?_, _, rfl⟩⟩
      simp only [↓bind_bnd, ok_bnd, exc_bnd, v_ap, k_ap, e1_ap, e2_ap, ret_ap, expr_ap, asg_ap, nil_ap, seq_ap, if_ap, ifB_ap, tr_b, noD_ap, and_ap, or_ap, not_ap, chB_ap, tup_ap, lst_ap, eL_n, eL_c, call_ap, callX_ap, nox_ok, for_ap, iSeq_ap, seq_t, seq_l, iR1_ap, iR2_ap, name_ap, ok_bind, exc_bind, List.getElem?_cons_zero, List.getElem?_cons_succ, List.set_cons_zero, List.set_cons_succ, List.map_cons, List.map_nil, List.cons_append, List.nil_append, List.replicate_succ, List.replicate_zero, cnd_s, cnd_n, b1, b2, says_b, Bool.not_true, Bool.false_eq_true, if_false]) [x0, x1, x2, x3, some (.lst (vals k f ++ valsB)), x5, x6, x7, x8, x9, x10, x11, x12, x13, x14, x15, x16, x17, x18] ⟨_, rfl⟩
  rw [List.map_id'] at this
  rcases this with ⟨_, ρ', e, y, rfl⟩ | ⟨q, _⟩
  · exact ⟨y, e⟩
  · simp at q
end
end Pl

namespace Pl
open PySem Mi Pu K88
def Fine2 (k : List (List Int)) (v : PV) : Prop := ∃ b c, m_is_face [TT k, v] = .ok (.bool b) ∧ m__law_is_block [v] = .ok (.bool c) ∧ ((c = false ∧ b = false) ∨ (c = true ∧ inP v (LL (facesL k)) = .ok (.bool b)))
theorem fine2_T {k : List (List Int)} (h : Kok k) {g : List Int} (hl : g.length ≤ 100) : Fine2 k (T g) := by
  refine ⟨_, _, is_face_eq (by omega), lblock_eq g (by omega), ?_⟩
  cases e : isBlk g with
  | false => exact .inl ⟨rfl, rfl⟩
  | true =>
    refine .inr ⟨rfl, ?_⟩
    rw [in_tup g (facesL k) (LL (facesL k)) rfl]
    congr 2
    obtain ⟨h1, _, h3⟩ := isBlk_iff.1 e
    rw [Bool.true_and, Bool.eq_iff_iff, List.contains_iff_mem, h.toQ.clo g, List.any_eq_true]
    constructor
    · rintro ⟨_, _, o, ho, hx⟩
      exact ⟨o, ho, sub_iff.2 hx⟩
    · rintro ⟨o, ho, hx⟩
      exact ⟨h1, h3, o, ho, sub_iff.1 hx⟩
theorem fine2_l {k : List (List Int)} (xs : List PV) : Fine2 k (.lst xs) := ⟨false, false, by kernel_rfl, by kernel_rfl, .inl ⟨rfl, rfl⟩⟩
theorem fine2_n {k : List (List Int)} : Fine2 k .non := ⟨false, false, by kernel_rfl, by kernel_rfl, .inl ⟨rfl, rfl⟩⟩
theorem fine2_i {k : List (List Int)} (i : Int) : Fine2 k (.int i) := ⟨false, false, by kernel_rfl, by kernel_rfl, .inl ⟨rfl, rfl⟩⟩
theorem fine2_b {k : List (List Int)} : Fine2 k (.tup [.bool true]) := ⟨false, false, by kernel_rfl, by kernel_rfl, .inl ⟨rfl, rfl⟩⟩
def fvals (f : List Int) : List PV := [T f, T (HTx.stepL f none none (-1)), T (f ++ [15]), .lst (f.map .int), T [], .non, .int 5, .tup [.bool true], T (cutL f none (some 1)), T [8, 9]]
theorem Kf.f4 {k : List (List Int)} {f : List Int} (h : Kf k f) : f.length ≤ 4 := Nat.le_trans (h.toQ.le f h.fin) h.toQ.tp4
theorem fvals_fine {k : List (List Int)} {f : List Int} (h : Kf k f) : ∀ v ∈ fvals f, Fine2 k v := by
  have hf4 := h.f4
  intro v hv
  simp only [fvals, List.mem_cons, List.not_mem_nil, or_false] at hv
  rcases hv with e | e | e | e | e | e | e | e | e | e <;> subst e
  · exact fine2_T h.toKok (by omega)
  · exact fine2_T h.toKok (by have := stepL_len f; omega)
  · exact fine2_T h.toKok (by simp; omega)
  · exact fine2_l _
  · exact fine2_T h.toKok (by simp)
  · exact fine2_n
  · exact fine2_i 5
  · exact fine2_b
  · exact fine2_T h.toKok (by have := cutL_len f none (some 1); omega)
  · exact fine2_T h.toKok (by simp)
section
variable {x0 x1 x2 x3 x4 x5 x6 x7 x8 x9 x10 x11 x12 x13 x14 x15 x16 x17 x18 : Option PV}
theorem for_list {vs : List PV} {i : Nat} {s : SS} {it : IS} {ρ ρ1 : Mi.Env} (J : Mi.Env → Prop) (hi : it ρ = .ok (vs, ρ1)) (j : J ρ1) (h : ∀ v ∈ vs, ∀ ρ, J ρ → ∃ ρ2, s (ρ.set i (some v)) = .ok (.next, ρ2) ∧ J ρ2) : ∃ ρ2, sFor (gName i) it s ρ = .ok (.next, ρ2) ∧ J ρ2 := by
  have := for_all (enc := fun v => v) (γ := gName i) (r := .bool false) (s := s) (fun _ => true) J vs (fun v hv ρ hρ => by
      obtain ⟨ρ2, e, j⟩ := h v hv ρ hρ
      exact ⟨_, rfl, .inl ⟨rfl, ρ2, e, j⟩⟩) ρ1 j
  rw [List.map_id'] at this
  rw [for_ap, hi]
  simp only [ok_bind, ok_bnd]
  rcases this with ⟨_, ρ', e, j⟩ | ⟨q, _⟩
  · exact ⟨ρ', e, j⟩
  · simp at q
theorem l7 {k : List (List Int)} {f : List Int} (h : Kf k f) : ∃ y, (sFor (gName 5) (iSeq (eLst [(eVar 3), (eSlS (eVar 3) none none (-1)), (e2 addP (eVar 3) (eTup [(eK (.int 15))])), (e1 listP (eVar 3)), (eTup []), (eK .non), (eK (.int 5)), (eTup [(eK (.bool true))]), (eSl (eVar 3) none (some (eK (.int 1)))), (eTup [(eK (.int 8)), (eK (.int 9))])])) (sIf (eNotB (noD (eCall m__law_says [(eCall m_is_face [(eVar 2), (eVar 5)]), (eAndB (eCall m__law_is_block [(eVar 5)]) (e2 inP (eVar 5) (eVar 13)))]))) (sRet (eK (.bool false))) sNil)) [x0, x1, some (TT k), some (T f), x4, x5, x6, x7, x8, x9, x10, x11, x12, some (LL (facesL k)), x14, x15, x16, x17, x18] = .ok (.next, [x0, x1, some (TT k), some (T f), x4, y, x6, x7, x8, x9, x10, x11, x12, some (LL (facesL k)), x14, x15, x16, x17, x18]) := by
  have hf4 := h.f4
  have hlim : lim = 16777216 := rfl
  obtain ⟨ρ2, e, y, rfl⟩ := for_list (i := 5) (ρ := [x0, x1, some (TT k), some (T f), x4, x5, x6, x7, x8, x9, x10, x11, x12, some (LL (facesL k)), x14, x15, x16, x17, x18]) (vs := fvals f) (it := iSeq (eLst [(eVar 3), (eSlS (eVar 3) none none (-1)), (e2 addP (eVar 3) (eTup [(eK (.int 15))])), (e1 listP (eVar 3)), (eTup []), (eK .non), (eK (.int 5)), (eTup [(eK (.bool true))]), (eSl (eVar 3) none (some (eK (.int 1)))), (eTup [(eK (.int 8)), (eK (.int 9))])]))
      (s := (sIf (eNotB (noD (eCall m__law_says [(eCall m_is_face [(eVar 2), (eVar 5)]), (eAndB (eCall m__law_is_block [(eVar 5)]) (e2 inP (eVar 5) (eVar 13)))]))) (sRet (eK (.bool false))) sNil))
      (fun ρ => ∃ y, ρ = [x0, x1, some (TT k), some (T f), x4, y, x6, x7, x8, x9, x10, x11, x12, some (LL (facesL k)), x14, x15, x16, x17, x18]) (by
        simp only [↓bind_bnd, ok_bnd, exc_bnd, v_ap, k_ap, e1_ap, e2_ap, ret_ap, expr_ap, asg_ap, nil_ap, seq_ap, if_ap, ifB_ap, tr_b, noD_ap, and_ap, or_ap, not_ap, chB_ap, tup_ap, lst_ap, eL_n, eL_c, call_ap, callX_ap, nox_ok, for_ap, iSeq_ap, seq_t, seq_l, iR1_ap, iR2_ap, name_ap, ok_bind, exc_bind, List.getElem?_cons_zero, List.getElem?_cons_succ, List.set_cons_zero, List.set_cons_succ, List.map_cons, List.map_nil, List.cons_append, List.nil_append, List.replicate_succ, List.replicate_zero, cnd_s, cnd_n, list_t, slS_ap, sl_ap, opt_n, opt_s, rev_T (k := f) (by omega), cut_T, tup1i, addT (k := f) (l := [15]) (by simp; omega)]
        rfl) ⟨_, rfl⟩ (fun v hv ρ hρ => by
      obtain ⟨y, rfl⟩ := hρ
      obtain ⟨b, c, h1, h2, h3⟩ := fvals_fine h v hv
      refine ⟨[x0, x1, some (TT k), some (T f), x4, some v, x6, x7, x8, x9, x10, x11, x12, some (LL (facesL k)), x14, x15, x16, x17, x18], ?_, _, rfl⟩
      rcases h3 with ⟨rfl, rfl⟩ | ⟨rfl, h3⟩
      · simp only [↓bind_bnd, ok_bnd, exc_bnd, v_ap, k_ap, e1_ap, e2_ap, ret_ap, expr_ap, asg_ap, nil_ap, seq_ap, if_ap, ifB_ap, tr_b, noD_ap, and_ap, or_ap, not_ap, chB_ap, tup_ap, lst_ap, eL_n, eL_c, call_ap, callX_ap, nox_ok, for_ap, iSeq_ap, seq_t, seq_l, iR1_ap, iR2_ap, name_ap, ok_bind, exc_bind, List.getElem?_cons_zero, List.getElem?_cons_succ, List.set_cons_zero, List.set_cons_succ, List.map_cons, List.map_nil, List.cons_append, List.nil_append, List.replicate_succ, List.replicate_zero, cnd_s, cnd_n, h1, h2, says_b, Bool.not_true, Bool.false_eq_true, if_false]
      · simp only [↓bind_bnd, ok_bnd, exc_bnd, v_ap, k_ap, e1_ap, e2_ap, ret_ap, expr_ap, asg_ap, nil_ap, seq_ap, if_ap, ifB_ap, tr_b, noD_ap, and_ap, or_ap, not_ap, chB_ap, tup_ap, lst_ap, eL_n, eL_c, call_ap, callX_ap, nox_ok, for_ap, iSeq_ap, seq_t, seq_l, iR1_ap, iR2_ap, name_ap, ok_bind, exc_bind, List.getElem?_cons_zero, List.getElem?_cons_succ, List.set_cons_zero, List.set_cons_succ, List.map_cons, List.map_nil, List.cons_append, List.nil_append, List.replicate_succ, List.replicate_zero, cnd_s, cnd_n, h1, h2, h3, says_b, Bool.not_true, Bool.false_eq_true, if_false])
  exact ⟨y, e⟩
theorem some_loop {k : List (List Int)} (h : Kok k) : ∀ (xs : List PV) (s t : Int), ∃ s' t', ∃ sm : List (List Int), sm.length = xs.length ∧ (∀ g ∈ sm, g ∈ facesL k) ∧
    compL (gName 18) none (e2 idxP (eVar 13) (eCallR m__law_take 1 [(e1 lenS (eVar 13))])) [18] xs [x0, S s t, x2, x3, x4, x5, x6, x7, x8, x9, x10, x11, x12, some (LL (facesL k)), x14, x15, x16, x17, none] = .ok (sm.map T, [x0, S s' t', x2, x3, x4, x5, x6, x7, x8, x9, x10, x11, x12, some (LL (facesL k)), x14, x15, x16, x17, none])
  | [], s, t => ⟨s, t, [], rfl, fun _ h => (by cases h), rfl⟩
  | x :: xs, s, t => by
    obtain ⟨h1, h63⟩ := h.flen
    obtain ⟨v, s1, t1, e, v1, v2⟩ := callR_take (i := 1) (fs := [e1 lenS (eVar 13)]) (ρ := [x0, S s t, x2, x3, x4, x5, x6, x7, x8, x9, x10, x11, x12, some (LL (facesL k)), x14, x15, x16, x17, some x]) (s := s) (t := t) (m := (facesL k).length) rfl (by simp only [↓bind_bnd, ok_bnd, exc_bnd, v_ap, k_ap, e1_ap, e2_ap, ret_ap, expr_ap, asg_ap, nil_ap, seq_ap, if_ap, ifB_ap, tr_b, noD_ap, and_ap, or_ap, not_ap, chB_ap, tup_ap, lst_ap, eL_n, eL_c, call_ap, callX_ap, nox_ok, for_ap, iSeq_ap, seq_t, seq_l, iR1_ap, iR2_ap, name_ap, ok_bind, exc_bind, List.getElem?_cons_zero, List.getElem?_cons_succ, List.set_cons_zero, List.set_cons_succ, List.map_cons, List.map_nil, List.cons_append, List.nil_append, List.replicate_succ, List.replicate_zero, cnd_s, cnd_n, len_LL]) (by omega) (by omega)
    obtain ⟨g, hg, eg⟩ := idx_f v1 v2
    obtain ⟨s2, t2, sm, l, m, ih⟩ := some_loop h xs s1 t1
    refine ⟨s2, t2, g :: sm, by simp [l], fun y hy => ?_, ?_⟩
    · rcases List.mem_cons.1 hy with q | q
      · subst q; exact hg
      · exact m y q
    · unfold compL
      simp only [↓bind_bnd, ok_bnd, exc_bnd, v_ap, k_ap, e1_ap, e2_ap, ret_ap, expr_ap, asg_ap, nil_ap, seq_ap, if_ap, ifB_ap, tr_b, noD_ap, and_ap, or_ap, not_ap, chB_ap, tup_ap, lst_ap, eL_n, eL_c, call_ap, callX_ap, nox_ok, for_ap, iSeq_ap, seq_t, seq_l, iR1_ap, iR2_ap, name_ap, ok_bind, exc_bind, List.getElem?_cons_zero, List.getElem?_cons_succ, List.set_cons_zero, List.set_cons_succ, List.map_cons, List.map_nil, List.cons_append, List.nil_append, List.replicate_succ, List.replicate_zero, cnd_s, cnd_n, e, eg, if_true, wipeE]
      rw [ih]
      simp only [↓bind_bnd, ok_bnd, exc_bnd, v_ap, k_ap, e1_ap, e2_ap, ret_ap, expr_ap, asg_ap, nil_ap, seq_ap, if_ap, ifB_ap, tr_b, noD_ap, and_ap, or_ap, not_ap, chB_ap, tup_ap, lst_ap, eL_n, eL_c, call_ap, callX_ap, nox_ok, for_ap, iSeq_ap, seq_t, seq_l, iR1_ap, iR2_ap, name_ap, ok_bind, exc_bind, List.getElem?_cons_zero, List.getElem?_cons_succ, List.set_cons_zero, List.set_cons_succ, List.map_cons, List.map_nil, List.cons_append, List.nil_append, List.replicate_succ, List.replicate_zero, cnd_s, cnd_n]
theorem l8 {k : List (List Int)} (h : Kok k) (s t : Int) : ∃ s' t', ∃ sm : List (List Int), sm.length ≤ 5 ∧ (∀ g ∈ sm, g ∈ facesL k) ∧ (sAsg 6 (e1 tupleP (eComp (gName 18) none (e2 idxP (eVar 13) (eCallR m__law_take 1 [(e1 lenS (eVar 13))])) [18] (iR1 (eCallR m__law_take 1 [(eK (.int 6))]))))) [x0, S s t, x2, x3, x4, x5, x6, x7, x8, x9, x10, x11, x12, some (LL (facesL k)), x14, x15, x16, x17, x18] = .ok (.next, [x0, S s' t', x2, x3, x4, x5, some (TT sm), x7, x8, x9, x10, x11, x12, some (LL (facesL k)), x14, x15, x16, x17, x18]) := by
  obtain ⟨v, s1, t1, e, v1, v2⟩ := callR_take (i := 1) (fs := [eK (.int 6)]) (ρ := [x0, S s t, x2, x3, x4, x5, x6, x7, x8, x9, x10, x11, x12, some (LL (facesL k)), x14, x15, x16, x17, x18]) (s := s) (t := t) (m := 6) rfl rfl (by decide) (by decide)
  obtain ⟨s2, t2, sm, l, m, ih⟩ := some_loop (x0 := x0) (x2 := x2) (x3 := x3) (x4 := x4) (x5 := x5) (x6 := x6) (x7 := x7) (x8 := x8) (x9 := x9) (x10 := x10) (x11 := x11) (x12 := x12) (x14 := x14) (x15 := x15) (x16 := x16) (x17 := x17) h ((List.range v.toNat).map fun (i : Nat) => .int i) s1 t1
  have hv : v = ((v.toNat : Nat) : Int) := by omega
  refine ⟨s2, t2, sm, by simp at l; omega, m, ?_⟩
  simp only [↓bind_bnd, ok_bnd, exc_bnd, v_ap, k_ap, e1_ap, e2_ap, ret_ap, expr_ap, asg_ap, nil_ap, seq_ap, if_ap, ifB_ap, tr_b, noD_ap, and_ap, or_ap, not_ap, chB_ap, tup_ap, lst_ap, eL_n, eL_c, call_ap, callX_ap, nox_ok, for_ap, iSeq_ap, seq_t, seq_l, iR1_ap, iR2_ap, name_ap, ok_bind, exc_bind, List.getElem?_cons_zero, List.getElem?_cons_succ, List.set_cons_zero, List.set_cons_succ, List.map_cons, List.map_nil, List.cons_append, List.nil_append, List.replicate_succ, List.replicate_zero, cnd_s, cnd_n]
  unfold eComp
  simp only [↓bind_bnd, ok_bnd, exc_bnd, v_ap, k_ap, e1_ap, e2_ap, ret_ap, expr_ap, asg_ap, nil_ap, seq_ap, if_ap, ifB_ap, tr_b, noD_ap, and_ap, or_ap, not_ap, chB_ap, tup_ap, lst_ap, eL_n, eL_c, call_ap, callX_ap, nox_ok, for_ap, iSeq_ap, seq_t, seq_l, iR1_ap, iR2_ap, name_ap, ok_bind, exc_bind, List.getElem?_cons_zero, List.getElem?_cons_succ, List.set_cons_zero, List.set_cons_succ, List.map_cons, List.map_nil, List.cons_append, List.nil_append, List.replicate_succ, List.replicate_zero, cnd_s, cnd_n, e, rngC (n := v.toNat) (by omega) v hv, wipeE]
  rw [ih]
  simp only [↓bind_bnd, ok_bnd, exc_bnd, v_ap, k_ap, e1_ap, e2_ap, ret_ap, expr_ap, asg_ap, nil_ap, seq_ap, if_ap, ifB_ap, tr_b, noD_ap, and_ap, or_ap, not_ap, chB_ap, tup_ap, lst_ap, eL_n, eL_c, call_ap, callX_ap, nox_ok, for_ap, iSeq_ap, seq_t, seq_l, iR1_ap, iR2_ap, name_ap, ok_bind, exc_bind, List.getElem?_cons_zero, List.getElem?_cons_succ, List.set_cons_zero, List.set_cons_succ, List.map_cons, List.map_nil, List.cons_append, List.nil_append, List.replicate_succ, List.replicate_zero, cnd_s, cnd_n, backE, List.getD_cons_succ, List.getD_cons_zero, tup_l]
theorem go_sub {k fs : List (List Int)} (h : Kok k) (hs : ∀ g ∈ fs, g ∈ facesL k) : (goI [] fs).isSome = true := by
  have q := h.toQ
  rw [goI_eq fs [] (by simp), if_pos]
  · rfl
  refine ⟨fun b hb => ?_, ?_⟩
  · have := q.le b (hs b hb)
    have := q.tp4
    omega
  · rw [(insP_perm fs).length_eq]
    have : (insP partsL [] fs).length ≤ (facesL k).length := List.Nodup.length_le_of_subset (nodup_insP List.nodup_nil) fun x hx => by
      rcases mem_insP.1 hx with q | ⟨o, ho, hx⟩
      · cases q
      · obtain ⟨x1, x2⟩ := mem_partsL.1 hx
        obtain ⟨_, i, b, hb, hy⟩ := (q.clo o).1 (hs o ho)
        exact (q.clo x).2 ⟨x1, inc_sub x2 i, b, hb, fun y hy' => hy y (x2.subset hy')⟩
    have := q.len
    omega
theorem good_sub {k fs : List (List Int)} (h : Kok k) (hs : ∀ g ∈ fs, g ∈ facesL k) : Good fs := fun o ho => by
  obtain ⟨h1, h2, _⟩ := (h.toQ.clo o).1 (hs o ho)
  exact ⟨h1, h2⟩
theorem four_sub {k fs : List (List Int)} (h : Kok k) (hs : ∀ g ∈ fs, g ∈ facesL k) : ∀ o ∈ fs, o.length ≤ 4 := fun o ho => Nat.le_trans (h.toQ.le o (hs o ho)) h.toQ.tp4
theorem l9 {k sm : List (List Int)} (h : Kok k) (hs : ∀ g ∈ sm, g ∈ facesL k) (hl : sm.length ≤ 5) : (sAsg 7 (eCall m__law_faces [(eVar 6)])) [x0, x1, x2, x3, x4, x5, some (TT sm), x7, x8, x9, x10, x11, x12, x13, x14, x15, x16, x17, x18] = .ok (.next, [x0, x1, x2, x3, x4, x5, some (TT sm), some (LL (facesL sm)), x8, x9, x10, x11, x12, x13, x14, x15, x16, x17, x18]) := by
  simp only [↓bind_bnd, ok_bnd, exc_bnd, v_ap, k_ap, e1_ap, e2_ap, ret_ap, expr_ap, asg_ap, nil_ap, seq_ap, if_ap, ifB_ap, tr_b, noD_ap, and_ap, or_ap, not_ap, chB_ap, tup_ap, lst_ap, eL_n, eL_c, call_ap, callX_ap, nox_ok, for_ap, iSeq_ap, seq_t, seq_l, iR1_ap, iR2_ap, name_ap, ok_bind, exc_bind, List.getElem?_cons_zero, List.getElem?_cons_succ, List.set_cons_zero, List.set_cons_succ, List.map_cons, List.map_nil, List.cons_append, List.nil_append, List.replicate_succ, List.replicate_zero, cnd_s, cnd_n, lfaces_eq (p := TT sm) rfl (fun f hf => by have := four_sub h hs f hf; omega) (by omega)]
theorem l10 {k sm : List (List Int)} (h : Kok k) (hs : ∀ g ∈ sm, g ∈ facesL k) (hl : sm.length ≤ 5) : (sIf (eOrB (eNotB (noD (eCall (m__law_same 8) [(eCall m__law_tried [(eVar 6)]), (eTup [(eK (.str "told")), (eCall m__law_cells_of [(eVar 7)])])]))) (eNotB (noD (eCall (m__law_same 8) [(eCall m__law_tried [(e1 tupleP (eVar 13))]), (eTup [(eK (.str "told")), (eVar 2)])])))) (sRet (eK (.bool false))) sNil) [x0, x1, some (TT k), x3, x4, x5, some (TT sm), some (LL (facesL sm)), x8, x9, x10, x11, x12, some (LL (facesL k)), x14, x15, x16, x17, x18] = .ok (.next, [x0, x1, some (TT k), x3, x4, x5, some (TT sm), some (LL (facesL sm)), x8, x9, x10, x11, x12, some (LL (facesL k)), x14, x15, x16, x17, x18]) := by
  have hlim : lim = 16777216 := rfl
  have g := good_sub h hs
  have c : Clo sm (facesL sm) := (clo_insP (fun _ _ => mem_partsL) g).congr fun _ => mem_srt
  have nd : (facesL sm).Nodup := (ssd_srt (le := leI) (nodup_insP List.nodup_nil)).2
  have e1 : facetsI leI dd sm = cellsI leI (facesL sm) := facets_clo dd_ok c g nd
  have t1 := tried_ok (fs := sm) (fun f hf => (g f hf).1) (by omega) (go_sub h fun x hx => hs x ((mem_facetsI (dd := dd) (le := leI) dd_ok).1 hx).1)
  have e2 : facetsI leI dd (facesL k) = k := (facets_cells dd_ok h.toQ.ssd.2).trans (cells_clo h.toQ.clo h.good h.ssd h.anti h.toQ.ssd.2)
  have t2 := tried_ok (fs := facesL k) h.toQ.ne (by have := h.toQ.len; omega) (go_sub h fun x hx => ((mem_facetsI (dd := dd) (le := leI) dd_ok).1 hx).1)
  have hle := len_insP sm [] fun f hf => by have := four_sub h hs f hf; omega
  have hl2 : (facesL sm).length = (insP partsL [] sm).length := length_srt _
  simp at hle
  have lc := lcells_eq (p := LL (facesL sm)) (fs := facesL sm) rfl (fun f hf => ((c f).1 hf).1) (by omega)
  have hm : ∀ f ∈ cellsI leI (facesL sm), f.length ≤ 16777216 := fun f hf => by
    obtain ⟨_, i, o, ho, hx⟩ := (c f).1 (mem_cellsI.1 hf).1
    have := (inc_sublist i (g o ho).2 hx).length_le
    have := four_sub h hs o ho
    omega
  have hml : (cellsI leI (facesL sm)).length ≤ 16777216 := by
    have : (cellsI leI (facesL sm)).length ≤ (facesL sm).length := by
      unfold cellsI
      rw [length_srt]
      exact List.length_filter_le _ _
    omega
  have s1 := same_told 4 sh_told (fs := cellsI leI (facesL sm)) hml hm
  have s2 := same_told 4 sh_told (fs := k) (by have := h.len; omega) (fun f hf => by have := h.four f hf; omega)
  rw [e1] at t1
  rw [e2] at t2
  simp only [↓bind_bnd, ok_bnd, exc_bnd, v_ap, k_ap, e1_ap, e2_ap, ret_ap, expr_ap, asg_ap, nil_ap, seq_ap, if_ap, ifB_ap, tr_b, noD_ap, and_ap, or_ap, not_ap, chB_ap, tup_ap, lst_ap, eL_n, eL_c, call_ap, callX_ap, nox_ok, for_ap, iSeq_ap, seq_t, seq_l, iR1_ap, iR2_ap, name_ap, ok_bind, exc_bind, List.getElem?_cons_zero, List.getElem?_cons_succ, List.set_cons_zero, List.set_cons_succ, List.map_cons, List.map_nil, List.cons_append, List.nil_append, List.replicate_succ, List.replicate_zero, cnd_s, cnd_n, t1, lc, s1, tup_l, t2, s2, Bool.not_true, Bool.false_eq_true, if_false]
theorem facets1 : facetsI leI dd [r8] = [r8] := by
  unfold facetsI
  rw [srt_isrt]
  decide +kernel
theorem facets2 : facetsI leI dd [r7, r714] = [r7, r714] := by
  unfold facetsI
  rw [srt_isrt]
  decide +kernel
theorem go1 : (goI [] [r8]).isSome = false := by decide +kernel
theorem go2 : (goI [] [r7, r714]).isSome = false := by decide +kernel
theorem ne_ref : neP (.tup [.str "refused", .str "large"]) (.tup [.str "refused", .str "large"]) = .ok (.bool false) := by kernel_rfl
theorem l11 : (sIf (eOrB (e2 neP (eCall m__law_tried [(eTup [(e1 tupR1 (eK (.int 8)))])]) (eTup [(eK (.str "refused")), (eK (.str "large"))])) (e2 neP (eCall m__law_tried [(eTup [(e1 tupR1 (eK (.int 7))), (e2 tupR2 (eK (.int 7)) (eK (.int 14)))])]) (eTup [(eK (.str "refused")), (eK (.str "large"))]))) (sRet (eK (.bool false))) sNil) [x0, x1, x2, x3, x4, x5, x6, x7, x8, x9, x10, x11, x12, x13, x14, x15, x16, x17, x18] = .ok (.next, [x0, x1, x2, x3, x4, x5, x6, x7, x8, x9, x10, x11, x12, x13, x14, x15, x16, x17, x18]) := by
  have h7 := tupR1_eq (n := 7) (by decide)
  have e7 : ((7 : Nat) : Int) = 7 := rfl
  rw [e7] at h7
  have h8 := tupR1_eq (n := 8) (by decide)
  have e8 : ((8 : Nat) : Int) = 8 := rfl
  rw [e8] at h8
  have t1 := tried_exc (fs := [r8]) (by decide) (by decide) (by rw [facets1]; exact go1)
  have t2 := tried_exc (fs := [r7, r714]) (by decide) (by decide) (by rw [facets2]; exact go2)
  have q1 : PV.tup [T r8] = TT [r8] := rfl
  have q2 : PV.tup [T r7, T r714] = TT [r7, r714] := rfl
  simp only [↓bind_bnd, ok_bnd, exc_bnd, v_ap, k_ap, e1_ap, e2_ap, ret_ap, expr_ap, asg_ap, nil_ap, seq_ap, if_ap, ifB_ap, tr_b, noD_ap, and_ap, or_ap, not_ap, chB_ap, tup_ap, lst_ap, eL_n, eL_c, call_ap, callX_ap, nox_ok, for_ap, iSeq_ap, seq_t, seq_l, iR1_ap, iR2_ap, name_ap, ok_bind, exc_bind, List.getElem?_cons_zero, List.getElem?_cons_succ, List.set_cons_zero, List.set_cons_succ, List.map_cons, List.map_nil, List.cons_append, List.nil_append, List.replicate_succ, List.replicate_zero, cnd_s, cnd_n, h7, h8, tupR2_eq]
  rw [q1]
  simp only [↓bind_bnd, ok_bnd, exc_bnd, v_ap, k_ap, e1_ap, e2_ap, ret_ap, expr_ap, asg_ap, nil_ap, seq_ap, if_ap, ifB_ap, tr_b, noD_ap, and_ap, or_ap, not_ap, chB_ap, tup_ap, lst_ap, eL_n, eL_c, call_ap, callX_ap, nox_ok, for_ap, iSeq_ap, seq_t, seq_l, iR1_ap, iR2_ap, name_ap, ok_bind, exc_bind, List.getElem?_cons_zero, List.getElem?_cons_succ, List.set_cons_zero, List.set_cons_succ, List.map_cons, List.map_nil, List.cons_append, List.nil_append, List.replicate_succ, List.replicate_zero, cnd_s, cnd_n, t1, ne_ref, h7, tupR2_eq, Bool.false_eq_true, if_false]
  rw [q2]
  simp only [↓bind_bnd, ok_bnd, exc_bnd, v_ap, k_ap, e1_ap, e2_ap, ret_ap, expr_ap, asg_ap, nil_ap, seq_ap, if_ap, ifB_ap, tr_b, noD_ap, and_ap, or_ap, not_ap, chB_ap, tup_ap, lst_ap, eL_n, eL_c, call_ap, callX_ap, nox_ok, for_ap, iSeq_ap, seq_t, seq_l, iR1_ap, iR2_ap, name_ap, ok_bind, exc_bind, List.getElem?_cons_zero, List.getElem?_cons_succ, List.set_cons_zero, List.set_cons_succ, List.map_cons, List.map_nil, List.cons_append, List.nil_append, List.replicate_succ, List.replicate_zero, cnd_s, cnd_n, t2, ne_ref, Bool.false_eq_true, if_false]
end
end Pl

namespace Pl
open PySem Mi Pu K88
theorem len_nat {α : Type} (e : α → PV) (xs : List α) : lenS (.lst (xs.map e)) = .ok (.int xs.length) := by
  show Res.ok (PV.int ((xs.map e).length : Int)) = _; rw [List.length_map]
theorem cell_small {k C : List (List Int)} (h : Kok k) (hC : C.Sublist (facesL k)) : (cellsI leI C).length ≤ 63 ∧ ∀ g ∈ cellsI leI C, g.length ≤ 4 := by
  constructor
  · have h1 : (cellsI leI C).length ≤ C.length := by
      unfold cellsI
      rw [length_srt]
      exact List.length_filter_le _ _
    have := hC.length_le
    have := h.toQ.len
    omega
  · intro g hg
    exact Nat.le_trans (h.toQ.le g (hC.subset (mem_cellsI.1 hg).1)) h.toQ.tp4
theorem same_X {X : List (List Int)} (h1 : X.length ≤ 63) (h2 : ∀ g ∈ X, g.length ≤ 4) : m__law_same 8 [TT X, TT X] = .ok (.bool true) :=
  same_TT 5 (by omega) fun g hg => by have := h2 g hg; omega
theorem lcells_sub {k C : List (List Int)} (h : Kok k) (hC : C.Sublist (facesL k)) : m__law_cells_of [LL C] = .ok (TT (cellsI leI C)) := by
  have hlim : lim = 16777216 := rfl
  have := hC.length_le
  have := h.toQ.len
  exact lcells_eq (p := LL C) rfl (fun g hg => h.toQ.ne g (hC.subset hg)) (by omega)
section
variable {x0 x1 x2 x3 x4 x5 x6 x7 x8 x9 x10 x11 x12 x13 x14 x15 x16 x17 x18 : Option PV}
theorem l12 {k : List (List Int)} (h : Kok k) : (sAsg 8 (e1 tupleP (eComp (gName 9) none (e1 lenS (eComp (gName 17) (some (e2 eqP (e1 lenS (eVar 17)) (e2 addP (eVar 9) (eK (.int 1))))) (eVar 17) [17] (iSeq (eVar 13)))) [9] (iR1 (e2 addP (eVar 14) (eK (.int 1))))))) [x0, x1, x2, x3, x4, x5, x6, x7, x8, x9, x10, x11, x12, some (LL (facesL k)), some (.int ((tp k : Int) - 1)), x15, x16, x17, x18] = .ok (.next, [x0, x1, x2, x3, x4, x5, x6, x7, some (T (rowI (tp k) (facesL k))), x9, x10, x11, x12, some (LL (facesL k)), some (.int ((tp k : Int) - 1)), x15, x16, x17, x18]) := by
  have h4 := h.toQ.tp4
  simp only [↓bind_bnd, ok_bnd, exc_bnd, v_ap, k_ap, e1_ap, e2_ap, ret_ap, expr_ap, asg_ap, nil_ap, seq_ap, if_ap, ifB_ap, tr_b, noD_ap, and_ap, or_ap, not_ap, chB_ap, tup_ap, lst_ap, eL_n, eL_c, call_ap, callX_ap, nox_ok, for_ap, iSeq_ap, seq_t, seq_l, iR1_ap, iR2_ap, name_ap, ok_bind, exc_bind, List.getElem?_cons_zero, List.getElem?_cons_succ, List.set_cons_zero, List.set_cons_succ, List.map_cons, List.map_nil, List.cons_append, List.nil_append, List.replicate_succ, List.replicate_zero, cnd_s, cnd_n]
  rw [comp0A (v := 9) (xs := List.range (tp k)) (enc := fun (i : Nat) => .int i) (ρ' := [x0, x1, x2, x3, x4, x5, x6, x7, x8, x9, x10, x11, x12, some (LL (facesL k)), some (.int ((tp k : Int) - 1)), x15, x16, x17, x18]) (fun i => .int (cnt (i + 1) (facesL k))) ?_ (by decide : 9 < 19) ?_]
  · simp only [↓bind_bnd, ok_bnd, exc_bnd, v_ap, k_ap, e1_ap, e2_ap, ret_ap, expr_ap, asg_ap, nil_ap, seq_ap, if_ap, ifB_ap, tr_b, noD_ap, and_ap, or_ap, not_ap, chB_ap, tup_ap, lst_ap, eL_n, eL_c, call_ap, callX_ap, nox_ok, for_ap, iSeq_ap, seq_t, seq_l, iR1_ap, iR2_ap, name_ap, ok_bind, exc_bind, List.getElem?_cons_zero, List.getElem?_cons_succ, List.set_cons_zero, List.set_cons_succ, List.map_cons, List.map_nil, List.cons_append, List.nil_append, List.replicate_succ, List.replicate_zero, cnd_s, cnd_n, tup_l]
    rw [show (List.range (tp k)).map (fun i => PV.int (cnt (i + 1) (facesL k))) = (rowI (tp k) (facesL k)).map .int from by unfold rowI; rw [List.map_map]; rfl]
  · simp only [↓bind_bnd, ok_bnd, exc_bnd, v_ap, k_ap, e1_ap, e2_ap, ret_ap, expr_ap, asg_ap, nil_ap, seq_ap, if_ap, ifB_ap, tr_b, noD_ap, and_ap, or_ap, not_ap, chB_ap, tup_ap, lst_ap, eL_n, eL_c, call_ap, callX_ap, nox_ok, for_ap, iSeq_ap, seq_t, seq_l, iR1_ap, iR2_ap, name_ap, ok_bind, exc_bind, List.getElem?_cons_zero, List.getElem?_cons_succ, List.set_cons_zero, List.set_cons_succ, List.map_cons, List.map_nil, List.cons_append, List.nil_append, List.replicate_succ, List.replicate_zero, cnd_s, cnd_n, add_i, show ((tp k : Int) - 1 + 1) = (tp k : Int) from by omega, rng1_eq (n := tp k) (by omega)]
  · intro i _
    simp only [↓bind_bnd, ok_bnd, exc_bnd, v_ap, k_ap, e1_ap, e2_ap, ret_ap, expr_ap, asg_ap, nil_ap, seq_ap, if_ap, ifB_ap, tr_b, noD_ap, and_ap, or_ap, not_ap, chB_ap, tup_ap, lst_ap, eL_n, eL_c, call_ap, callX_ap, nox_ok, for_ap, iSeq_ap, seq_t, seq_l, iR1_ap, iR2_ap, name_ap, ok_bind, exc_bind, List.getElem?_cons_zero, List.getElem?_cons_succ, List.set_cons_zero, List.set_cons_succ, List.map_cons, List.map_nil, List.cons_append, List.nil_append, List.replicate_succ, List.replicate_zero, cnd_s, cnd_n]
    rw [compA (v := 17) (xs := facesL k) (enc := T) (ρ' := [x0, x1, x2, x3, x4, x5, x6, x7, x8, some (.int i), x10, x11, x12, some (LL (facesL k)), some (.int ((tp k : Int) - 1)), x15, x16, x17, x18]) (fun g => decide (g.length = i + 1)) T rfl (by decide : 17 < 19) ?_ ?_]
    · simp only [↓bind_bnd, ok_bnd, exc_bnd, v_ap, k_ap, e1_ap, e2_ap, ret_ap, expr_ap, asg_ap, nil_ap, seq_ap, if_ap, ifB_ap, tr_b, noD_ap, and_ap, or_ap, not_ap, chB_ap, tup_ap, lst_ap, eL_n, eL_c, call_ap, callX_ap, nox_ok, for_ap, iSeq_ap, seq_t, seq_l, iR1_ap, iR2_ap, name_ap, ok_bind, exc_bind, List.getElem?_cons_zero, List.getElem?_cons_succ, List.set_cons_zero, List.set_cons_succ, List.map_cons, List.map_nil, List.cons_append, List.nil_append, List.replicate_succ, List.replicate_zero, cnd_s, cnd_n, len_LL]
      rfl
    · intro g _
      simp only [↓bind_bnd, ok_bnd, exc_bnd, v_ap, k_ap, e1_ap, e2_ap, ret_ap, expr_ap, asg_ap, nil_ap, seq_ap, if_ap, ifB_ap, tr_b, noD_ap, and_ap, or_ap, not_ap, chB_ap, tup_ap, lst_ap, eL_n, eL_c, call_ap, callX_ap, nox_ok, for_ap, iSeq_ap, seq_t, seq_l, iR1_ap, iR2_ap, name_ap, ok_bind, exc_bind, List.getElem?_cons_zero, List.getElem?_cons_succ, List.set_cons_zero, List.set_cons_succ, List.map_cons, List.map_nil, List.cons_append, List.nil_append, List.replicate_succ, List.replicate_zero, cnd_s, cnd_n, len_T, add_i, eq_i]
      rw [show decide ((g.length : Int) = (i : Int) + 1) = decide (g.length = i + 1) from by rw [decide_eq_decide]; omega]
    · intro g _ _
      simp only [↓bind_bnd, ok_bnd, exc_bnd, v_ap, k_ap, e1_ap, e2_ap, ret_ap, expr_ap, asg_ap, nil_ap, seq_ap, if_ap, ifB_ap, tr_b, noD_ap, and_ap, or_ap, not_ap, chB_ap, tup_ap, lst_ap, eL_n, eL_c, call_ap, callX_ap, nox_ok, for_ap, iSeq_ap, seq_t, seq_l, iR1_ap, iR2_ap, name_ap, ok_bind, exc_bind, List.getElem?_cons_zero, List.getElem?_cons_succ, List.set_cons_zero, List.set_cons_succ, List.map_cons, List.map_nil, List.cons_append, List.nil_append, List.replicate_succ, List.replicate_zero, cnd_s, cnd_n]
def Pair (v : PV) : Prop := ∃ p, v = .tup [p, p] ∧ m__law_honest [p] = .ok p ∧ m__law_same 8 [p, p] = .ok (.bool true)
theorem pair_i (i : Int) : Pair (.tup [.int i, .int i]) := ⟨_, rfl, honest_i i, same_i 7 i⟩
theorem pair_T {f : List Int} (h : f.length ≤ 100) : Pair (.tup [T f, T f]) := ⟨_, rfl, honest_T f, same_T 6 (by omega)⟩
theorem q_nil : Q [] := { good := fun _ h => (by cases h), four := fun _ h => (by cases h), few := (by decide) }
theorem faces_nil : facesL [] = [] := by
  unfold facesL
  rw [srt_isrt]
  rfl
theorem for_pairs {vs : List PV} {i j : Nat} {s : SS} {it : IS} {ρ ρ1 : Mi.Env} (J : Mi.Env → Prop) (hi : it ρ = .ok (vs, ρ1)) (j0 : J ρ1) (hv : ∀ v ∈ vs, Pair v)
    (h : ∀ p, m__law_honest [p] = .ok p → m__law_same 8 [p, p] = .ok (.bool true) → ∀ ρ, J ρ → ∃ ρ2, s ((ρ.set i (some p)).set j (some p)) = .ok (.next, ρ2) ∧ J ρ2) : ∃ ρ2, sFor (gTupP [gName i, gName j]) it s ρ = .ok (.next, ρ2) ∧ J ρ2 := by
  have := for_all (enc := fun v => v) (γ := gTupP [gName i, gName j]) (r := .bool false) (s := s) (fun _ => true) J vs (fun v hm ρ hρ => by
      obtain ⟨p, rfl, h1, h2⟩ := hv v hm
      obtain ⟨ρ2, e, jj⟩ := h p h1 h2 ρ hρ
      exact ⟨_, gtup2, .inl ⟨rfl, ρ2, e, jj⟩⟩) ρ1 j0
  rw [List.map_id'] at this
  rw [for_ap, hi]
  simp only [ok_bind, ok_bnd]
  rcases this with ⟨_, ρ', e, jj⟩ | ⟨q, _⟩
  · exact ⟨ρ', e, jj⟩
  · simp at q
theorem l13 {k : List (List Int)} (h : Kok k) : ∃ y z, (sFor (gTupP [(gName 15), (gName 16)]) (iSeq (eTup [(eTup [(eCall m_dimension_of [(eVar 2)]), (eVar 14)]), (eTup [(eCallX m_face_row [(eVar 2)]), (eVar 8)]), (eTup [(eCallX m_euler_number [(eVar 2)]), (eCall m__law_euler [(eVar 2)])]), (eTup [(eCall m_dimension_of [(eTup [])]), (e1 negP (eK (.int 1)))]), (eTup [(eCallX m_face_row [(eTup [])]), (eTup [])]), (eTup [(eCallX m_euler_number [(eTup [])]), (eK (.int 0))])])) (sIf (eNotB (noD (eCall (m__law_same 8) [(eCall m__law_honest [(eVar 15)]), (eVar 16)]))) (sRet (eK (.bool false))) sNil)) [x0, x1, some (TT k), x3, x4, x5, x6, x7, some (T (rowI (tp k) (facesL k))), x9, x10, x11, x12, x13, some (.int ((tp k : Int) - 1)), x15, x16, x17, x18] =
    .ok (.next, [x0, x1, some (TT k), x3, x4, x5, x6, x7, some (T (rowI (tp k) (facesL k))), x9, x10, x11, x12, x13, some (.int ((tp k : Int) - 1)), y, z, x17, x18]) := by
  have hl := h.len
  have h4 := h.toQ.tp4
  have hlim : lim = 16777216 := rfl
  have d0 : m_dimension_of [.tup []] = .ok (.int (-1)) := dim_eq (k := []) (by decide)
  have f0 : m_face_row [.tup []] = .ok (.tup []) := by
    have := face_row_eq q_nil (by decide)
    exact this
  have e0 : m_euler_number [.tup []] = .ok (.int 0) := by
    have := euler_eq q_nil (by decide)
    rw [faces_nil] at this
    exact this
  obtain ⟨ρ2, e, y, z, rfl⟩ := for_pairs (i := 15) (j := 16) (ρ := [x0, x1, some (TT k), x3, x4, x5, x6, x7, some (T (rowI (tp k) (facesL k))), x9, x10, x11, x12, x13, some (.int ((tp k : Int) - 1)), x15, x16, x17, x18]) (vs := [.tup [.int ((tp k : Int) - 1), .int ((tp k : Int) - 1)], .tup [T (rowI (tp k) (facesL k)), T (rowI (tp k) (facesL k))], .tup [.int ((facesL k).map sgn).sum, .int ((facesL k).map sgn).sum], .tup [.int (-1), .int (-1)], .tup [T [], T []], .tup [.int 0, .int 0]])
      (it := iSeq (eTup [(eTup [(eCall m_dimension_of [(eVar 2)]), (eVar 14)]), (eTup [(eCallX m_face_row [(eVar 2)]), (eVar 8)]), (eTup [(eCallX m_euler_number [(eVar 2)]), (eCall m__law_euler [(eVar 2)])]), (eTup [(eCall m_dimension_of [(eTup [])]), (e1 negP (eK (.int 1)))]), (eTup [(eCallX m_face_row [(eTup [])]), (eTup [])]), (eTup [(eCallX m_euler_number [(eTup [])]), (eK (.int 0))])]))
      (s := (sIf (eNotB (noD (eCall (m__law_same 8) [(eCall m__law_honest [(eVar 15)]), (eVar 16)]))) (sRet (eK (.bool false))) sNil))
      (fun ρ => ∃ y z, ρ = [x0, x1, some (TT k), x3, x4, x5, x6, x7, some (T (rowI (tp k) (facesL k))), x9, x10, x11, x12, x13, some (.int ((tp k : Int) - 1)), y, z, x17, x18]) (by
        simp only [↓bind_bnd, ok_bnd, exc_bnd, v_ap, k_ap, e1_ap, e2_ap, ret_ap, expr_ap, asg_ap, nil_ap, seq_ap, if_ap, ifB_ap, tr_b, noD_ap, and_ap, or_ap, not_ap, chB_ap, tup_ap, lst_ap, eL_n, eL_c, call_ap, callX_ap, nox_ok, for_ap, iSeq_ap, seq_t, seq_l, iR1_ap, iR2_ap, name_ap, ok_bind, exc_bind, List.getElem?_cons_zero, List.getElem?_cons_succ, List.set_cons_zero, List.set_cons_succ, List.map_cons, List.map_nil, List.cons_append, List.nil_append, List.replicate_succ, List.replicate_zero, cnd_s, cnd_n, dim_eq (k := k) (by omega), face_row_eq h.toQ (by omega), euler_eq h.toQ (by omega), leuler_eq (seven h) (by omega), d0, f0, e0, neg_ok]
        rfl) ⟨_, _, rfl⟩ (fun v hv => by
        simp only [List.mem_cons, List.not_mem_nil, or_false] at hv
        rcases hv with e | e | e | e | e | e <;> subst e
        · exact pair_i _
        · exact pair_T (by simp [rowI]; omega)
        · exact pair_i _
        · exact pair_i _
        · exact pair_T (by simp)
        · exact pair_i _) (fun p h1 h2 ρ hρ => by
        obtain ⟨y, z, rfl⟩ := hρ
        refine ⟨[x0, x1, some (TT k), x3, x4, x5, x6, x7, some (T (rowI (tp k) (facesL k))), x9, x10, x11, x12, x13, some (.int ((tp k : Int) - 1)), some p, some p, x17, x18], ?_, _, _, rfl⟩
        simp only [↓bind_bnd, ok_bnd, exc_bnd, v_ap, k_ap, e1_ap, e2_ap, ret_ap, expr_ap, asg_ap, nil_ap, seq_ap, if_ap, ifB_ap, tr_b, noD_ap, and_ap, or_ap, not_ap, chB_ap, tup_ap, lst_ap, eL_n, eL_c, call_ap, callX_ap, nox_ok, for_ap, iSeq_ap, seq_t, seq_l, iR1_ap, iR2_ap, name_ap, ok_bind, exc_bind, List.getElem?_cons_zero, List.getElem?_cons_succ, List.set_cons_zero, List.set_cons_succ, List.map_cons, List.map_nil, List.cons_append, List.nil_append, List.replicate_succ, List.replicate_zero, cnd_s, cnd_n, h1, h2, Bool.not_true, Bool.false_eq_true, if_false])
  exact ⟨y, z, e⟩
theorem rng2_n {n : Nat} (h : n ≤ 100) : rng2 (.int (-1)) (.int ((n : Int) - 1 + 2)) = .ok ((List.range (n + 2)).map fun (i : Nat) => .int (-1 + (i : Int))) := by
  unfold rng2
  have : -(2 ^ 62) ≤ (-1 : Int) ∧ (-1 : Int) < 2 ^ 62 ∧ -(2 ^ 62) ≤ (n : Int) - 1 + 2 ∧ (n : Int) - 1 + 2 < 2 ^ 62 ∧ (n : Int) - 1 + 2 - -1 ≤ 16777216 := ⟨by omega, by omega, by omega, by omega, by omega⟩
  simp only [this, and_self, if_true, rangeL]
  have e : ((n : Int) - 1 + 2 - -1).toNat = n + 2 := by omega
  rw [e]
theorem l14 {k : List (List Int)} (h : Kok k) : ∃ y, (sFor (gName 9) (iR2 (e1 negP (eK (.int 1))) (e2 addP (eVar 14) (eK (.int 2)))) (sSeq (sIf (eAndB (e2 geP (eVar 9) (eK (.int 0))) (eNotB (noD (eCall (m__law_same 8) [(eCall m__law_honest [(eCallX m_faces_of [(eVar 2), (eVar 9)])]), (e1 tupleP (eComp (gName 17) (some (e2 eqP (e1 lenS (eVar 17)) (e2 addP (eVar 9) (eK (.int 1))))) (eVar 17) [17] (iSeq (eVar 13))))])))) (sRet (eK (.bool false))) sNil)
  (sIf (eNotB (noD (eCall (m__law_same 8) [(eCall m__law_honest [(eCallX m_skeleton_of [(eVar 2), (eVar 9)])]), (eCall m__law_cells_of [(eComp (gName 17) (some (e2 leP (e1 lenS (eVar 17)) (e2 addP (eVar 9) (eK (.int 1))))) (eVar 17) [17] (iSeq (eVar 13)))])]))) (sRet (eK (.bool false))) sNil))) [x0, x1, some (TT k), x3, x4, x5, x6, x7, x8, x9, x10, x11, x12, some (LL (facesL k)), some (.int ((tp k : Int) - 1)), x15, x16, x17, x18] =
    .ok (.next, [x0, x1, some (TT k), x3, x4, x5, x6, x7, x8, y, x10, x11, x12, some (LL (facesL k)), some (.int ((tp k : Int) - 1)), x15, x16, x17, x18]) := by
  have h4 := h.toQ.tp4
  obtain ⟨ρ2, e, y, rfl⟩ := for_list (i := 9) (ρ := [x0, x1, some (TT k), x3, x4, x5, x6, x7, x8, x9, x10, x11, x12, some (LL (facesL k)), some (.int ((tp k : Int) - 1)), x15, x16, x17, x18]) (vs := (List.range (tp k + 2)).map fun (i : Nat) => .int (-1 + (i : Int)))
      (it := iR2 (e1 negP (eK (.int 1))) (e2 addP (eVar 14) (eK (.int 2))))
      (s := (sSeq (sIf (eAndB (e2 geP (eVar 9) (eK (.int 0))) (eNotB (noD (eCall (m__law_same 8) [(eCall m__law_honest [(eCallX m_faces_of [(eVar 2), (eVar 9)])]), (e1 tupleP (eComp (gName 17) (some (e2 eqP (e1 lenS (eVar 17)) (e2 addP (eVar 9) (eK (.int 1))))) (eVar 17) [17] (iSeq (eVar 13))))])))) (sRet (eK (.bool false))) sNil)
        (sIf (eNotB (noD (eCall (m__law_same 8) [(eCall m__law_honest [(eCallX m_skeleton_of [(eVar 2), (eVar 9)])]), (eCall m__law_cells_of [(eComp (gName 17) (some (e2 leP (e1 lenS (eVar 17)) (e2 addP (eVar 9) (eK (.int 1))))) (eVar 17) [17] (iSeq (eVar 13)))])]))) (sRet (eK (.bool false))) sNil)))
      (fun ρ => ∃ y, ρ = [x0, x1, some (TT k), x3, x4, x5, x6, x7, x8, y, x10, x11, x12, some (LL (facesL k)), some (.int ((tp k : Int) - 1)), x15, x16, x17, x18]) (by
        simp only [↓bind_bnd, ok_bnd, exc_bnd, v_ap, k_ap, e1_ap, e2_ap, ret_ap, expr_ap, asg_ap, nil_ap, seq_ap, if_ap, ifB_ap, tr_b, noD_ap, and_ap, or_ap, not_ap, chB_ap, tup_ap, lst_ap, eL_n, eL_c, call_ap, callX_ap, nox_ok, for_ap, iSeq_ap, seq_t, seq_l, iR1_ap, iR2_ap, name_ap, ok_bind, exc_bind, List.getElem?_cons_zero, List.getElem?_cons_succ, List.set_cons_zero, List.set_cons_succ, List.map_cons, List.map_nil, List.cons_append, List.nil_append, List.replicate_succ, List.replicate_zero, cnd_s, cnd_n, neg_ok, add_i, rng2_n (n := tp k) (by omega)]
        rfl) ⟨_, rfl⟩ (fun v hv ρ hρ => by
      obtain ⟨y, rfl⟩ := hρ
      obtain ⟨i, hi, rfl⟩ := List.mem_map.1 hv
      generalize hn : (-1 + (i : Int)) = n
      refine ⟨[x0, x1, some (TT k), x3, x4, x5, x6, x7, x8, some (.int n), x10, x11, x12, some (LL (facesL k)), some (.int ((tp k : Int) - 1)), x15, x16, x17, x18], ?_, _, rfl⟩
      have c1 : eComp (gName 17) (some (e2 eqP (e1 lenS (eVar 17)) (e2 addP (eVar 9) (eK (.int 1))))) (eVar 17) [17] (iSeq (eVar 13)) [x0, x1, some (TT k), x3, x4, x5, x6, x7, x8, some (.int n), x10, x11, x12, some (LL (facesL k)), some (.int ((tp k : Int) - 1)), x15, x16, x17, x18] =
          .ok (LL ((facesL k).filter fun g => decide ((g.length : Int) = n + 1)), [x0, x1, some (TT k), x3, x4, x5, x6, x7, x8, some (.int n), x10, x11, x12, some (LL (facesL k)), some (.int ((tp k : Int) - 1)), x15, x16, x17, x18]) := by
        rw [compA (v := 17) (xs := facesL k) (enc := T) (ρ' := [x0, x1, some (TT k), x3, x4, x5, x6, x7, x8, some (.int n), x10, x11, x12, some (LL (facesL k)), some (.int ((tp k : Int) - 1)), x15, x16, x17, x18]) (fun g => decide ((g.length : Int) = n + 1)) T rfl (by decide : 17 < 19) ?_ ?_]
        · intro g _
          simp only [↓bind_bnd, ok_bnd, exc_bnd, v_ap, k_ap, e1_ap, e2_ap, ret_ap, expr_ap, asg_ap, nil_ap, seq_ap, if_ap, ifB_ap, tr_b, noD_ap, and_ap, or_ap, not_ap, chB_ap, tup_ap, lst_ap, eL_n, eL_c, call_ap, callX_ap, nox_ok, for_ap, iSeq_ap, seq_t, seq_l, iR1_ap, iR2_ap, name_ap, ok_bind, exc_bind, List.getElem?_cons_zero, List.getElem?_cons_succ, List.set_cons_zero, List.set_cons_succ, List.map_cons, List.map_nil, List.cons_append, List.nil_append, List.replicate_succ, List.replicate_zero, cnd_s, cnd_n, len_T, add_i, eq_i]
        · intro g _ _
          simp only [↓bind_bnd, ok_bnd, exc_bnd, v_ap, k_ap, e1_ap, e2_ap, ret_ap, expr_ap, asg_ap, nil_ap, seq_ap, if_ap, ifB_ap, tr_b, noD_ap, and_ap, or_ap, not_ap, chB_ap, tup_ap, lst_ap, eL_n, eL_c, call_ap, callX_ap, nox_ok, for_ap, iSeq_ap, seq_t, seq_l, iR1_ap, iR2_ap, name_ap, ok_bind, exc_bind, List.getElem?_cons_zero, List.getElem?_cons_succ, List.set_cons_zero, List.set_cons_succ, List.map_cons, List.map_nil, List.cons_append, List.nil_append, List.replicate_succ, List.replicate_zero, cnd_s, cnd_n]
      have c2 : eComp (gName 17) (some (e2 leP (e1 lenS (eVar 17)) (e2 addP (eVar 9) (eK (.int 1))))) (eVar 17) [17] (iSeq (eVar 13)) [x0, x1, some (TT k), x3, x4, x5, x6, x7, x8, some (.int n), x10, x11, x12, some (LL (facesL k)), some (.int ((tp k : Int) - 1)), x15, x16, x17, x18] =
          .ok (LL ((facesL k).filter fun g => decide ((g.length : Int) ≤ n + 1)), [x0, x1, some (TT k), x3, x4, x5, x6, x7, x8, some (.int n), x10, x11, x12, some (LL (facesL k)), some (.int ((tp k : Int) - 1)), x15, x16, x17, x18]) := by
        rw [compA (v := 17) (xs := facesL k) (enc := T) (ρ' := [x0, x1, some (TT k), x3, x4, x5, x6, x7, x8, some (.int n), x10, x11, x12, some (LL (facesL k)), some (.int ((tp k : Int) - 1)), x15, x16, x17, x18]) (fun g => decide ((g.length : Int) ≤ n + 1)) T rfl (by decide : 17 < 19) ?_ ?_]
        · intro g _
          simp only [↓bind_bnd, ok_bnd, exc_bnd, v_ap, k_ap, e1_ap, e2_ap, ret_ap, expr_ap, asg_ap, nil_ap, seq_ap, if_ap, ifB_ap, tr_b, noD_ap, and_ap, or_ap, not_ap, chB_ap, tup_ap, lst_ap, eL_n, eL_c, call_ap, callX_ap, nox_ok, for_ap, iSeq_ap, seq_t, seq_l, iR1_ap, iR2_ap, name_ap, ok_bind, exc_bind, List.getElem?_cons_zero, List.getElem?_cons_succ, List.set_cons_zero, List.set_cons_succ, List.map_cons, List.map_nil, List.cons_append, List.nil_append, List.replicate_succ, List.replicate_zero, cnd_s, cnd_n, len_T, add_i, le_i]
        · intro g _ _
          simp only [↓bind_bnd, ok_bnd, exc_bnd, v_ap, k_ap, e1_ap, e2_ap, ret_ap, expr_ap, asg_ap, nil_ap, seq_ap, if_ap, ifB_ap, tr_b, noD_ap, and_ap, or_ap, not_ap, chB_ap, tup_ap, lst_ap, eL_n, eL_c, call_ap, callX_ap, nox_ok, for_ap, iSeq_ap, seq_t, seq_l, iR1_ap, iR2_ap, name_ap, ok_bind, exc_bind, List.getElem?_cons_zero, List.getElem?_cons_succ, List.set_cons_zero, List.set_cons_succ, List.map_cons, List.map_nil, List.cons_append, List.nil_append, List.replicate_succ, List.replicate_zero, cnd_s, cnd_n]
      have sub1 : ((facesL k).filter fun g => decide ((g.length : Int) = n + 1)).Sublist (facesL k) := List.filter_sublist
      have sub2 : ((facesL k).filter fun g => decide ((g.length : Int) ≤ n + 1)).Sublist (facesL k) := List.filter_sublist
      have hlen := h.toQ.len
      have same1 := same_X (X := (facesL k).filter fun g => decide ((g.length : Int) = n + 1)) (by have := sub1.length_le; omega) fun g hg => Nat.le_trans (h.toQ.le g (sub1.subset hg)) h4
      have cs := cell_small h sub2
      have same2 := same_X cs.1 cs.2
      have fe : facetsI leI dd ((facesL k).filter fun g => decide ((g.length : Int) ≤ n + 1)) = cellsI leI ((facesL k).filter fun g => decide ((g.length : Int) ≤ n + 1)) := facets_cells dd_ok (h.toQ.ssd.2.filter _)
      have first : sIf (eAndB (e2 geP (eVar 9) (eK (.int 0))) (eNotB (noD (eCall (m__law_same 8) [(eCall m__law_honest [(eCallX m_faces_of [(eVar 2), (eVar 9)])]), (e1 tupleP (eComp (gName 17) (some (e2 eqP (e1 lenS (eVar 17)) (e2 addP (eVar 9) (eK (.int 1))))) (eVar 17) [17] (iSeq (eVar 13))))])))) (sRet (eK (.bool false))) sNil [x0, x1, some (TT k), x3, x4, x5, x6, x7, x8, some (.int n), x10, x11, x12, some (LL (facesL k)), some (.int ((tp k : Int) - 1)), x15, x16, x17, x18] =
          .ok (.next, [x0, x1, some (TT k), x3, x4, x5, x6, x7, x8, some (.int n), x10, x11, x12, some (LL (facesL k)), some (.int ((tp k : Int) - 1)), x15, x16, x17, x18]) := by
        simp only [↓bind_bnd, ok_bnd, exc_bnd, v_ap, k_ap, e1_ap, e2_ap, ret_ap, expr_ap, asg_ap, nil_ap, seq_ap, if_ap, ifB_ap, tr_b, noD_ap, and_ap, or_ap, not_ap, chB_ap, tup_ap, lst_ap, eL_n, eL_c, call_ap, callX_ap, nox_ok, for_ap, iSeq_ap, seq_t, seq_l, iR1_ap, iR2_ap, name_ap, ok_bind, exc_bind, List.getElem?_cons_zero, List.getElem?_cons_succ, List.set_cons_zero, List.set_cons_succ, List.map_cons, List.map_nil, List.cons_append, List.nil_append, List.replicate_succ, List.replicate_zero, cnd_s, cnd_n, ge_i]
        cases decide ((0 : Int) ≤ n) with
        | false => simp only [↓bind_bnd, ok_bnd, exc_bnd, v_ap, k_ap, e1_ap, e2_ap, ret_ap, expr_ap, asg_ap, nil_ap, seq_ap, if_ap, ifB_ap, tr_b, noD_ap, and_ap, or_ap, not_ap, chB_ap, tup_ap, lst_ap, eL_n, eL_c, call_ap, callX_ap, nox_ok, for_ap, iSeq_ap, seq_t, seq_l, iR1_ap, iR2_ap, name_ap, ok_bind, exc_bind, List.getElem?_cons_zero, List.getElem?_cons_succ, List.set_cons_zero, List.set_cons_succ, List.map_cons, List.map_nil, List.cons_append, List.nil_append, List.replicate_succ, List.replicate_zero, cnd_s, cnd_n, Bool.false_eq_true, if_false]
        | true =>
          simp only [↓bind_bnd, ok_bnd, exc_bnd, v_ap, k_ap, e1_ap, e2_ap, ret_ap, expr_ap, asg_ap, nil_ap, seq_ap, if_ap, ifB_ap, tr_b, noD_ap, and_ap, or_ap, not_ap, chB_ap, tup_ap, lst_ap, eL_n, eL_c, call_ap, callX_ap, nox_ok, for_ap, iSeq_ap, seq_t, seq_l, iR1_ap, iR2_ap, name_ap, ok_bind, exc_bind, List.getElem?_cons_zero, List.getElem?_cons_succ, List.set_cons_zero, List.set_cons_succ, List.map_cons, List.map_nil, List.cons_append, List.nil_append, List.replicate_succ, List.replicate_zero, cnd_s, cnd_n, faces_of_eq h.toQ n, honest_TT, c1, tup_l, same1, Bool.not_true, Bool.false_eq_true, if_false]
      refine (s_next first).trans ?_
      simp only [↓bind_bnd, ok_bnd, exc_bnd, v_ap, k_ap, e1_ap, e2_ap, ret_ap, expr_ap, asg_ap, nil_ap, seq_ap, if_ap, ifB_ap, tr_b, noD_ap, and_ap, or_ap, not_ap, chB_ap, tup_ap, lst_ap, eL_n, eL_c, call_ap, callX_ap, nox_ok, for_ap, iSeq_ap, seq_t, seq_l, iR1_ap, iR2_ap, name_ap, ok_bind, exc_bind, List.getElem?_cons_zero, List.getElem?_cons_succ, List.set_cons_zero, List.set_cons_succ, List.map_cons, List.map_nil, List.cons_append, List.nil_append, List.replicate_succ, List.replicate_zero, cnd_s, cnd_n, skeleton_eq h.toQ n, fe, honest_TT, c2, lcells_sub h sub2, same2, Bool.not_true, Bool.false_eq_true, if_false])
  exact ⟨y, e⟩
end
end Pl

namespace Pl
open PySem Mi Pu K88
section
variable {x0 x1 x2 x3 x4 x5 x6 x7 x8 x9 x10 x11 x12 x13 x14 x15 x16 x17 x18 : Option PV}
theorem l15 {k : List (List Int)} {f : List Int} (h : Kf k f) : (sAsg 10 (eComp (gName 17) (some (eAndB (e2 eqP (e1 lenS (eComp (gName 12) (some (e2 inP (eVar 12) (eVar 3))) (eVar 12) [12] (iSeq (eVar 17)))) (eK (.int 0))) (e2 inP (e1 tupleP (e1 sortedA (e2 addP (eVar 3) (eVar 17)))) (eVar 13)))) (eVar 17) [17] (iSeq (eVar 13)))) [x0, x1, x2, some (T f), x4, x5, x6, x7, x8, x9, x10, x11, x12, some (LL (facesL k)), x14, x15, x16, x17, x18] = .ok (.next, [x0, x1, x2, some (T f), x4, x5, x6, x7, x8, x9, some (LL (linkC (facesL k) f)), x11, x12, some (LL (facesL k)), x14, x15, x16, x17, x18]) := by
  have hf4 := h.f4
  have h4 := h.toQ.tp4
  have hlim : lim = 16777216 := rfl
  simp only [↓bind_bnd, ok_bnd, exc_bnd, v_ap, k_ap, e1_ap, e2_ap, ret_ap, expr_ap, asg_ap, nil_ap, seq_ap, if_ap, ifB_ap, tr_b, noD_ap, and_ap, or_ap, not_ap, chB_ap, tup_ap, lst_ap, eL_n, eL_c, call_ap, callX_ap, nox_ok, for_ap, iSeq_ap, seq_t, seq_l, iR1_ap, iR2_ap, name_ap, ok_bind, exc_bind, List.getElem?_cons_zero, List.getElem?_cons_succ, List.set_cons_zero, List.set_cons_succ, List.map_cons, List.map_nil, List.cons_append, List.nil_append, List.replicate_succ, List.replicate_zero, cnd_s, cnd_n]
  rw [compA (v := 17) (xs := facesL k) (enc := T) (ρ' := [x0, x1, x2, some (T f), x4, x5, x6, x7, x8, x9, x10, x11, x12, some (LL (facesL k)), x14, x15, x16, x17, x18]) (fun g => decide ((g.filter fun p => f.contains p).length = 0) && (facesL k).contains (isort (f ++ g))) T rfl (by decide : 17 < 19) ?_ ?_]
  · simp only [↓bind_bnd, ok_bnd, exc_bnd, v_ap, k_ap, e1_ap, e2_ap, ret_ap, expr_ap, asg_ap, nil_ap, seq_ap, if_ap, ifB_ap, tr_b, noD_ap, and_ap, or_ap, not_ap, chB_ap, tup_ap, lst_ap, eL_n, eL_c, call_ap, callX_ap, nox_ok, for_ap, iSeq_ap, seq_t, seq_l, iR1_ap, iR2_ap, name_ap, ok_bind, exc_bind, List.getElem?_cons_zero, List.getElem?_cons_succ, List.set_cons_zero, List.set_cons_succ, List.map_cons, List.map_nil, List.cons_append, List.nil_append, List.replicate_succ, List.replicate_zero, cnd_s, cnd_n]
    rfl
  · intro g hg
    have hg4 := h.toQ.le g hg
    simp only [↓bind_bnd, ok_bnd, exc_bnd, v_ap, k_ap, e1_ap, e2_ap, ret_ap, expr_ap, asg_ap, nil_ap, seq_ap, if_ap, ifB_ap, tr_b, noD_ap, and_ap, or_ap, not_ap, chB_ap, tup_ap, lst_ap, eL_n, eL_c, call_ap, callX_ap, nox_ok, for_ap, iSeq_ap, seq_t, seq_l, iR1_ap, iR2_ap, name_ap, ok_bind, exc_bind, List.getElem?_cons_zero, List.getElem?_cons_succ, List.set_cons_zero, List.set_cons_succ, List.map_cons, List.map_nil, List.cons_append, List.nil_append, List.replicate_succ, List.replicate_zero, cnd_s, cnd_n]
    rw [compA (v := 12) (xs := g) (enc := .int) (ρ' := [x0, x1, x2, some (T f), x4, x5, x6, x7, x8, x9, x10, x11, x12, some (LL (facesL k)), x14, x15, x16, some (T g), x18]) (fun p => f.contains p) .int rfl (by decide : 12 < 19) ?_ ?_]
    · simp only [↓bind_bnd, ok_bnd, exc_bnd, v_ap, k_ap, e1_ap, e2_ap, ret_ap, expr_ap, asg_ap, nil_ap, seq_ap, if_ap, ifB_ap, tr_b, noD_ap, and_ap, or_ap, not_ap, chB_ap, tup_ap, lst_ap, eL_n, eL_c, call_ap, callX_ap, nox_ok, for_ap, iSeq_ap, seq_t, seq_l, iR1_ap, iR2_ap, name_ap, ok_bind, exc_bind, List.getElem?_cons_zero, List.getElem?_cons_succ, List.set_cons_zero, List.set_cons_succ, List.map_cons, List.map_nil, List.cons_append, List.nil_append, List.replicate_succ, List.replicate_zero, cnd_s, cnd_n, len_L, eq_i, nat_eq0]
      cases decide ((g.filter fun p => f.contains p).length = 0) with
      | false => simp only [↓bind_bnd, ok_bnd, exc_bnd, v_ap, k_ap, e1_ap, e2_ap, ret_ap, expr_ap, asg_ap, nil_ap, seq_ap, if_ap, ifB_ap, tr_b, noD_ap, and_ap, or_ap, not_ap, chB_ap, tup_ap, lst_ap, eL_n, eL_c, call_ap, callX_ap, nox_ok, for_ap, iSeq_ap, seq_t, seq_l, iR1_ap, iR2_ap, name_ap, ok_bind, exc_bind, List.getElem?_cons_zero, List.getElem?_cons_succ, List.set_cons_zero, List.set_cons_succ, List.map_cons, List.map_nil, List.cons_append, List.nil_append, List.replicate_succ, List.replicate_zero, cnd_s, cnd_n, Bool.false_and]
      | true =>
        simp only [↓bind_bnd, ok_bnd, exc_bnd, v_ap, k_ap, e1_ap, e2_ap, ret_ap, expr_ap, asg_ap, nil_ap, seq_ap, if_ap, ifB_ap, tr_b, noD_ap, and_ap, or_ap, not_ap, chB_ap, tup_ap, lst_ap, eL_n, eL_c, call_ap, callX_ap, nox_ok, for_ap, iSeq_ap, seq_t, seq_l, iR1_ap, iR2_ap, name_ap, ok_bind, exc_bind, List.getElem?_cons_zero, List.getElem?_cons_succ, List.set_cons_zero, List.set_cons_succ, List.map_cons, List.map_nil, List.cons_append, List.nil_append, List.replicate_succ, List.replicate_zero, cnd_s, cnd_n, addT (k := f) (l := g) (by omega), sorted_T, tup_l]
        rw [show PV.tup ((isort (f ++ g)).map .int) = T (isort (f ++ g)) from rfl, in_tup (isort (f ++ g)) (facesL k) (LL (facesL k)) rfl]
        simp only [↓bind_bnd, ok_bnd, exc_bnd, v_ap, k_ap, e1_ap, e2_ap, ret_ap, expr_ap, asg_ap, nil_ap, seq_ap, if_ap, ifB_ap, tr_b, noD_ap, and_ap, or_ap, not_ap, chB_ap, tup_ap, lst_ap, eL_n, eL_c, call_ap, callX_ap, nox_ok, for_ap, iSeq_ap, seq_t, seq_l, iR1_ap, iR2_ap, name_ap, ok_bind, exc_bind, List.getElem?_cons_zero, List.getElem?_cons_succ, List.set_cons_zero, List.set_cons_succ, List.map_cons, List.map_nil, List.cons_append, List.nil_append, List.replicate_succ, List.replicate_zero, cnd_s, cnd_n, Bool.true_and]
    · intro x _
      simp only [↓bind_bnd, ok_bnd, exc_bnd, v_ap, k_ap, e1_ap, e2_ap, ret_ap, expr_ap, asg_ap, nil_ap, seq_ap, if_ap, ifB_ap, tr_b, noD_ap, and_ap, or_ap, not_ap, chB_ap, tup_ap, lst_ap, eL_n, eL_c, call_ap, callX_ap, nox_ok, for_ap, iSeq_ap, seq_t, seq_l, iR1_ap, iR2_ap, name_ap, ok_bind, exc_bind, List.getElem?_cons_zero, List.getElem?_cons_succ, List.set_cons_zero, List.set_cons_succ, List.map_cons, List.map_nil, List.cons_append, List.nil_append, List.replicate_succ, List.replicate_zero, cnd_s, cnd_n, in_int]
    · intro x _ _
      simp only [↓bind_bnd, ok_bnd, exc_bnd, v_ap, k_ap, e1_ap, e2_ap, ret_ap, expr_ap, asg_ap, nil_ap, seq_ap, if_ap, ifB_ap, tr_b, noD_ap, and_ap, or_ap, not_ap, chB_ap, tup_ap, lst_ap, eL_n, eL_c, call_ap, callX_ap, nox_ok, for_ap, iSeq_ap, seq_t, seq_l, iR1_ap, iR2_ap, name_ap, ok_bind, exc_bind, List.getElem?_cons_zero, List.getElem?_cons_succ, List.set_cons_zero, List.set_cons_succ, List.map_cons, List.map_nil, List.cons_append, List.nil_append, List.replicate_succ, List.replicate_zero, cnd_s, cnd_n]
  · intro g _ _
    simp only [↓bind_bnd, ok_bnd, exc_bnd, v_ap, k_ap, e1_ap, e2_ap, ret_ap, expr_ap, asg_ap, nil_ap, seq_ap, if_ap, ifB_ap, tr_b, noD_ap, and_ap, or_ap, not_ap, chB_ap, tup_ap, lst_ap, eL_n, eL_c, call_ap, callX_ap, nox_ok, for_ap, iSeq_ap, seq_t, seq_l, iR1_ap, iR2_ap, name_ap, ok_bind, exc_bind, List.getElem?_cons_zero, List.getElem?_cons_succ, List.set_cons_zero, List.set_cons_succ, List.map_cons, List.map_nil, List.cons_append, List.nil_append, List.replicate_succ, List.replicate_zero, cnd_s, cnd_n]
theorem l16 {k : List (List Int)} {f : List Int} (h : Kf k f) : (sAsg 11 (eComp (gName 17) (some (e2 inP (e1 tupleP (e1 sortedA (e2 addP (eVar 3) (e1 tupleP (eComp (gName 12) (some (e2 notInP (eVar 12) (eVar 3))) (eVar 12) [12] (iSeq (eVar 17))))))) (eVar 13))) (eVar 17) [17] (iSeq (eVar 13)))) [x0, x1, x2, some (T f), x4, x5, x6, x7, x8, x9, x10, x11, x12, some (LL (facesL k)), x14, x15, x16, x17, x18] = .ok (.next, [x0, x1, x2, some (T f), x4, x5, x6, x7, x8, x9, x10, some (LL (starC (facesL k) f)), x12, some (LL (facesL k)), x14, x15, x16, x17, x18]) := by
  have hf4 := h.f4
  have h4 := h.toQ.tp4
  have hlim : lim = 16777216 := rfl
  simp only [↓bind_bnd, ok_bnd, exc_bnd, v_ap, k_ap, e1_ap, e2_ap, ret_ap, expr_ap, asg_ap, nil_ap, seq_ap, if_ap, ifB_ap, tr_b, noD_ap, and_ap, or_ap, not_ap, chB_ap, tup_ap, lst_ap, eL_n, eL_c, call_ap, callX_ap, nox_ok, for_ap, iSeq_ap, seq_t, seq_l, iR1_ap, iR2_ap, name_ap, ok_bind, exc_bind, List.getElem?_cons_zero, List.getElem?_cons_succ, List.set_cons_zero, List.set_cons_succ, List.map_cons, List.map_nil, List.cons_append, List.nil_append, List.replicate_succ, List.replicate_zero, cnd_s, cnd_n]
  rw [compA (v := 17) (xs := facesL k) (enc := T) (ρ' := [x0, x1, x2, some (T f), x4, x5, x6, x7, x8, x9, x10, x11, x12, some (LL (facesL k)), x14, x15, x16, x17, x18]) (fun g => (facesL k).contains (isort (f ++ g.filter fun p => !f.contains p))) T rfl (by decide : 17 < 19) ?_ ?_]
  · simp only [↓bind_bnd, ok_bnd, exc_bnd, v_ap, k_ap, e1_ap, e2_ap, ret_ap, expr_ap, asg_ap, nil_ap, seq_ap, if_ap, ifB_ap, tr_b, noD_ap, and_ap, or_ap, not_ap, chB_ap, tup_ap, lst_ap, eL_n, eL_c, call_ap, callX_ap, nox_ok, for_ap, iSeq_ap, seq_t, seq_l, iR1_ap, iR2_ap, name_ap, ok_bind, exc_bind, List.getElem?_cons_zero, List.getElem?_cons_succ, List.set_cons_zero, List.set_cons_succ, List.map_cons, List.map_nil, List.cons_append, List.nil_append, List.replicate_succ, List.replicate_zero, cnd_s, cnd_n]
    rfl
  · intro g hg
    have hg4 := h.toQ.le g hg
    have hgl := List.length_filter_le (fun p => !f.contains p) g
    simp only [↓bind_bnd, ok_bnd, exc_bnd, v_ap, k_ap, e1_ap, e2_ap, ret_ap, expr_ap, asg_ap, nil_ap, seq_ap, if_ap, ifB_ap, tr_b, noD_ap, and_ap, or_ap, not_ap, chB_ap, tup_ap, lst_ap, eL_n, eL_c, call_ap, callX_ap, nox_ok, for_ap, iSeq_ap, seq_t, seq_l, iR1_ap, iR2_ap, name_ap, ok_bind, exc_bind, List.getElem?_cons_zero, List.getElem?_cons_succ, List.set_cons_zero, List.set_cons_succ, List.map_cons, List.map_nil, List.cons_append, List.nil_append, List.replicate_succ, List.replicate_zero, cnd_s, cnd_n]
    rw [compA (v := 12) (xs := g) (enc := .int) (ρ' := [x0, x1, x2, some (T f), x4, x5, x6, x7, x8, x9, x10, x11, x12, some (LL (facesL k)), x14, x15, x16, some (T g), x18]) (fun p => !f.contains p) .int rfl (by decide : 12 < 19) ?_ ?_]
    · simp only [↓bind_bnd, ok_bnd, exc_bnd, v_ap, k_ap, e1_ap, e2_ap, ret_ap, expr_ap, asg_ap, nil_ap, seq_ap, if_ap, ifB_ap, tr_b, noD_ap, and_ap, or_ap, not_ap, chB_ap, tup_ap, lst_ap, eL_n, eL_c, call_ap, callX_ap, nox_ok, for_ap, iSeq_ap, seq_t, seq_l, iR1_ap, iR2_ap, name_ap, ok_bind, exc_bind, List.getElem?_cons_zero, List.getElem?_cons_succ, List.set_cons_zero, List.set_cons_succ, List.map_cons, List.map_nil, List.cons_append, List.nil_append, List.replicate_succ, List.replicate_zero, cnd_s, cnd_n, tup_l]
      rw [show PV.tup ((g.filter fun p => !f.contains p).map .int) = T (g.filter fun p => !f.contains p) from rfl, addT (k := f) (l := g.filter fun p => !f.contains p) (by omega)]
      simp only [↓bind_bnd, ok_bnd, exc_bnd, v_ap, k_ap, e1_ap, e2_ap, ret_ap, expr_ap, asg_ap, nil_ap, seq_ap, if_ap, ifB_ap, tr_b, noD_ap, and_ap, or_ap, not_ap, chB_ap, tup_ap, lst_ap, eL_n, eL_c, call_ap, callX_ap, nox_ok, for_ap, iSeq_ap, seq_t, seq_l, iR1_ap, iR2_ap, name_ap, ok_bind, exc_bind, List.getElem?_cons_zero, List.getElem?_cons_succ, List.set_cons_zero, List.set_cons_succ, List.map_cons, List.map_nil, List.cons_append, List.nil_append, List.replicate_succ, List.replicate_zero, cnd_s, cnd_n, sorted_T, tup_l]
      rw [show PV.tup ((isort (f ++ g.filter fun p => !f.contains p)).map .int) = T (isort (f ++ g.filter fun p => !f.contains p)) from rfl, in_tup (isort (f ++ g.filter fun p => !f.contains p)) (facesL k) (LL (facesL k)) rfl]
      simp only [↓bind_bnd, ok_bnd, exc_bnd, v_ap, k_ap, e1_ap, e2_ap, ret_ap, expr_ap, asg_ap, nil_ap, seq_ap, if_ap, ifB_ap, tr_b, noD_ap, and_ap, or_ap, not_ap, chB_ap, tup_ap, lst_ap, eL_n, eL_c, call_ap, callX_ap, nox_ok, for_ap, iSeq_ap, seq_t, seq_l, iR1_ap, iR2_ap, name_ap, ok_bind, exc_bind, List.getElem?_cons_zero, List.getElem?_cons_succ, List.set_cons_zero, List.set_cons_succ, List.map_cons, List.map_nil, List.cons_append, List.nil_append, List.replicate_succ, List.replicate_zero, cnd_s, cnd_n]
    · intro x _
      simp only [↓bind_bnd, ok_bnd, exc_bnd, v_ap, k_ap, e1_ap, e2_ap, ret_ap, expr_ap, asg_ap, nil_ap, seq_ap, if_ap, ifB_ap, tr_b, noD_ap, and_ap, or_ap, not_ap, chB_ap, tup_ap, lst_ap, eL_n, eL_c, call_ap, callX_ap, nox_ok, for_ap, iSeq_ap, seq_t, seq_l, iR1_ap, iR2_ap, name_ap, ok_bind, exc_bind, List.getElem?_cons_zero, List.getElem?_cons_succ, List.set_cons_zero, List.set_cons_succ, List.map_cons, List.map_nil, List.cons_append, List.nil_append, List.replicate_succ, List.replicate_zero, cnd_s, cnd_n, notin_int]
    · intro x _ _
      simp only [↓bind_bnd, ok_bnd, exc_bnd, v_ap, k_ap, e1_ap, e2_ap, ret_ap, expr_ap, asg_ap, nil_ap, seq_ap, if_ap, ifB_ap, tr_b, noD_ap, and_ap, or_ap, not_ap, chB_ap, tup_ap, lst_ap, eL_n, eL_c, call_ap, callX_ap, nox_ok, for_ap, iSeq_ap, seq_t, seq_l, iR1_ap, iR2_ap, name_ap, ok_bind, exc_bind, List.getElem?_cons_zero, List.getElem?_cons_succ, List.set_cons_zero, List.set_cons_succ, List.map_cons, List.map_nil, List.cons_append, List.nil_append, List.replicate_succ, List.replicate_zero, cnd_s, cnd_n]
  · intro g _ _
    simp only [↓bind_bnd, ok_bnd, exc_bnd, v_ap, k_ap, e1_ap, e2_ap, ret_ap, expr_ap, asg_ap, nil_ap, seq_ap, if_ap, ifB_ap, tr_b, noD_ap, and_ap, or_ap, not_ap, chB_ap, tup_ap, lst_ap, eL_n, eL_c, call_ap, callX_ap, nox_ok, for_ap, iSeq_ap, seq_t, seq_l, iR1_ap, iR2_ap, name_ap, ok_bind, exc_bind, List.getElem?_cons_zero, List.getElem?_cons_succ, List.set_cons_zero, List.set_cons_succ, List.map_cons, List.map_nil, List.cons_append, List.nil_append, List.replicate_succ, List.replicate_zero, cnd_s, cnd_n]
theorem l17 {k : List (List Int)} {f : List Int} (h : Kf k f) : (sIf (eOrB (eNotB (noD (eCall (m__law_same 8) [(eCall m__law_honest [(eCall m_link_of_face [(eVar 2), (eVar 3)])]), (eCall m__law_cells_of [(eVar 10)])]))) (eNotB (noD (eCall (m__law_same 8) [(eCall m__law_honest [(eCall m_star_of_face [(eVar 2), (eVar 3)])]), (eCall m__law_cells_of [(eVar 11)])])))) (sRet (eK (.bool false))) sNil) [x0, x1, some (TT k), some (T f), x4, x5, x6, x7, x8, x9, some (LL (linkC (facesL k) f)), some (LL (starC (facesL k) f)), x12, x13, x14, x15, x16, x17, x18] = .ok (.next, [x0, x1, some (TT k), some (T f), x4, x5, x6, x7, x8, x9, some (LL (linkC (facesL k) f)), some (LL (starC (facesL k) f)), x12, x13, x14, x15, x16, x17, x18]) := by
  have hk := h.toKok
  have q := h.toQ
  have hl := hk.len
  have s1 : (linkC (facesL k) f).Sublist (facesL k) := List.filter_sublist
  have s2 : (starC (facesL k) f).Sublist (facesL k) := List.filter_sublist
  have e1 : facetsI leI dd (linkS k f) = cellsI leI (linkC (facesL k) f) := facets_clo dd_ok (link_clo q.clo q.good h.fin) (good_linkS q.good f) (q.ssd.2.sublist s1)
  have e2 : cellsI leI (starC (facesL k) f) = k.filter fun o => sub f o := cells_clo (star_clo q.clo q.good h.fin) (good_filter q.good _) (h.ssd.filter _) (anti_filter h.anti _) (q.ssd.2.sublist s2)
  have c1 := cell_small hk s1
  have c2 := cell_small hk s2
  have m1 := same_X c1.1 c1.2
  have m2 := same_X c2.1 c2.2
  rw [e2] at m2
  simp only [↓bind_bnd, ok_bnd, exc_bnd, v_ap, k_ap, e1_ap, e2_ap, ret_ap, expr_ap, asg_ap, nil_ap, seq_ap, if_ap, ifB_ap, tr_b, noD_ap, and_ap, or_ap, not_ap, chB_ap, tup_ap, lst_ap, eL_n, eL_c, call_ap, callX_ap, nox_ok, for_ap, iSeq_ap, seq_t, seq_l, iR1_ap, iR2_ap, name_ap, ok_bind, exc_bind, List.getElem?_cons_zero, List.getElem?_cons_succ, List.set_cons_zero, List.set_cons_succ, List.map_cons, List.map_nil, List.cons_append, List.nil_append, List.replicate_succ, List.replicate_zero, cnd_s, cnd_n, link_eq (f := f) q.good (by omega), e1, honest_TT, lcells_sub hk s1, m1, star_eq, lcells_sub hk s2, e2, m2, Bool.not_true, Bool.false_eq_true, if_false]
theorem l18 {k : List (List Int)} {f : List Int} (h : Kf k f) : ∃ y, (sFor (gName 12) (iSeq (eTup [(e2 idxP (eVar 3) (eK (.int 0))), (eK (.int 15)), (eK (.int 7))])) (sIf (eNotB (noD (eCall (m__law_same 8) [(eCall m__law_honest [(eCall m_without_point [(eVar 2), (eVar 12)])]), (eCall m__law_cells_of [(eComp (gName 17) (some (e2 notInP (eVar 12) (eVar 17))) (eVar 17) [17] (iSeq (eVar 13)))])]))) (sRet (eK (.bool false))) sNil)) [x0, x1, some (TT k), some (T f), x4, x5, x6, x7, x8, x9, x10, x11, x12, some (LL (facesL k)), x14, x15, x16, x17, x18] = .ok (.next, [x0, x1, some (TT k), some (T f), x4, x5, x6, x7, x8, x9, x10, x11, y, some (LL (facesL k)), x14, x15, x16, x17, x18]) := by
  have hk := h.toKok
  have q := h.toQ
  have hl := hk.len
  have hf := List.length_pos_iff.2 (q.ne f h.fin)
  have hx : idxP (T f) (.int 0) = .ok (.int (f.getD 0 0)) := idx_i (i := 0) hf
  obtain ⟨ρ2, e, y, rfl⟩ := for_list (i := 12) (ρ := [x0, x1, some (TT k), some (T f), x4, x5, x6, x7, x8, x9, x10, x11, x12, some (LL (facesL k)), x14, x15, x16, x17, x18]) (vs := [f.getD 0 0, 15, 7].map .int)
      (it := iSeq (eTup [(e2 idxP (eVar 3) (eK (.int 0))), (eK (.int 15)), (eK (.int 7))]))
      (s := (sIf (eNotB (noD (eCall (m__law_same 8) [(eCall m__law_honest [(eCall m_without_point [(eVar 2), (eVar 12)])]), (eCall m__law_cells_of [(eComp (gName 17) (some (e2 notInP (eVar 12) (eVar 17))) (eVar 17) [17] (iSeq (eVar 13)))])]))) (sRet (eK (.bool false))) sNil))
      (fun ρ => ∃ y, ρ = [x0, x1, some (TT k), some (T f), x4, x5, x6, x7, x8, x9, x10, x11, y, some (LL (facesL k)), x14, x15, x16, x17, x18]) (by
        simp only [↓bind_bnd, ok_bnd, exc_bnd, v_ap, k_ap, e1_ap, e2_ap, ret_ap, expr_ap, asg_ap, nil_ap, seq_ap, if_ap, ifB_ap, tr_b, noD_ap, and_ap, or_ap, not_ap, chB_ap, tup_ap, lst_ap, eL_n, eL_c, call_ap, callX_ap, nox_ok, for_ap, iSeq_ap, seq_t, seq_l, iR1_ap, iR2_ap, name_ap, ok_bind, exc_bind, List.getElem?_cons_zero, List.getElem?_cons_succ, List.set_cons_zero, List.set_cons_succ, List.map_cons, List.map_nil, List.cons_append, List.nil_append, List.replicate_succ, List.replicate_zero, cnd_s, cnd_n, hx]
        rfl) ⟨_, rfl⟩ (fun v hv ρ hρ => by
      obtain ⟨y, rfl⟩ := hρ
      obtain ⟨p, _, rfl⟩ := List.mem_map.1 hv
      refine ⟨[x0, x1, some (TT k), some (T f), x4, x5, x6, x7, x8, x9, x10, x11, some (.int p), some (LL (facesL k)), x14, x15, x16, x17, x18], ?_, _, rfl⟩
      have c1 : eComp (gName 17) (some (e2 notInP (eVar 12) (eVar 17))) (eVar 17) [17] (iSeq (eVar 13)) [x0, x1, some (TT k), some (T f), x4, x5, x6, x7, x8, x9, x10, x11, some (.int p), some (LL (facesL k)), x14, x15, x16, x17, x18] =
          .ok (LL (withC (facesL k) p), [x0, x1, some (TT k), some (T f), x4, x5, x6, x7, x8, x9, x10, x11, some (.int p), some (LL (facesL k)), x14, x15, x16, x17, x18]) := by
        rw [compA (v := 17) (xs := facesL k) (enc := T) (ρ' := [x0, x1, some (TT k), some (T f), x4, x5, x6, x7, x8, x9, x10, x11, some (.int p), some (LL (facesL k)), x14, x15, x16, x17, x18]) (fun g => !g.contains p) T rfl (by decide : 17 < 19) ?_ ?_]
        · rfl
        · intro g _
          simp only [↓bind_bnd, ok_bnd, exc_bnd, v_ap, k_ap, e1_ap, e2_ap, ret_ap, expr_ap, asg_ap, nil_ap, seq_ap, if_ap, ifB_ap, tr_b, noD_ap, and_ap, or_ap, not_ap, chB_ap, tup_ap, lst_ap, eL_n, eL_c, call_ap, callX_ap, nox_ok, for_ap, iSeq_ap, seq_t, seq_l, iR1_ap, iR2_ap, name_ap, ok_bind, exc_bind, List.getElem?_cons_zero, List.getElem?_cons_succ, List.set_cons_zero, List.set_cons_succ, List.map_cons, List.map_nil, List.cons_append, List.nil_append, List.replicate_succ, List.replicate_zero, cnd_s, cnd_n, notin_int]
        · intro g _ _
          simp only [↓bind_bnd, ok_bnd, exc_bnd, v_ap, k_ap, e1_ap, e2_ap, ret_ap, expr_ap, asg_ap, nil_ap, seq_ap, if_ap, ifB_ap, tr_b, noD_ap, and_ap, or_ap, not_ap, chB_ap, tup_ap, lst_ap, eL_n, eL_c, call_ap, callX_ap, nox_ok, for_ap, iSeq_ap, seq_t, seq_l, iR1_ap, iR2_ap, name_ap, ok_bind, exc_bind, List.getElem?_cons_zero, List.getElem?_cons_succ, List.set_cons_zero, List.set_cons_succ, List.map_cons, List.map_nil, List.cons_append, List.nil_append, List.replicate_succ, List.replicate_zero, cnd_s, cnd_n]
      have s1 : (withC (facesL k) p).Sublist (facesL k) := List.filter_sublist
      have e1 : facetsI leI dd (withS k p) = cellsI leI (withC (facesL k) p) := facets_clo dd_ok (with_clo q.clo q.good p) (good_withS q.good p) (q.ssd.2.sublist s1)
      have cs := cell_small hk s1
      have m1 := same_X cs.1 cs.2
      simp only [↓bind_bnd, ok_bnd, exc_bnd, v_ap, k_ap, e1_ap, e2_ap, ret_ap, expr_ap, asg_ap, nil_ap, seq_ap, if_ap, ifB_ap, tr_b, noD_ap, and_ap, or_ap, not_ap, chB_ap, tup_ap, lst_ap, eL_n, eL_c, call_ap, callX_ap, nox_ok, for_ap, iSeq_ap, seq_t, seq_l, iR1_ap, iR2_ap, name_ap, ok_bind, exc_bind, List.getElem?_cons_zero, List.getElem?_cons_succ, List.set_cons_zero, List.set_cons_succ, List.map_cons, List.map_nil, List.cons_append, List.nil_append, List.replicate_succ, List.replicate_zero, cnd_s, cnd_n, without_eq (p := p) q.good (by omega), e1, honest_TT, c1, lcells_sub hk s1, m1, Bool.not_true, Bool.false_eq_true, if_false])
  exact ⟨y, e⟩
end
end Pl
namespace K88
open PySem Mi Pu Pl
theorem law_true (ns : List Int) (hl : ns.length ≤ 63) : m_law [.scr (ns.map .int)] = .ok (.bool true) := by
  have key : ∃ ρ', b_law ([.scr (ns.map .int)].map some ++ List.replicate 18 none) = .ok (.ret (.bool true), ρ') := by
    unfold b_law
    obtain ⟨s, t, h0⟩ := l0 (x1 := none) (x2 := none) (x3 := none) (x4 := none) (x5 := none) (x6 := none) (x7 := none) (x8 := none) (x9 := none) (x10 := none) (x11 := none) (x12 := none) (x13 := none) (x14 := none) (x15 := none) (x16 := none) (x17 := none) (x18 := none) ns
    refine Exists.imp (fun ρ' h => (s_next h0).trans h) ?_
    obtain ⟨s, t, k, hk, h1⟩ := l1 (x0 := some (.scr (ns.map .int))) (x2 := none) (x3 := none) (x4 := none) (x5 := none) (x6 := none) (x7 := none) (x8 := none) (x9 := none) (x10 := none) (x11 := none) (x12 := none) (x13 := none) (x14 := none) (x15 := none) (x16 := none) (x17 := none) (x18 := none) s t
    refine Exists.imp (fun ρ' h => (s_next h1).trans h) ?_
    refine Exists.imp (fun ρ' h => (s_next (l2 hk)).trans h) ?_
    obtain ⟨s, t, f, hf, h3⟩ := l3 (x0 := some (.scr (ns.map .int))) (x2 := some (TT k)) (x3 := none) (x4 := none) (x5 := none) (x6 := none) (x7 := none) (x8 := none) (x9 := none) (x10 := none) (x11 := none) (x12 := none) (x14 := some (.int ((tp k : Int) - 1))) (x15 := none) (x16 := none) (x17 := none) (x18 := none) hk s t
    refine Exists.imp (fun ρ' h => (s_next h3).trans h) ?_
    refine Exists.imp (fun ρ' h => (s_next (l4 hf)).trans h) ?_
    refine Exists.imp (fun ρ' h => (s_next l5).trans h) ?_
    obtain ⟨y, h6⟩ := l6 (x0 := some (.scr (ns.map .int))) (x1 := S s t) (x2 := some (TT k)) (x3 := some (T f)) (x5 := none) (x6 := none) (x7 := none) (x8 := none) (x9 := none) (x10 := none) (x11 := none) (x12 := none) (x13 := some (LL (facesL k))) (x14 := some (.int ((tp k : Int) - 1))) (x15 := none) (x16 := none) (x17 := none) (x18 := none) hf
    refine Exists.imp (fun ρ' h => (s_next h6).trans h) ?_
    obtain ⟨y, h7⟩ := l7 (x0 := some (.scr (ns.map .int))) (x1 := S s t) (x4 := some (.lst (vals k f ++ valsB))) (x5 := y) (x6 := none) (x7 := none) (x8 := none) (x9 := none) (x10 := none) (x11 := none) (x12 := none) (x14 := some (.int ((tp k : Int) - 1))) (x15 := none) (x16 := none) (x17 := none) (x18 := none) hf
    refine Exists.imp (fun ρ' h => (s_next h7).trans h) ?_
    obtain ⟨s, t, sm, hl5, hsm, h8⟩ := l8 (x0 := some (.scr (ns.map .int))) (x2 := some (TT k)) (x3 := some (T f)) (x4 := some (.lst (vals k f ++ valsB))) (x5 := y) (x6 := none) (x7 := none) (x8 := none) (x9 := none) (x10 := none) (x11 := none) (x12 := none) (x14 := some (.int ((tp k : Int) - 1))) (x15 := none) (x16 := none) (x17 := none) (x18 := none) hk s t
    refine Exists.imp (fun ρ' h => (s_next h8).trans h) ?_
    refine Exists.imp (fun ρ' h => (s_next (l9 hk hsm hl5)).trans h) ?_
    refine Exists.imp (fun ρ' h => (s_next (l10 hk hsm hl5)).trans h) ?_
    refine Exists.imp (fun ρ' h => (s_next l11).trans h) ?_
    refine Exists.imp (fun ρ' h => (s_next (l12 hk)).trans h) ?_
    obtain ⟨y2, z2, h13⟩ := l13 (x0 := some (.scr (ns.map .int))) (x1 := S s t) (x3 := some (T f)) (x4 := some (.lst (vals k f ++ valsB))) (x5 := y) (x6 := some (TT sm)) (x7 := some (LL (facesL sm))) (x9 := none) (x10 := none) (x11 := none) (x12 := none) (x13 := some (LL (facesL k))) (x15 := none) (x16 := none) (x17 := none) (x18 := none) hk
    refine Exists.imp (fun ρ' h => (s_next h13).trans h) ?_
    obtain ⟨y3, h14⟩ := l14 (x0 := some (.scr (ns.map .int))) (x1 := S s t) (x3 := some (T f)) (x4 := some (.lst (vals k f ++ valsB))) (x5 := y) (x6 := some (TT sm)) (x7 := some (LL (facesL sm))) (x8 := some (T (rowI (tp k) (facesL k)))) (x9 := none) (x10 := none) (x11 := none) (x12 := none) (x15 := y2) (x16 := z2) (x17 := none) (x18 := none) hk
    refine Exists.imp (fun ρ' h => (s_next h14).trans h) ?_
    refine Exists.imp (fun ρ' h => (s_next (l15 hf)).trans h) ?_
    refine Exists.imp (fun ρ' h => (s_next (l16 hf)).trans h) ?_
    refine Exists.imp (fun ρ' h => (s_next (l17 hf)).trans h) ?_
    obtain ⟨y4, h18⟩ := l18 (x0 := some (.scr (ns.map .int))) (x1 := S s t) (x4 := some (.lst (vals k f ++ valsB))) (x5 := y) (x6 := some (TT sm)) (x7 := some (LL (facesL sm))) (x8 := some (T (rowI (tp k) (facesL k)))) (x9 := y3) (x10 := some (LL (linkC (facesL k) f))) (x11 := some (LL (starC (facesL k) f))) (x12 := none) (x14 := some (.int ((tp k : Int) - 1))) (x15 := y2) (x16 := z2) (x17 := none) (x18 := none) hf
    refine Exists.imp (fun ρ' h => (s_next h18).trans h) ?_
    exact ⟨_, rfl⟩
  obtain ⟨ρ', e⟩ := key
  exact mkF_ok e
end K88

set_option maxRecDepth 100000
set_option maxHeartbeats 0
open PySem PySem.W PyProof.Rows
theorem PySem.Challenge.cw_boundroads_k88_whole_cells_and_faces_holds : PySem.Challenge.rw_boundroads_k88_whole_cells_and_faces.Holds := by
  w_on; o_law; k_head; (case hw => w_witness2)
  k_fill
  refine K88.walk (l := PySem.Challenge.rw_boundroads_k88_whole_cells_and_faces) K88.law_true rfl rfl (fun w h Y => PySem.W.kIn_of Y) ?F
  case F =>
    intro w mg fa h KX G hmg
    refine' K88.all_mk KX G hmg ?a0 ?l0 ?c0 ?k0 ?a1 ?l1 ?c1 ?k1 ?a2 ?l2 ?c2 ?k2 ?a3 ?l3 ?c3 ?k3 ?a4 ?l4 ?c4 ?k4 ?a5 ?l5 ?c5 ?k5 ?a6 ?l6 ?c6 ?k6 ?a7 ?l7 ?c7 ?k7 ?a8 ?l8 ?c8 ?k8 ?a9 ?l9 ?c9 ?k9 ?a10 ?l10 ?c10 ?k10 ?a11 ?l11 ?c11 ?k11 ?a12 ?l12 ?c12 ?k12 ?a13 ?l13 ?c13 ?k13 ?a14 ?l14 ?c14 ?k14 ?a15 ?l15 ?c15 ?k15 ?a16 ?l16 ?c16 ?k16 ?a17 ?l17 ?c17 ?k17 ?a18 ?l18 ?c18 ?k18 ?a19 ?l19 ?c19 ?k19 ?a20 ?l20 ?c20 ?k20 ?a21 ?l21 ?c21 ?k21 ?a22 ?l22 ?c22 ?k22 ?a23 ?l23 ?c23 ?k23 ?a24 ?l24 ?c24 ?k24 ?a25 ?l25 ?c25 ?k25 ?a26 ?l26 ?c26 ?k26 ?a27 ?l27 ?c27 ?k27 ?a28 ?l28 ?c28 ?k28 ?a29 ?l29 ?c29 ?k29 ?a30 ?l30 ?c30 ?k30 ?a31 ?l31 ?c31 ?k31 ?a32 ?l32 ?c32 ?k32 ?a33 ?l33 ?c33 ?k33 ?a34 ?l34 ?c34 ?k34 ?n_abs ?n_all ?n_any ?n_bool ?n_int ?n_isinstance ?n_len ?n_list ?n_max ?n_range ?n_set ?n_sorted ?n_str ?n_sum ?n_tuple ?n_super ?v_MOST_POINT ?v_MOST_FACES ?aC ?xL ?xF ?xFi ?xsa ?xga ?xgg ?xno ?xi ?xt ?xk ?xe ?xty ?xhd ?xis ?xss ?xop ?xfn ?xcd ?xce ?xco ?xf2 ?xfi ?xns
    (case a0 => k_is)
    (case l0 => k_is)
    (case c0 => k_is)
    (case k0 => k_is)
    (case a1 => k_is)
    (case l1 => k_is)
    (case c1 => k_is)
    (case k1 => k_is)
    (case a2 => k_is)
    (case l2 => k_is)
    (case c2 => k_is)
    (case k2 => k_is)
    (case a3 => k_is)
    (case l3 => k_is)
    (case c3 => k_is)
    (case k3 => k_is)
    (case a4 => k_is)
    (case l4 => k_is)
    (case c4 => k_is)
    (case k4 => k_is)
    (case a5 => k_is)
    (case l5 => k_is)
    (case c5 => k_is)
    (case k5 => k_is)
    (case a6 => k_is)
    (case l6 => k_is)
    (case c6 => k_is)
    (case k6 => k_is)
    (case a7 => k_is)
    (case l7 => k_is)
    (case c7 => k_is)
    (case k7 => k_is)
    (case a8 => k_is)
    (case l8 => k_is)
    (case c8 => k_is)
    (case k8 => k_is)
    (case a9 => k_is)
    (case l9 => k_is)
    (case c9 => k_is)
    (case k9 => k_is)
    (case a10 => k_is)
    (case l10 => k_is)
    (case c10 => k_is)
    (case k10 => k_is)
    (case a11 => k_is)
    (case l11 => k_is)
    (case c11 => k_is)
    (case k11 => k_is)
    (case a12 => k_is)
    (case l12 => k_is)
    (case c12 => k_is)
    (case k12 => k_is)
    (case a13 => k_is)
    (case l13 => k_is)
    (case c13 => k_is)
    (case k13 => k_is)
    (case a14 => k_is)
    (case l14 => k_is)
    (case c14 => k_is)
    (case k14 => k_is)
    (case a15 => k_is)
    (case l15 => k_is)
    (case c15 => k_is)
    (case k15 => k_is)
    (case a16 => k_is)
    (case l16 => k_is)
    (case c16 => k_is)
    (case k16 => k_is)
    (case a17 => k_is)
    (case l17 => k_is)
    (case c17 => k_is)
    (case k17 => k_is)
    (case a18 => k_is)
    (case l18 => k_is)
    (case c18 => k_is)
    (case k18 => k_is)
    (case a19 => k_is)
    (case l19 => k_is)
    (case c19 => k_is)
    (case k19 => k_is)
    (case a20 => k_is)
    (case l20 => k_is)
    (case c20 => k_is)
    (case k20 => k_is)
    (case a21 => k_is)
    (case l21 => k_is)
    (case c21 => k_is)
    (case k21 => k_is)
    (case a22 => k_is)
    (case l22 => k_is)
    (case c22 => k_is)
    (case k22 => k_is)
    (case a23 => k_is)
    (case l23 => k_is)
    (case c23 => k_is)
    (case k23 => k_is)
    (case a24 => k_is)
    (case l24 => k_is)
    (case c24 => k_is)
    (case k24 => k_is)
    (case a25 => k_is)
    (case l25 => k_is)
    (case c25 => k_is)
    (case k25 => k_is)
    (case a26 => k_is)
    (case l26 => k_is)
    (case c26 => k_is)
    (case k26 => k_is)
    (case a27 => k_is)
    (case l27 => k_is)
    (case c27 => k_is)
    (case k27 => k_is)
    (case a28 => k_is)
    (case l28 => k_is)
    (case c28 => k_is)
    (case k28 => k_is)
    (case a29 => k_is)
    (case l29 => k_is)
    (case c29 => k_is)
    (case k29 => k_is)
    (case a30 => k_is)
    (case l30 => k_is)
    (case c30 => k_is)
    (case k30 => k_is)
    (case a31 => k_is)
    (case l31 => k_is)
    (case c31 => k_is)
    (case k31 => k_is)
    (case a32 => k_is)
    (case l32 => k_is)
    (case c32 => k_is)
    (case k32 => k_is)
    (case a33 => k_is)
    (case l33 => k_is)
    (case c33 => k_is)
    (case k33 => k_is)
    (case a34 => k_is)
    (case l34 => k_is)
    (case c34 => k_is)
    (case k34 => k_is)
    (case n_abs => k_is)
    (case n_all => k_is)
    (case n_any => k_is)
    (case n_bool => k_is)
    (case n_int => k_is)
    (case n_isinstance => k_is)
    (case n_len => k_is)
    (case n_list => k_is)
    (case n_max => k_is)
    (case n_range => k_is)
    (case n_set => k_is)
    (case n_sorted => k_is)
    (case n_str => k_is)
    (case n_sum => k_is)
    (case n_tuple => k_is)
    (case n_super => k_is)
    (case v_MOST_POINT => k_is)
    (case v_MOST_FACES => k_is)
    (case aC => k_is)
    (case xL => k_is)
    (case xF => k_is)
    (case xFi => k_is)
    (case xsa => k_is)
    (case xga => k_is)
    (case xgg => k_is)
    (case xno => k_is)
    (case xi => k_is)
    (case xt => k_is)
    (case xk => k_is)
    (case xe => k_is)
    (case xty => k_is)
    (case xhd => k_is)
    (case xis => k_is)
    (case xss => first | rfl | k_is)
    (case xop => k_is)
    (case xfn => k_is)
    (case xcd => k_is)
    (case xce => k_is)
    (case xco => k_is)
    (case xf2 => rfl)
    (case xfi => first | rfl | decide +kernel)
    (case xns => first | rfl | decide +kernel)
