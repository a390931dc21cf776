import PyProof.Rows.All
import Wide.All
import OpenK.AllK
import Wide.FinOn
import KE.KRevSl
import KE.KItem
import Lean
import PySem.Challenge.RW_nu0376_01
set_option Elab.async false
set_option maxRecDepth 100000
set_option autoImplicit false
set_option linter.unusedVariables false
namespace Mine
open PySem PySem.W PySem.Calls PyProof.Rows

abbrev PG : Program := PySem.Challenge.pw_nu0376_01

/-- plain data, and references to objects that still change -/
inductive V where
  | none
  | bool (b : Bool)
  | int (i : Int)
  | str (s : Str)
  | tup (l : List V)
  | list (l : List V)
  | dictI (es : List (Int × V))
  | dictS (es : List (Str × V))
  | fset (l : List Int)
  | rng (n : Nat)
  | mut (a : Addr)

abbrev Base := Addr → Option Obj
def Le (B B' : Base) : Prop := ∀ a o, B a = some o → B' a = some o
theorem Le.refl (B : Base) : Le B B := fun _ _ h => h
theorem Le.trans {B B' B'' : Base} (h : Le B B') (h' : Le B' B'') : Le B B'' := fun a o x => h' a o (h a o x)
def put (B : Base) (a : Addr) (o : Obj) : Base := fun b => if b = a then some o else B b
theorem le_put {B : Base} {a : Addr} {o : Obj} (h : B a = none) : Le B (put B a o) := fun b o' e => by
  unfold put
  by_cases hb : b = a
  · subst hb; rw [h] at e; cases e
  · rw [if_neg hb]; exact e
theorem put_self (B : Base) (a : Addr) (o : Obj) : put B a o a = some o := by simp [put]
theorem put_ne {B : Base} {a b : Addr} {o : Obj} (h : b ≠ a) : put B a o b = B b := by simp [put, h]
def Known (B : Base) (h : Heap) : Prop := ∀ a o, B a = some o → h.get? a = some o

abbrev lisO (vs : List Value) (n : Nat) : Obj := { cls := .type "list", data := .seq vs.toArray n }
abbrev tupO (vs : List Value) (n : Nat) : Obj := { cls := .type "tuple", data := .seq vs.toArray n }
def rngO (n : Nat) (o : Obj) : Prop := ∃ t1 t2 t3, o = { cls := .type "range", dict := none, data := .fields #[.int 0 t1, .int n t2, .int 1 t3], slots := #[] }

def intOf : Value → Int
  | .int i _ => i
  | _ => 0

def FsetO (w : World) (o : Obj) (l : List Int) : Prop :=
  ∃ es ep t, o = { cls := .type "frozenset", data := .set es ep t } ∧ t.fits es.size = true ∧ t.plain = true ∧ t.led = !(w.params.followText "set-order") ∧
    t.place.toList.Pairwise (· < ·) ∧ es.size < 4000 ∧ (∀ e ∈ es.toList, ∃ i k, e = (hashInt i, Value.int i k)) ∧ (es.toList.map fun e => intOf e.2).Perm l ∧ l.Nodup

mutual
inductive Rep (w : World) (B : Base) : V → Value → Prop
  | none : Rep w B .none .none
  | bool (b : Bool) : Rep w B (.bool b) (.bool b)
  | int (i : Int) (t : Tok) : Rep w B (.int i) (.int i t)
  | str (s : Str) (t : Tok) : Rep w B (.str s) (.str s t)
  | tup {l : List V} {a : Addr} {vs : List Value} {n : Nat} : B a = some (tupO vs n) → Reps w B l vs → Rep w B (.tup l) (.ref a)
  | list {l : List V} {a : Addr} {vs : List Value} {n : Nat} : B a = some (lisO vs n) → Reps w B l vs → Rep w B (.list l) (.ref a)
  | dictI {es : List (Int × V)} {a : Addr} {o : Obj} {kvs : List (Int × Value)} : 2 ≤ a → B a = some o → o.IsDictOf (intKind PG w) kvs → RepI w B es kvs → Rep w B (.dictI es) (.ref a)
  | dictS {es : List (Str × V)} {a : Addr} {o : Obj} {kvs : List (Str × Value)} : 2 ≤ a → B a = some o → o.IsDictOf (PySem.strKind PG w) kvs → RepS w B es kvs → Rep w B (.dictS es) (.ref a)
  | fset {l : List Int} {a : Addr} {o : Obj} : B a = some o → FsetO w o l → Rep w B (.fset l) (.ref a)
  | rng {n : Nat} {a : Addr} {o : Obj} : B a = some o → rngO n o → Rep w B (.rng n) (.ref a)
  | mut (a : Addr) : Rep w B (.mut a) (.ref a)
inductive Reps (w : World) (B : Base) : List V → List Value → Prop
  | nil : Reps w B [] []
  | cons {x : V} {v : Value} {l : List V} {vs : List Value} : Rep w B x v → Reps w B l vs → Reps w B (x :: l) (v :: vs)
inductive RepI (w : World) (B : Base) : List (Int × V) → List (Int × Value) → Prop
  | nil : RepI w B [] []
  | cons {k : Int} {x : V} {v : Value} {l : List (Int × V)} {vs : List (Int × Value)} : Rep w B x v → RepI w B l vs → RepI w B ((k, x) :: l) ((k, v) :: vs)
inductive RepS (w : World) (B : Base) : List (Str × V) → List (Str × Value) → Prop
  | nil : RepS w B [] []
  | cons {k : Str} {x : V} {v : Value} {l : List (Str × V)} {vs : List (Str × Value)} : Rep w B x v → RepS w B l vs → RepS w B ((k, x) :: l) ((k, v) :: vs)
end

section
variable {w : World} {B B' : Base}
theorem Rep.mono (h : Le B B') {x : V} {v : Value} (r : Rep w B x v) : Rep w B' x v :=
  Rep.rec (motive_1 := fun x v _ => Rep w B' x v) (motive_2 := fun x v _ => Reps w B' x v) (motive_3 := fun x v _ => RepI w B' x v) (motive_4 := fun x v _ => RepS w B' x v)
    .none .bool .int .str (fun ho _ ih => .tup (h _ _ ho) ih) (fun ho _ ih => .list (h _ _ ho) ih) (fun h2 ho d _ ih => .dictI h2 (h _ _ ho) d ih) (fun h2 ho d _ ih => .dictS h2 (h _ _ ho) d ih) (fun ho d => .fset (h _ _ ho) d) (fun ho d => .rng (h _ _ ho) d) .mut
    .nil (fun _ _ a b => .cons a b) .nil (fun _ _ a b => .cons a b) .nil (fun _ _ a b => .cons a b) r
theorem Reps.mono (h : Le B B') {x : List V} {v : List Value} (r : Reps w B x v) : Reps w B' x v := by
  induction x generalizing v with
  | nil => cases r; exact .nil
  | cons x l ih => cases r with
    | cons a b => exact .cons (a.mono h) (ih b)
theorem RepI.mono (h : Le B B') {x : List (Int × V)} {v : List (Int × Value)} (r : RepI w B x v) : RepI w B' x v := by
  induction x generalizing v with
  | nil => cases r; exact .nil
  | cons x l ih => cases r with
    | cons a b => exact .cons (a.mono h) (ih b)
theorem RepS.mono (h : Le B B') {x : List (Str × V)} {v : List (Str × Value)} (r : RepS w B x v) : RepS w B' x v := by
  induction x generalizing v with
  | nil => cases r; exact .nil
  | cons x l ih => cases r with
    | cons a b => exact .cons (a.mono h) (ih b)
theorem Reps.length {x : List V} {v : List Value} (r : Reps w B x v) : v.length = x.length := by
  induction x generalizing v with
  | nil => cases r; rfl
  | cons x l ih => cases r with
    | cons a b => exact congrArg Nat.succ (ih b)
theorem Reps.append {x y : List V} {v u : List Value} (r : Reps w B x v) (h : Reps w B y u) : Reps w B (x ++ y) (v ++ u) := by
  induction x generalizing v with
  | nil => cases r; exact h
  | cons x l ih => cases r with
    | cons a b => exact .cons a (ih b)
theorem Reps.get {x : List V} {v : List Value} (r : Reps w B x v) {i : Nat} {a : V} (h : x[i]? = some a) : ∃ b, v[i]? = some b ∧ Rep w B a b := by
  induction x generalizing v i with
  | nil => cases h
  | cons x l ih => cases r with
    | cons r rs => cases i with
      | zero => cases h; exact ⟨_, rfl, r⟩
      | succ i => exact ih rs h
theorem Reps.get' {x : List V} {v : List Value} (r : Reps w B x v) {i : Nat} {b : Value} (h : v[i]? = some b) : ∃ a, x[i]? = some a ∧ Rep w B a b := by
  induction x generalizing v i with
  | nil => cases r; cases h
  | cons x l ih => cases r with
    | cons r rs => cases i with
      | zero => cases h; exact ⟨_, rfl, r⟩
      | succ i => exact ih rs h
theorem RepI.length {x : List (Int × V)} {v : List (Int × Value)} (r : RepI w B x v) : v.length = x.length := by
  induction x generalizing v with
  | nil => cases r; rfl
  | cons x l ih => cases r with
    | cons a b => exact congrArg Nat.succ (ih b)
theorem RepI.keys {x : List (Int × V)} {v : List (Int × Value)} (r : RepI w B x v) : v.map (·.1) = x.map (·.1) := by
  induction x generalizing v with
  | nil => cases r; rfl
  | cons x l ih => cases r with
    | cons a b => exact congrArg (List.cons _) (ih b)
theorem RepS.length {x : List (Str × V)} {v : List (Str × Value)} (r : RepS w B x v) : v.length = x.length := by
  induction x generalizing v with
  | nil => cases r; rfl
  | cons x l ih => cases r with
    | cons a b => exact congrArg Nat.succ (ih b)
theorem RepS.keys {x : List (Str × V)} {v : List (Str × Value)} (r : RepS w B x v) : v.map (·.1) = x.map (·.1) := by
  induction x generalizing v with
  | nil => cases r; rfl
  | cons x l ih => cases r with
    | cons a b => exact congrArg (List.cons _) (ih b)
end

/-- objects that still change -/
inductive MO where
  | list (l : List V)
  | dictI (es : List (Int × V))
  | dictS (es : List (Str × V))
  | dlist (es : List (Int × List V))
abbrev MS := List (Addr × MO)

inductive MRepL (w : World) (B : Base) (h : Heap) : List (Int × List V) → List (Int × Value) → List Addr → Prop
  | nil : MRepL w B h [] [] []
  | cons {k : Int} {l : List V} {b : Addr} {vs : List Value} {n : Nat} {es : List (Int × List V)} {kvs : List (Int × Value)} {X : List Addr} :
      h.get? b = some (lisO vs n) → Reps w B l vs → MRepL w B h es kvs X → MRepL w B h ((k, l) :: es) ((k, .ref b) :: kvs) (b :: X)

inductive MRep (w : World) (B : Base) (h : Heap) (a : Addr) : MO → List Addr → Prop
  | list {l : List V} {vs : List Value} {n : Nat} : h.get? a = some (lisO vs n) → Reps w B l vs → MRep w B h a (.list l) [a]
  | dictI {es : List (Int × V)} {o : Obj} {kvs : List (Int × Value)} : 2 ≤ a → h.get? a = some o → o.IsDictOf (intKind PG w) kvs → RepI w B es kvs → MRep w B h a (.dictI es) [a]
  | dictS {es : List (Str × V)} {o : Obj} {kvs : List (Str × Value)} : 2 ≤ a → h.get? a = some o → o.IsDictOf (PySem.strKind PG w) kvs → RepS w B es kvs → MRep w B h a (.dictS es) [a]
  | dlist {es : List (Int × List V)} {o : Obj} {kvs : List (Int × Value)} {X : List Addr} : 2 ≤ a → h.get? a = some o → o.IsDictOf (intKind PG w) kvs → MRepL w B h es kvs X → MRep w B h a (.dlist es) (a :: X)

inductive MReps (w : World) (B : Base) (h : Heap) : MS → List Addr → Prop
  | nil : MReps w B h [] []
  | cons {a : Addr} {mo : MO} {X Y : List Addr} {M : MS} : MRep w B h a mo X → MReps w B h M Y → MReps w B h ((a, mo) :: M) (X ++ Y)

section
variable {w : World} {B B' : Base} {h h' : Heap}
theorem MRepL.mono (hb : Le B B') {es : List (Int × List V)} {kvs : List (Int × Value)} {X : List Addr} (r : MRepL w B h es kvs X) (k : ∀ a ∈ X, ∀ o, h.get? a = some o → h'.get? a = some o) : MRepL w B' h' es kvs X := by
  induction r with
  | nil => exact .nil
  | cons ho r _ ih => exact .cons (k _ (.head _) _ ho) (r.mono hb) (ih fun a ha o e => k a (.tail _ ha) o e)
theorem MRep.mono (hb : Le B B') {a : Addr} {mo : MO} {X : List Addr} (r : MRep w B h a mo X) (k : ∀ a ∈ X, ∀ o, h.get? a = some o → h'.get? a = some o) : MRep w B' h' a mo X := by
  cases r with
  | list ho r => exact .list (k _ (.head _) _ ho) (r.mono hb)
  | dictI h2 ho d r => exact .dictI h2 (k _ (.head _) _ ho) d (r.mono hb)
  | dictS h2 ho d r => exact .dictS h2 (k _ (.head _) _ ho) d (r.mono hb)
  | dlist h2 ho d r => exact .dlist h2 (k _ (.head _) _ ho) d (r.mono hb fun a ha o e => k a (.tail _ ha) o e)
theorem MReps.mono (hb : Le B B') {M : MS} {X : List Addr} (r : MReps w B h M X) (k : ∀ a ∈ X, ∀ o, h.get? a = some o → h'.get? a = some o) : MReps w B' h' M X := by
  induction r with
  | nil => exact .nil
  | cons a b ih => exact .cons (a.mono hb fun x hx => k x (List.mem_append_left _ hx)) (ih fun x hx => k x (List.mem_append_right _ hx))
theorem MRep.head {a : Addr} {mo : MO} {X : List Addr} (r : MRep w B h a mo X) : a ∈ X := by
  cases r <;> exact .head _
theorem MRepL.live {es : List (Int × List V)} {kvs : List (Int × Value)} {X : List Addr} (r : MRepL w B h es kvs X) : ∀ a ∈ X, ∃ o, h.get? a = some o := by
  induction r with
  | nil => intro a ha; cases ha
  | cons ho _ _ ih =>
    intro a ha
    rcases List.mem_cons.mp ha with rfl | ha
    · exact ⟨_, ho⟩
    · exact ih a ha
theorem MRep.live {a : Addr} {mo : MO} {X : List Addr} (r : MRep w B h a mo X) : ∀ b ∈ X, ∃ o, h.get? b = some o := by
  cases r with
  | list ho _ => intro b hb; rw [List.mem_singleton.mp hb]; exact ⟨_, ho⟩
  | dictI _ ho _ _ => intro b hb; rw [List.mem_singleton.mp hb]; exact ⟨_, ho⟩
  | dictS _ ho _ _ => intro b hb; rw [List.mem_singleton.mp hb]; exact ⟨_, ho⟩
  | dlist _ ho _ r =>
    intro b hb
    rcases List.mem_cons.mp hb with rfl | hb
    · exact ⟨_, ho⟩
    · exact r.live b hb
theorem MReps.live {M : MS} {X : List Addr} (r : MReps w B h M X) : ∀ b ∈ X, ∃ o, h.get? b = some o := by
  induction r with
  | nil => intro b hb; cases hb
  | cons a _ ih => intro b hb; exact (List.mem_append.mp hb).elim (a.live b) (ih b)
end

structure Cx where
  w : World
  A : Around
  env : Env
  h₀ : Heap
  own : List Addr

/-- room for n more calls within calls -/
def Room (A : Around) (n : Nat) : Prop := A.handled = Option.none ∧ A.depth + n < 400 ∧ A.units + 20 * n < 2000

def ownOf (env : Env) : List Addr := (env.cells.filter fun p => env.kindOf p.1 == some NameKind.cell).map (·.2)

structure Ok (C : Cx) (xs : List Str) (gs : List (Str × Value)) : Prop where
  kind : C.env.scope.kind = .function
  room : Room C.A 0
  xnodup : xs.Nodup
  xkind : ∀ x ∈ xs, x ≠ ("__debug__" : Str) ∧ (C.env.kindOf x = some .local ∨ (C.env.kindOf x = some .cell ∧ ∃ c, C.env.cells.lookup x = some c) ∨ (C.env.kindOf x = some .free ∧ x ≠ ("__classdict__" : Str) ∧ ∃ c, C.env.cells.lookup x = some c))
  capart : C.env.cells.Pairwise fun x y => x.2 ≠ y.2
  glob : ∀ x v, (x, v) ∈ gs → x ≠ ("__debug__" : Str) ∧ C.env.kindOf x = some .globalImplicit ∧
    ((∃ mg, C.h₀.Ns C.env.globals mg ∧ mg x = some v) ∨ (∃ mg mb, C.h₀.Ns C.env.globals mg ∧ mg x = none ∧ C.h₀.Ns C.env.builtins mb ∧ mb x = some v))
  nolimit : C.h₀.NoLimit

def Holds (C : Cx) (h : Heap) (m : Str → Option Value) (x : Str) (cv : Value) : Prop :=
  (C.env.kindOf x = some .local ∧ m x = some cv) ∨
  ((C.env.kindOf x = some .cell ∨ C.env.kindOf x = some .free) ∧ ∃ c, C.env.cells.lookup x = some c ∧ h.IsCell c (some cv))

structure Gh where
  s₀ : Shared
  Z : Base
  B₀ : Base

structure St (C : Cx) (xs : List Str) (G : Gh) (ρ : List (Option V)) (M : MS) (X : List Addr) (B : Base) (s : Shared) (m : Str → Option Value) : Prop where
  same : ∃ h tk, s = { G.s₀ with heap := h, toks := tk }
  known : Known B s.heap
  kept : Known G.Z s.heap
  base : ∀ a o, C.h₀.get? a = some o → G.Z a = some o
  ns : s.heap.Ns C.env.locals m
  slot : ∀ (i : Nat) (x : Str) (v : V), xs[i]? = some x → ρ[i]? = some (some v) → ∃ cv, Rep C.w B v cv ∧ Holds C s.heap m x cv
  cel : ∀ c ∈ C.own, ∃ v, s.heap.IsCell c v
  fre : ∀ x c, (x, c) ∈ C.env.cells → c ∉ C.own → G.Z c ≠ none
  mrep : MReps C.w B s.heap M X
  nodup : (C.env.locals :: (C.own ++ X)).Nodup
  offB : ∀ a ∈ C.env.locals :: (C.own ++ X), B a = none
  offZ : ∀ a ∈ C.env.locals :: (C.own ++ X), G.Z a = none
  grow : ∀ a, B a ≠ none → G.B₀ a ≠ none ∨ G.Z a = none

abbrev Post := Value → Shared → Prop

/-- a tree of the text gives a value -/
def JE (C : Cx) (xs : List Str) (gs : List (Str × Value)) (ρ : List (Option V)) (M : MS) (t : Sem Value) (Q : V → MS → Prop) : Prop :=
  Ok C xs gs → ∀ (G : Gh) (X : List Addr) (B : Base) (s : Shared) (m : Str → Option Value), St C xs G ρ M X B s m → ∀ (Qc E : Post),
    (∀ v M' X' B' s' m' cv, Le B B' → St C xs G ρ M' X' B' s' m' → Rep C.w B' v cv → Q v M' → Qc cv s') → wpAny (model PG C.w) C.A t Qc E s
def JEs (C : Cx) (xs : List Str) (gs : List (Str × Value)) (ρ : List (Option V)) (M : MS) (t : Sem (List Value)) (Q : List V → MS → Prop) : Prop :=
  Ok C xs gs → ∀ (G : Gh) (X : List Addr) (B : Base) (s : Shared) (m : Str → Option Value), St C xs G ρ M X B s m → ∀ (Qc : List Value → Shared → Prop) (E : Post),
    (∀ v M' X' B' s' m' cv, Le B B' → St C xs G ρ M' X' B' s' m' → Reps C.w B' v cv → Q v M' → Qc cv s') → wpAny (model PG C.w) C.A t Qc E s
def JB (C : Cx) (xs : List Str) (gs : List (Str × Value)) (ρ : List (Option V)) (M : MS) (t : Sem Bool) (Q : Bool → MS → Prop) : Prop :=
  Ok C xs gs → ∀ (G : Gh) (X : List Addr) (B : Base) (s : Shared) (m : Str → Option Value), St C xs G ρ M X B s m → ∀ (Qc : Bool → Shared → Prop) (E : Post),
    (∀ b M' X' B' s' m', Le B B' → St C xs G ρ M' X' B' s' m' → Q b M' → Qc b s') → wpAny (model PG C.w) C.A t Qc E s

inductive Fl where
  | next | brk | cont | ret (v : V)
inductive RepF (w : World) (B : Base) : Fl → Flow → Prop
  | next : RepF w B .next .next
  | brk : RepF w B .brk .brk
  | cont : RepF w B .cont .cont
  | ret {v : V} {cv : Value} : Rep w B v cv → RepF w B (.ret v) (.ret cv)
theorem RepF.mono {w : World} {B B' : Base} (h : Le B B') {f : Fl} {g : Flow} : RepF w B f g → RepF w B' f g
  | .next => .next
  | .brk => .brk
  | .cont => .cont
  | .ret r => .ret (r.mono h)

def JS (C : Cx) (xs : List Str) (gs : List (Str × Value)) (ρ : List (Option V)) (M : MS) (t : Sem Flow) (Q : Fl → List (Option V) → MS → Prop) : Prop :=
  Ok C xs gs → ∀ (G : Gh) (X : List Addr) (B : Base) (s : Shared) (m : Str → Option Value), St C xs G ρ M X B s m → ∀ (Qc : Flow → Shared → Prop) (E : Post),
    (∀ f ρ' M' X' B' s' m' cf, Le B B' → St C xs G ρ' M' X' B' s' m' → RepF C.w B' f cf → Q f ρ' M' → Qc cf s') → wpAny (model PG C.w) C.A t Qc E s

end Mine

namespace Mine
open PySem PySem.W PySem.Calls PyProof.Rows

/-- the statements that define: all but the names and the class -/
def fnIdx : List Nat := [4, 5, 6, 7, 8, 9, 10, 11, 12, 13, 14, 16, 17, 18, 19, 20, 21, 22, 23, 24, 25]
/-- the top's view: what of it is pinned -/
def vw : Program := { PG with main := { PG.main with body := (1 :: 3 :: fnIdx).map fun i => PG.main.body.getD i (.Pass default) } }
abbrev lawRow : RowW := OpenRow.toRowW (OpenLaw.row PySem.Challenge.rw_nu0376_01)
theorem left_whole : LeftO lawRow.prog vw ["LendError"] (fun s => xlAt vw [] s && recOk (RowW.records lawRow) s) (Hook.obs Hook.none) (Hook.val Hook.none) 1960 := fun w => by kernel_rfl
theorem law_said : PySem.Challenge.rw_nu0376_01.wellSaid = true := by kernel_rfl
end Mine

namespace Mine
open PySem PySem.W PySem.Calls PyProof.Rows

theorem MReps.split {w : World} {B : Base} {h : Heap} : ∀ {M1 : MS} {a : Addr} {mo : MO} {M2 : MS} {X : List Addr}, MReps w B h (M1 ++ (a, mo) :: M2) X →
    ∃ X1 Xa X2, X = X1 ++ (Xa ++ X2) ∧ MReps w B h M1 X1 ∧ MRep w B h a mo Xa ∧ MReps w B h M2 X2
  | [], _, _, _, _, .cons r rs => ⟨[], _, _, rfl, .nil, r, rs⟩
  | _ :: M1, _, _, _, _, .cons r rs => by
    obtain ⟨X1, Xa, X2, rfl, h1, h2, h3⟩ := MReps.split (M1 := M1) rs
    exact ⟨_ ++ X1, Xa, X2, by rw [List.append_assoc], .cons r h1, h2, h3⟩
theorem MReps.join {w : World} {B : Base} {h : Heap} : ∀ {M1 M2 : MS} {X1 X2 : List Addr}, MReps w B h M1 X1 → MReps w B h M2 X2 → MReps w B h (M1 ++ M2) (X1 ++ X2)
  | _, _, _, _, .nil, h2 => h2
  | _, _, _, _, .cons r rs, h2 => by rw [List.append_assoc]; exact .cons r (rs.join h2)

section
variable {C : Cx} {xs : List Str} {gs : List (Str × Value)} {G : Gh} {ρ : List (Option V)} {M : MS} {X : List Addr} {B : Base} {s : Shared} {m : Str → Option Value}

theorem mem_own {env : Env} {c : Addr} : c ∈ ownOf env ↔ ∃ x, (x, c) ∈ env.cells ∧ env.kindOf x = some .cell := by
  unfold ownOf
  constructor
  · intro h
    obtain ⟨p, hp, rfl⟩ := List.mem_map.mp h
    obtain ⟨h1, h2⟩ := List.mem_filter.mp hp
    exact ⟨p.1, h1, by simpa using h2⟩
  · rintro ⟨x, h1, h2⟩
    exact List.mem_map.mpr ⟨(x, c), List.mem_filter.mpr ⟨h1, by simp [h2]⟩, rfl⟩

theorem St.live (S : St C xs G ρ M X B s m) : ∀ a ∈ C.env.locals :: (C.own ++ X), ∃ o, s.heap.get? a = some o := by
  intro a ha
  rcases List.mem_cons.mp ha with rfl | ha
  · obtain ⟨o, _, _, ho, _⟩ := S.ns; exact ⟨o, ho⟩
  · rcases List.mem_append.mp ha with ha | ha
    · obtain ⟨v, o, ho, _⟩ := S.cel a ha
      exact ⟨o, ho⟩
    · exact S.mrep.live a ha

/-- the heap may change at mutable addresses only; B may grow by what is new -/
theorem St.move (S : St C xs G ρ M X B s m) {h' : Heap} {tk : Nat} {M' : MS} {X' : List Addr} {B' : Base} (hB : Le B B') (hK : Known B' h')
    (keep : ∀ b o, b ∉ X → s.heap.get? b = some o → h'.get? b = some o)
    (hnew : ∀ a, B' a ≠ none → B a ≠ none ∨ s.heap.get? a = none ∨ a ∈ X)
    (mr : MReps C.w B' h' M' X') (nd : X'.Nodup) (hX : ∀ a ∈ X', a ∈ X ∨ s.heap.get? a = none) (off : ∀ a ∈ X', B' a = none) :
    St C xs G ρ M' X' B' { s with heap := h', toks := tk } m := by
  have hnd := List.nodup_cons.mp S.nodup
  have hnd2 := List.nodup_append.mp hnd.2
  have hLX : C.env.locals ∉ X := fun hm => hnd.1 (List.mem_append_right _ hm)
  have hoX : ∀ c ∈ C.own, c ∉ X := fun c hc hm => hnd2.2.2 c hc c hm rfl
  obtain ⟨oL, esL, epL, hoL, restL⟩ := S.ns
  have lo : ∀ a ∈ C.env.locals :: C.own, ∃ o, s.heap.get? a = some o := fun a ha => S.live a (by
    rcases List.mem_cons.mp ha with rfl | ha
    · exact .head _
    · exact .tail _ (List.mem_append_left _ ha))
  have ck : ∀ x c, C.env.cells.lookup x = some c → c ∉ X := fun x c hl hm => by
    by_cases hc : c ∈ C.own
    · exact hoX c hc hm
    · exact S.fre x c (mem_of_lookup hl) hc (S.offZ c (.tail _ (List.mem_append_right _ hm)))
  refine ⟨?_, hK, fun a o e => ?_, S.base, ⟨oL, esL, epL, keep _ _ hLX hoL, restL⟩, fun i x v hx hv => ?_, fun c h1 => ?_, S.fre, mr, ?_, fun a ha => ?_, fun a ha => ?_, fun a ha => ?_⟩
  · obtain ⟨h, t, e⟩ := S.same
    exact ⟨h', tk, by rw [e]⟩
  · refine keep a o (fun hm => ?_) (S.kept a o e)
    have := S.offZ a (.tail _ (List.mem_append_right _ hm))
    rw [this] at e; cases e
  · obtain ⟨cv, r, hh⟩ := S.slot i x v hx hv
    refine ⟨cv, r.mono hB, ?_⟩
    rcases hh with hh | ⟨h1, c, h2, o, ho, hd⟩
    · exact .inl hh
    · exact .inr ⟨h1, c, h2, o, keep c o (ck x c h2) ho, hd⟩
  · obtain ⟨v, o, ho, hd⟩ := S.cel c h1
    exact ⟨v, o, keep c o (hoX c h1) ho, hd⟩
  · refine List.nodup_cons.mpr ⟨fun hm => ?_, List.nodup_append.mpr ⟨hnd2.1, nd, fun a ha b hb e => ?_⟩⟩
    · rcases List.mem_append.mp hm with hm | hm
      · exact hnd.1 (List.mem_append_left _ hm)
      · rcases hX _ hm with h1 | h1
        · exact hLX h1
        · rw [hoL] at h1; cases h1
    · subst e
      rcases hX _ hb with h1 | h1
      · exact hoX a ha h1
      · obtain ⟨o, ho⟩ := lo a (.tail _ ha)
        rw [ho] at h1; cases h1
  · have key : ∀ a ∈ C.env.locals :: C.own, B' a = none := by
      intro a ha
      obtain ⟨o, ho⟩ := lo a ha
      cases hb : B' a with
      | none => rfl
      | some o' =>
        rcases hnew a (by rw [hb]; simp) with h1 | h1 | h1
        · exact absurd (S.offB a (by
            rcases List.mem_cons.mp ha with rfl | ha
            · exact .head _
            · exact .tail _ (List.mem_append_left _ ha))) h1
        · rw [ho] at h1; cases h1
        · rcases List.mem_cons.mp ha with rfl | ha
          · exact absurd h1 hLX
          · exact absurd h1 (hoX a ha)
    rcases List.mem_cons.mp ha with rfl | ha
    · exact key _ (.head _)
    · rcases List.mem_append.mp ha with ha | ha
      · exact key _ (.tail _ ha)
      · exact off a ha
  · rcases List.mem_cons.mp ha with rfl | ha
    · exact S.offZ _ (.head _)
    · rcases List.mem_append.mp ha with ha | ha
      · exact S.offZ _ (.tail _ (List.mem_append_left _ ha))
      · rcases hX a ha with h1 | h1
        · exact S.offZ _ (.tail _ (List.mem_append_right _ h1))
        · cases hz : G.Z a with
          | none => rfl
          | some o => rw [S.kept _ _ hz] at h1; cases h1
  · rcases hnew a ha with h1 | h1 | h1
    · exact S.grow a h1
    · right
      cases hz : G.Z a with
      | none => rfl
      | some o => rw [S.kept _ _ hz] at h1; cases h1
    · exact .inr (S.offZ _ (.tail _ (List.mem_append_right _ h1)))

theorem St.size2 (S : St C xs G ρ M X B s m) (hC : Ok C xs gs) : sysModules < s.heap.objs.size := by
  obtain ⟨mc, ⟨o, es, ep, ho, _⟩, _⟩ := hC.nolimit
  exact Nat.lt_trans (by decide) (Heap.lt_size (S.kept _ _ (S.base _ _ ho)))
theorem St.baseKeep (S : St C xs G ρ M X B s m) : ∀ a o, C.h₀.get? a = some o → s.heap.get? a = some o := fun a o e => S.kept _ _ (S.base _ _ e)

theorem fresh_size (h : Heap) : h.get? h.objs.size = none := by
  cases e : h.get? h.objs.size with
  | none => rfl
  | some o => exact absurd (Heap.lt_size e) (Nat.lt_irrefl _)
theorem St.offFresh (S : St C xs G ρ M X B s m) {a : Addr} (ha : s.heap.get? a = none) : B a = none := by
  cases e : B a with
  | none => rfl
  | some o => rw [S.known _ _ e] at ha; cases ha
theorem St.xnodup (S : St C xs G ρ M X B s m) : X.Nodup := (List.nodup_append.mp (List.nodup_cons.mp S.nodup).2).2.1
theorem St.offX (S : St C xs G ρ M X B s m) : ∀ a ∈ X, B a = none := fun a ha => S.offB a (.tail _ (List.mem_append_right _ ha))

/-- everything kept; nothing new to know -/
theorem St.keeps (S : St C xs G ρ M X B s m) {h' : Heap} (tk : Nat) (keep : ∀ b o, s.heap.get? b = some o → h'.get? b = some o) :
    St C xs G ρ M X B { s with heap := h', toks := tk } m :=
  S.move (Le.refl B) (fun a o e => keep _ _ (S.known _ _ e)) (fun b o _ e => keep b o e) (fun _ h => .inl h) (S.mrep.mono (Le.refl B) fun _ _ _ e => keep _ _ e) S.xnodup (fun _ h => .inl h) S.offX
theorem St.tok (S : St C xs G ρ M X B s m) (tk : Nat) : St C xs G ρ M X B { s with toks := tk } m := S.keeps tk fun _ _ e => e

/-- a new object that stays -/
theorem St.addB (S : St C xs G ρ M X B s m) {h' : Heap} {a : Addr} {o : Obj} (tk : Nat) (keep : ∀ b o, s.heap.get? b = some o → h'.get? b = some o) (ha : h'.get? a = some o) (hn : s.heap.get? a = none) :
    Le B (put B a o) ∧ St C xs G ρ M X (put B a o) { s with heap := h', toks := tk } m := by
  have hl := le_put (o := o) (S.offFresh hn)
  refine ⟨hl, S.move hl (fun b o' e => ?_) (fun b o _ e => keep b o e) (fun b hb => ?_) (S.mrep.mono hl fun _ _ _ e => keep _ _ e) S.xnodup (fun _ h => .inl h) (fun b hb => ?_)⟩
  · by_cases hba : b = a
    · subst hba; rw [put_self] at e; cases e; exact ha
    · rw [put_ne hba] at e; exact keep _ _ (S.known _ _ e)
  · by_cases hba : b = a
    · subst hba; exact .inr (.inl hn)
    · rw [put_ne hba] at hb; exact .inl hb
  · have hba : b ≠ a := fun e => by
      obtain ⟨o', ho'⟩ := S.mrep.live b hb
      rw [e, hn] at ho'; cases ho'
    rw [put_ne hba]; exact S.offX b hb
/-- a new object that may change -/
theorem St.addM (S : St C xs G ρ M X B s m) {h' : Heap} {a : Addr} {mo : MO} (tk : Nat) (keep : ∀ b o, s.heap.get? b = some o → h'.get? b = some o) (hr : MRep C.w B h' a mo [a]) (hn : s.heap.get? a = none) :
    St C xs G ρ ((a, mo) :: M) (a :: X) B { s with heap := h', toks := tk } m :=
  S.move (Le.refl B) (fun a o e => keep _ _ (S.known _ _ e)) (fun b o _ e => keep b o e) (fun _ h => .inl h) (.cons hr (S.mrep.mono (Le.refl B) fun _ _ _ e => keep _ _ e))
    (List.nodup_cons.mpr ⟨fun hm => (by obtain ⟨o, ho⟩ := S.mrep.live a hm; rw [hn] at ho; cases ho), S.xnodup⟩)
    (fun b hb => by
      rcases List.mem_cons.mp hb with rfl | hb
      · exact .inr hn
      · exact .inl hb)
    (fun b hb => by
      rcases List.mem_cons.mp hb with rfl | hb
      · exact S.offFresh hn
      · exact S.offX b hb)

def MO.simple : MO → Prop
  | .dlist _ => False
  | _ => True
theorem MRep.foot {w : World} {B : Base} {h : Heap} {a : Addr} {mo : MO} {Y : List Addr} (hs : mo.simple) (r : MRep w B h a mo Y) : Y = [a] := by
  cases r with
  | list => rfl
  | dictI => rfl
  | dictS => rfl
  | dlist => exact hs.elim

theorem St.getM {M1 M2 : MS} {a : Addr} {mo : MO} (S : St C xs G ρ (M1 ++ (a, mo) :: M2) X B s m) : ∃ Y, MRep C.w B s.heap a mo Y := by
  obtain ⟨X1, Xa, X2, rfl, h1, h2, h3⟩ := S.mrep.split
  exact ⟨Xa, h2⟩
/-- one object changes -/
theorem St.setM {M1 M2 : MS} {a : Addr} {mo mo' : MO} (S : St C xs G ρ (M1 ++ (a, mo) :: M2) X B s m) (hs : mo.simple) {h' : Heap} (tk : Nat)
    (keep : ∀ b o, b ≠ a → s.heap.get? b = some o → h'.get? b = some o) (hr : MRep C.w B h' a mo' [a]) :
    St C xs G ρ (M1 ++ (a, mo') :: M2) X B { s with heap := h', toks := tk } m := by
  obtain ⟨X1, Xa, X2, rfl, h1, h2, h3⟩ := S.mrep.split
  obtain rfl := h2.foot hs
  have haX : a ∈ X1 ++ ([a] ++ X2) := List.mem_append_right _ (List.mem_append_left _ (.head _))
  have hnd := List.nodup_append.mp S.xnodup
  have hnd2 := List.nodup_append.mp hnd.2.1
  refine S.move (Le.refl B) (fun b o e => keep b o (fun hb => ?_) (S.known _ _ e)) (fun b o hb e => keep b o (fun hba => hb (hba ▸ haX)) e) (fun _ h => .inl h) ?_ S.xnodup (fun _ h => .inl h) S.offX
  · subst hb; rw [S.offX _ haX] at e; cases e
  · refine (h1.mono (Le.refl B) fun b hb o e => keep b o (fun hba => ?_) e).join (.cons hr (h3.mono (Le.refl B) fun b hb o e => keep b o (fun hba => ?_) e))
    · exact hnd.2.2 b hb a (List.mem_append_left _ (.head _)) hba
    · exact hnd2.2.2 a (.head _) b hb hba.symm

/-- no longer to change: by its tree -/
theorem St.freezeAt {M1 M2 : MS} {a : Addr} {mo : MO} {o : Obj} (S : St C xs G ρ (M1 ++ (a, mo) :: M2) X B s m) (hs : mo.simple) (ho : s.heap.get? a = some o) :
    Le B (put B a o) ∧ ∃ X', St C xs G ρ (M1 ++ M2) X' (put B a o) s m := by
  obtain ⟨X1, Xa, X2, rfl, h1, h2, h3⟩ := S.mrep.split
  obtain rfl := h2.foot hs
  have haX : a ∈ X1 ++ ([a] ++ X2) := List.mem_append_right _ (List.mem_append_left _ (.head _))
  have hl := le_put (o := o) (S.offX a haX)
  have hnd := List.nodup_append.mp S.xnodup
  have hnd2 := List.nodup_append.mp hnd.2.1
  refine ⟨hl, X1 ++ X2, ?_⟩
  have := S.move (tk := s.toks) (h' := s.heap) (M' := M1 ++ M2) (X' := X1 ++ X2) hl (fun b o' e => by
      by_cases hba : b = a
      · subst hba; rw [put_self] at e; cases e; exact ho
      · rw [put_ne hba] at e; exact S.known _ _ e) (fun b o _ e => e) (fun b hb => by
      by_cases hba : b = a
      · subst hba; exact .inr (.inr haX)
      · rw [put_ne hba] at hb; exact .inl hb)
    ((h1.mono hl fun _ _ _ e => e).join (h3.mono hl fun _ _ _ e => e)) (List.nodup_append.mpr ⟨hnd.1, hnd2.2.1, fun x hx y hy => hnd.2.2 x hx y (List.mem_append_right _ hy)⟩)
    (fun b hb => .inl (by
      rcases List.mem_append.mp hb with hb | hb
      · exact List.mem_append_left _ hb
      · exact List.mem_append_right _ (List.mem_append_right _ hb))) (fun b hb => by
      have hba : b ≠ a := by
        rintro rfl
        rcases List.mem_append.mp hb with hb | hb
        · exact hnd.2.2 b hb b (List.mem_append_left _ (.head _)) rfl
        · exact hnd2.2.2 b (.head _) b hb rfl
      rw [put_ne hba]
      refine S.offX b ?_
      rcases List.mem_append.mp hb with hb | hb
      · exact List.mem_append_left _ hb
      · exact List.mem_append_right _ (List.mem_append_right _ hb))
  exact this
def MO.tree : MO → V
  | .list l => .list l
  | .dictI es => .dictI es
  | .dictS es => .dictS es
  | .dlist es => .dictI (es.map fun p => (p.1, .list p.2))
theorem St.freeze {M1 M2 : MS} {a : Addr} {mo : MO} (S : St C xs G ρ (M1 ++ (a, mo) :: M2) X B s m) (hs : mo.simple) :
    ∃ B' X', Le B B' ∧ St C xs G ρ (M1 ++ M2) X' B' s m ∧ Rep C.w B' mo.tree (.ref a) := by
  obtain ⟨Y, r⟩ := S.getM
  cases r with
  | list ho r =>
    obtain ⟨hl, X', S'⟩ := S.freezeAt hs ho
    exact ⟨_, X', hl, S', .list (put_self _ _ _) (r.mono hl)⟩
  | dictI h2 ho hd r =>
    obtain ⟨hl, X', S'⟩ := S.freezeAt hs ho
    exact ⟨_, X', hl, S', .dictI h2 (put_self _ _ _) hd (r.mono hl)⟩
  | dictS h2 ho hd r =>
    obtain ⟨hl, X', S'⟩ := S.freezeAt hs ho
    exact ⟨_, X', hl, S', .dictS h2 (put_self _ _ _) hd (r.mono hl)⟩
  | dlist => exact hs.elim

/-- less is known of the locals -/
theorem St.weaken (S : St C xs G ρ M X B s m) {ρ' : List (Option V)} (h : ∀ (i : Nat) (v : V), ρ'[i]? = some (some v) → ρ[i]? = some (some v)) : St C xs G ρ' M X B s m :=
  { S with slot := fun i x v hx hv => S.slot i x v hx (h i v hv) }

def CanSto (C : Cx) (x : Str) : Prop := C.env.kindOf x = some .local ∨ (C.env.kindOf x = some .cell ∧ ∃ c ∈ C.own, C.env.cells.lookup x = some c)
/-- a local's new value -/
theorem St.store (S : St C xs G ρ M X B s m) (hC : Ok C xs gs) {i : Nat} {x : Str} {v : V} {cv : Value} (hx : xs[i]? = some x) (hr : Rep C.w B v cv) (hnf : CanSto C x) {E : Post} {Q : Unit → Shared → Prop}
    (k : ∀ s' m', St C xs G (ρ.set i (some v)) M X B s' m' → Q () s') : wpAny (model PG C.w) C.A (storeName C.env x cv) Q E s := by
  have hnd := List.nodup_cons.mp S.nodup
  have inj : ∀ (j : Nat) (y : Str), xs[j]? = some y → j ≠ i → y ≠ x := by
    intro j y hy hj e
    subst e
    have h1 := (List.getElem?_eq_some_iff.mp hy).1
    have h2 := (List.getElem?_eq_some_iff.mp hx).1
    exact hj ((List.getElem?_inj h1 hC.xnodup).mp (hy.trans hx.symm))
  have hset : ∀ (j : Nat) (u : V), (ρ.set i (some v))[j]? = some (some u) → (j = i ∧ u = v) ∨ (j ≠ i ∧ ρ[j]? = some (some u)) := by
    intro j u e
    by_cases hj : j = i
    · subst hj
      rw [List.getElem?_set] at e
      simp only [if_true] at e
      split at e
      · simp at e; exact .inl ⟨rfl, e.symm⟩
      · cases e
    · rw [List.getElem?_set_ne (Ne.symm hj)] at e
      exact .inr ⟨hj, e⟩
  rcases hnf with hk | ⟨hk, c, hown, hc⟩
  · refine wpAny_storeName_local hk S.ns (fun h' hn hsb => k _ (fun y => if y = x then some cv else m y) ?_) (by rw [hC.kind]; rfl)
    have hL : ∀ b o, b ≠ C.env.locals → s.heap.get? b = some o → h'.get? b = some o := fun b o hb e => hsb.extBut b o hb e
    have offL : ∀ b o, B b = some o → b ≠ C.env.locals := fun b o e hb => by subst hb; rw [S.offB _ (.head _)] at e; cases e
    refine ⟨?_, fun b o e => hL b o (offL b o e) (S.known _ _ e), fun b o e => hL b o (fun hb => ?_) (S.kept _ _ e), S.base, hn, fun j y u hy hu => ?_, fun c h1 => ?_, S.fre, ?_, S.nodup, S.offB, S.offZ, S.grow⟩
    · obtain ⟨h, t, e⟩ := S.same; exact ⟨h', _, by rw [e]⟩
    · subst hb; rw [S.offZ _ (.head _)] at e; cases e
    · rcases hset j u hu with ⟨rfl, rfl⟩ | ⟨hj, hu⟩
      · rw [hx] at hy; cases hy
        exact ⟨cv, hr, .inl ⟨hk, by simp⟩⟩
      · obtain ⟨cv', r', hh⟩ := S.slot j y u hy hu
        refine ⟨cv', r', ?_⟩
        have hne := inj j y hy hj
        rcases hh with ⟨h1, h2⟩ | ⟨h1, c, h2, hcell⟩
        · exact .inl ⟨h1, by simp [hne, h2]⟩
        · refine .inr ⟨h1, c, h2, hcell.sameBut hsb fun e => ?_⟩
          by_cases hc : c ∈ C.own
          · exact hnd.1 (List.mem_append_left _ (e ▸ hc))
          · exact S.fre y c (mem_of_lookup h2) hc (e ▸ S.offZ _ (.head _))
    · obtain ⟨v', hc'⟩ := S.cel c h1
      exact ⟨v', hc'.sameBut hsb fun e => hnd.1 (List.mem_append_left _ (e ▸ h1))⟩
    · exact S.mrep.mono (Le.refl B) fun a ha o e => hL a o (fun hb => hnd.1 (List.mem_append_right _ (hb ▸ ha))) e
  · have hmem := mem_of_lookup hc
    obtain ⟨v₀, hv₀⟩ := S.cel c hown
    refine wpAny_storeName_cell hC.kind hk hc hv₀ fun h' hcell hsb => k { s with heap := h' } m ?_
    have hL : ∀ b o, b ≠ c → s.heap.get? b = some o → h'.get? b = some o := fun b o hb e => hsb.extBut b o hb e
    have hcm : c ∈ C.env.locals :: (C.own ++ X) := .tail _ (List.mem_append_left _ hown)
    have hLc : C.env.locals ≠ c := fun e => hnd.1 (List.mem_append_left _ (e ▸ hown))
    refine ⟨?_, fun b o e => hL b o (fun hb => ?_) (S.known _ _ e), fun b o e => hL b o (fun hb => ?_) (S.kept _ _ e), S.base, S.ns.sameBut hsb hLc, fun j y u hy hu => ?_, fun c' h1 => ?_, S.fre, ?_, S.nodup, S.offB, S.offZ, S.grow⟩
    · obtain ⟨h, t, e⟩ := S.same; exact ⟨h', s.toks, by rw [e]⟩
    · subst hb; rw [S.offB _ hcm] at e; cases e
    · subst hb; rw [S.offZ _ hcm] at e; cases e
    · rcases hset j u hu with ⟨rfl, rfl⟩ | ⟨hj, hu⟩
      · rw [hx] at hy; cases hy
        exact ⟨cv, hr, .inr ⟨.inl hk, c, hc, hcell⟩⟩
      · obtain ⟨cv', r', hh⟩ := S.slot j y u hy hu
        refine ⟨cv', r', ?_⟩
        have hne := inj j y hy hj
        rcases hh with ⟨h1, h2⟩ | ⟨h1, c', h2, hcell'⟩
        · exact .inl ⟨h1, h2⟩
        · refine .inr ⟨h1, c', h2, hcell'.sameBut hsb fun e => hne ?_⟩
          subst e
          exact name_of_addr hC.capart (mem_of_lookup h2) hmem
    · by_cases hcc : c' = c
      · subst hcc; exact ⟨_, hcell⟩
      · obtain ⟨v', hc'⟩ := S.cel c' h1
        exact ⟨v', hc'.sameBut hsb hcc⟩
    · exact S.mrep.mono (Le.refl B) fun a ha o e => hL a o (fun hb => by
        subst hb
        exact (List.nodup_append.mp hnd.2).2.2 a hown a ha rfl) e

/-- a local's value -/
theorem St.load (S : St C xs G ρ M X B s m) (hC : Ok C xs gs) {i : Nat} {x : Str} {v : V} (hx : xs[i]? = some x) (hv : ρ[i]? = some (some v)) {E : Post} {Q : Post}
    (k : ∀ cv, Rep C.w B v cv → Q cv s) : wpAny (model PG C.w) C.A (loadName C.env x) Q E s := by
  obtain ⟨cv, r, hh⟩ := S.slot i x v hx hv
  rcases hh with ⟨h1, h2⟩ | ⟨h1 | h1, c, h2, hcell⟩
  · exact wpAny_loadName_local hC.kind h1 S.ns h2 (k cv r)
  · exact wpAny_loadName_cell hC.kind h1 h2 hcell (k cv r)
  · refine wpAny_loadName_free hC.kind h1 h2 hcell (k cv r) ?_
    rcases (hC.xkind x (List.mem_of_getElem? hx)).2 with h5 | ⟨h5, _⟩ | ⟨_, h5, _⟩
    · rw [h1] at h5; cases h5
    · rw [h1] at h5; cases h5
    · exact beq_eq_false_iff_ne.mpr h5
end
end Mine

namespace Mine
open PySem PySem.W PySem.Calls PyProof.Rows

inductive GetAt : List Str → Str → List (Option V) → V → Prop
  | head {x : Str} {xs : List Str} {v : V} {ρ : List (Option V)} : GetAt (x :: xs) x (some v :: ρ) v
  | tail {x y : Str} {xs : List Str} {v : V} {o : Option V} {ρ : List (Option V)} : GetAt xs x ρ v → GetAt (y :: xs) x (o :: ρ) v
inductive SetAt : List Str → Str → V → List (Option V) → List (Option V) → Prop
  | head {x : Str} {xs : List Str} {v : V} {o : Option V} {ρ : List (Option V)} : SetAt (x :: xs) x v (o :: ρ) (some v :: ρ)
  | tail {x y : Str} {xs : List Str} {v : V} {o : Option V} {ρ ρ' : List (Option V)} : SetAt xs x v ρ ρ' → SetAt (y :: xs) x v (o :: ρ) (o :: ρ')
inductive Has : List (Str × Value) → Str → Value → Prop
  | head {x : Str} {v : Value} {gs : List (Str × Value)} : Has ((x, v) :: gs) x v
  | tail {x : Str} {v : Value} {p : Str × Value} {gs : List (Str × Value)} : Has gs x v → Has (p :: gs) x v
theorem GetAt.ok {xs : List Str} {x : Str} {ρ : List (Option V)} {v : V} (h : GetAt xs x ρ v) : ∃ i : Nat, xs[i]? = some x ∧ ρ[i]? = some (some v) := by
  induction h with
  | head => exact ⟨0, rfl, rfl⟩
  | tail _ ih => obtain ⟨i, a, b⟩ := ih; exact ⟨i + 1, by simpa using a, by simpa using b⟩
theorem SetAt.ok {xs : List Str} {x : Str} {v : V} {ρ ρ' : List (Option V)} (h : SetAt xs x v ρ ρ') : ∃ i : Nat, xs[i]? = some x ∧ ρ' = ρ.set i (some v) := by
  induction h with
  | head => exact ⟨0, rfl, rfl⟩
  | tail _ ih => obtain ⟨i, a, b⟩ := ih; exact ⟨i + 1, by simpa using a, by rw [b]; rfl⟩
theorem Has.mem {gs : List (Str × Value)} {x : Str} {v : Value} (h : Has gs x v) : (x, v) ∈ gs := by
  induction h with
  | head => exact .head _
  | tail _ ih => exact .tail _ ih

section
variable {C : Cx} {xs : List Str} {gs : List (Str × Value)} {ρ : List (Option V)} {M : MS}

/-- trees upon one value, two values, many -/
def J1 (C : Cx) (xs : List Str) (gs : List (Str × Value)) (ρ : List (Option V)) (M : MS) (a : V) (f : Value → Sem Value) (Q : V → MS → Prop) : Prop :=
  Ok C xs gs → ∀ (G : Gh) (X : List Addr) (B : Base) (s : Shared) (m : Str → Option Value), St C xs G ρ M X B s m → ∀ ca, Rep C.w B a ca → ∀ (Qc E : Post),
    (∀ v M' X' B' s' m' cv, Le B B' → St C xs G ρ M' X' B' s' m' → Rep C.w B' v cv → Q v M' → Qc cv s') → wpAny (model PG C.w) C.A (f ca) Qc E s
def J2 (C : Cx) (xs : List Str) (gs : List (Str × Value)) (ρ : List (Option V)) (M : MS) (a b : V) (f : Value → Value → Sem Value) (Q : V → MS → Prop) : Prop :=
  Ok C xs gs → ∀ (G : Gh) (X : List Addr) (B : Base) (s : Shared) (m : Str → Option Value), St C xs G ρ M X B s m → ∀ ca cb, Rep C.w B a ca → Rep C.w B b cb → ∀ (Qc E : Post),
    (∀ v M' X' B' s' m' cv, Le B B' → St C xs G ρ M' X' B' s' m' → Rep C.w B' v cv → Q v M' → Qc cv s') → wpAny (model PG C.w) C.A (f ca cb) Qc E s
def Jn (C : Cx) (xs : List Str) (gs : List (Str × Value)) (ρ : List (Option V)) (M : MS) (l : List V) (f : List Value → Sem Value) (Q : V → MS → Prop) : Prop :=
  Ok C xs gs → ∀ (G : Gh) (X : List Addr) (B : Base) (s : Shared) (m : Str → Option Value), St C xs G ρ M X B s m → ∀ cl, Reps C.w B l cl → ∀ (Qc E : Post),
    (∀ v M' X' B' s' m' cv, Le B B' → St C xs G ρ M' X' B' s' m' → Rep C.w B' v cv → Q v M' → Qc cv s') → wpAny (model PG C.w) C.A (f cl) Qc E s
def J3 (C : Cx) (xs : List Str) (gs : List (Str × Value)) (ρ : List (Option V)) (M : MS) (a b c : V) (f : Value → Value → Value → Sem Unit) (Q : MS → Prop) : Prop :=
  Ok C xs gs → ∀ (G : Gh) (X : List Addr) (B : Base) (s : Shared) (m : Str → Option Value), St C xs G ρ M X B s m → ∀ ca cb cc, Rep C.w B a ca → Rep C.w B b cb → Rep C.w B c cc → ∀ (Qc : Unit → Shared → Prop) (E : Post),
    (∀ M' X' B' s' m', Le B B' → St C xs G ρ M' X' B' s' m' → Q M' → Qc () s') → wpAny (model PG C.w) C.A (f ca cb cc) Qc E s
/-- an assignment to a target -/
def JA (C : Cx) (xs : List Str) (gs : List (Str × Value)) (ρ : List (Option V)) (M : MS) (a : V) (f : Value → Sem Unit) (Q : List (Option V) → MS → Prop) : Prop :=
  Ok C xs gs → ∀ (G : Gh) (X : List Addr) (B : Base) (s : Shared) (m : Str → Option Value), St C xs G ρ M X B s m → ∀ ca, Rep C.w B a ca → ∀ (Qc : Unit → Shared → Prop) (E : Post),
    (∀ ρ' M' X' B' s' m', Le B B' → St C xs G ρ' M' X' B' s' m' → Q ρ' M' → Qc () s') → wpAny (model PG C.w) C.A (f ca) Qc E s

/-- names for what is to hold behind each part (they keep the terms small) -/
abbrev K2b (C : Cx) (xs : List Str) (gs : List (Str × Value)) (ρ : List (Option V)) (op : Value → Value → Sem Value) (Q : V → MS → Prop) (a : V) : V → MS → Prop := fun b M2 => J2 C xs gs ρ M2 a b op Q
abbrev K2 (C : Cx) (xs : List Str) (gs : List (Str × Value)) (ρ : List (Option V)) (r : Expr) (op : Value → Value → Sem Value) (Q : V → MS → Prop) : V → MS → Prop := fun a M1 => JE C xs gs ρ M1 (eval r C.env) (K2b C xs gs ρ op Q a)
abbrev KB (Q : Bool → MS → Prop) : V → MS → Prop := fun v M3 => ∃ t, v = .bool t ∧ Q t M3
abbrev KS (C : Cx) (xs : List Str) (gs : List (Str × Value)) (rest : List Stmt) (Q : Fl → List (Option V) → MS → Prop) : Fl → List (Option V) → MS → Prop := fun f ρ' M' => match f with | .next => JS C xs gs ρ' M' (execs rest C.env) Q | f => Q f ρ' M'
abbrev KR (ρ : List (Option V)) (Q : Fl → List (Option V) → MS → Prop) : V → MS → Prop := fun v M' => Q (.ret v) ρ M'
abbrev KI (C : Cx) (xs : List Str) (gs : List (Str × Value)) (ρ : List (Option V)) (a b : List Stmt) (Q : Fl → List (Option V) → MS → Prop) : Bool → MS → Prop := fun c M1 => (c = true → JS C xs gs ρ M1 (execs a C.env) Q) ∧ (c = false → JS C xs gs ρ M1 (execs b C.env) Q)
abbrev KA (xs : List Str) (x : Str) (ρ : List (Option V)) (Q : Fl → List (Option V) → MS → Prop) : V → MS → Prop := fun v M' => ∃ ρ', SetAt xs x v ρ ρ' ∧ Q .next ρ' M'
abbrev KAnd (C : Cx) (xs : List Str) (gs : List (Str × Value)) (ρ : List (Option V)) (rest : List Expr) (Q : Bool → MS → Prop) : Bool → MS → Prop := fun b M1 => (b = false → Q false M1) ∧ (b = true → JB C xs gs ρ M1 (allTrue .And rest C.env) Q)
abbrev KOr (C : Cx) (xs : List Str) (gs : List (Str × Value)) (ρ : List (Option V)) (rest : List Expr) (Q : Bool → MS → Prop) : Bool → MS → Prop := fun b M1 => (b = true → Q true M1) ∧ (b = false → JB C xs gs ρ M1 (allTrue .Or rest C.env) Q)

theorem JE_mono {t : Sem Value} {Q Q' : V → MS → Prop} (h : JE C xs gs ρ M t Q) (hq : ∀ v M', Q v M' → Q' v M') : JE C xs gs ρ M t Q' :=
  fun hC G X B s m S Qc E k => h hC G X B s m S Qc E fun v M' X' B' s' m' cv a b c d => k v M' X' B' s' m' cv a b c (hq v M' d)
theorem JB_mono {t : Sem Bool} {Q Q' : Bool → MS → Prop} (h : JB C xs gs ρ M t Q) (hq : ∀ v M', Q v M' → Q' v M') : JB C xs gs ρ M t Q' :=
  fun hC G X B s m S Qc E k => h hC G X B s m S Qc E fun v M' X' B' s' m' a b d => k v M' X' B' s' m' a b (hq v M' d)
theorem JS_mono {t : Sem Flow} {Q Q' : Fl → List (Option V) → MS → Prop} (h : JS C xs gs ρ M t Q) (hq : ∀ f ρ' M', Q f ρ' M' → Q' f ρ' M') : JS C xs gs ρ M t Q' :=
  fun hC G X B s m S Qc E k => h hC G X B s m S Qc E fun v ρ' M' X' B' s' m' cv a b c d => k v ρ' M' X' B' s' m' cv a b c (hq v ρ' M' d)

theorem JE_pure {t : Sem Value} {Q : V → MS → Prop} {v : V} {cv : Value} (ht : t = pure cv) (hr : ∀ B, Rep C.w B v cv) (h : Q v M) : JE C xs gs ρ M t Q :=
  fun hC G X B s m S Qc E k => wpAny_of_eq ht (k v M X B s m cv (Le.refl B) S (hr B) h)
theorem JE_none {k : Nat} {pos : Pos} {Q : V → MS → Prop} (h : Q .none M) : JE C xs gs ρ M (eval (.Constant .none k pos) C.env) Q := JE_pure (v := .none) rfl (fun _ => .none) h
theorem JE_bool {b : Bool} {k : Nat} {pos : Pos} {Q : V → MS → Prop} (h : Q (.bool b) M) : JE C xs gs ρ M (eval (.Constant (.bool b) k pos) C.env) Q := JE_pure (v := .bool b) rfl (fun _ => .bool b) h
theorem JE_int {i : Int} {k : Nat} {pos : Pos} {Q : V → MS → Prop} (h : Q (.int i) M) : JE C xs gs ρ M (eval (.Constant (.int i) k pos) C.env) Q :=
  fun hC G X B s m S Qc E k => wpAny_Constant_int (k _ M X B _ m _ (Le.refl B) (S.tok _) (.int i _) h)
theorem JE_str {x : Str} {k : Nat} {pos : Pos} {Q : V → MS → Prop} (h : Q (.str x) M) : JE C xs gs ρ M (eval (.Constant (.str x) k pos) C.env) Q :=
  fun hC G X B s m S Qc E k => Calls.Constant_str (k _ M X B _ m _ (Le.refl B) (S.tok _) (.str x _) h)
theorem JE_Name {x : Str} {pos : Pos} {v : V} {Q : V → MS → Prop} (h : Q v M) (g : GetAt xs x ρ v := by with_reducible repeat (first | exact GetAt.head | apply GetAt.tail)) : JE C xs gs ρ M (eval (.Name x pos) C.env) Q :=
  fun hC G X B s m S Qc E k => by
    obtain ⟨i, hx, hv⟩ := g.ok
    exact wpAny_Name (S.load hC hx hv fun cv r => k v M X B s m cv (Le.refl B) S r h) (beq_eq_false_iff_ne.mpr (hC.xkind x (List.mem_of_getElem? hx)).1)

/-- a global name -/
theorem glob_load {G : Gh} {X : List Addr} {B : Base} {s : Shared} {m : Str → Option Value} (S : St C xs G ρ M X B s m) (hC : Ok C xs gs) {x : Str} {v : Value} {pos : Pos} (g : Has gs x v) {Qc E : Post} (k : Qc v s) :
    wpAny (model PG C.w) C.A (eval (.Name x pos) C.env) Qc E s := by
  obtain ⟨hd, hk, h⟩ := hC.glob x v g.mem
  refine Calls.Name_function_global hC.kind hk ?_ (beq_eq_false_iff_ne.mpr hd)
  rcases h with ⟨mg, h1, h2⟩ | ⟨mg, mb, h1, h2, h3, h4⟩
  · exact Calls.loadGlobal_global (h1.keeps S.baseKeep) h2 k
  · exact Calls.loadGlobal_builtin (h1.keeps S.baseKeep) h2 (h3.keeps S.baseKeep) h4 k
/-- a global name that holds plain data -/
theorem JE_GlobStr {x : Str} {pos : Pos} {t : Str} {tk : Tok} {Q : V → MS → Prop} (h : Q (.str t) M) (g : Has gs x (.str t tk) := by with_reducible repeat (first | exact Has.head | apply Has.tail)) : JE C xs gs ρ M (eval (.Name x pos) C.env) Q :=
  fun hC G X B s m S Qc E k => glob_load S hC g (k _ M X B s m _ (Le.refl B) S (.str t tk) h)

theorem JE_BinOp {l r : Expr} {op : Operator} {pos : Pos} {Q : V → MS → Prop}
    (h : JE C xs gs ρ M (eval l C.env) (K2 C xs gs ρ r (fun x y => binaryOp op x y) Q)) :
    JE C xs gs ρ M (eval (.BinOp l op r pos) C.env) Q :=
  fun hC G X B s m S Qc E k => wpAny_BinOp (h hC G X B s m S _ _ fun a M1 X1 B1 s1 m1 ca l1 S1 ra q1 => q1 hC G X1 B1 s1 m1 S1 _ _ fun b M2 X2 B2 s2 m2 cb l2 S2 rb q2 =>
    q2 hC G X2 B2 s2 m2 S2 ca cb (ra.mono l2) rb _ _ fun v M3 X3 B3 s3 m3 cv l3 S3 rv q3 => k v M3 X3 B3 s3 m3 cv ((l1.trans l2).trans l3) S3 rv q3)
theorem JE_Compare {l r : Expr} {op : CmpOp} {pos : Pos} {Q : V → MS → Prop}
    (h : JE C xs gs ρ M (eval l C.env) (K2 C xs gs ρ r (fun x y => compareOp op x y) Q))
    (hm : behindInMarks op r = false := by with_unfolding_all rfl) :
    JE C xs gs ρ M (eval (.Compare l [op] [r] pos) C.env) Q :=
  fun hC G X B s m S Qc E k => wpAny_Compare1 (h hC G X B s m S _ _ fun a M1 X1 B1 s1 m1 ca l1 S1 ra q1 => q1 hC G X1 B1 s1 m1 S1 _ _ fun b M2 X2 B2 s2 m2 cb l2 S2 rb q2 =>
    q2 hC G X2 B2 s2 m2 S2 ca cb (ra.mono l2) rb _ _ fun v M3 X3 B3 s3 m3 cv l3 S3 rv q3 => k v M3 X3 B3 s3 m3 cv ((l1.trans l2).trans l3) S3 rv q3) hm
/-- tests -/
theorem JB_Compare {l r : Expr} {op : CmpOp} {pos : Pos} {whole : Sem Value} {Q : Bool → MS → Prop}
    (h : JE C xs gs ρ M (eval l C.env) (K2 C xs gs ρ r (fun x y => compareOp op x y) (KB Q)))
    (hm : behindInMarks op r = false := by with_unfolding_all rfl) :
    JB C xs gs ρ M (isTrue (.Compare l [op] [r] pos) C.env whole) Q :=
  fun hC G X B s m S Qc E k => wpAny_isTrue_Compare1 (h hC G X B s m S _ _ fun a M1 X1 B1 s1 m1 ca l1 S1 ra q1 => q1 hC G X1 B1 s1 m1 S1 _ _ fun b M2 X2 B2 s2 m2 cb l2 S2 rb q2 =>
    q2 hC G X2 B2 s2 m2 S2 ca cb (ra.mono l2) rb _ _ fun v M3 X3 B3 s3 m3 cv l3 S3 rv q3 => by
      obtain ⟨t, rfl, hq⟩ := q3
      cases rv
      exact wpAny_truthy_bool (k t M3 X3 B3 s3 m3 ((l1.trans l2).trans l3) S3 hq)) hm
theorem JB_Not {x : Expr} {pos : Pos} {whole : Sem Value} {Q : Bool → MS → Prop} (h : JB C xs gs ρ M (isTrue x C.env (eval x C.env)) fun b M1 => Q (!b) M1) :
    JB C xs gs ρ M (isTrue (.UnaryOp .Not x pos) C.env whole) Q :=
  fun hC G X B s m S Qc E k => by
    show wpAny _ _ (do return !(← isTrue x C.env (eval x C.env))) Qc E s
    exact wpAny_bind (h hC G X B s m S _ _ fun b M1 X1 B1 s1 m1 l1 S1 q1 => wpAny_pure (k _ M1 X1 B1 s1 m1 l1 S1 q1))
/-- what is no compare, no not, no and | or -/
theorem JB_call {f : Expr} {args : List Expr} {kw : List Keyword} {pos : Pos} {Q : Bool → MS → Prop} (h : JE C xs gs ρ M (eval (.Call f args kw pos) C.env) (KB Q)) :
    JB C xs gs ρ M (isTrue (.Call f args kw pos) C.env (eval (.Call f args kw pos) C.env)) Q :=
  fun hC G X B s m S Qc E k => by
    show wpAny _ _ (do let v ← eval (.Call f args kw pos) C.env; standAt _; holding [v] (truthy v)) Qc E s
    refine wpAny_bind (h hC G X B s m S _ _ fun v M1 X1 B1 s1 m1 cv l1 S1 rv q1 => ?_)
    obtain ⟨t, rfl, hq⟩ := q1
    cases rv
    exact wpAny_bind (wpAny_standAt (wpAny_holding (wpAny_truthy_bool (k _ M1 X1 B1 s1 m1 l1 S1 hq))))
theorem JB_BoolOp {op : BoolOp} {vs : List Expr} {pos : Pos} {whole : Sem Value} {Q : Bool → MS → Prop} (h : JB C xs gs ρ M (allTrue op vs C.env) Q) : JB C xs gs ρ M (isTrue (.BoolOp op vs pos) C.env whole) Q := h
theorem JB_and_cons {x : Expr} {rest : List Expr} {Q : Bool → MS → Prop}
    (h : JB C xs gs ρ M (isTrue x C.env (eval x C.env)) (KAnd C xs gs ρ rest Q)) : JB C xs gs ρ M (allTrue .And (x :: rest) C.env) Q :=
  fun hC G X B s m S Qc E k => by
    show wpAny _ _ (do
      match BoolOp.And, ← isTrue x C.env (eval x C.env) with
      | .And, false => pure false
      | .Or, true => pure true
      | _, _ => allTrue .And rest C.env) Qc E s
    refine wpAny_bind (h hC G X B s m S _ _ fun b M1 X1 B1 s1 m1 l1 S1 q1 => ?_)
    cases b with
    | false => exact wpAny_pure (k _ M1 X1 B1 s1 m1 l1 S1 (q1.1 rfl))
    | true => exact (q1.2 rfl) hC G X1 B1 s1 m1 S1 _ _ fun b M2 X2 B2 s2 m2 l2 S2 q2 => k b M2 X2 B2 s2 m2 (l1.trans l2) S2 q2
theorem JB_or_cons {x : Expr} {rest : List Expr} {Q : Bool → MS → Prop}
    (h : JB C xs gs ρ M (isTrue x C.env (eval x C.env)) (KOr C xs gs ρ rest Q)) : JB C xs gs ρ M (allTrue .Or (x :: rest) C.env) Q :=
  fun hC G X B s m S Qc E k => by
    show wpAny _ _ (do
      match BoolOp.Or, ← isTrue x C.env (eval x C.env) with
      | .And, false => pure false
      | .Or, true => pure true
      | _, _ => allTrue .Or rest C.env) Qc E s
    refine wpAny_bind (h hC G X B s m S _ _ fun b M1 X1 B1 s1 m1 l1 S1 q1 => ?_)
    cases b with
    | true => exact wpAny_pure (k _ M1 X1 B1 s1 m1 l1 S1 (q1.1 rfl))
    | false => exact (q1.2 rfl) hC G X1 B1 s1 m1 S1 _ _ fun b M2 X2 B2 s2 m2 l2 S2 q2 => k b M2 X2 B2 s2 m2 (l1.trans l2) S2 q2
theorem JB_and_nil {Q : Bool → MS → Prop} (h : Q true M) : JB C xs gs ρ M (allTrue .And [] C.env) Q :=
  fun hC G X B s m S Qc E k => by show wpAny _ _ (pure true) Qc E s; exact wpAny_pure (k _ M X B s m (Le.refl B) S h)
theorem JB_or_nil {Q : Bool → MS → Prop} (h : Q false M) : JB C xs gs ρ M (allTrue .Or [] C.env) Q :=
  fun hC G X B s m S Qc E k => by show wpAny _ _ (pure false) Qc E s; exact wpAny_pure (k _ M X B s m (Le.refl B) S h)
theorem JE_IfExp {t a b : Expr} {pos : Pos} {Q : V → MS → Prop}
    (h : JB C xs gs ρ M (isTrue t C.env (eval t C.env)) fun c M1 => (c = true → JE C xs gs ρ M1 (eval a C.env) Q) ∧ (c = false → JE C xs gs ρ M1 (eval b C.env) Q)) : JE C xs gs ρ M (eval (.IfExp t a b pos) C.env) Q :=
  fun hC G X B s m S Qc E k => by
    show wpAny _ _ (do if ← isTrue t C.env (eval t C.env) then eval a C.env else eval b C.env) Qc E s
    refine wpAny_bind (h hC G X B s m S _ _ fun c M1 X1 B1 s1 m1 l1 S1 q1 => ?_)
    have fin : ∀ v M' X' B' s' m' cv, Le B1 B' → St C xs G ρ M' X' B' s' m' → Rep C.w B' v cv → Q v M' → Qc cv s' := fun v M' X' B' s' m' cv a b c d => k v M' X' B' s' m' cv (l1.trans a) b c d
    cases c with
    | true => exact (q1.1 rfl) hC G X1 B1 s1 m1 S1 _ _ fin
    | false => exact (q1.2 rfl) hC G X1 B1 s1 m1 S1 _ _ fin

/-- statements -/
theorem JS_nil {Q : Fl → List (Option V) → MS → Prop} (h : Q .next ρ M) : JS C xs gs ρ M (execs [] C.env) Q :=
  fun hC G X B s m S Qc E k => wpAny_execs_nil (k .next ρ M X B s m .next (Le.refl B) S .next h)
theorem JS_cons {st : Stmt} {rest : List Stmt} {Q : Fl → List (Option V) → MS → Prop}
    (h : JS C xs gs ρ M (exec st C.env) (KS C xs gs rest Q)) : JS C xs gs ρ M (execs (st :: rest) C.env) Q :=
  fun hC G X B s m S Qc E k => wpAny_execs_cons (h hC G X B s m S _ _ fun f ρ1 M1 X1 B1 s1 m1 cf l1 S1 rf q1 => by
    cases rf with
    | next => exact q1 hC G X1 B1 s1 m1 S1 _ _ fun f ρ2 M2 X2 B2 s2 m2 cf l2 S2 rf q2 => k f ρ2 M2 X2 B2 s2 m2 cf (l1.trans l2) S2 rf q2
    | brk => exact k _ ρ1 M1 X1 B1 s1 m1 _ l1 S1 .brk q1
    | cont => exact k _ ρ1 M1 X1 B1 s1 m1 _ l1 S1 .cont q1
    | ret r => exact k _ ρ1 M1 X1 B1 s1 m1 _ l1 S1 (.ret r) q1)
theorem JS_Return {e : Expr} {pos : Pos} {Q : Fl → List (Option V) → MS → Prop} (h : JE C xs gs ρ M (eval e C.env) (KR ρ Q)) : JS C xs gs ρ M (exec (.Return (some e) pos) C.env) Q :=
  fun hC G X B s m S Qc E k => wpAny_Return_some (h hC G X B s m S _ _ fun v M1 X1 B1 s1 m1 cv l1 S1 rv q1 => k _ ρ M1 X1 B1 s1 m1 _ l1 S1 (.ret rv) q1)
theorem JS_Continue {pos : Pos} {Q : Fl → List (Option V) → MS → Prop} (h : Q .cont ρ M) : JS C xs gs ρ M (exec (.Continue pos) C.env) Q :=
  fun hC G X B s m S Qc E k => by
    show wpAny _ _ (do standAt pos; pure .cont) Qc E s
    exact wpAny_bind (wpAny_standAt (wpAny_pure (k .cont ρ M X B s m .cont (Le.refl B) S .cont h)))
theorem JS_If {t : Expr} {a b : List Stmt} {pos : Pos} {Q : Fl → List (Option V) → MS → Prop}
    (h : JB C xs gs ρ M (isTrue t C.env (eval t C.env)) (KI C xs gs ρ a b Q)) : JS C xs gs ρ M (exec (.If t a b pos) C.env) Q :=
  fun hC G X B s m S Qc E k => wpAny_If (h hC G X B s m S _ _ fun c M1 X1 B1 s1 m1 l1 S1 q1 => by
    have fin : ∀ f ρ' M' X' B' s' m' cf, Le B1 B' → St C xs G ρ' M' X' B' s' m' → RepF C.w B' f cf → Q f ρ' M' → Qc cf s' := fun f ρ' M' X' B' s' m' cf a b c d => k f ρ' M' X' B' s' m' cf (l1.trans a) b c d
    cases c with
    | true => exact (q1.1 rfl) hC G X1 B1 s1 m1 S1 _ _ fin
    | false => exact (q1.2 rfl) hC G X1 B1 s1 m1 S1 _ _ fin)

theorem storeSt {G : Gh} {X : List Addr} {B : Base} {s : Shared} {m : Str → Option Value} (S : St C xs G ρ M X B s m) (hC : Ok C xs gs) {x : Str} {v : V} {cv : Value} {ρ' : List (Option V)} (hr : Rep C.w B v cv)
    (g : SetAt xs x v ρ ρ') (hnf : CanSto C x) {E : Post} {Q : Unit → Shared → Prop} (k : ∀ s' m', St C xs G ρ' M X B s' m' → Q () s') : wpAny (model PG C.w) C.A (storeName C.env x cv) Q E s := by
  obtain ⟨i, hx, rfl⟩ := g.ok
  exact S.store hC hx hr hnf k

/-- names that may be stored to: their kind is told beforehand -/
def Sto (C : Cx) (xs : List Str) : Prop := ∀ x ∈ xs, CanSto C x
theorem SetAt.mem {xs : List Str} {x : Str} {v : V} {ρ ρ' : List (Option V)} (h : SetAt xs x v ρ ρ') : x ∈ xs := by
  induction h with
  | head => exact .head _
  | tail _ ih => exact .tail _ ih

theorem JS_Assign {x : Str} {p pos : Pos} {value : Expr} {Q : Fl → List (Option V) → MS → Prop}
    (hsto : Sto C xs)
    (h : JE C xs gs ρ M (eval value C.env) (KA xs x ρ Q))
    (hs : swapsWith value (some (.Name x p)) pos.line C.env = pure false := by rfl) : JS C xs gs ρ M (exec (.Assign [.Name x p] value pos) C.env) Q :=
  fun hC G X B s m S Qc E k => wpAny_Assign_Name (h hC G X B s m S _ _ fun v M1 X1 B1 s1 m1 cv l1 S1 rv q1 => by
    obtain ⟨ρ', g, hq⟩ := q1
    exact storeSt S1 hC rv g (hsto x g.mem) fun s2 m2 S2 => k .next ρ' M1 X1 B1 s2 m2 .next l1 S2 .next hq) hs
end
end Mine

namespace Mine
open PySem PySem.W PySem.Calls PyProof.Rows

def SameR (s s' : Shared) : Prop := ∃ h tk, s' = { s with heap := h, toks := tk }
theorem SameR.rfl' (s : Shared) : SameR s s := ⟨s.heap, s.toks, by cases s; rfl⟩

/-- what a call of the text's def does: its contract -/
def FS (w : World) (h₀ : Heap) (d : Nat) (f : Value) (args : List V) (M : MS) (Q : V → MS → Prop) : Prop :=
  ∀ (A : Around) (s : Shared) (B Z : Base) (cvs : List Value) (X : List Addr), Room A d → (∀ a o, h₀.get? a = some o → Z a = some o) → Known B s.heap → Known Z s.heap → Reps w B args cvs → MReps w B s.heap M X → X.Nodup →
    (∀ a ∈ X, B a = none ∧ Z a = none) → ∀ (Qc E : Post),
    (∀ v M' X' B' s' cv, SameR s s' → Le B B' → Known B' s'.heap → Known Z s'.heap → Rep w B' v cv → MReps w B' s'.heap M' X' → X'.Nodup → (∀ a ∈ X', B' a = none ∧ Z a = none) →
      (∀ a, B' a ≠ none → B a ≠ none ∨ Z a = none) → Q v M' → Qc cv s') → wpAny (model PG w) A (call f cvs) Qc E s

theorem FS_mono {w : World} {h₀ : Heap} {d : Nat} {f : Value} {args : List V} {M : MS} {Q Q' : V → MS → Prop} (h : FS w h₀ d f args M Q) (hq : ∀ v M', Q v M' → Q' v M') : FS w h₀ d f args M Q' :=
  fun A s B Z cvs X a1 a2 a3 a4 a5 a6 a7 a8 Qc E k => h A s B Z cvs X a1 a2 a3 a4 a5 a6 a7 a8 Qc E fun v M' X' B' s' cv b1 b2 b3 b4 b5 b6 b7 b8 b9 q => k v M' X' B' s' cv b1 b2 b3 b4 b5 b6 b7 b8 b9 (hq v M' q)

theorem Room.le {A : Around} {n m : Nat} (h : Room A n) (hm : m ≤ n) : Room A m := ⟨h.1, by have := h.2.1; omega, by have := h.2.2; omega⟩
theorem Room.deeper {A : Around} {n : Nat} {env : Env} (h : Room A (n + 1)) : Room (A.deeper env) n := by
  refine ⟨h.1, ?_, ?_⟩
  · show A.depth + 1 + n < 400
    have := h.2.1; omega
  · show A.units + 3 + 20 * n < 2000
    have := h.2.2; omega
theorem Room.lim {A : Around} {n : Nat} (h : Room A n) : A.depth < recursionLimit := by
  have := h.2.1
  show A.depth < 1000
  omega

section
variable {C : Cx} {xs : List Str} {gs : List (Str × Value)} {ρ : List (Option V)} {M : MS}

abbrev KCc (Q : List V → MS → Prop) (v : V) : List V → MS → Prop := fun vs M2 => Q (v :: vs) M2
abbrev KC (C : Cx) (xs : List Str) (gs : List (Str × Value)) (ρ : List (Option V)) (pos : Pos) (rest : List Expr) (Q : List V → MS → Prop) : V → MS → Prop := fun v M1 => JEs C xs gs ρ M1 (spliced (backTo pos (starEach rest C.env))) (KCc Q v)
abbrev KT (Q : V → MS → Prop) : List V → MS → Prop := fun vs M1 => vs.length ≤ 1000 ∧ Q (.tup vs) M1
abbrev KL (Q : V → MS → Prop) : List V → MS → Prop := fun vs M1 => vs.length ≤ 1000 ∧ Q (.list vs) M1
abbrev KLM (Q : V → MS → Prop) : List V → MS → Prop := fun vs M1 => vs.length ≤ 1000 ∧ ∀ a, (∀ p ∈ M1, p.1 ≠ a) → Q (.mut a) ((a, .list vs) :: M1)
abbrev KFv (Q : V → MS → Prop) (Ma Mb : MS) : V → MS → Prop := fun v M' => Q v (Ma ++ (M' ++ Mb))
abbrev KF (w : World) (h₀ : Heap) (d : Nat) (f : Addr) (Q : V → MS → Prop) : List V → MS → Prop := fun vs M1 => ∃ Ma Mp Mb, M1 = Ma ++ (Mp ++ Mb) ∧ FS w h₀ d (.ref f) vs Mp (KFv Q Ma Mb)
theorem JEs_nil {Q : List V → MS → Prop} {pos : Pos} (h : Q [] M) : JEs C xs gs ρ M (spliced (backTo pos (starEach [] C.env))) Q :=
  fun hC G X B s m S Qc E k => Calls.spliced_nil (k [] M X B s m [] (Le.refl B) S .nil h)
theorem JEs_cons {e : Expr} {rest : List Expr} {pos : Pos} {Q : List V → MS → Prop}
    (h : JE C xs gs ρ M (eval e C.env) (KC C xs gs ρ pos rest Q))
    (he : starEach (e :: rest) C.env = (false, eval e C.env) :: starEach rest C.env := by rfl) : JEs C xs gs ρ M (spliced (backTo pos (starEach (e :: rest) C.env))) Q :=
  fun hC G X B s m S Qc E k => by
    rw [he]
    show wpAny _ _ (spliced ((false, eval e C.env) :: backTo pos (starEach rest C.env))) Qc E s
    exact Calls.spliced_cons (h hC G X B s m S _ _ fun v M1 X1 B1 s1 m1 cv l1 S1 rv q1 => q1 hC G X1 B1 s1 m1 S1 _ _ fun vs M2 X2 B2 s2 m2 cvs l2 S2 rvs q2 =>
      k (v :: vs) M2 X2 B2 s2 m2 (cv :: cvs) (l1.trans l2) S2 (.cons (rv.mono l2) rvs) q2)

/-- displays: a tuple stays; a list stays or may change -/
theorem JE_Tuple {elts : List Expr} {k : Nat} {pos : Pos} {Q : V → MS → Prop}
    (h : JEs C xs gs ρ M (spliced (backTo pos (starEach elts C.env))) (KT Q)) : JE C xs gs ρ M (eval (.Tuple elts k pos) C.env) Q :=
  fun hC G X B s m S Qc E kk => Tuple_ (h hC G X B s m S _ _ fun vs M1 X1 B1 s1 m1 cvs l1 S1 rv q1 =>
    wpAny_newObj_type (by
      obtain ⟨l2, S2⟩ := S1.addB (a := s1.heap.objs.size) (o := tupO cvs 0) s1.toks (fun b o e => Heap.get?_push_of_some _ e) (Heap.get?_push_size _ rfl) (fresh_size _)
      exact kk _ M1 X1 _ _ m1 _ (l1.trans l2) S2 (.tup (put_self _ _ _) (rv.mono l2)) q1.2)
      (by show cvs.toArray.size ≤ sizeLine; rw [List.size_toArray, rv.length, sizeLine_eq]; have := q1.1; omega))
theorem JE_List {elts : List Expr} {pos : Pos} {Q : V → MS → Prop}
    (h : JEs C xs gs ρ M (spliced (backTo pos (starEach elts C.env))) (KL Q)) : JE C xs gs ρ M (eval (.List elts pos) C.env) Q :=
  fun hC G X B s m S Qc E kk => List_ (h hC G X B s m S _ _ fun vs M1 X1 B1 s1 m1 cvs l1 S1 rv q1 =>
    wpAny_newObj_type (by
      obtain ⟨l2, S2⟩ := S1.addB (a := s1.heap.objs.size) (o := lisO cvs 0) s1.toks (fun b o e => Heap.get?_push_of_some _ e) (Heap.get?_push_size _ rfl) (fresh_size _)
      exact kk _ M1 X1 _ _ m1 _ (l1.trans l2) S2 (.list (put_self _ _ _) (rv.mono l2)) q1.2)
      (by show cvs.toArray.size ≤ sizeLine; rw [List.size_toArray, rv.length, sizeLine_eq]; have := q1.1; omega))
theorem JE_ListM {elts : List Expr} {pos : Pos} {Q : V → MS → Prop}
    (h : JEs C xs gs ρ M (spliced (backTo pos (starEach elts C.env))) (KLM Q)) : JE C xs gs ρ M (eval (.List elts pos) C.env) Q :=
  fun hC G X B s m S Qc E kk => List_ (h hC G X B s m S _ _ fun vs M1 X1 B1 s1 m1 cvs l1 S1 rv q1 =>
    wpAny_newObj_type (by
      have S2 := S1.addM (a := s1.heap.objs.size) (h' := s1.heap.push (lisO cvs 0)) s1.toks (fun b o e => Heap.get?_push_of_some _ e) (.list (Heap.get?_push_size _ rfl) rv) (fresh_size _)
      refine kk _ _ _ B1 _ m1 _ l1 S2 (.mut _) (q1.2 _ fun p hp e => ?_)
      obtain ⟨M1a, M1b, rfl⟩ := List.append_of_mem hp
      obtain ⟨Y, r⟩ := S1.getM
      obtain ⟨o, ho⟩ := r.live _ r.head
      rw [e] at ho
      exact absurd (Heap.lt_size ho) (Nat.lt_irrefl _))
      (by show cvs.toArray.size ≤ sizeLine; rw [List.size_toArray, rv.length, sizeLine_eq]; have := q1.1; omega))
theorem JE_DictIM {pos : Pos} {Q : V → MS → Prop} (h : ∀ a, (∀ p ∈ M, p.1 ≠ a) → Q (.mut a) ((a, .dictI []) :: M)) : JE C xs gs ρ M (eval (.Dict [] [] pos) C.env) Q :=
  fun hC G X B s m S Qc E kk => wpAny_Dict_empty (by
    have S2 := S.addM (a := s.heap.objs.size) (mo := .dictI []) (h' := s.heap.push { cls := .type "dict", data := .dict #[] }) s.toks (fun b o e => Heap.get?_push_of_some _ e)
      (.dictI (Nat.lt_of_lt_of_le (by decide) (S.size2 hC)) (Heap.get?_push_size _ rfl) (kvs := []) ⟨#[], 0, ⟨rfl, rfl, rfl⟩, rfl, fun _ he => by simp at he, .nil, List.nodup_nil⟩ .nil) (fresh_size _)
    refine kk _ _ _ B _ m _ (Le.refl B) S2 (.mut _) (h _ fun p hp e => ?_)
    obtain ⟨M1a, M1b, rfl⟩ := List.append_of_mem hp
    obtain ⟨Y, r⟩ := S.getM
    obtain ⟨o, ho⟩ := r.live _ r.head
    rw [e] at ho
    exact absurd (Heap.lt_size ho) (Nat.lt_irrefl _))

/-- a call of a def of the text -/
theorem JE_CallFn {x : Str} {p pos : Pos} {e : Expr} {args : List Expr} {f : Addr} {d : Nat} {Q : V → MS → Prop} {w : World} {h₀ : Heap} (hw : C.w = w) (hh : C.h₀ = h₀) (hfn : ∃ o fd, h₀.get? f = some o ∧ o.data = .func fd) (hd : Room C.A d)
    (h : JEs C xs gs ρ M (spliced (backTo pos (starEach (e :: args) C.env))) (KF w h₀ d f Q))
    (g : Has gs x (.ref f) := by with_reducible repeat (first | exact Has.head | apply Has.tail)) (he : starEach (e :: args) C.env = (false, eval e C.env) :: starEach args C.env := by rfl) :
    JE C xs gs ρ M (eval (.Call (.Name x p) (e :: args) [] pos) C.env) Q :=
  fun hC G X B s m S Qc E k => by
    subst hw hh
    obtain ⟨o, fd, ho, hfd⟩ := hfn
    refine wpAny_Call_Name_kw (glob_load S hC g ?_)
    refine callWith_def (o := o) (fd := fd) hfd (h hC G X B s m S _ _ fun vs M1 X1 B1 s1 m1 cvs l1 S1 rv q1 => ⟨S1.baseKeep _ _ ho, ?_⟩) he
    obtain ⟨Ma, Mp, Mb, rfl, hFS⟩ := q1
    have mr := S1.mrep
    -- the footprints of the three parts
    have hsplit : ∀ {M1 M2 : MS} {X : List Addr}, MReps C.w B1 s1.heap (M1 ++ M2) X → ∃ X1 X2, X = X1 ++ X2 ∧ MReps C.w B1 s1.heap M1 X1 ∧ MReps C.w B1 s1.heap M2 X2 := by
      intro M1
      induction M1 with
      | nil => intro M2 X h; exact ⟨[], X, rfl, .nil, h⟩
      | cons p M1 ih =>
        intro M2 X h
        cases h with
        | cons r rs =>
          obtain ⟨Y1, Y2, rfl, h1, h2⟩ := ih rs
          exact ⟨_ ++ Y1, Y2, by rw [List.append_assoc], .cons r h1, h2⟩
    obtain ⟨Xa, Xr, rfl, mra, mrr⟩ := hsplit mr
    obtain ⟨Xp, Xb, rfl, mrp, mrb⟩ := hsplit mrr
    have nd := S1.xnodup
    have nd1 := List.nodup_append.mp nd
    have nd2 := List.nodup_append.mp nd1.2.1
    have memp : ∀ a ∈ Xp, a ∈ Xa ++ (Xp ++ Xb) := fun a ha => List.mem_append_right _ (List.mem_append_left _ ha)
    -- all but the part handed on stays
    let Z : Base := fun a => if a ∈ Xp then none else s1.heap.get? a
    have hZ : Known Z s1.heap := fun a o e => by
      by_cases ha : a ∈ Xp
      · simp only [Z, if_pos ha] at e; cases e
      · simp only [Z, if_neg ha] at e; exact e
    have hZi : ∀ a, a ∉ Xp → ∀ o, s1.heap.get? a = some o → Z a = some o := fun a ha o e => by simp only [Z, if_neg ha]; exact e
    refine hFS C.A s1 B1 Z cvs Xp hd (fun a o e => hZi a (fun ha => ?_) o (S1.baseKeep _ _ e)) S1.known hZ rv mrp nd2.1 (fun a ha => ⟨S1.offX a (memp a ha), if_pos ha⟩) _ _ fun v M' X' B' s' cv hs lB kB kZ rv' mr' ndX offX grow q => ?_
    · have := S1.offZ a (.tail _ (List.mem_append_right _ (memp a ha)))
      rw [S1.base _ _ e] at this; cases this
    obtain ⟨h', tk, rfl⟩ := hs
    have keepZ : ∀ a o, a ∉ Xp → s1.heap.get? a = some o → h'.get? a = some o := fun a o ha e => kZ a o (hZi a ha o e)
    have hXa : ∀ a ∈ Xa, a ∉ Xp := fun a ha hp => nd1.2.2 a ha a (List.mem_append_left _ hp) rfl
    have hXb : ∀ a ∈ Xb, a ∉ Xp := fun a ha hp => nd2.2.2 a hp a ha rfl
    have live := S1.mrep.live
    have newX : ∀ a ∈ X', a ∈ Xp ∨ s1.heap.get? a = none := fun a ha => by
      by_cases hp : a ∈ Xp
      · exact .inl hp
      · right
        have := (offX a ha).2
        simpa only [Z, if_neg hp] using this
    have S2 := S1.move (h' := h') (tk := tk) (M' := Ma ++ (M' ++ Mb)) (X' := Xa ++ (X' ++ Xb)) (B' := B') lB kB
      (fun b o hb e => keepZ b o (fun hp => hb (memp b hp)) e)
      (fun a ha => by
        rcases grow a ha with h1 | h1
        · exact .inl h1
        · by_cases hp : a ∈ Xp
          · exact .inr (.inr (memp a hp))
          · right; left; simpa only [Z, if_neg hp] using h1)
      ((mra.mono lB fun a ha o e => keepZ a o (hXa a ha) e).join (mr'.join (mrb.mono lB fun a ha o e => keepZ a o (hXb a ha) e)))
      (List.nodup_append.mpr ⟨nd1.1, List.nodup_append.mpr ⟨ndX, nd2.2.1, fun a ha b hb e => by
          subst e
          rcases newX a ha with h1 | h1
          · exact hXb a hb h1
          · obtain ⟨o, ho⟩ := live a (List.mem_append_right _ (List.mem_append_right _ hb))
            rw [ho] at h1; cases h1⟩, fun a ha b hb e => by
          subst e
          rcases List.mem_append.mp hb with hb | hb
          · rcases newX a hb with h1 | h1
            · exact hXa a ha h1
            · obtain ⟨o, ho⟩ := live a (List.mem_append_left _ ha)
              rw [ho] at h1; cases h1
          · exact nd1.2.2 a ha a (List.mem_append_right _ hb) rfl⟩)
      (fun a ha => by
        rcases List.mem_append.mp ha with ha | ha
        · exact .inl (List.mem_append_left _ ha)
        · rcases List.mem_append.mp ha with ha | ha
          · rcases newX a ha with h1 | h1
            · exact .inl (memp a h1)
            · exact .inr h1
          · exact .inl (List.mem_append_right _ (List.mem_append_right _ ha)))
      (fun a ha => by
        have old : ∀ a, a ∉ Xp → a ∈ Xa ++ (Xp ++ Xb) → B' a = none := fun a hp hm => by
          cases hb : B' a with
          | none => rfl
          | some o =>
            rcases grow a (by rw [hb]; simp) with h1 | h1
            · exact absurd (S1.offX a hm) h1
            · obtain ⟨o', ho'⟩ := live a hm
              rw [hZi a hp o' ho'] at h1; cases h1
        rcases List.mem_append.mp ha with ha | ha
        · exact old a (hXa a ha) (List.mem_append_left _ ha)
        · rcases List.mem_append.mp ha with ha | ha
          · exact (offX a ha).1
          · exact old a (hXb a ha) (List.mem_append_right _ (List.mem_append_right _ ha)))
    exact k v _ _ B' _ m1 cv (l1.trans lB) S2 rv' q
end
end Mine

namespace Mine
open PySem PySem.W PySem.Calls PyProof.Rows

def fnS (i : Nat) : Stmt := PG.main.body.getD i (.Pass default)
def fnName : Stmt → Str
  | .FunctionDef n .. => n
  | _ => Str.empty
def fnParams : Stmt → Arguments
  | .FunctionDef _ a .. => a
  | _ => ⟨[], [], none, [], [], none, []⟩
def fnBody : Stmt → List Stmt
  | .FunctionDef _ _ b .. => b
  | _ => []
def fnScope : Stmt → Scope
  | .FunctionDef _ _ _ _ _ _ sc _ _ _ => sc
  | _ => default

def FnAt (h₀ : Heap) (a : Addr) (i : Nat) : Prop :=
  ∃ o pm cd doc, h₀.get? a = some o ∧ o.data = .func (docDef (fnName (fnS i)) (fnParams (fnS i)) (fnBody (fnS i)) (fnScope (fnS i)) pm cd doc) ∧ h₀.CodeRec cd (fnName (fnS i))
theorem FnAt.is {h₀ : Heap} {a : Addr} {i : Nat} (h : FnAt h₀ a i) : ∃ o fd, h₀.get? a = some o ∧ o.data = .func fd := by
  obtain ⟨o, pm, cd, doc, h1, h2, _⟩ := h
  exact ⟨o, _, h1, h2⟩

def GlobAt (h₀ : Heap) (x : Str) (v : Value) : Prop :=
  (∃ mg, h₀.Ns mainGlobals mg ∧ mg x = some v) ∨ (∃ mg mb, h₀.Ns mainGlobals mg ∧ mg x = none ∧ h₀.Ns builtinsNs mb ∧ mb x = some v)
inductive GlobAll (h₀ : Heap) : List (Str × Value) → Prop
  | nil : GlobAll h₀ []
  | cons {x : Str} {v : Value} {gs : List (Str × Value)} : GlobAt h₀ x v → GlobAll h₀ gs → GlobAll h₀ ((x, v) :: gs)
theorem GlobAll.at {h₀ : Heap} : ∀ {gs : List (Str × Value)}, GlobAll h₀ gs → ∀ x v, (x, v) ∈ gs → GlobAt h₀ x v
  | _, .nil, _, _, h => nomatch h
  | _, .cons g gs, x, v, h => by
    rcases List.mem_cons.mp h with e | h
    · cases e; exact g
    · exact gs.at x v h

def fnChk (sc : Scope) (xs gn : List Str) : Bool :=
  decide (sc.kind = .function) && !sc.isCoroutine && !sc.isGenerator && decide xs.Nodup && decide ((cellsFrom 0 sc.names []).map (·.1)).Nodup && (((cellsFrom 0 sc.names []).map (·.1)).all fun y => sc.names.lookup y == some .cell) &&
  xs.all (fun x => x != ("__debug__" : Str) && (sc.names.lookup x == some .local || sc.names.lookup x == some .cell)) && gn.all fun x => x != ("__debug__" : Str) && sc.names.lookup x == some .globalImplicit

theorem cellsFrom_keys : ∀ (names : List (Str × NameKind)) (n k : Nat) (a b : List (Str × Addr)), a.map (·.1) = b.map (·.1) → (cellsFrom n names a).map (·.1) = (cellsFrom k names b).map (·.1)
  | [], _, _, _, _, h => h
  | (x, kd) :: r, n, k, a, b, h => by
    unfold cellsFrom
    split
    · exact cellsFrom_keys r _ _ _ _ (by simp [h])
    · exact cellsFrom_keys r _ _ _ _ h
theorem lookup_of_nodup {α : Type} : ∀ {l : List (Str × α)} {x : Str} {v : α}, (l.map (·.1)).Nodup → (x, v) ∈ l → l.lookup x = some v
  | (k, u) :: r, x, v, hn, h => by
    rw [List.map_cons, List.nodup_cons] at hn
    rw [List.lookup_cons]
    rcases List.mem_cons.mp h with e | h
    · cases e; simp
    · have hne : x ≠ k := fun e => hn.1 (e ▸ List.mem_map.mpr ⟨(x, v), h, rfl⟩)
      simp only [beq_eq_false_iff_ne.mpr hne]
      exact lookup_of_nodup hn.2 h

theorem bindL_off {kf : Str → Option NameKind} : ∀ {l : List (Str × Value)} {m : Str → Option Value} {x : Str}, x ∉ l.map (·.1) → bindL kf l m x = m x
  | [], _, _, _ => rfl
  | (n, v) :: r, m, x, h => by
    rw [List.map_cons, List.mem_cons, not_or] at h
    unfold bindL
    rw [bindL_off h.2]
    split
    · simp [h.1]
    · rfl
theorem bindC_off {kf : Str → Option NameKind} : ∀ {l : List (Str × Value)} {m : Str → Option Value} {x : Str}, x ∉ l.map (·.1) → bindC kf l m x = m x
  | [], _, _, _ => rfl
  | (n, v) :: r, m, x, h => by
    rw [List.map_cons, List.mem_cons, not_or] at h
    unfold bindC
    rw [bindC_off h.2]
    split
    · rfl
    · simp [h.1]
theorem bindL_at {kf : Str → Option NameKind} : ∀ {l : List (Str × Value)} {m : Str → Option Value} {x : Str} {v : Value}, (l.map (·.1)).Nodup → (x, v) ∈ l → kf x = some .local → bindL kf l m x = some v
  | (n, u) :: r, m, x, v, hn, h, hk => by
    rw [List.map_cons, List.nodup_cons] at hn
    unfold bindL
    rcases List.mem_cons.mp h with e | h
    · cases e
      rw [bindL_off hn.1, if_pos hk]; simp
    · exact bindL_at hn.2 h hk
theorem bindC_at {kf : Str → Option NameKind} : ∀ {l : List (Str × Value)} {m : Str → Option Value} {x : Str} {v : Value}, (l.map (·.1)).Nodup → (x, v) ∈ l → kf x = some .cell → bindC kf l m x = some v
  | (n, u) :: r, m, x, v, hn, h, hk => by
    rw [List.map_cons, List.nodup_cons] at hn
    unfold bindC
    rcases List.mem_cons.mp h with e | h
    · cases e
      rw [bindC_off hn.1, if_neg (by rw [hk]; decide)]; simp
    · exact bindC_at hn.2 h hk

/-- slots at the start -/
def ρ₀ : List Str → List V → List (Option V)
  | [], _ => []
  | _ :: xs, [] => none :: ρ₀ xs []
  | _ :: xs, v :: vs => some v :: ρ₀ xs vs
theorem ρ₀_get : ∀ {xs : List Str} {vs : List V} {i : Nat} {v : V}, (ρ₀ xs vs)[i]? = some (some v) → vs[i]? = some v
  | [], _, _, _, h => by simp [ρ₀] at h
  | _ :: xs, [], 0, _, h => by simp [ρ₀] at h
  | _ :: xs, [], i + 1, _, h => by simp [ρ₀] at h; exact absurd (ρ₀_get h) (by simp)
  | _ :: xs, v :: vs, 0, _, h => by simp [ρ₀] at h; simp [h]
  | _ :: xs, v :: vs, i + 1, _, h => by simp [ρ₀] at h; simpa using ρ₀_get h

abbrev KX (Q : V → MS → Prop) : Fl → List (Option V) → MS → Prop := fun f ρ' M' => match f with | .ret v => Q v M' | _ => Q .none M'
/-- the contract of a def, by its body -/
theorem FS_intro {w : World} {h₀ : Heap} {d i : Nat} {a : Addr} (ns : List Str) {xs : List Str} {gs : List (Str × Value)} {args : List V} {M : MS} {Q : V → MS → Prop}
    (hfn : FnAt h₀ a i) (hlim : h₀.NoLimit) (hg : GlobAll h₀ gs) (hlen : args.length = ns.length)
    (hpre : xs.take ns.length = ns)
    (chk : fnChk (fnScope (fnS i)) xs (gs.map (·.1)) = true)
    (hbind : ∀ pm cd doc (vals : List Value), vals.length = ns.length → bindArgs (docDef (fnName (fnS i)) (fnParams (fnS i)) (fnBody (fnS i)) (fnScope (fnS i)) pm cd doc) ⟨vals, []⟩ = pure (ns.zip vals))
    (h : ∀ C : Cx, C.w = w → C.h₀ = h₀ → Room C.A d → Sto C xs → (∀ x, C.env.kindOf x = (fnScope (fnS i)).names.lookup x) → (C.env.globals = mainGlobals ∧ C.env.builtins = builtinsNs) → JS C xs gs (ρ₀ xs args) M (execs (fnBody (fnS i)) C.env) (KX Q)) :
    FS w h₀ (d + 1) (.ref a) args M Q := by
  intro A s B Z cvs X hroom hbase kB kZ rv mr ndX off Qc E k
  obtain ⟨o, pm, cd, doc, ho, hdata, hcode⟩ := hfn
  unfold fnChk at chk
  simp only [Bool.and_eq_true, decide_eq_true_eq, Bool.not_eq_true', List.all_eq_true] at chk
  obtain ⟨⟨⟨⟨⟨⟨⟨hkind, hco⟩, hgen⟩, hnd⟩, hcnd⟩, hck⟩, hxs⟩, hgn⟩ := chk
  have hxs' : ∀ x ∈ xs, x ≠ ("__debug__" : Str) ∧ ((fnScope (fnS i)).names.lookup x = some .local ∨ (fnScope (fnS i)).names.lookup x = some .cell) := fun x hx => by
    obtain ⟨h1, h2⟩ := (hxs x hx)
    exact ⟨by simpa using h1, by simpa using h2⟩
  have keep0 : ∀ b o, h₀.get? b = some o → s.heap.get? b = some o := fun b o e => kZ _ _ (hbase _ _ e)
  have hcl : cvs.length = ns.length := by rw [rv.length, hlen]
  have hnsub : ∀ x ∈ ns, x ∈ xs := fun x hx => by rw [← hpre] at hx; exact List.mem_of_mem_take hx
  have hzip : (ns.zip cvs).map (·.1) = ns := List.map_fst_zip (by omega)
  have hnsnd : ns.Nodup := by rw [← hpre]; exact List.Sublist.nodup (List.take_sublist _ _) hnd
  have hlive : ∀ b o, s.heap.get? b = some o → b < s.heap.objs.size := fun b o e => Heap.lt_size e
  refine wpAny_call (codeAny_call_cells (binds := ns.zip cvs) hroom.lim (keep0 _ _ ho) hdata (hlim.keeps keep0) (hcode.keeps keep0) rfl (hbind _ _ _ _ hcl) rfl (fun p hp => ?_) (fun s₁ x => ?_) hco hgen hkind)
  · have hm : p.1 ∈ ns := by rw [← hzip]; exact List.mem_map.mpr ⟨p, hp, rfl⟩
    rcases (hxs' p.1 (hnsub _ hm)).2 with h1 | h1
    · exact .inl h1
    · exact .inr ⟨h1, cellsFrom_some _ _ _ (.inl h1)⟩
  generalize hfd : docDef (fnName (fnS i)) (fnParams (fnS i)) (fnBody (fnS i)) (fnScope (fnS i)) pm cd doc = fd at x
  have hsc : fd.scope = fnScope (fnS i) := by rw [← hfd]; rfl
  have hgl : fd.globals = mainGlobals := by rw [← hfd]; rfl
  have hbu : fd.builtins = builtinsNs := by rw [← hfd]; rfl
  generalize henv : callEnvC fd s.heap.objs.size a = env at x
  have elocals : env.locals = s.heap.objs.size := by rw [← henv]; rfl
  have escope : env.scope = fnScope (fnS i) := by rw [← henv, ← hsc]; rfl
  have eglob : env.globals = mainGlobals := by rw [← henv, ← hgl]; rfl
  have ebu : env.builtins = builtinsNs := by rw [← henv, ← hbu]; rfl
  have ecells : env.cells = cellsFrom (s.heap.objs.size + 1) (fnScope (fnS i)).names [] := by rw [← henv, ← hsc]; rfl
  have ekind : ∀ y, env.kindOf y = (fnScope (fnS i)).names.lookup y := fun y => by unfold Env.kindOf; rw [escope]
  have ecnd : (env.cells.map (·.1)).Nodup := by rw [ecells, cellsFrom_keys _ _ 0 [] [] rfl]; exact hcnd
  have hkinds : ∀ y c, (y, c) ∈ env.cells → env.kindOf y = some .cell := fun y c hm => by
    have h1 : y ∈ (env.cells.map (·.1)) := List.mem_map.mpr ⟨(y, c), hm, rfl⟩
    rw [ecells, cellsFrom_keys _ _ 0 [] [] rfl] at h1
    exact (ekind y).trans (by simpa using hck y h1)
  have hdone := x.toInCall.keep
  let C : Cx := ⟨w, A.deeper env, env, h₀, ownOf env⟩
  have hOk : Ok C xs gs := by
    refine ⟨by show env.scope.kind = _; rw [escope]; exact hkind, (hroom.deeper (env := env)).le (Nat.zero_le _), hnd, fun y hy => ⟨(hxs' y hy).1, ?_⟩, x.apart, fun y v hm => ?_, hlim⟩
    · rcases (hxs' y hy).2 with h1 | h1
      · exact .inl ((ekind y).trans h1)
      · refine .inr (.inl ⟨(ekind y).trans h1, ?_⟩)
        have := cellsFrom_some (fnScope (fnS i)).names (s.heap.objs.size + 1) [] (.inl h1)
        rw [← ecells] at this
        exact Option.isSome_iff_exists.mp this
    · obtain ⟨h1, h2⟩ := hgn y (List.mem_map.mpr ⟨(y, v), hm, rfl⟩)
      refine ⟨by simpa using h1, (ekind y).trans (by simpa using h2), ?_⟩
      show (∃ mg, h₀.Ns env.globals mg ∧ _) ∨ (∃ mg mb, h₀.Ns env.globals mg ∧ _ ∧ h₀.Ns env.builtins mb ∧ _)
      rw [eglob, ebu]
      exact hg.at y v hm
  have hSto : Sto C xs := fun y hy => by
    rcases (hxs' y hy).2 with h1 | h1
    · exact .inl ((ekind y).trans h1)
    · have := cellsFrom_some (fnScope (fnS i)).names (s.heap.objs.size + 1) [] (.inl h1)
      rw [← ecells] at this
      obtain ⟨c, hc⟩ := Option.isSome_iff_exists.mp this
      exact .inr ⟨(ekind y).trans h1, c, mem_own.mpr ⟨y, mem_of_lookup hc, (ekind y).trans h1⟩, hc⟩
  have hLfresh : s.heap.get? env.locals = none := by rw [elocals]; exact fresh_size _
  have hcell : ∀ n c, (n, c) ∈ env.cells → s.heap.objs.size < c := fun n c hm => by rw [← elocals]; exact x.above n c hm
  have fresh : ∀ b, s.heap.objs.size ≤ b → s.heap.get? b = none := fun b hb => by
    cases e : s.heap.get? b with
    | none => rfl
    | some o => exact absurd (Heap.lt_size e) (Nat.not_lt.mpr hb)
  have newOff : ∀ b ∈ env.locals :: ownOf env, s.heap.get? b = none := fun b hb => by
    rcases List.mem_cons.mp hb with rfl | hb
    · exact hLfresh
    · obtain ⟨n, h1, _⟩ := mem_own.mp hb
      exact fresh b (Nat.le_of_lt (hcell n b h1))
  have offKnown : ∀ (Y : Base), Known Y s.heap → ∀ b, s.heap.get? b = none → Y b = none := fun Y hY b hb => by
    cases e : Y b with
    | none => rfl
    | some o => rw [hY _ _ e] at hb; cases hb
  have hownnd : (ownOf env).Nodup := by
    unfold ownOf
    have h1 : ((env.cells.filter fun p => env.kindOf p.1 == some NameKind.cell).map (·.2)).Pairwise (· ≠ ·) := List.pairwise_map.mpr (List.Pairwise.filter _ x.apart)
    exact h1
  have hXlive := mr.live
  have hSt : St C xs ⟨s, Z, B⟩ (ρ₀ xs args) M X B s₁ (bindL env.kindOf (ns.zip cvs) fun _ => none) := by
    refine ⟨x.toInCall.same, fun b o e => hdone _ _ (kB _ _ e), fun b o e => hdone _ _ (kZ _ _ e), hbase, x.toInCall.ns, fun j y v hy hv => ?_, fun c h1 => ?_, fun y c h1 h2 => ?_, mr.mono (Le.refl B) fun b _ o e => hdone _ _ e, ?_, fun b hb => ?_, fun b hb => ?_, fun b hb => .inl hb⟩
    · have hv' := ρ₀_get hv
      have hj : j < ns.length := by
        have := (List.getElem?_eq_some_iff.mp hv').1
        omega
      obtain ⟨cv, hcv, r⟩ := rv.get hv'
      have hny : ns[j]? = some y := by rw [← hpre, List.getElem?_take, if_pos hj]; exact hy
      have hm : (y, cv) ∈ ns.zip cvs := by
        refine List.mem_of_getElem? (i := j) ?_
        rw [List.getElem?_zip_eq_some]; exact ⟨hny, hcv⟩
      refine ⟨cv, r, ?_⟩
      have hzn : ((ns.zip cvs).map (·.1)).Nodup := by rw [hzip]; exact hnsnd
      rcases (hxs' y (List.mem_of_getElem? hy)).2 with h1 | h1
      · exact .inl ⟨(ekind y).trans h1, bindL_at hzn hm ((ekind y).trans h1)⟩
      · refine .inr ⟨.inl ((ekind y).trans h1), ?_⟩
        have h2 := cellsFrom_some (fnScope (fnS i)).names (s.heap.objs.size + 1) [] (.inl h1)
        rw [← ecells] at h2
        obtain ⟨c, hc⟩ := Option.isSome_iff_exists.mp h2
        refine ⟨c, hc, ?_⟩
        have := x.cell y c hc
        rwa [bindC_at hzn hm ((ekind y).trans h1)] at this
    · obtain ⟨y, h2, _⟩ := mem_own.mp h1
      exact ⟨_, x.cell y c (lookup_of_nodup ecnd h2)⟩
    · exact absurd (mem_own.mpr ⟨y, h1, hkinds y c h1⟩) h2
    · refine List.nodup_cons.mpr ⟨fun hm => ?_, List.nodup_append.mpr ⟨hownnd, ndX, fun b hb c hc e => ?_⟩⟩
      · rcases List.mem_append.mp hm with hm | hm
        · obtain ⟨n, h1, _⟩ := mem_own.mp hm
          have := hcell n _ h1
          exact absurd (elocals ▸ this : s.heap.objs.size < s.heap.objs.size) (Nat.lt_irrefl _)
        · obtain ⟨o, ho⟩ := hXlive _ hm
          have e : s.heap.get? env.locals = some o := ho
          rw [hLfresh] at e; cases e
      · subst e
        obtain ⟨o, ho⟩ := hXlive _ hc
        rw [newOff b (.tail _ hb)] at ho; cases ho
    · rcases List.mem_cons.mp hb with rfl | hb
      · exact offKnown B kB _ hLfresh
      · rcases List.mem_append.mp hb with hb | hb
        · exact offKnown B kB _ (newOff b (.tail _ hb))
        · exact (off b hb).1
    · rcases List.mem_cons.mp hb with rfl | hb
      · exact offKnown Z kZ _ hLfresh
      · rcases List.mem_append.mp hb with hb | hb
        · exact offKnown Z kZ _ (newOff b (.tail _ hb))
        · exact (off b hb).2
  refine wpAny_mono (h C rfl rfl hroom.deeper hSto ekind ⟨eglob, ebu⟩ hOk ⟨s, Z, B⟩ X B s₁ _ hSt (fun f s' => Qc (match f with | .ret v => v | _ => .none) s') (fun _ _ => False) fun f ρ' M' X' B' s' m' cf l1 S' rf q => ?_) (fun _ _ x => x) (fun _ _ x => x.elim)
  have fin : ∀ (v : V) (cv : Value), Rep w B' v cv → Q v M' → Qc cv s' := fun v cv r q =>
    k v M' X' B' s' cv (by obtain ⟨h', t, e⟩ := S'.same; exact ⟨h', t, e⟩) l1 S'.known S'.kept r S'.mrep S'.xnodup
      (fun b hb => ⟨S'.offX b hb, S'.offZ b (.tail _ (List.mem_append_right _ hb))⟩) S'.grow q
  cases rf with
  | next => exact fin .none _ .none q
  | brk => exact fin .none _ .none q
  | cont => exact fin .none _ .none q
  | ret r => exact fin _ _ r q
end Mine

namespace Mine
open PySem PySem.W PySem.Calls PyProof.Rows

section
variable {C : Cx} {xs : List Str} {gs : List (Str × Value)} {ρ : List (Option V)} {M : MS}

theorem J2_ints {f : Value → Value → Sem Value} {i j r : Int} {Q : V → MS → Prop}
    (hf : ∀ (w : World) (A : Around) (E Qc : Post) (s : Shared) (t u : Tok), A.handled = Option.none → Qc (.int r s.toks) { s with toks := s.toks + 1 } → wpAny (model PG w) A (f (.int i t) (.int j u)) Qc E s)
    (h : Q (.int r) M) : J2 C xs gs ρ M (.int i) (.int j) f Q :=
  fun hC G X B s m S ca cb ra rb Qc E k => by
    cases ra; cases rb
    exact hf _ _ _ _ _ _ _ hC.room.1 (k _ M X B _ m _ (Le.refl B) (S.tok _) (.int r _) h)
theorem J2_intsB {f : Value → Value → Sem Value} {i j : Int} {r : Bool} {Q : V → MS → Prop}
    (hf : ∀ (w : World) (A : Around) (E Qc : Post) (s : Shared) (t u : Tok), Qc (.bool r) s → wpAny (model PG w) A (f (.int i t) (.int j u)) Qc E s)
    (h : Q (.bool r) M) : J2 C xs gs ρ M (.int i) (.int j) f Q :=
  fun hC G X B s m S ca cb ra rb Qc E k => by
    cases ra; cases rb
    exact hf _ _ _ _ _ _ _ (k _ M X B _ m _ (Le.refl B) S (.bool r) h)
variable {i j : Int} {Q : V → MS → Prop}
theorem J_add (h : Q (.int (i + j)) M) : J2 C xs gs ρ M (.int i) (.int j) (fun x y => binaryOp .Add x y) Q := J2_ints (fun _ _ _ _ _ _ _ _ q => add_int q) h
theorem J_sub (h : Q (.int (i - j)) M) : J2 C xs gs ρ M (.int i) (.int j) (fun x y => binaryOp .Sub x y) Q := J2_ints (fun _ _ _ _ _ _ _ _ q => sub_int q) h
theorem J_mul (hm : IntMulOk i j) (h : Q (.int (i * j)) M) : J2 C xs gs ρ M (.int i) (.int j) (fun x y => binaryOp .Mult x y) Q := J2_ints (fun _ _ _ _ _ _ _ _ q => mul_int q hm) h
theorem J_mod (hj : 0 < j) (h : Q (.int (i % j)) M) : J2 C xs gs ρ M (.int i) (.int j) (fun x y => binaryOp .Mod x y) Q :=
  J2_ints (fun _ _ _ _ _ _ _ _ q => mod_int (by omega) (by rw [Int.fmod_eq_emod_of_nonneg _ (Int.le_of_lt hj)]; exact q)) h
theorem J_div (hj : 0 < j) (hj2 : j < 1000000000) (h : Q (.int (i / j)) M) : J2 C xs gs ρ M (.int i) (.int j) (fun x y => binaryOp .FloorDiv x y) Q :=
  J2_ints (fun _ _ _ _ _ _ _ _ q => floordiv_int (by omega) (by rw [Int.fdiv_eq_ediv_of_nonneg _ (Int.le_of_lt hj)]; exact q) (Or.inl (PyProof.noPylong_small (by omega)))) h
theorem J_or {a b : Nat} (h : Q (.int ((a ||| b : Nat) : Int)) M) : J2 C xs gs ρ M (.int a) (.int b) (fun x y => binaryOp .BitOr x y) Q :=
  J2_ints (r := ((a ||| b : Nat) : Int)) (fun _ _ _ _ _ _ _ _ q => or_int (by
    have e : Builtin.bitOr (a : Int) (b : Int) = ((a ||| b : Nat) : Int) := by
      rw [bitOr_and, bitAnd_pp (by omega) (by omega)]
      have := nat_or_add_and a b
      simp only [Int.toNat_natCast]
      omega
    rw [e]; exact q)) h
theorem J_shl {b : Nat} (hb : b ≤ 1000) (h : Q (.int ((1 <<< b : Nat) : Int)) M) : J2 C xs gs ρ M (.int 1) (.int b) (fun x y => binaryOp .LShift x y) Q :=
  J2_ints (r := ((1 <<< b : Nat) : Int)) (fun _ _ _ _ _ _ _ _ q => lshift_int_small (by omega) (by omega) (by decide) (by
    have e : (1 : Int) * (2 : Int) ^ (b : Int).toNat = ((1 <<< b : Nat) : Int) := by rw [Nat.shiftLeft_eq]; simp
    exact e ▸ q)) h
theorem J_pow {a n : Nat} (ha : a < 1000) (hn : n ≤ 1000) (h : Q (.int ((a ^ n : Nat) : Int)) M) : J2 C xs gs ρ M (.int a) (.int n) (fun x y => binaryOp .Pow x y) Q :=
  J2_ints (r := ((a ^ n : Nat) : Int)) (fun _ _ _ _ _ _ _ _ q => pow_int_small (by omega) (by omega) (by omega) (by
    have e : (a : Int) ^ (n : Int).toNat = ((a ^ n : Nat) : Int) := by simp
    exact e ▸ q)) h
theorem J_eqI (h : Q (.bool (decide (i = j))) M) : J2 C xs gs ρ M (.int i) (.int j) (fun x y => compareOp .Eq x y) Q := J2_intsB (fun _ _ _ _ _ _ _ q => eq_int (by rw [show (i == j) = decide (i = j) from rfl]; exact q)) h
theorem J_neI (h : Q (.bool (decide (i ≠ j))) M) : J2 C xs gs ρ M (.int i) (.int j) (fun x y => compareOp .NotEq x y) Q := J2_intsB (fun _ _ _ _ _ _ _ q => ne_int (by
  rw [show (i != j) = decide (i ≠ j) by by_cases e : i = j <;> simp [e]]; exact q)) h
theorem J_ltI (h : Q (.bool (decide (i < j))) M) : J2 C xs gs ρ M (.int i) (.int j) (fun x y => compareOp .Lt x y) Q := J2_intsB (fun _ _ _ _ _ _ _ q => lt_int q) h
theorem J_gtI (h : Q (.bool (decide (j < i))) M) : J2 C xs gs ρ M (.int i) (.int j) (fun x y => compareOp .Gt x y) Q := J2_intsB (fun _ _ _ _ _ _ _ q => gt_int q) h
theorem J_geI (h : Q (.bool (decide (j ≤ i))) M) : J2 C xs gs ρ M (.int i) (.int j) (fun x y => compareOp .GtE x y) Q := J2_intsB (fun _ _ _ _ _ _ _ q => ge_int q) h
theorem J_eqS {a b : Str} (h : Q (.bool (decide (a = b))) M) : J2 C xs gs ρ M (.str a) (.str b) (fun x y => compareOp .Eq x y) Q :=
  fun hC G X B s m S ca cb ra rb Qc E k => by
    cases ra; cases rb
    refine PyProof.Rows.eq_str ?_
    rw [show (a == b) = decide (a = b) by by_cases e : a = b <;> simp [e]]
    exact k _ M X B _ m _ (Le.refl B) S (.bool _) h
theorem J_neS {a b : Str} (h : Q (.bool (decide (a ≠ b))) M) : J2 C xs gs ρ M (.str a) (.str b) (fun x y => compareOp .NotEq x y) Q :=
  fun hC G X B s m S ca cb ra rb Qc E k => by
    cases ra; cases rb
    refine PyProof.Rows.ne_str ?_
    rw [show (a != b) = decide (a ≠ b) by by_cases e : a = b <;> simp [e]]
    exact k _ M X B _ m _ (Le.refl B) S (.bool _) h
theorem J_isNotNone_ref {v : V} (hv : ∀ w B c, Rep w B v c → ∃ a, c = .ref a) (h : Q (.bool true) M) : J2 C xs gs ρ M v .none (fun x y => compareOp .IsNot x y) Q :=
  fun hC G X B s m S ca cb ra rb Qc E k => by
    obtain ⟨a, rfl⟩ := hv _ _ _ ra
    cases rb
    exact wpAny_isNot_other (by rfl) (by intro e; cases e) (k _ M X B _ m _ (Le.refl B) S (.bool _) h)
theorem J_isNotNone_none (h : Q (.bool false) M) : J2 C xs gs ρ M .none .none (fun x y => compareOp .IsNot x y) Q :=
  fun hC G X B s m S ca cb ra rb Qc E k => by
    cases ra; cases rb
    exact wpAny_isNot_self (by rfl) (k _ M X B _ m _ (Le.refl B) S (.bool _) h)
end

/-- equality at any depth, kind by kind -/
structure EqOk (n : Nat) (P : V → Prop) : Prop where
  eq : ∀ (a b : V), P a → P b → ∀ (w : World) (B : Base) (A : Around) (s : Shared) (ca cb : Value), Known B s.heap → A.units + n < cLine → Rep w B a ca → Rep w B b cb → ∃ t : Bool, (t = true ↔ a = b) ∧ SeqAt.EqAt A s ca cb t
  same : ∀ (a b : V), P a → P b → ∀ (w : World) (B : Base) (c : Value), Rep w B a c → Rep w B b c → a = b

inductive IsI : V → Prop
  | mk (i : Int) : IsI (.int i)
inductive IsS : V → Prop
  | mk (s : Str) : IsS (.str s)
inductive IsL (P : V → Prop) : V → Prop
  | mk (l : List V) : (∀ x ∈ l, P x) → IsL P (.list l)
inductive IsT2 (P R : V → Prop) : V → Prop
  | mk (a b : V) : P a → R b → IsT2 P R (.tup [a, b])
inductive IsT3 (P R U : V → Prop) : V → Prop
  | mk (a b c : V) : P a → R b → U c → IsT3 P R U (.tup [a, b, c])

theorem EqOk.int : EqOk 0 IsI where
  eq := by
    rintro _ _ ⟨i⟩ ⟨j⟩ w B A s ca cb _ _ ra rb
    cases ra; cases rb
    exact ⟨i == j, by simp, (MeetsSeq.EqGives.int i j _ _).at A s⟩
  same := by
    rintro _ _ ⟨i⟩ ⟨j⟩ w B c ra rb
    cases ra; cases rb; rfl
theorem EqOk.str : EqOk 0 IsS where
  eq := by
    rintro _ _ ⟨i⟩ ⟨j⟩ w B A s ca cb _ _ ra rb
    cases ra; cases rb
    exact ⟨decide (i = j), by simp, fun prog w E Q hq => wpAny_eqBool_str hq⟩
  same := by
    rintro _ _ ⟨i⟩ ⟨j⟩ w B c ra rb
    cases ra; cases rb; rfl

theorem reps_same {n : Nat} {P : V → Prop} (h : EqOk n P) {w : World} {B : Base} : ∀ {l1 l2 : List V} {vs : List Value}, (∀ x ∈ l1, P x) → (∀ x ∈ l2, P x) → Reps w B l1 vs → Reps w B l2 vs → l1 = l2 := by
  intro l1
  induction l1 with
  | nil =>
    intro l2 vs _ _ r1 r2
    cases r1; cases r2; rfl
  | cons x l1 ih =>
    intro l2 vs h1 h2 r1 r2
    cases r1 with
    | cons r1 s1 =>
      cases r2 with
      | cons r2 s2 =>
        rw [h.same _ _ (h1 _ (.head _)) (h2 _ (.head _)) w B _ r1 r2, ih (fun x hx => h1 x (.tail _ hx)) (fun x hx => h2 x (.tail _ hx)) s1 s2]

theorem isList_of {h : Heap} {a : Addr} {vs : List Value} {n : Nat} (e : h.get? a = some (lisO vs n)) : h.IsList a vs.toArray := ⟨_, e, rfl, n, rfl⟩
theorem isTuple_of {h : Heap} {a : Addr} {vs : List Value} {n : Nat} (e : h.get? a = some (tupO vs n)) : h.IsTuple a vs.toArray := ⟨_, e, rfl, n, rfl⟩

/-- item by item -/
def eAt (t : Bool) (e : Nat → Bool) (j : Nat) : Bool := if j = 0 then t else e (j - 1)
theorem pointwise {n : Nat} {P : V → Prop} (h : EqOk n P) {w : World} {B : Base} {A : Around} {s : Shared} (kB : Known B s.heap) (hu : A.units + n < cLine) :
    ∀ {l1 l2 : List V} {v1 v2 : List Value}, (∀ x ∈ l1, P x) → (∀ x ∈ l2, P x) → l1.length = l2.length → Reps w B l1 v1 → Reps w B l2 v2 →
      ∃ e : Nat → Bool, ((List.range l1.length).all e = true ↔ l1 = l2) ∧ ∀ j (h1 : j < v1.length) (h2 : j < v2.length), SeqAt.EqAt A s v1[j] v2[j] (e j) := by
  intro l1
  induction l1 with
  | nil =>
    intro l2 v1 v2 _ _ hl r1 r2
    cases l2 with
    | cons => cases hl
    | nil =>
      cases r1; cases r2
      exact ⟨fun _ => true, by simp, fun j h1 => absurd h1 (Nat.not_lt_zero _)⟩
  | cons x l1 ih =>
    intro l2 v1 v2 h1 h2 hl r1 r2
    cases r1 with
    | cons r1 s1 =>
      cases r2 with
      | nil => cases hl
      | cons r2 s2 =>
        obtain ⟨t, ht, ha⟩ := h.eq _ _ (h1 _ (.head _)) (h2 _ (.head _)) w B A s _ _ kB hu r1 r2
        obtain ⟨e, he, hp⟩ := ih (fun x hx => h1 x (.tail _ hx)) (fun x hx => h2 x (.tail _ hx)) (Nat.succ.inj hl) s1 s2
        refine ⟨eAt t e, ?_, fun j h1 h2 => ?_⟩
        · rw [List.length_cons, List.range_succ_eq_map, List.all_cons, List.all_map, Bool.and_eq_true, List.cons.injEq, ← he]
          exact and_congr ht Iff.rfl
        · cases j with
          | zero => exact ha
          | succ j => exact hp j (Nat.lt_of_succ_lt_succ h1) (Nat.lt_of_succ_lt_succ h2)

theorem EqOk.list {n : Nat} {P : V → Prop} (h : EqOk n P) : EqOk (n + 1) (IsL P) where
  eq := by
    rintro _ _ ⟨l1, h1⟩ ⟨l2, h2⟩ w B A s ca cb kB hu ra rb
    cases ra with
    | list ha r1 => cases rb with
      | list hb r2 =>
        rename_i a va na b vb nb
        by_cases hab : a = b
        · subst hab
          rw [ha] at hb
          have e : va.toArray = vb.toArray := by injection hb with hb; injection hb with _ _ hd; injection hd
          have e' : va = vb := by simpa using e
          subst e'
          exact ⟨true, by simp [reps_same h h1 h2 r1 r2], SeqAt.EqAt.same _⟩
        · have La := isList_of (kB _ _ ha)
          have Lb := isList_of (kB _ _ hb)
          by_cases hlen : l1.length = l2.length
          · obtain ⟨e, he, hp⟩ := pointwise (A := A.in1) h kB (by show A.units + 1 + n < cLine; omega) h1 h2 hlen r1 r2
            refine ⟨_, ?_, SeqAt.EqAt.of_refs hab (SeqAt.RcAt.lists (e := e) La Lb (by simp [r1.length, r2.length, hlen]) (by omega) fun j h1 h2 => ?_)⟩
            · rw [List.size_toArray, r1.length, he]; simp
            · simpa using hp j (by simpa using h1) (by simpa using h2)
          · refine ⟨false, ?_, SeqAt.EqAt.of_refs hab (SeqAt.RcAt.lists_lengths La Lb (by simp [r1.length, r2.length, hlen]) (by omega))⟩
            simp only [Bool.false_eq_true, false_iff]
            intro e; injection e with e; exact hlen (by rw [e])
  same := by
    rintro _ _ ⟨l1, h1⟩ ⟨l2, h2⟩ w B c ra rb
    cases ra with
    | list ha r1 => cases rb with
      | list hb r2 =>
        rw [ha] at hb
        rename_i va na vb nb
        have e : va.toArray = vb.toArray := by injection hb with hb; injection hb with _ _ hd; injection hd
        have e' : va = vb := by simpa using e
        subst e'
        rw [reps_same h h1 h2 r1 r2]

theorem Reps.two {w : World} {B : Base} {a b : V} {vs : List Value} (h : Reps w B [a, b] vs) : ∃ u v, vs = [u, v] ∧ Rep w B a u ∧ Rep w B b v := by
  cases h with
  | cons x h => cases h with
    | cons y h => cases h; exact ⟨_, _, rfl, x, y⟩
theorem Reps.three {w : World} {B : Base} {a b c : V} {vs : List Value} (h : Reps w B [a, b, c] vs) : ∃ u v x, vs = [u, v, x] ∧ Rep w B a u ∧ Rep w B b v ∧ Rep w B c x := by
  cases h with
  | cons x h =>
    obtain ⟨u, v, rfl, y, z⟩ := h.two
    exact ⟨_, _, _, rfl, x, y, z⟩

/-- tuples of two and three places -/
theorem EqOk.tup2 {n : Nat} {P R : V → Prop} (hP : EqOk n P) (hR : EqOk n R) : EqOk (n + 1) (IsT2 P R) where
  eq := by
    rintro _ _ ⟨a1, b1, p1, q1⟩ ⟨a2, b2, p2, q2⟩ w B A s ca cb kB hu ra rb
    cases ra with
    | tup ha r1 => cases rb with
      | tup hb r2 =>
        rename_i a va na b vb nb
        obtain ⟨_, _, rfl, x1, y1⟩ := r1.two
        obtain ⟨_, _, rfl, x2, y2⟩ := r2.two
        by_cases hab : a = b
        · subst hab
          rw [ha] at hb
          injection hb with hb; injection hb with _ _ hd; injection hd with hd
          simp at hd
          obtain ⟨e1, e2⟩ := hd
          subst e1 e2
          refine ⟨true, ?_, SeqAt.EqAt.same _⟩
          rw [hP.same _ _ p1 p2 w B _ x1 x2, hR.same _ _ q1 q2 w B _ y1 y2]; simp
        · have hu' : A.in1.units + n < cLine := by show A.units + 1 + n < cLine; omega
          obtain ⟨t1, e1, k1⟩ := hP.eq _ _ p1 p2 w B A.in1 s _ _ kB hu' x1 x2
          obtain ⟨t2, e2, k2⟩ := hR.eq _ _ q1 q2 w B A.in1 s _ _ kB hu' y1 y2
          refine ⟨_, ?_, SeqAt.EqAt.of_refs hab (SeqAt.RcAt.tuples (e := fun j => match j with | 0 => t1 | _ => t2) (isTuple_of (kB _ _ ha)) (isTuple_of (kB _ _ hb)) (by omega) fun j h1 h2 => ?_)⟩
          · have : (List.range (min 2 2)) = [0, 1] := rfl
            simp [List.range_succ, e1, e2]
          · match j, h1 with
            | 0, _ => simpa using k1
            | 1, _ => simpa using k2
            | j + 2, h1 => simp at h1; omega
  same := by
    rintro _ _ ⟨a1, b1, p1, q1⟩ ⟨a2, b2, p2, q2⟩ w B c ra rb
    cases ra with
    | tup ha r1 => cases rb with
      | tup hb r2 =>
        obtain ⟨_, _, rfl, x1, y1⟩ := r1.two
        obtain ⟨_, _, rfl, x2, y2⟩ := r2.two
        rw [ha] at hb
        injection hb with hb; injection hb with _ _ hd; injection hd with hd
        simp at hd
        obtain ⟨e1, e2⟩ := hd
        subst e1 e2
        rw [hP.same _ _ p1 p2 w B _ x1 x2, hR.same _ _ q1 q2 w B _ y1 y2]
theorem EqOk.tup3 {n : Nat} {P R U : V → Prop} (hP : EqOk n P) (hR : EqOk n R) (hU : EqOk n U) : EqOk (n + 1) (IsT3 P R U) where
  eq := by
    rintro _ _ ⟨a1, b1, c1, p1, q1, u1⟩ ⟨a2, b2, c2, p2, q2, u2⟩ w B A s ca cb kB hu ra rb
    cases ra with
    | tup ha r1 => cases rb with
      | tup hb r2 =>
        rename_i a va na b vb nb
        obtain ⟨_, _, _, rfl, x1, y1, z1⟩ := r1.three
        obtain ⟨_, _, _, rfl, x2, y2, z2⟩ := r2.three
        by_cases hab : a = b
        · subst hab
          rw [ha] at hb
          injection hb with hb; injection hb with _ _ hd; injection hd with hd
          simp at hd
          obtain ⟨e1, e2, e3⟩ := hd
          subst e1 e2 e3
          refine ⟨true, ?_, SeqAt.EqAt.same _⟩
          rw [hP.same _ _ p1 p2 w B _ x1 x2, hR.same _ _ q1 q2 w B _ y1 y2, hU.same _ _ u1 u2 w B _ z1 z2]; simp
        · have hu' : A.in1.units + n < cLine := by show A.units + 1 + n < cLine; omega
          obtain ⟨t1, e1, k1⟩ := hP.eq _ _ p1 p2 w B A.in1 s _ _ kB hu' x1 x2
          obtain ⟨t2, e2, k2⟩ := hR.eq _ _ q1 q2 w B A.in1 s _ _ kB hu' y1 y2
          obtain ⟨t3, e3, k3⟩ := hU.eq _ _ u1 u2 w B A.in1 s _ _ kB hu' z1 z2
          refine ⟨_, ?_, SeqAt.EqAt.of_refs hab (SeqAt.RcAt.tuples (e := fun j => match j with | 0 => t1 | 1 => t2 | _ => t3) (isTuple_of (kB _ _ ha)) (isTuple_of (kB _ _ hb)) (by omega) fun j h1 h2 => ?_)⟩
          · simp [List.range_succ, e1, e2, e3, and_assoc]
          · match j, h1 with
            | 0, _ => simpa using k1
            | 1, _ => simpa using k2
            | 2, _ => simpa using k3
            | j + 3, h1 => simp at h1; omega
  same := by
    rintro _ _ ⟨a1, b1, c1, p1, q1, u1⟩ ⟨a2, b2, c2, p2, q2, u2⟩ w B c ra rb
    cases ra with
    | tup ha r1 => cases rb with
      | tup hb r2 =>
        obtain ⟨_, _, _, rfl, x1, y1, z1⟩ := r1.three
        obtain ⟨_, _, _, rfl, x2, y2, z2⟩ := r2.three
        rw [ha] at hb
        injection hb with hb; injection hb with _ _ hd; injection hd with hd
        simp at hd
        obtain ⟨e1, e2, e3⟩ := hd
        subst e1 e2 e3
        rw [hP.same _ _ p1 p2 w B _ x1 x2, hR.same _ _ q1 q2 w B _ y1 y2, hU.same _ _ u1 u2 w B _ z1 z2]
end Mine

namespace Mine
open PySem PySem.W PySem.Calls PyProof.Rows

section
variable {C : Cx} {xs : List Str} {gs : List (Str × Value)} {G : Gh} {ρ : List (Option V)} {M : MS} {X : List Addr} {B : Base} {s : Shared} {m : Str → Option Value}

def Apart (C : Cx) (G : Gh) (B : Base) (X : List Addr) (W : List Addr) : Prop := ∀ b ∈ W, b ∉ C.env.locals :: (C.own ++ X) ∧ B b = none ∧ G.Z b = none

theorem Apart.grow {W : List Addr} {h : Heap} {B2 : Base} (ap : Apart C G B X W) (live : ∀ b ∈ W, ∃ o, h.get? b = some o) (new : ∀ a, B2 a ≠ none → B a ≠ none ∨ h.get? a = none) : Apart C G B2 X W := fun b hb => by
  refine ⟨(ap b hb).1, ?_, (ap b hb).2.2⟩
  cases e : B2 b with
  | none => rfl
  | some o =>
    obtain ⟨o', ho'⟩ := live b hb
    rcases new b (by rw [e]; simp) with h1 | h1
    · exact absurd (ap b hb).2.1 h1
    · rw [ho'] at h1; cases h1

/-- objects at the side change; B may take them in, or what is new -/
theorem St.side (S : St C xs G ρ M X B s m) {W : List Addr} (hW : Apart C G B X W) {h' : Heap} {tk : Nat} {B' : Base} (hB : Le B B') (hK : Known B' h')
    (keep : ∀ b o, b ∉ W → s.heap.get? b = some o → h'.get? b = some o) (hnew : ∀ a, B' a ≠ none → B a ≠ none ∨ s.heap.get? a = none ∨ a ∈ W) : St C xs G ρ M X B' { s with heap := h', toks := tk } m := by
  have kl : ∀ a ∈ C.env.locals :: (C.own ++ X), ∀ o, s.heap.get? a = some o → h'.get? a = some o := fun a ha o e => keep a o (fun hw => (hW a hw).1 ha) e
  obtain ⟨oL, esL, epL, hoL, restL⟩ := S.ns
  have ck : ∀ x c, C.env.cells.lookup x = some c → c ∉ W := fun x c hl hm => by
    by_cases hc : c ∈ C.own
    · exact (hW c hm).1 (.tail _ (List.mem_append_left _ hc))
    · exact S.fre x c (mem_of_lookup hl) hc (hW c hm).2.2
  refine ⟨?_, hK, fun a o e => keep a o (fun hw => ?_) (S.kept a o e), S.base, ⟨oL, esL, epL, kl _ (.head _) _ hoL, restL⟩, fun i x v hx hv => ?_, fun c h1 => ?_, S.fre,
    S.mrep.mono hB fun a ha o e => kl a (.tail _ (List.mem_append_right _ ha)) o e, S.nodup, fun a ha => ?_, S.offZ, fun a ha => ?_⟩
  · obtain ⟨h, t, e⟩ := S.same; exact ⟨h', tk, by rw [e]⟩
  · rw [(hW a hw).2.2] at e; cases e
  · obtain ⟨cv, r, hh⟩ := S.slot i x v hx hv
    refine ⟨cv, r.mono hB, ?_⟩
    rcases hh with hh | ⟨h1, c, h2, o, ho, hd⟩
    · exact .inl hh
    · exact .inr ⟨h1, c, h2, o, keep c o (ck x c h2) ho, hd⟩
  · obtain ⟨v, o, ho, hd⟩ := S.cel c h1
    exact ⟨v, o, kl c (.tail _ (List.mem_append_left _ h1)) o ho, hd⟩
  · cases hb : B' a with
    | none => rfl
    | some o' =>
      rcases hnew a (by rw [hb]; simp) with h1 | h1 | h1
      · exact absurd (S.offB a ha) h1
      · obtain ⟨o, ho⟩ := S.live a ha
        rw [ho] at h1; cases h1
      · exact absurd ha (hW a h1).1
  · rcases hnew a ha with h1 | h1 | h1
    · exact S.grow a h1
    · right
      cases hz : G.Z a with
      | none => rfl
      | some o => rw [S.kept _ _ hz] at h1; cases h1
    · exact .inr (hW a h1).2.2

/-- the ghost that holds the side's objects fast -/
def Gh.with (G : Gh) (W : List Addr) (h : Heap) (B : Base) : Gh := ⟨G.s₀, fun a => if a ∈ W then h.get? a else G.Z a, B⟩
theorem St.withZ (S : St C xs G ρ M X B s m) {W : List Addr} (hW : Apart C G B X W) : St C xs (G.with W s.heap B) ρ M X B s m := by
  have off : ∀ a ∈ C.env.locals :: (C.own ++ X), a ∉ W := fun a ha hw => (hW a hw).1 ha
  refine { S with kept := fun a o e => ?_, base := fun a o e => ?_, fre := fun x c h1 h2 => ?_, offZ := fun a ha => ?_, grow := fun a ha => .inl ha }
  · by_cases ha : a ∈ W
    · simpa only [Gh.with, if_pos ha] using e
    · simp only [Gh.with, if_neg ha] at e; exact S.kept _ _ e
  · have h1 := S.base a o e
    have ha : a ∉ W := fun hw => by rw [(hW a hw).2.2] at h1; cases h1
    simp only [Gh.with, if_neg ha]; exact h1
  · have h3 := S.fre x c h1 h2
    have ha : c ∉ W := fun hw => h3 (hW c hw).2.2
    simp only [Gh.with, if_neg ha]; exact h3
  · simp only [Gh.with, if_neg (off a ha)]; exact S.offZ a ha
theorem St.backZ {ρ' : List (Option V)} {M' : MS} {X' : List Addr} {B' : Base} {s' : Shared} {m' : Str → Option Value} (S : St C xs G ρ M X B s m) {W : List Addr} (hW : Apart C G B X W) (hl : ∀ b ∈ W, ∃ o, s.heap.get? b = some o)
    (S' : St C xs (G.with W s.heap B) ρ' M' X' B' s' m') : St C xs G ρ' M' X' B' s' m' ∧ Apart C G B' X' W ∧ ∀ b ∈ W, ∀ o, s.heap.get? b = some o → s'.heap.get? b = some o := by
  have hz : ∀ b ∈ W, (G.with W s.heap B).Z b = s.heap.get? b := fun b hb => by simp only [Gh.with, if_pos hb]
  have hz' : ∀ b, b ∉ W → (G.with W s.heap B).Z b = G.Z b := fun b hb => by simp only [Gh.with, if_neg hb]
  refine ⟨{ S' with kept := fun a o e => ?_, base := S.base, fre := S.fre, offZ := fun a ha => ?_, grow := fun a ha => ?_ }, fun b hb => ⟨fun hm => ?_, ?_, (hW b hb).2.2⟩, fun b hb o e => ?_⟩
  · by_cases ha : a ∈ W
    · rw [(hW a ha).2.2] at e; cases e
    · exact S'.kept a o (by rw [hz' a ha]; exact e)
  · by_cases haw : a ∈ W
    · exact (hW a haw).2.2
    · have := S'.offZ a ha; rwa [hz' a haw] at this
  · rcases S'.grow a ha with h1 | h1
    · exact S.grow a h1
    · by_cases haw : a ∈ W
      · exact .inr (hW a haw).2.2
      · right; rwa [hz' a haw] at h1
  · obtain ⟨o, ho⟩ := hl b hb
    have := S'.offZ b hm
    rw [hz b hb, ho] at this; cases this
  · cases e : B' b with
    | none => rfl
    | some o =>
      rcases S'.grow b (by rw [e]; simp) with h1 | h1
      · exact absurd (hW b hb).2.1 h1
      · obtain ⟨o, ho⟩ := hl b hb
        rw [hz b hb, ho] at h1; cases h1
  · exact S'.kept b o (by rw [hz b hb]; exact e)
end

/-- what is known of an iterator -/
structure ItOk (w : World) (A : Around) (tgt : Expr) (I : Addr) (W : List Addr) (cur : MS → Nat → Option V → Prop) (StI : Nat → Heap → Prop) (B₀ : Base) : Prop where
  frame : ∀ i h h', StI i h → (∀ b ∈ W, ∀ o, h.get? b = some o → h'.get? b = some o) → StI i h'
  live : ∀ i h, StI i h → ∀ b ∈ W, ∃ o, h.get? b = some o
  self : ∀ i (s : Shared) (Q E : Post), StI i s.heap → Q (.ref I) s → wpAny (model PG w) A (pyIter (.ref I)) Q E s
  next : ∀ (i : Nat) (s : Shared) (B : Base) (M : MS) (X : List Addr) (r : Option V), Le B₀ B → Known B s.heap → MReps w B s.heap M X → (∀ b ∈ W, B b = none ∧ b ∉ X) → StI i s.heap → cur M i r → ∀ (P1 : Shared → Prop) (P2 : Value → Shared → Prop) (E E' : Post),
    (∀ cr B' h' tk, Le B B' → (∀ a, B' a ≠ none → B a ≠ none ∨ s.heap.get? a = none) → Known B' h' → (∀ b o, b ∉ W → s.heap.get? b = some o → h'.get? b = some o) →
      (match r with | some v => ∃ cv, cr = some cv ∧ Rep w B' v cv ∧ StI (i + 1) h' | none => cr = none) → (match cr with | some v => P2 v { s with heap := h', toks := tk } | none => P1 { s with heap := h', toks := tk })) →
    wpAny (model PG w) A (pyNext (.ref I)) (fun r s1 => match r with | none => P1 s1 | some v => wpAny (model PG w) A (letOwnedTupleGo tgt (.ref I) v) (fun _ s2 => P2 v s2) E' s1) E s

section
variable {C : Cx} {xs : List Str} {gs : List (Str × Value)} {ρ : List (Option V)} {M : MS}

/-- a tree of the text gives what is iterated -/
def JI (C : Cx) (xs : List Str) (gs : List (Str × Value)) (ρ : List (Option V)) (M : MS) (iter tgt : Expr) (Q : (MS → Nat → Option V → Prop) → MS → Prop) : Prop :=
  Ok C xs gs → ∀ (G : Gh) (X : List Addr) (B : Base) (s : Shared) (m : Str → Option Value), St C xs G ρ M X B s m → ∀ (Qc E : Post),
    (∀ cur M' X' B' s' m' I W StI, Le B B' → St C xs G ρ M' X' B' s' m' → ItOk C.w C.A tgt I W cur StI B' → Apart C G B' X' W → StI 0 s'.heap → Q cur M' → Qc (.ref I) s') →
    wpAny (model PG C.w) C.A (eval iter C.env) (fun x s1 => wpAny (model PG C.w) C.A (pyIter x) Qc E s1) E s

/-- a value that is iterated by a fresh iterator -/
def Src (C : Cx) (tgt : Expr) (v : V) (M : MS) (cur : MS → Nat → Option V → Prop) : Prop :=
  ∀ (X : List Addr) (B : Base) (s : Shared), C.A.handled = Option.none → Known B s.heap → MReps C.w B s.heap M X → ∀ cv, Rep C.w B v cv → ∀ (Qc E : Post),
    (∀ I W StI h' tk, ItOk C.w C.A tgt I W cur StI B → (∀ b ∈ W, s.heap.get? b = none) → StI 0 h' → (∀ b o, s.heap.get? b = some o → h'.get? b = some o) → Qc (.ref I) { s with heap := h', toks := tk }) →
    wpAny (model PG C.w) C.A (pyIter cv) Qc E s

abbrev KJ (C : Cx) (tgt : Expr) (Q : (MS → Nat → Option V → Prop) → MS → Prop) : V → MS → Prop := fun v M1 => ∃ cur, Src C tgt v M1 cur ∧ Q cur M1
abbrev KLp (Inv : Nat → List (Option V) → MS → Prop) (Q : Fl → List (Option V) → MS → Prop) (i : Nat) : Fl → List (Option V) → MS → Prop := fun f ρ3 M3 => match f with
  | .next | .cont => Inv (i + 1) ρ3 M3
  | .brk => Q .next ρ3 M3
  | .ret v => Q (.ret v) ρ3 M3
abbrev KBd (C : Cx) (xs : List Str) (gs : List (Str × Value)) (body : List Stmt) (Q : Fl → List (Option V) → MS → Prop) : List (Option V) → MS → Prop := fun ρ2 M2 => JS C xs gs ρ2 M2 (execs body C.env) Q
theorem JI_of {iter tgt : Expr} {Q : (MS → Nat → Option V → Prop) → MS → Prop} (h : JE C xs gs ρ M (eval iter C.env) (KJ C tgt Q)) : JI C xs gs ρ M iter tgt Q :=
  fun hC G X B s m S Qc E k => h hC G X B s m S _ _ fun v M1 X1 B1 s1 m1 cv l1 S1 rv q1 => by
    obtain ⟨cur, hsrc, hq⟩ := q1
    refine hsrc X1 B1 s1 hC.room.1 S1.known S1.mrep cv rv _ _ fun I W StI h' tk hit hfr hst keep => ?_
    refine k cur M1 X1 B1 _ m1 I W StI l1 (S1.keeps tk keep) hit (fun b hb => ⟨fun hm => ?_, S1.offFresh (hfr b hb), ?_⟩) hst hq
    · obtain ⟨o, ho⟩ := S1.live b hm
      rw [hfr b hb] at ho; cases ho
    · cases e : G.Z b with
      | none => rfl
      | some o => have := S1.kept _ _ e; rw [hfr b hb] at this; cases this

/-- for -/
theorem JS_ForD {tgt iter : Expr} {body : List Stmt} {pos : Pos} {Q : Fl → List (Option V) → MS → Prop} (N : Nat)
    (h : JI C xs gs ρ M iter tgt fun cur M1 => ∃ Inv : Nat → List (Option V) → MS → Prop, Inv 0 ρ M1 ∧ ∀ i ρ' M', Inv i ρ' M' → i ≤ N ∧ ∃ r, cur M' i r ∧ match r with
      | none => Q .next ρ' M'
      | some x => JA C xs gs ρ' M' x (assign tgt C.env) (KBd C xs gs body (KLp Inv Q i)))
    (hs : ∀ x, foldedSetIterable iter C.env x = pure x := by intro _; rfl) : JS C xs gs ρ M (exec (.For tgt iter body [] pos) C.env) Q :=
  fun hC G X B s m S Qc E k => by
    refine wpAny_For ?_ hs
    refine h hC G X B s m S _ _ fun cur M1 X1 B1 s1 m1 I W StI l1 S1 hit ap1 hst1 q1 => ?_
    obtain ⟨Inv, inv0, step⟩ := q1
    refine codeAny_forLoop_any (fun n s' => ∃ i ρ' M' X' B' m', n = N + 1 - i ∧ Le B1 B' ∧ St C xs G ρ' M' X' B' s' m' ∧ Apart C G B' X' W ∧ StI i s'.heap ∧ Inv i ρ' M') ?_ (N + 1)
      ⟨0, ρ, M1, X1, B1, m1, rfl, Le.refl _, S1, ap1, hst1, inv0⟩
    rintro n s' ⟨i, ρ', M', X', B', m', rfl, l', S', ap', hst', inv'⟩
    obtain ⟨hi, r, hcur, hr⟩ := step i ρ' M' inv'
    have live := hit.live i _ hst'
    refine wpAny_mono (hit.next i s' B' M' X' r l' S'.known S'.mrep (fun b hb => ⟨(ap' b hb).2.1, fun hx => (ap' b hb).1 (.tail _ (List.mem_append_right _ hx))⟩) hst' hcur _ _ _ _ ?_) (fun cr s₂ hh => by
      cases cr with
      | none => exact hh
      | some v => exact hh) fun _ _ e => e
    intro cr B2 h2 tk2 l2 new2 kn2 keep2 hres
    have S2 := S'.side (tk := tk2) ap' l2 kn2 keep2 (fun a ha => (new2 a ha).imp id .inl)
    have ap2 : Apart C G B2 X' W := ap'.grow live new2
    cases r with
    | none =>
      have e : cr = none := hres
      subst e
      exact wpAny_execs_nil (k .next ρ' M' X' B2 _ m' .next ((l1.trans l').trans l2) S2 .next hr)
    | some x =>
      obtain ⟨cv, rfl, rcv, hst2⟩ := hres
      have live2 := hit.live (i + 1) _ hst2
      refine hr hC _ X' B2 _ m' (S2.withZ ap2) cv rcv _ _ fun ρ3 M3 X3 B3 s3 m3 l3 S3 q3 => ?_
      refine q3 hC _ X3 B3 s3 m3 S3 _ _ fun f ρ4 M4 X4 B4 s4 m4 cf l4 S4 rf q4 => ?_
      obtain ⟨S4', ap4, kept4⟩ := S2.backZ ap2 live2 S4
      have again : ∀ {P : Prop}, (P → Inv (i + 1) ρ4 M4) → P → ∃ m, m < N + 1 - i ∧ ∃ i ρ' M' X' B' m', m = N + 1 - i ∧ Le B1 B' ∧ St C xs G ρ' M' X' B' s4 m' ∧ Apart C G B' X' W ∧ StI i s4.heap ∧ Inv i ρ' M' := fun hp p =>
        ⟨N + 1 - (i + 1), by omega, i + 1, ρ4, M4, X4, B4, m4, rfl, ((l'.trans l2).trans l3).trans l4, S4', ap4, hit.frame _ _ _ hst2 kept4, hp p⟩
      cases rf with
      | next => exact again id q4
      | cont => exact again id q4
      | brk => exact k .next ρ4 M4 X4 B4 s4 m4 _ ((((l1.trans l').trans l2).trans l3).trans l4) S4' .next q4
      | ret rv => exact k _ ρ4 M4 X4 B4 s4 m4 _ ((((l1.trans l').trans l2).trans l3).trans l4) S4' (.ret rv) q4

theorem JS_For {tgt iter : Expr} {body : List Stmt} {pos : Pos} {Q : Fl → List (Option V) → MS → Prop} (Inv : Nat → List (Option V) → MS → Prop) (N : Nat)
    (h : JI C xs gs ρ M iter tgt fun cur M1 => Inv 0 ρ M1 ∧ ∀ i ρ' M', Inv i ρ' M' → i ≤ N ∧ ∃ r, cur M' i r ∧ match r with
      | none => Q .next ρ' M'
      | some x => JA C xs gs ρ' M' x (assign tgt C.env) (KBd C xs gs body (KLp Inv Q i)))
    (hs : ∀ x, foldedSetIterable iter C.env x = pure x := by intro _; rfl) : JS C xs gs ρ M (exec (.For tgt iter body [] pos) C.env) Q :=
  JS_ForD N (fun hC G X B s m S Qc E k => h hC G X B s m S Qc E fun cur M' X' B' s' m' I W StI a b c d e q => k cur M' X' B' s' m' I W StI a b c d e ⟨Inv, q⟩) hs

/-- while -/
theorem JS_While {test : Expr} {body : List Stmt} {pos : Pos} {Q : Fl → List (Option V) → MS → Prop} (Inv : Nat → List (Option V) → MS → Prop) {n : Nat} (h0 : Inv n ρ M)
    (step : ∀ n ρ' M', Inv n ρ' M' → JB C xs gs ρ' M' (isTrue test C.env (eval test C.env)) fun b M2 =>
      (b = true → JS C xs gs ρ' M2 (execs body C.env) fun f ρ3 M3 => match f with
        | .next | .cont => ∃ n', n' < n ∧ Inv n' ρ3 M3
        | .brk => Q .next ρ3 M3
        | .ret v => Q (.ret v) ρ3 M3) ∧ (b = false → Q .next ρ' M2)) : JS C xs gs ρ M (exec (.While test body [] pos) C.env) Q :=
  fun hC G X B s m S Qc E k => by
    refine wpAny_While ?_
    refine codeAny_whileLoop (fun n s' => ∃ ρ' M' X' B' m', Le B B' ∧ St C xs G ρ' M' X' B' s' m' ∧ Inv n ρ' M') ?_ n ⟨ρ, M, X, B, m, Le.refl _, S, h0⟩
    rintro n s' ⟨ρ', M', X', B', m', l', S', inv'⟩
    refine step n ρ' M' inv' hC G X' B' s' m' S' _ _ fun b M2 X2 B2 s2 m2 l2 S2 q2 => ?_
    cases b with
    | false => exact wpAny_execs_nil (k .next ρ' M2 X2 B2 s2 m2 .next (l'.trans l2) S2 .next (q2.2 rfl))
    | true =>
      refine (q2.1 rfl) hC G X2 B2 s2 m2 S2 _ _ fun f ρ3 M3 X3 B3 s3 m3 cf l3 S3 rf q3 => ?_
      have ll := (l'.trans l2).trans l3
      cases rf with
      | next => obtain ⟨n', hn, hi⟩ := q3; exact ⟨n', hn, ρ3, M3, X3, B3, m3, ll, S3, hi⟩
      | cont => obtain ⟨n', hn, hi⟩ := q3; exact ⟨n', hn, ρ3, M3, X3, B3, m3, ll, S3, hi⟩
      | brk => exact k .next ρ3 M3 X3 B3 s3 m3 _ ll S3 .next q3
      | ret rv => exact k _ ρ3 M3 X3 B3 s3 m3 _ ll S3 (.ret rv) q3
end
end Mine

namespace Mine
open PySem PySem.W PySem.Calls PyProof.Rows

section
variable {C : Cx} {xs : List Str} {gs : List (Str × Value)} {ρ : List (Option V)} {M : MS}

theorem fresh_get (h : Heap) (o : Obj) (b : Addr) (o' : Obj) (e : h.get? b = some o') : (h.push o).get? b = some o' := Heap.get?_push_of_some o e

/-- lists that stay -/
theorem Src_list {tgt : Expr} {l : List V} {M : MS} : Src C tgt (.list l) M (fun _ i r => r = l[i]?) := by
  intro X B s hh kB mr cv rv Qc E k
  cases rv with
  | list ho hr =>
    rename_i a vs n
    have hl := isList_of (kB _ _ ho)
    have hne : a ≠ s.heap.objs.size := Nat.ne_of_lt (Heap.lt_size (kB _ _ ho))
    refine wpAny_pyIter_list hl ?_
    refine k s.heap.objs.size [s.heap.objs.size] (fun i h => h.IsListIter s.heap.objs.size a i) _ s.toks ?_ (fun b hb => by rw [List.mem_singleton.mp hb]; exact fresh_size _) ⟨_, Heap.get?_push_size _ rfl, rfl, rfl⟩ (fun b o e => Heap.get?_push_of_some _ e)
    refine ⟨fun i h h' st kk => st.at fun o e => kk _ (.head _) o e, fun i h st b hb => ?_, fun i s Q E st q => wpAny_pyIter_listiter st q, fun i s' B' M' X' r lB kB' mr' ap st hc P1 P2 E E' kk => ?_⟩
    · rw [List.mem_singleton.mp hb]; obtain ⟨o, ho, _⟩ := st; exact ⟨o, ho⟩
    · have hl' := isList_of (kB' _ _ (lB _ _ ho))
      subst hc
      cases hr' : l[i]? with
      | some x =>
        obtain ⟨cv, hcv, rx⟩ := hr.get hr'
        refine wpAny_pyNext_list_item st hl' (x := cv) (by simpa using hcv) fun h' hit' hs' => letGo_listiter hit' ?_
        exact kk (some cv) B' h' s'.toks (Le.refl _) (fun _ h => .inl h) (fun b o e => hs'.extBut b o (fun hb => by rw [hb] at e; rw [(ap _ (.head _)).1] at e; cases e) (kB' _ _ e))
          (fun b o hb e => hs'.extBut b o (fun h => hb (h ▸ .head _)) e) (by rw [hr']; exact ⟨cv, rfl, rx.mono lB, hit'⟩)
      | none =>
        have hn : vs.toArray[i]? = none := by
          rw [List.getElem?_eq_none_iff] at hr'
          simp [hr.length]; exact hr'
        refine wpAny_pyNext_list_end hh st hl' hn fun h' hs' => ?_
        exact kk none B' h' s'.toks (Le.refl _) (fun _ h => .inl h) (fun b o e => hs' b o (fun hb => by rw [hb] at e; rw [(ap _ (.head _)).1] at e; cases e) (kB' _ _ e))
          (fun b o hb e => hs' b o (fun h => hb (h ▸ .head _)) e) (by rw [hr'])

/-- lists that may change meanwhile -/
theorem Src_listM {tgt : Expr} {a : Addr} {l0 : List V} {M1 M2 : MS} : Src C tgt (.mut a) (M1 ++ (a, .list l0) :: M2) (fun M i r => ∃ l Ma Mb, M = Ma ++ (a, .list l) :: Mb ∧ r = l[i]?) := by
  intro X B s hh kB mr cv rv Qc E k
  cases rv
  obtain ⟨X1, Xa, X2, rfl, _, r0, _⟩ := mr.split
  cases r0 with
  | list h0 r0 =>
    have hl := isList_of h0
    have hne : a ≠ s.heap.objs.size := Nat.ne_of_lt (Heap.lt_size h0)
    refine wpAny_pyIter_list hl ?_
    refine k s.heap.objs.size [s.heap.objs.size] (fun i h => h.IsListIter s.heap.objs.size a i) _ s.toks ?_ (fun b hb => by rw [List.mem_singleton.mp hb]; exact fresh_size _) ⟨_, Heap.get?_push_size _ rfl, rfl, rfl⟩ (fun b o e => Heap.get?_push_of_some _ e)
    refine ⟨fun i h h' st kk => st.at fun o e => kk _ (.head _) o e, fun i h st b hb => ?_, fun i s Q E st q => wpAny_pyIter_listiter st q, fun i s' B' M' X' r lB kB' mr' ap st hc P1 P2 E E' kk => ?_⟩
    · rw [List.mem_singleton.mp hb]; obtain ⟨o, ho, _⟩ := st; exact ⟨o, ho⟩
    · obtain ⟨l, Ma, Mb, rfl, rfl⟩ := hc
      obtain ⟨Y1, Ya, Y2, rfl, _, r1, _⟩ := mr'.split
      cases r1 with
      | list h1 hr =>
        rename_i vs n
        have hl' := isList_of h1
        cases hr' : l[i]? with
        | some x =>
          obtain ⟨cv, hcv, rx⟩ := hr.get hr'
          refine wpAny_pyNext_list_item st hl' (x := cv) (by simpa using hcv) fun h' hit' hs' => letGo_listiter hit' ?_
          exact kk (some cv) B' h' s'.toks (Le.refl _) (fun _ h => .inl h) (fun b o e => hs'.extBut b o (fun hb => by rw [hb] at e; rw [(ap _ (.head _)).1] at e; cases e) (kB' _ _ e))
            (fun b o hb e => hs'.extBut b o (fun h => hb (h ▸ .head _)) e) (by rw [hr']; exact ⟨cv, rfl, rx, hit'⟩)
        | none =>
          have hn : vs.toArray[i]? = none := by
            rw [List.getElem?_eq_none_iff] at hr'
            simp [hr.length]; exact hr'
          refine wpAny_pyNext_list_end hh st hl' hn fun h' hs' => ?_
          exact kk none B' h' s'.toks (Le.refl _) (fun _ h => .inl h) (fun b o e => hs' b o (fun hb => by rw [hb] at e; rw [(ap _ (.head _)).1] at e; cases e) (kB' _ _ e))
            (fun b o hb e => hs' b o (fun h => hb (h ▸ .head _)) e) (by rw [hr'])

theorem isInt_shape {k : Int} {v : Value} (h : Value.isInt k v = true) : ∃ t, v = .int k t := by
  cases v <;> simp_all [Value.isInt]
theorem RepI.get {w : World} {B : Base} : ∀ {x : List (Int × V)} {v : List (Int × Value)}, RepI w B x v → ∀ {i : Nat} {k : Int} {a : V}, x[i]? = some (k, a) → ∃ b, v[i]? = some (k, b) ∧ Rep w B a b
  | _, _, .nil, i, k, a, h => by simp at h
  | _, _, .cons (v := v) r rs, 0, k, a, h => by simp at h; obtain ⟨rfl, rfl⟩ := h; exact ⟨v, by simp, r⟩
  | _, _, .cons r rs, i + 1, k, a, h => by simp at h; obtain ⟨b, hb, hr⟩ := rs.get h; exact ⟨b, by simpa using hb, hr⟩
theorem RepS.get {w : World} {B : Base} : ∀ {x : List (Str × V)} {v : List (Str × Value)}, RepS w B x v → ∀ {i : Nat} {k : Str} {a : V}, x[i]? = some (k, a) → ∃ b, v[i]? = some (k, b) ∧ Rep w B a b
  | _, _, .nil, i, k, a, h => by simp at h
  | _, _, .cons (v := v) r rs, 0, k, a, h => by simp at h; obtain ⟨rfl, rfl⟩ := h; exact ⟨v, by simp, r⟩
  | _, _, .cons r rs, i + 1, k, a, h => by simp at h; obtain ⟨b, hb, hr⟩ := rs.get h; exact ⟨b, by simpa using hb, hr⟩

theorem dictOf_of {K : Type} [DecidableEq K] {w : World} {knd : KeyKind PG w K} {h : Heap} {a : Addr} {o : Obj} {kvs : List (K × Value)} (ho : h.get? a = some o) (hd : o.IsDictOf knd kvs) : h.DictOf knd a kvs := Heap.dictOf_iff.mpr ⟨o, ho, hd⟩
theorem not_sys {a : Addr} (h : 2 ≤ a) : (a == sysModules) = false := beq_eq_false_iff_ne.mpr (fun e => by rw [e] at h; exact absurd h (by decide))

/-- a dict's keys -/
theorem Src_dictI {tgt : Expr} {es : List (Int × V)} {M : MS} : Src C tgt (.dictI es) M (fun _ i r => r = (es[i]?).map fun p => .int p.1) := by
  intro X B s hh kB mr cv rv Qc E k
  cases rv with
  | dictI h2 ho hd hr =>
    rename_i a o kvs
    obtain ⟨ep, hat⟩ := (dictOf_of (kB _ _ ho) hd).dictAt
    have hne : a ≠ s.heap.objs.size := Nat.ne_of_lt (Heap.lt_size (kB _ _ ho))
    refine wpAny_pyIter_dict (not_sys h2) hat ?_
    refine k s.heap.objs.size [s.heap.objs.size] (fun i h => h.IsKeyIter s.heap.objs.size a i kvs.length ep) _ s.toks ?_ (fun b hb => by rw [List.mem_singleton.mp hb]; exact fresh_size _) ⟨_, Heap.get?_push_size _ rfl, rfl, rfl⟩ (fun b o e => Heap.get?_push_of_some _ e)
    refine ⟨fun i h h' st kk => st.at fun o e => kk _ (.head _) o e, fun i h st b hb => ?_, fun i s Q E st q => wpAny_pyIter_keyiter st q, fun i s' B' M' X' r lB kB' mr' ap st hc P1 P2 E E' kk => ?_⟩
    · rw [List.mem_singleton.mp hb]; obtain ⟨o, ho, _⟩ := st; exact ⟨o, ho⟩
    · have hat' : s'.heap.DictAt (intKind PG C.w) a kvs ep := hat.at' fun o' e => kB' _ _ (lB _ _ (by rw [kB _ _ ho] at e; cases e; exact ho))
      subst hc
      cases hr' : es[i]? with
      | some x =>
        obtain ⟨kx, x⟩ := x
        obtain ⟨cv, hcv, rx⟩ := hr.get hr'
        refine wpAny_pyNext_dict_item st hat' hcv fun key h' hkey hit' hs' => letGo_keyiter hit' ?_
        obtain ⟨t, rfl⟩ := isInt_shape hkey
        exact kk (some _) B' h' s'.toks (Le.refl _) (fun _ h => .inl h) (fun b o e => hs'.extBut b o (fun hb => by rw [hb] at e; rw [(ap _ (.head _)).1] at e; cases e) (kB' _ _ e))
          (fun b o hb e => hs'.extBut b o (fun h => hb (h ▸ .head _)) e) (by rw [hr']; exact ⟨_, rfl, .int _ _, hit'⟩)
      | none =>
        have hn : kvs[i]? = none := by
          rw [List.getElem?_eq_none_iff] at hr' ⊢
          rw [hr.length]; exact hr'
        refine wpAny_pyNext_dict_end hh st hat' hn fun h' hs' => ?_
        exact kk none B' h' s'.toks (Le.refl _) (fun _ h => .inl h) (fun b o e => hs' b o (fun hb => by rw [hb] at e; rw [(ap _ (.head _)).1] at e; cases e) (kB' _ _ e))
          (fun b o hb e => hs' b o (fun h => hb (h ▸ .head _)) e) (by rw [hr']; rfl)
theorem Src_dictS {tgt : Expr} {es : List (Str × V)} {M : MS} : Src C tgt (.dictS es) M (fun _ i r => r = (es[i]?).map fun p => .str p.1) := by
  intro X B s hh kB mr cv rv Qc E k
  cases rv with
  | dictS h2 ho hd hr =>
    rename_i a o kvs
    obtain ⟨ep, hat⟩ := (dictOf_of (kB _ _ ho) hd).dictAt
    have hne : a ≠ s.heap.objs.size := Nat.ne_of_lt (Heap.lt_size (kB _ _ ho))
    refine wpAny_pyIter_dict (not_sys h2) hat ?_
    refine k s.heap.objs.size [s.heap.objs.size] (fun i h => h.IsKeyIter s.heap.objs.size a i kvs.length ep) _ s.toks ?_ (fun b hb => by rw [List.mem_singleton.mp hb]; exact fresh_size _) ⟨_, Heap.get?_push_size _ rfl, rfl, rfl⟩ (fun b o e => Heap.get?_push_of_some _ e)
    refine ⟨fun i h h' st kk => st.at fun o e => kk _ (.head _) o e, fun i h st b hb => ?_, fun i s Q E st q => wpAny_pyIter_keyiter st q, fun i s' B' M' X' r lB kB' mr' ap st hc P1 P2 E E' kk => ?_⟩
    · rw [List.mem_singleton.mp hb]; obtain ⟨o, ho, _⟩ := st; exact ⟨o, ho⟩
    · have hat' : s'.heap.DictAt (PySem.strKind PG C.w) a kvs ep := hat.at' fun o' e => kB' _ _ (lB _ _ (by rw [kB _ _ ho] at e; cases e; exact ho))
      subst hc
      cases hr' : es[i]? with
      | some x =>
        obtain ⟨kx, x⟩ := x
        obtain ⟨cv, hcv, rx⟩ := hr.get hr'
        refine wpAny_pyNext_dict_item st hat' hcv fun key h' hkey hit' hs' => letGo_keyiter hit' ?_
        obtain ⟨t, rfl⟩ := Value.isStrOf_shape hkey
        exact kk (some _) B' h' s'.toks (Le.refl _) (fun _ h => .inl h) (fun b o e => hs'.extBut b o (fun hb => by rw [hb] at e; rw [(ap _ (.head _)).1] at e; cases e) (kB' _ _ e))
          (fun b o hb e => hs'.extBut b o (fun h => hb (h ▸ .head _)) e) (by rw [hr']; exact ⟨_, rfl, .str _ _, hit'⟩)
      | none =>
        have hn : kvs[i]? = none := by
          rw [List.getElem?_eq_none_iff] at hr' ⊢
          rw [hr.length]; exact hr'
        refine wpAny_pyNext_dict_end hh st hat' hn fun h' hs' => ?_
        exact kk none B' h' s'.toks (Le.refl _) (fun _ h => .inl h) (fun b o e => hs' b o (fun hb => by rw [hb] at e; rw [(ap _ (.head _)).1] at e; cases e) (kB' _ _ e))
          (fun b o hb e => hs' b o (fun h => hb (h ▸ .head _)) e) (by rw [hr']; rfl)

theorem size_up (n : Nat) : Builtin.Range.rangeSize 0 n 1 = n := by rw [rangeSize_nat]; omega
theorem fits_up {i : Int} (h0 : 0 ≤ i) (h1 : i ≤ 2000) : Builtin.Range.rangeFitsLong i = true := by
  unfold Builtin.Range.rangeFitsLong
  simp only [Bool.and_eq_true, decide_eq_true_eq]
  constructor <;> omega
theorem small_up {n : Nat} (h : n ≤ 1000) : Builtin.Range.small 0 n 1 = true := by
  unfold Builtin.Range.small
  rw [size_up, fits_up (by omega) (by omega), fits_up (i := n) (by omega) (by omega), fits_up (i := 1) (by omega) (by omega), if_pos (by omega), fits_up (by omega) (by omega)]
  simp
theorem Src_rng {x : Str} {p : Pos} {n : Nat} {M : MS} (hn : n ≤ 1000) : Src C (.Name x p) (.rng n) M (fun _ i r => r = if i < n then some (.int i) else none) := by
  intro X B s hh kB mr cv rv Qc E k
  cases rv with
  | rng ho hd =>
    rename_i a o
    obtain ⟨t1, t2, t3, rfl⟩ := hd
    refine wpAny_pyIter_range (kB _ _ ho) (small_up hn) ?_
    rw [size_up]
    refine k s.heap.objs.size [s.heap.objs.size] (fun i h => IsRangeIter h s.heap.objs.size i ((n : Int) - i) 1) _ s.toks ?_ (fun b hb => by rw [List.mem_singleton.mp hb]; exact fresh_size _) (by
      have := Heap.get?_push_size s.heap (o := { cls := .type "range_iterator", dict := none, data := .fields #[rawInt 0, rawInt n, rawInt 1], slots := #[] }) rfl
      simpa using this) (fun b o e => Heap.get?_push_of_some _ e)
    refine ⟨fun i h h' st kk => kk _ (.head _) _ st, fun i h st b hb => ?_, fun i s Q E st q => wpAny_pyIter_rangeiter st q, fun i s' B' M' X' r lB kB' mr' ap st hc P1 P2 E E' kk => ?_⟩
    · rw [List.mem_singleton.mp hb]; exact ⟨_, st⟩
    · subst hc
      by_cases hi : i < n
      · refine wpAny_pyNext_range_item st (by omega) fun h' hit' hs' => ?_
        refine wpAny_of_eq rfl ?_
        exact kk (some _) B' h' _ (Le.refl _) (fun _ h => .inl h) (fun b o e => hs'.extBut b o (fun hb => by rw [hb] at e; rw [(ap _ (.head _)).1] at e; cases e) (kB' _ _ e))
          (fun b o hb e => hs'.extBut b o (fun h => hb (h ▸ .head _)) e) (by
            rw [if_pos hi]
            refine ⟨_, rfl, .int _ _, ?_⟩
            have e1 : ((i + 1 : Nat) : Int) = (i : Int) + 1 := by omega
            have e2 : (n : Int) - ((i + 1 : Nat) : Int) = (n : Int) - (i : Int) - 1 := by omega
            show IsRangeIter h' s.heap.objs.size ((i + 1 : Nat) : Int) ((n : Int) - ((i + 1 : Nat) : Int)) 1
            rw [e2, e1]; exact hit')
      · refine wpAny_pyNext_range_end hh st (by omega) fun h' hs' => ?_
        exact kk none B' h' s'.toks (Le.refl _) (fun _ h => .inl h) (fun b o e => hs' b o (fun hb => by rw [hb] at e; rw [(ap _ (.head _)).1] at e; cases e) (kB' _ _ e))
          (fun b o hb e => hs' b o (fun h => hb (h ▸ .head _)) e) (by rw [if_neg hi])
end
end Mine

namespace Mine
open PySem PySem.W PySem.Calls PyProof.Rows

section
variable {C : Cx} {xs : List Str} {gs : List (Str × Value)} {ρ : List (Option V)} {M : MS}

/-- targets -/
def JAs (C : Cx) (xs : List Str) (gs : List (Str × Value)) (ρ : List (Option V)) (M : MS) (l : List V) (fs : List (Value → Sem Unit)) (Q : List (Option V) → MS → Prop) : Prop :=
  Ok C xs gs → ∀ (G : Gh) (X : List Addr) (B : Base) (s : Shared) (m : Str → Option Value), St C xs G ρ M X B s m → ∀ cl, Reps C.w B l cl → ∀ (Qc : Unit → Shared → Prop) (E : Post),
    (∀ ρ' M' X' B' s' m', Le B B' → St C xs G ρ' M' X' B' s' m' → Q ρ' M' → Qc () s') → wpAny (model PG C.w) C.A (assignInOrder fs cl) Qc E s
abbrev KN (xs : List Str) (x : Str) (v : V) (ρ : List (Option V)) (M : MS) (Q : List (Option V) → MS → Prop) : Prop := ∃ ρ', SetAt xs x v ρ ρ' ∧ Q ρ' M
abbrev KAs (C : Cx) (xs : List Str) (gs : List (Str × Value)) (l : List V) (fs : List (Value → Sem Unit)) (Q : List (Option V) → MS → Prop) : List (Option V) → MS → Prop := fun ρ1 M1 => JAs C xs gs ρ1 M1 l fs Q
theorem JA_Name {x : Str} {pos : Pos} {v : V} {Q : List (Option V) → MS → Prop} (hsto : CanSto C x) (h : KN xs x v ρ M Q) : JA C xs gs ρ M v (assign (.Name x pos) C.env) Q :=
  fun hC G X B s m S ca ra Qc E k => by
    obtain ⟨ρ', g, hq⟩ := h
    exact PySem.wpAny_assign_Name (storeSt S hC ra g hsto fun s2 m2 S2 => k ρ' M X B s2 m2 (Le.refl _) S2 hq)
theorem JAs_nil {Q : List (Option V) → MS → Prop} (h : Q ρ M) : JAs C xs gs ρ M [] [] Q :=
  fun hC G X B s m S cl rl Qc E k => by
    cases rl
    exact wpAny_pure (k ρ M X B s m (Le.refl _) S h)
theorem JAs_cons {v : V} {l : List V} {f : Value → Sem Unit} {fs : List (Value → Sem Unit)} {Q : List (Option V) → MS → Prop}
    (h : JA C xs gs ρ M v f (KAs C xs gs l fs Q)) : JAs C xs gs ρ M (v :: l) (f :: fs) Q :=
  fun hC G X B s m S cl rl Qc E k => by
    cases rl with
    | cons r rs =>
      refine wpAny_bind (wpAny_holding (h hC G X B s m S _ r _ _ fun ρ1 M1 X1 B1 s1 m1 l1 S1 q1 => ?_))
      exact q1 hC G X1 B1 s1 m1 S1 _ (rs.mono l1) _ _ fun ρ2 M2 X2 B2 s2 m2 l2 S2 q2 => k ρ2 M2 X2 B2 s2 m2 (l1.trans l2) S2 q2

theorem unpackItems_listT {w : World} {A : Around} {E : Post} {s : Shared} {l : Addr} {items : Array Value} {Q : List Value → Shared → Prop} (hh : A.handled = none) (ht : s.heap.IsList l items) (hsz : items.size ≤ 8)
    (hQ : ∀ h', Heap.ExtBut s.heap.objs.size s.heap h' → Q items.toList { s with heap := h' }) : wpAny (model PG w) A (unpackItems (.ref l) items.size none) Q E s := by
  have hlt : l ≠ s.heap.objs.size := by obtain ⟨o, ho, _⟩ := ht; exact Nat.ne_of_lt (Heap.lt_size ho)
  have draws : ∀ (n i : Nat) (s : Shared) (Q : List Value → Shared → Prop), ∀ it, l ≠ it → s.heap.IsListIter it l i → s.heap.IsList l items → i + n ≤ items.size →
      (∀ h', h'.IsListIter it l (i + n) → Heap.SameBut it s.heap h' → Q ((items.toList.drop i).take n) { s with heap := h' }) → wpAny (model PG w) A (draw (.ref it) n) Q E s := by
    intro n
    induction n with
    | zero => intro i s Q it hne hit hl hi hQ; exact wpAny_pure (by have := hQ s.heap hit (Heap.SameBut.refl _ _); simpa using this)
    | succ n ih =>
      intro i s Q it hne hit hl hi hQ
      have hlt : i < items.size := by omega
      show wpAny _ _ (pyNext (.ref it) >>= _) _ _ _
      refine wpAny_bind (wpAny_pyNext_list_item hit hl (x := items[i]) (by simp [hlt]) fun h1 hit1 hs1 => ?_)
      refine wpAny_bind (wpAny_holding (ih (i + 1) _ _ it hne hit1 (hl.extBut hs1.extBut hne) (by omega) fun h2 hit2 hs2 => wpAny_pure ?_))
      have hd : items.toList.drop i = items[i] :: items.toList.drop (i + 1) := by simp [List.drop_eq_getElem_cons, hlt]
      have := hQ h2 (by rw [show i + (n + 1) = i + 1 + n by omega]; exact hit2) (hs1.trans hs2)
      rw [hd, List.take_succ_cons] at this
      exact this
  unfold unpackItems
  refine wpAny_bind ?_
  unfold notIterableAtAll
  refine wpAny_bind (wpAny_specialOf ht.typeIs slot_list_iter.lookup ?_)
  refine wpAny_pure ?_
  simp only [Bool.false_eq_true, if_false]
  refine wpAny_bind (wpAny_holding (wpAny_pyIter_list ht ?_))
  refine wpAny_bind (wpAny_holding (draws items.size 0 _ _ _ hlt ⟨_, Heap.get?_push_size _ rfl, rfl, rfl⟩ (ht.push _) (by omega) fun h1 hit1 hs1 => ?_))
  have hall : List.take items.size (List.drop 0 items.toList) = items.toList := by
    rw [List.drop_zero]; exact List.take_of_length_le (by simp)
  rw [hall, if_neg (by simp)]
  have ht1 : h1.IsList l items := (ht.push _).extBut hs1.extBut hlt
  refine wpAny_bind (wpAny_holding (wpAny_pyNext_list_end hh hit1 ht1 (by simp) fun h2 he2 => ?_))
  simp only [Option.isSome_none, Bool.false_eq_true, if_false]
  exact wpAny_pure (hQ h2 fun b o hb e => he2 b o hb (hs1.extBut b o hb (Heap.get?_push_of_some _ e)))

/-- what is unpacked: a frozen tuple or list -/
inductive SeqV : V → List V → Prop
  | tup (l : List V) : SeqV (.tup l) l
  | list (l : List V) : SeqV (.list l) l
theorem unpackSt {G : Gh} {X : List Addr} {B : Base} {s : Shared} {m : Str → Option Value} (S : St C xs G ρ M X B s m) (hC : Ok C xs gs) {v : V} {l : List V} {cv : Value} (hv : SeqV v l) (r : Rep C.w B v cv) (h8 : l.length ≤ 8) {n : Nat} (hn : n = l.length)
    {E : Post} {Q : List Value → Shared → Prop} (k : ∀ cl s', St C xs G ρ M X B s' m → Reps C.w B l cl → Q cl s') : wpAny (model PG C.w) C.A (unpackItems cv n none) Q E s := by
  subst hn
  cases hv with
  | tup =>
    cases r with
    | tup ho hr =>
      rename_i a vs nn
      have ht := isTuple_of (S.known _ _ ho)
      have := unpackItems_tuple (w := C.w) (A := C.A) (E := E) (Q := Q) (prog := PG) hC.room.1 (s := s) (t := a) (items := vs.toArray) ht fun h' hs' => by
        simpa using k vs _ (S.keeps (h' := h') s.toks fun b o e => hs' b o (Nat.ne_of_lt (Heap.lt_size e)) e) hr
      rwa [List.size_toArray, hr.length] at this
  | list =>
    cases r with
    | list ho hr =>
      rename_i a vs nn
      have ht := isList_of (S.known _ _ ho)
      have := unpackItems_listT (w := C.w) (A := C.A) (E := E) (Q := Q) hC.room.1 (s := s) (l := a) (items := vs.toArray) ht (by simp [hr.length]; exact h8) fun h' hs' => by
        simpa using k vs _ (S.keeps (h' := h') s.toks fun b o e => hs' b o (Nat.ne_of_lt (Heap.lt_size e)) e) hr
      rwa [List.size_toArray, hr.length] at this
theorem JA_Tuple {elts : List Expr} {x1 : Nat} {pos : Pos} {v : V} {l : List V} {fs : List (Value → Sem Unit)} {Q : List (Option V) → MS → Prop} (hv : SeqV v l) (h8 : l.length ≤ 8)
    (h : JAs C xs gs ρ M l fs Q) (hf : assignEach elts C.env = fs.map fun f => (false, f)) (hn : fs.length = l.length) :
    JA C xs gs ρ M v (assign (.Tuple elts x1 pos) C.env) Q :=
  fun hC G X B s m S ca ra Qc E k => by
    rw [arm_assign_Tuple]
    refine wpAny_bind (wpAny_standAt ?_)
    unfold unpack
    rw [hf]
    have h1 : (List.map (fun f => (false, f)) fs).findIdx? (fun p : Bool × (Value → Sem Unit) => p.1) = none := by
      rw [List.findIdx?_eq_none_iff]; intro x hx; obtain ⟨f, _, rfl⟩ := List.mem_map.mp hx; rfl
    have h2 : (List.map (fun f => (false, f)) fs).map (fun p : Bool × (Value → Sem Unit) => p.2) = fs := by
      rw [List.map_map]; exact List.map_id _
    have h3 : (List.map (fun f => ((false, f) : Bool × (Value → Sem Unit))) fs).length = l.length := by rw [List.length_map, hn]
    rw [h1, h2, h3]
    refine wpAny_bind (wpAny_holding (unpackSt S hC hv ra h8 rfl fun cl s' S' rl => ?_))
    exact h hC G X B s' m S' cl rl _ _ k

abbrev KNx (Q : Fl → List (Option V) → MS → Prop) : List (Option V) → MS → Prop := fun ρ' M' => Q .next ρ' M'
abbrev KTa (C : Cx) (xs : List Str) (gs : List (Str × Value)) (ρ : List (Option V)) (f : Value → Sem Unit) (Q : List (Option V) → MS → Prop) : V → MS → Prop := fun v M1 => JA C xs gs ρ M1 v f Q
abbrev KT2 (xs : List Str) (x y : Str) (ρ : List (Option V)) (Q : Fl → List (Option V) → MS → Prop) : V → MS → Prop := fun v M1 => ∃ a b ρ1 ρ2, v = .tup [a, b] ∧ SetAt xs x a ρ ρ1 ∧ SetAt xs y b ρ1 ρ2 ∧ Q .next ρ2 M1
abbrev KV (ρ : List (Option V)) (Q : Fl → List (Option V) → MS → Prop) : V → MS → Prop := fun _ M1 => Q .next ρ M1
abbrev KM (ρ : List (Option V)) (Q : Fl → List (Option V) → MS → Prop) : MS → Prop := fun M4 => Q .next ρ M4
abbrev K3c (C : Cx) (xs : List Str) (gs : List (Str × Value)) (ρ : List (Option V)) (Q : MS → Prop) (v ov : V) : V → MS → Prop := fun iv M3 => J3 C xs gs ρ M3 ov iv v (fun a b c => setItem a b c) Q
abbrev K3b (C : Cx) (xs : List Str) (gs : List (Str × Value)) (ρ : List (Option V)) (i : Expr) (Q : MS → Prop) (v : V) : V → MS → Prop := fun ov M2 => JE C xs gs ρ M2 (eval i C.env) (K3c C xs gs ρ Q v ov)
abbrev K3 (C : Cx) (xs : List Str) (gs : List (Str × Value)) (ρ : List (Option V)) (o i : Expr) (Q : MS → Prop) : V → MS → Prop := fun v M1 => JE C xs gs ρ M1 (eval o C.env) (K3b C xs gs ρ i Q v)
abbrev KJn (C : Cx) (xs : List Str) (gs : List (Str × Value)) (ρ : List (Option V)) (f : List Value → Sem Value) (Q : V → MS → Prop) : List V → MS → Prop := fun vs M1 => Jn C xs gs ρ M1 vs f Q
theorem JS_AssignT {elts : List Expr} {k : Nat} {tpos pos : Pos} {value : Expr} {Q : Fl → List (Option V) → MS → Prop}
    (h : JE C xs gs ρ M (eval value C.env) (KTa C xs gs ρ (assign (.Tuple elts k tpos) C.env) (KNx Q)))
    (hs : swapsWithSole [.Tuple elts k tpos] value pos.line C.env = pure false := by rfl) (hw : swappedStores [.Tuple elts k tpos] value C.env = pure none := by rfl) :
    JS C xs gs ρ M (exec (.Assign [.Tuple elts k tpos] value pos) C.env) Q :=
  fun hC G X B s m S Qc E kk => Assign_Tuple (h hC G X B s m S _ _ fun v M1 X1 B1 s1 m1 cv l1 S1 rv q1 =>
    q1 hC G X1 B1 s1 m1 S1 cv rv _ _ fun ρ' M2 X2 B2 s2 m2 l2 S2 q2 => kk .next ρ' M2 X2 B2 s2 m2 .next (l1.trans l2) S2 .next q2) hs hw

theorem swapped_or {x y : Str} {p q tp vp : Pos} {k k' : Nat} {e1 e2 : Expr} {env : Env} (h1 : [e1, e2].any (fun | .Starred .. => true | _ => false) = false) (h2 : [e1, e2].all (constantsAlone 8) = false) :
    swappedStores [.Tuple [.Name x p, .Name y q] k tp] (.Tuple [e1, e2] k' vp) env = pure none ∨ swappedStores [.Tuple [.Name x p, .Name y q] k tp] (.Tuple [e1, e2] k' vp) env = pure (some [x, y]) := by
  have hfm : ∀ line, ([Expr.Name x p, Expr.Name y q].filterMap fun
    | .Name id pos => if env.kindOf id == some .local && pos.line == line then some id else none
    | _ => none).length ≠ 2 ∨ ([Expr.Name x p, Expr.Name y q].filterMap fun
    | .Name id pos => if env.kindOf id == some .local && pos.line == line then some id else none
    | _ => none) = [x, y] := by
    intro line
    simp only [List.filterMap_cons, List.filterMap_nil]
    by_cases c1 : (env.kindOf x == some .local && p.line == line) = true <;> by_cases c2 : (env.kindOf y == some .local && q.line == line) = true <;> simp [c1, c2]
  unfold swappedStores
  simp only [h2]
  split
  · left; rfl
  · split
    · left; rfl
    · rcases hfm _ with h3 | h3
      · left
        split
        · rfl
        · rename_i h4
          exfalso; apply h4
          simp only [Bool.or_eq_true, bne_iff_ne, ne_eq]
          exact .inl h3
      · split
        · left; rfl
        · split
          · left; rfl
          · right
            simp only [Bool.false_eq_true, if_false]
            exact congrArg (fun z => pure (some z)) h3

/-- two names at once -/
theorem JS_AssignT2 {x y : Str} {p q tpos vpos pos : Pos} {k k' : Nat} {e1 e2 : Expr} {Q : Fl → List (Option V) → MS → Prop} (hsx : CanSto C x) (hsy : CanSto C y) (hxy : x ≠ y)
    (h : JE C xs gs ρ M (eval (.Tuple [e1, e2] k' vpos) C.env) (KT2 xs x y ρ Q))
    (h1 : [e1, e2].any (fun | .Starred .. => true | _ => false) = false := by rfl) (h2 : [e1, e2].all (constantsAlone 8) = false := by rfl)
    (hs : swapsWithSole [.Tuple [.Name x p, .Name y q] k tpos] (.Tuple [e1, e2] k' vpos) pos.line C.env = pure false := by rfl) :
    JS C xs gs ρ M (exec (.Assign [.Tuple [.Name x p, .Name y q] k tpos] (.Tuple [e1, e2] k' vpos) pos) C.env) Q :=
  fun hC G X B s m S Qc E kk => by
    rcases swapped_or (x := x) (y := y) (p := p) (q := q) (tp := tpos) (vp := vpos) (k := k) (k' := k') (env := C.env) h1 h2 with hw | hw
    · refine Assign_Tuple (h hC G X B s m S _ _ fun v M1 X1 B1 s1 m1 cv l1 S1 rv q1 => ?_) hs hw
      obtain ⟨a, b, ρ1, ρ2, rfl, g1, g2, hq⟩ := q1
      refine JA_Tuple (C := C) (xs := xs) (gs := gs) (ρ := ρ) (M := M1) (Q := fun ρ' M' => Q .next ρ' M') (fs := [assign (.Name x p) C.env, assign (.Name y q) C.env]) (.tup _) (by simp) ?_ rfl rfl hC G X1 B1 s1 m1 S1 cv rv _ _ fun ρ' M2 X2 B2 s2 m2 l2 S2 q2 => kk .next ρ' M2 X2 B2 s2 m2 .next (l1.trans l2) S2 .next q2
      exact JAs_cons (JA_Name hsx ⟨ρ1, g1, JAs_cons (JA_Name hsy ⟨ρ2, g2, JAs_nil hq⟩)⟩)
    · refine Assign_Tuple_swapped (h hC G X B s m S _ _ fun v M1 X1 B1 s1 m1 cv l1 S1 rv q1 => ?_) hs hw
      obtain ⟨a, b, ρ1, ρ2, rfl, g1, g2, hq⟩ := q1
      refine unpackSt S1 hC (.tup _) rv (by simp) rfl fun cl s' S' rl => ?_
      obtain ⟨u, v, rfl, ru, rv'⟩ := rl.two
      obtain ⟨i, hi, rfl⟩ := g1.ok
      obtain ⟨j, hj, rfl⟩ := g2.ok
      have hij : i ≠ j := fun e => by subst e; rw [hi] at hj; exact hxy (Option.some.inj hj)
      refine wpAny_bind (wpAny_holding (wpAny_bindName (S'.store hC hj rv' hsy fun s2 m2 S2 => ?_)))
      refine wpAny_bind (wpAny_holding (wpAny_bindName (S2.store hC hi ru hsx fun s3 m3 S3 => wpAny_pure ?_)))
      rw [List.set_comm _ _ (Ne.symm hij)] at S3
      exact kk .next _ M1 X1 B1 s3 m3 .next l1 S3 .next hq

theorem not_interactive (hC : Ok C xs gs) : interactive C.env = false := by unfold interactive; rw [hC.kind]; rfl
theorem JS_Expr {e : Expr} {pos : Pos} {Q : Fl → List (Option V) → MS → Prop} (h : JE C xs gs ρ M (eval e C.env) (KV ρ Q)) (hs : swapsWith e none pos.line C.env = pure false := by rfl) : JS C xs gs ρ M (exec (.Expr e pos) C.env) Q :=
  fun hC G X B s m S Qc E kk => wpAny_Expr_any (h hC G X B s m S _ _ fun v M1 X1 B1 s1 m1 cv l1 S1 rv q1 => kk .next ρ M1 X1 B1 s1 m1 .next l1 S1 .next q1) (not_interactive hC) hs
theorem JS_AssignSub {o i : Expr} {pos' pos : Pos} {value : Expr} {Q : Fl → List (Option V) → MS → Prop}
    (h : JE C xs gs ρ M (eval value C.env) (K3 C xs gs ρ o i (KM ρ Q)))
    (hs : swapsWith value (some (.Subscript o i pos')) pos.line C.env = pure false := by rfl) : JS C xs gs ρ M (exec (.Assign [.Subscript o i pos'] value pos) C.env) Q :=
  fun hC G X B s m S Qc E kk => wpAny_Assign_Subscript (h hC G X B s m S _ _ fun v M1 X1 B1 s1 m1 cv l1 S1 rv q1 =>
    q1 hC G X1 B1 s1 m1 S1 _ _ fun ov M2 X2 B2 s2 m2 cov l2 S2 rov q2 => q2 hC G X2 B2 s2 m2 S2 _ _ fun iv M3 X3 B3 s3 m3 civ l3 S3 riv q3 =>
    q3 hC G X3 B3 s3 m3 S3 _ _ _ (rov.mono l3) riv ((rv.mono l2).mono l3) _ _ fun M4 X4 B4 s4 m4 l4 S4 q4 => kk .next ρ M4 X4 B4 s4 m4 .next (((l1.trans l2).trans l3).trans l4) S4 .next q4) hs

/-- a call of what the machine brings -/
theorem JE_CallB {x : Str} {p pos : Pos} {e : Expr} {args : List Expr} {id : String} {Q : V → MS → Prop}
    (h : JEs C xs gs ρ M (spliced (backTo pos (starEach (e :: args) C.env))) (KJn C xs gs ρ (fun cl => call (.builtin id) cl) Q))
    (g : Has gs x (.builtin id) := by with_reducible repeat (first | exact Has.head | apply Has.tail)) (he : starEach (e :: args) C.env = (false, eval e C.env) :: starEach args C.env := by rfl)
    (hp : (backTo pos (starEach args C.env)).any (·.1) = false := by rfl) : JE C xs gs ρ M (eval (.Call (.Name x p) (e :: args) [] pos) C.env) Q :=
  fun hC G X B s m S Qc E k => wpAny_Call_Name_kw (glob_load S hC g (PyProof.Rows.callWith_builtin1 (h hC G X B s m S _ _ fun vs M1 X1 B1 s1 m1 cl l1 S1 rl q1 =>
    q1 hC G X1 B1 s1 m1 S1 cl rl _ _ fun v M2 X2 B2 s2 m2 cv l2 S2 rv q2 => k v M2 X2 B2 s2 m2 cv (l1.trans l2) S2 rv q2) he hp))
theorem JE_CallT {x : Str} {p pos : Pos} {e : Expr} {args : List Expr} {T : String} {Q : V → MS → Prop}
    (h : JEs C xs gs ρ M (spliced (backTo pos (starEach (e :: args) C.env))) (KJn C xs gs ρ (fun cl => call (.type T) cl) Q))
    (g : Has gs x (.type T) := by with_reducible repeat (first | exact Has.head | apply Has.tail)) (he : starEach (e :: args) C.env = (false, eval e C.env) :: starEach args C.env := by rfl)
    (hp : (backTo pos (starEach args C.env)).any (·.1) = false := by rfl) : JE C xs gs ρ M (eval (.Call (.Name x p) (e :: args) [] pos) C.env) Q :=
  fun hC G X B s m S Qc E k => wpAny_Call_Name_kw (glob_load S hC g (PyProof.Rows.callWith_type1 (h hC G X B s m S _ _ fun vs M1 X1 B1 s1 m1 cl l1 S1 rl q1 =>
    q1 hC G X1 B1 s1 m1 S1 cl rl _ _ fun v M2 X2 B2 s2 m2 cv l2 S2 rv q2 => k v M2 X2 B2 s2 m2 cv (l1.trans l2) S2 rv q2) he hp))
theorem JE_CallT0 {x : Str} {p pos : Pos} {T : String} {Q : V → MS → Prop} (h : Jn C xs gs ρ M [] (fun cl => call (.type T) cl) Q)
    (g : Has gs x (.type T) := by with_reducible repeat (first | exact Has.head | apply Has.tail)) : JE C xs gs ρ M (eval (.Call (.Name x p) [] [] pos) C.env) Q :=
  fun hC G X B s m S Qc E k => wpAny_Call_Name_kw (glob_load S hC g (callWith_type0 (h hC G X B s m S [] .nil _ _ k)))

/-- o[i] -/
def JSub (C : Cx) (xs : List Str) (gs : List (Str × Value)) (ρ : List (Option V)) (M : MS) (ov iv : V) (slice : Expr) (Q : V → MS → Prop) : Prop :=
  Ok C xs gs → ∀ (G : Gh) (X : List Addr) (B : Base) (s : Shared) (m : Str → Option Value), St C xs G ρ M X B s m → ∀ co ci, Rep C.w B ov co → Rep C.w B iv ci → ∀ (Qc E : Post),
    (∀ v M' X' B' s' m' cv, Le B B' → St C xs G ρ M' X' B' s' m' → Rep C.w B' v cv → Q v M' → Qc cv s') → SubscriptOn (model PG C.w) C.A co ci Qc E s
abbrev KSb (C : Cx) (xs : List Str) (gs : List (Str × Value)) (ρ : List (Option V)) (slice : Expr) (Q : V → MS → Prop) (ov : V) : V → MS → Prop := fun iv M2 => JSub C xs gs ρ M2 ov iv slice Q
abbrev KSa (C : Cx) (xs : List Str) (gs : List (Str × Value)) (ρ : List (Option V)) (slice : Expr) (Q : V → MS → Prop) : V → MS → Prop := fun ov M1 => JE C xs gs ρ M1 (eval slice C.env) (KSb C xs gs ρ slice Q ov)
theorem JE_Subscript {value slice : Expr} {pos : Pos} {Q : V → MS → Prop}
    (h : JE C xs gs ρ M (eval value C.env) (KSa C xs gs ρ slice Q))
    (hs : ∀ o i, subscripted slice false o i = operate [o, i] (getItem o i) := by intro _ _; rfl) : JE C xs gs ρ M (eval (.Subscript value slice pos) C.env) Q :=
  fun hC G X B s m S Qc E k => by
    rw [eval_Subscript]
    refine wpAny_bind (h hC G X B s m S _ _ fun ov M1 X1 B1 s1 m1 co l1 S1 ro q1 => ?_)
    refine wpAny_bind (wpAny_holding (q1 hC G X1 B1 s1 m1 S1 _ _ fun iv M2 X2 B2 s2 m2 ci l2 S2 ri q2 => ?_))
    refine wpAny_bind (wpAny_standAt ?_)
    obtain ⟨T, id, hl, hT, hg⟩ := q2 hC G X2 B2 s2 m2 S2 co ci (ro.mono l2) ri _ _ fun v M3 X3 B3 s3 m3 cv l3 S3 rv q3 => k v M3 X3 B3 s3 m3 cv ((l1.trans l2).trans l3) S3 rv q3
    refine wpAny_bind ?_
    rw [getitemInPython_of_ne hT.not_modules]
    refine wpAny_bind (wpAny_specialOf hT hl ?_)
    refine wpAny_pure ?_
    rw [hs]
    exact wpAny_bind (wpAny_operating (wpAny_mono hg (fun r s₃ h₃ => wpAny_bind (wpAny_letTemporaryGo (wpAny_pure h₃))) fun _ _ x => x))

/-- methods -/
def JM (C : Cx) (xs : List Str) (gs : List (Str × Value)) (ρ : List (Option V)) (M : MS) (ov : V) (name : Str) (pos : Pos) (trees : List (Bool × Sem Value)) (Q : V → MS → Prop) : Prop :=
  Ok C xs gs → ∀ (G : Gh) (X : List Addr) (B : Base) (s : Shared) (m : Str → Option Value), St C xs G ρ M X B s m → ∀ co, Rep C.w B ov co → ∀ (Qc E : Post),
    (∀ v M' X' B' s' m' cv, Le B B' → St C xs G ρ M' X' B' s' m' → Rep C.w B' v cv → Q v M' → Qc cv s') → MethodOn PG C.w C.A name pos co trees Qc E s
abbrev KMt (C : Cx) (xs : List Str) (gs : List (Str × Value)) (ρ : List (Option V)) (name : Str) (pos : Pos) (trees : List (Bool × Sem Value)) (Q : V → MS → Prop) : V → MS → Prop := fun ov M1 => JM C xs gs ρ M1 ov name pos trees Q
theorem JE_Method0 {o : Expr} {name : Str} {apos pos : Pos} {Q : V → MS → Prop} (h : JE C xs gs ρ M (eval o C.env) (KMt C xs gs ρ name pos [] Q))
    (hbase : attributeBase o name C.env (eval o C.env) = eval o C.env := by rfl) (hline : (apos.endLine == pos.line) = true := by rfl) : JE C xs gs ρ M (eval (.Call (.Attribute o name apos) [] [] pos) C.env) Q :=
  fun hC G X B s m S Qc E k => wpAny_Call_method0_late hbase hline (h hC G X B s m S _ _ fun ov M1 X1 B1 s1 m1 co l1 S1 ro q1 =>
    q1 hC G X1 B1 s1 m1 S1 co ro _ _ fun v M2 X2 B2 s2 m2 cv l2 S2 rv q2 => k v M2 X2 B2 s2 m2 cv (l1.trans l2) S2 rv q2)
theorem JE_Method1 {o e : Expr} {name : Str} {apos pos : Pos} {Q : V → MS → Prop} (h : JE C xs gs ρ M (eval o C.env) (KMt C xs gs ρ name pos [(false, eval e C.env)] Q))
    (hbase : attributeBase o name C.env (eval o C.env) = eval o C.env := by rfl) (hline : (apos.endLine == pos.line) = true := by rfl) (htrees : backTo pos (starEach [e] C.env) = [(false, eval e C.env)] := by rfl) :
    JE C xs gs ρ M (eval (.Call (.Attribute o name apos) [e] [] pos) C.env) Q :=
  fun hC G X B s m S Qc E k => wpAny_Call_method1_late hbase hline htrees (h hC G X B s m S _ _ fun ov M1 X1 B1 s1 m1 co l1 S1 ro q1 =>
    q1 hC G X1 B1 s1 m1 S1 co ro _ _ fun v M2 X2 B2 s2 m2 cv l2 S2 rv q2 => k v M2 X2 B2 s2 m2 cv (l1.trans l2) S2 rv q2)
theorem JE_Method2 {o e f : Expr} {name : Str} {apos pos : Pos} {Q : V → MS → Prop} (h : JE C xs gs ρ M (eval o C.env) (KMt C xs gs ρ name pos [(false, eval e C.env), (false, eval f C.env)] Q))
    (hbase : attributeBase o name C.env (eval o C.env) = eval o C.env := by rfl) (hline : (apos.endLine == pos.line) = true := by rfl) (htrees : backTo pos (starEach [e, f] C.env) = [(false, eval e C.env), (false, eval f C.env)] := by rfl) :
    JE C xs gs ρ M (eval (.Call (.Attribute o name apos) [e, f] [] pos) C.env) Q :=
  fun hC G X B s m S Qc E k => wpAny_Call_method2_late hbase hline htrees (h hC G X B s m S _ _ fun ov M1 X1 B1 s1 m1 co l1 S1 ro q1 =>
    q1 hC G X1 B1 s1 m1 S1 co ro _ _ fun v M2 X2 B2 s2 m2 cv l2 S2 rv q2 => k v M2 X2 B2 s2 m2 cv (l1.trans l2) S2 rv q2)
end
end Mine

namespace Mine
open PySem PySem.W PySem.Calls PyProof.Rows

inductive MAt : MS → Addr → MO → Prop
  | head {a : Addr} {mo : MO} {M : MS} : MAt ((a, mo) :: M) a mo
  | tail {a : Addr} {mo : MO} {p : Addr × MO} {M : MS} : MAt M a mo → MAt (p :: M) a mo
inductive MUpd : MS → Addr → MO → MO → MS → Prop
  | head {a : Addr} {mo mo' : MO} {M : MS} : MUpd ((a, mo) :: M) a mo mo' ((a, mo') :: M)
  | tail {a : Addr} {mo mo' : MO} {p : Addr × MO} {M M' : MS} : MUpd M a mo mo' M' → MUpd (p :: M) a mo mo' (p :: M')
theorem MAt.split {M : MS} {a : Addr} {mo : MO} (h : MAt M a mo) : ∃ M1 M2, M = M1 ++ (a, mo) :: M2 := by
  induction h with
  | @head a mo M => exact ⟨[], M, rfl⟩
  | @tail a mo p M _ ih => obtain ⟨M1, M2, rfl⟩ := ih; exact ⟨p :: M1, M2, rfl⟩
theorem MUpd.split {M M' : MS} {a : Addr} {mo mo' : MO} (h : MUpd M a mo mo' M') : ∃ M1 M2, M = M1 ++ (a, mo) :: M2 ∧ M' = M1 ++ (a, mo') :: M2 := by
  induction h with
  | @head a mo mo' M => exact ⟨[], M, rfl, rfl⟩
  | @tail a mo mo' p M M' _ ih => obtain ⟨M1, M2, rfl, rfl⟩ := ih; exact ⟨p :: M1, M2, rfl, rfl⟩

/-- a list, whether it still changes or not -/
inductive LVal (M : MS) : V → List V → Prop
  | fz (l : List V) : LVal M (.list l) l
  | mt {a : Addr} {l : List V} : MAt M a (.list l) → LVal M (.mut a) l
inductive DIVal (M : MS) : V → List (Int × V) → Prop
  | fz (l : List (Int × V)) : DIVal M (.dictI l) l
  | mt {a : Addr} {l : List (Int × V)} : MAt M a (.dictI l) → DIVal M (.mut a) l
inductive DSVal (M : MS) : V → List (Str × V) → Prop
  | fz (l : List (Str × V)) : DSVal M (.dictS l) l
  | mt {a : Addr} {l : List (Str × V)} : MAt M a (.dictS l) → DSVal M (.mut a) l

section
variable {C : Cx} {xs : List Str} {gs : List (Str × Value)} {ρ : List (Option V)} {M : MS} {G : Gh} {X : List Addr} {B : Base} {s : Shared} {m : Str → Option Value}

theorem St.lval (S : St C xs G ρ M X B s m) {v : V} {l : List V} {cv : Value} (hv : LVal M v l) (r : Rep C.w B v cv) : ∃ a vs n, cv = .ref a ∧ s.heap.get? a = some (lisO vs n) ∧ Reps C.w B l vs := by
  cases hv with
  | fz => cases r with
    | list ho hr => exact ⟨_, _, _, rfl, S.known _ _ ho, hr⟩
  | mt h =>
    cases r
    obtain ⟨M1, M2, rfl⟩ := h.split
    obtain ⟨Y, r⟩ := S.getM
    cases r with
    | list ho hr => exact ⟨_, _, _, rfl, ho, hr⟩
theorem St.dival (S : St C xs G ρ M X B s m) {v : V} {l : List (Int × V)} {cv : Value} (hv : DIVal M v l) (r : Rep C.w B v cv) : ∃ a kvs, cv = .ref a ∧ 2 ≤ a ∧ s.heap.DictOf (intKind PG C.w) a kvs ∧ RepI C.w B l kvs := by
  cases hv with
  | fz => cases r with
    | dictI h2 ho hd hr => exact ⟨_, _, rfl, h2, dictOf_of (S.known _ _ ho) hd, hr⟩
  | mt h =>
    cases r
    obtain ⟨M1, M2, rfl⟩ := h.split
    obtain ⟨Y, r⟩ := S.getM
    cases r with
    | dictI h2 ho hd hr => exact ⟨_, _, rfl, h2, dictOf_of ho hd, hr⟩
theorem St.dsval (S : St C xs G ρ M X B s m) {v : V} {l : List (Str × V)} {cv : Value} (hv : DSVal M v l) (r : Rep C.w B v cv) : ∃ a kvs, cv = .ref a ∧ 2 ≤ a ∧ s.heap.DictOf (PySem.strKind PG C.w) a kvs ∧ RepS C.w B l kvs := by
  cases hv with
  | fz => cases r with
    | dictS h2 ho hd hr => exact ⟨_, _, rfl, h2, dictOf_of (S.known _ _ ho) hd, hr⟩
  | mt h =>
    cases r
    obtain ⟨M1, M2, rfl⟩ := h.split
    obtain ⟨Y, r⟩ := S.getM
    cases r with
    | dictS h2 ho hd hr => exact ⟨_, _, rfl, h2, dictOf_of ho hd, hr⟩

theorem Ok.units (hC : Ok C xs gs) : C.A.units < 2000 := by have := hC.room.2.2; omega

/-- equal lists -/
theorem J_neL {n : Nat} {P : V → Prop} (hP : EqOk n P) (hn : n ≤ 20) {v1 v2 : V} {l1 l2 : List V} (h1 : LVal M v1 l1) (h2 : LVal M v2 l2) (p1 : ∀ x ∈ l1, P x) (p2 : ∀ x ∈ l2, P x) {Q : V → MS → Prop}
    (h : ∀ t : Bool, (t = true ↔ l1 ≠ l2) → Q (.bool t) M) : J2 C xs gs ρ M v1 v2 (fun x y => compareOp .NotEq x y) Q :=
  fun hC G X B s m S ca cb ra rb Qc E k => by
    obtain ⟨a, va, na, rfl, ha, r1⟩ := S.lval h1 ra
    obtain ⟨b, vb, nb, rfl, hb, r2⟩ := S.lval h2 rb
    have hu := hC.units
    have hc : cLine = 9900 := rfl
    have La := isList_of ha
    have Lb := isList_of hb
    by_cases hlen : l1.length = l2.length
    · obtain ⟨e, he, hp⟩ := pointwise (A := C.A.in1) hP S.known (by show C.A.units + 1 + n < cLine; omega) p1 p2 hlen r1 r2
      refine SeqAt.RcNeAt.lists (e := e) La Lb (by simp [r1.length, r2.length, hlen]) (by omega) (fun j h1 h2 => by simpa using hp j (by simpa using h1) (by simpa using h2)) PG C.w E Qc ?_
      refine k _ M X B _ m _ (Le.refl B) S (.bool _) (h _ ?_)
      rw [List.size_toArray, r1.length]
      cases hall : (List.range l1.length).all e with
      | true => simp [he.mp hall]
      | false => simp only [Bool.not_false, true_iff]; intro ee; rw [he.mpr ee] at hall; cases hall
    · refine SeqAt.RcNeAt.lists_lengths La Lb (by simp [r1.length, r2.length, hlen]) (by omega) PG C.w E Qc ?_
      refine k _ M X B _ m _ (Le.refl B) S (.bool _) (h _ ?_)
      simp only [true_iff]
      intro e; exact hlen (by rw [e])

theorem in_aux {n : Nat} {P : V → Prop} (hP : EqOk n P) {w : World} {B : Base} {A : Around} {s : Shared} (kB : Known B s.heap) (hu : A.units + n < cLine) {x : V} {cx : Value} (rx : Rep w B x cx) (px : P x) :
    ∀ {l : List V} {vs : List Value}, (∀ y ∈ l, P y) → Reps w B l vs → ∃ e : Value → Bool, (∀ y ∈ vs, SeqAt.EqAt A s y cx (e y)) ∧ (vs.any e = true ↔ x ∈ l) ∧ ∀ (y : V) (cy : Value), P y → Rep w B y cy → (e cy = true ↔ y = x) := by
  have key : ∀ (y : V) (cy : Value), P y → Rep w B y cy → ∃ t : Bool, (t = true ↔ y = x) ∧ SeqAt.EqAt A s cy cx t := fun y cy py ry => hP.eq y x py px w B A s cy cx kB hu ry rx
  intro l vs pl rl
  classical
  refine ⟨fun cy => decide (∃ y, P y ∧ Rep w B y cy ∧ y = x), fun cy hcy => ?_, ?_, fun y cy py ry => ⟨fun hd => ?_, fun e => decide_eq_true ⟨y, py, ry, e⟩⟩⟩
  rotate_left
  rotate_left
  · obtain ⟨z, pz, rz, rfl⟩ := of_decide_eq_true hd
    exact hP.same y z py pz w B cy ry rz
  · obtain ⟨i, hi⟩ := List.mem_iff_getElem?.mp hcy
    obtain ⟨y, hy, ry⟩ := rl.get' hi
    have py := pl y (List.mem_of_getElem? hy)
    obtain ⟨t, ht, he⟩ := key y cy py ry
    have : decide (∃ y, P y ∧ Rep w B y cy ∧ y = x) = t := by
      cases t with
      | true => exact decide_eq_true ⟨y, py, ry, ht.mp rfl⟩
      | false =>
        refine decide_eq_false fun ⟨z, pz, rz, hz⟩ => ?_
        have := hP.same y z py pz w B cy ry rz
        subst this
        cases ht.mpr hz
    simp only [this]; exact he
  · rw [List.any_eq_true]
    constructor
    · rintro ⟨cy, hcy, hd⟩
      obtain ⟨y, _, ry, rfl⟩ := of_decide_eq_true hd
      obtain ⟨i, hi⟩ := List.mem_iff_getElem?.mp hcy
      obtain ⟨z, hz, rz⟩ := rl.get' hi
      have pz := pl z (List.mem_of_getElem? hz)
      rw [← hP.same z y pz px w B cy rz ry]
      exact List.mem_of_getElem? hz
    · intro hx
      obtain ⟨i, hi⟩ := List.mem_iff_getElem?.mp hx
      obtain ⟨cy, hcy, ry⟩ := rl.get hi
      exact ⟨cy, List.mem_of_getElem? hcy, decide_eq_true ⟨x, px, ry, rfl⟩⟩

theorem J_inL {n : Nat} {P : V → Prop} (hP : EqOk n P) (hn : n ≤ 20) {x v : V} {l : List V} (h1 : LVal M v l) (px : P x) (pl : ∀ y ∈ l, P y) {Q : V → MS → Prop}
    (h : ∀ t : Bool, (t = true ↔ x ∈ l) → Q (.bool t) M) : J2 C xs gs ρ M x v (fun x y => compareOp .In x y) Q :=
  fun hC G X B s m S ca cb ra rb Qc E k => by
    obtain ⟨a, va, na, rfl, ha, r1⟩ := S.lval h1 rb
    have hu := hC.units
    have hc : cLine = 9900 := rfl
    obtain ⟨e, he, hany, hiff⟩ := in_aux (A := C.A.in1) hP S.known (by show C.A.units + 1 + n < cLine; omega) ra px pl r1
    refine SeqAt.in_listAt e (isList_of ha) (fun y hy => he y (by simpa using hy)) ?_
    refine k _ M X B _ m _ (Le.refl B) S (.bool _) (h _ ?_)
    rw [List.any_toArray]; exact hany
theorem J_notInL {n : Nat} {P : V → Prop} (hP : EqOk n P) (hn : n ≤ 20) {x v : V} {l : List V} (h1 : LVal M v l) (px : P x) (pl : ∀ y ∈ l, P y) {Q : V → MS → Prop}
    (h : ∀ t : Bool, (t = true ↔ x ∉ l) → Q (.bool t) M) : J2 C xs gs ρ M x v (fun x y => compareOp .NotIn x y) Q :=
  fun hC G X B s m S ca cb ra rb Qc E k => by
    obtain ⟨a, va, na, rfl, ha, r1⟩ := S.lval h1 rb
    have hu := hC.units
    have hc : cLine = 9900 := rfl
    obtain ⟨e, he, hany, hiff⟩ := in_aux (A := C.A.in1) hP S.known (by show C.A.units + 1 + n < cLine; omega) ra px pl r1
    refine SeqAt.notIn_listAt e (isList_of ha) (fun y hy => he y (by simpa using hy)) ?_
    refine k _ M X B _ m _ (Le.refl B) S (.bool _) (h _ ?_)
    rw [List.any_toArray]
    cases hh : va.any e with
    | true => simp [hany.mp hh]
    | false => simp only [Bool.not_false, true_iff]; intro hx; rw [hany.mpr hx] at hh; cases hh

/-- list + list -/
theorem J_addL {v1 v2 : V} {l1 l2 : List V} (h1 : LVal M v1 l1) (h2 : LVal M v2 l2) (hlen : l1.length + l2.length ≤ 1000) {Q : V → MS → Prop} (h : Q (.list (l1 ++ l2)) M) : J2 C xs gs ρ M v1 v2 (fun x y => binaryOp .Add x y) Q :=
  fun hC G X B s m S ca cb ra rb Qc E k => by
    obtain ⟨a, va, na, rfl, ha, r1⟩ := S.lval h1 ra
    obtain ⟨b, vb, nb, rfl, hb, r2⟩ := S.lval h2 rb
    refine P.add_list (items := va.toArray) (items2 := vb.toArray) ha hb ?_ (by rw [List.size_toArray, List.size_toArray, r1.length, r2.length, sizeLine_eq]; omega)
    obtain ⟨l2', S2⟩ := S.addB (a := s.heap.objs.size) (o := lisO (va ++ vb) 0) (h' := s.heap.push { cls := .type "list", data := .seq (va.toArray ++ vb.toArray) }) s.toks (fun b o e => Heap.get?_push_of_some _ e)
      (by rw [List.append_toArray]; exact Heap.get?_push_size _ rfl) (fresh_size _)
    exact k _ M X _ _ m _ l2' S2 (.list (put_self _ _ _) ((r1.mono l2').append (r2.mono l2'))) h

/-- items -/
theorem JSub_list {ov : V} {l : List V} {i : Nat} {v : V} {slice : Expr} (h1 : LVal M ov l) (hi : l[i]? = some v) (hs : i < 1000) {Q : V → MS → Prop} (h : Q v M) : JSub C xs gs ρ M ov (.int i) slice Q :=
  fun hC G X B s m S co ci ro ri Qc E k => by
    obtain ⟨a, va, na, rfl, ha, r1⟩ := S.lval h1 ro
    cases ri
    obtain ⟨cv, hcv, rv⟩ := r1.get hi
    exact ⟨"list", _, slot_list_getitem.lookup, ⟨_, ha, rfl⟩, wpAny_getItem_list (isList_of ha) (by omega) (by omega) (x := cv) (by simpa using hcv) (k v M X B s m cv (Le.refl _) S rv h)⟩
theorem JSub_tup {l : List V} {i : Nat} {v : V} {slice : Expr} (hi : l[i]? = some v) (hs : i < 1000) {Q : V → MS → Prop} (h : Q v M) : JSub C xs gs ρ M (.tup l) (.int i) slice Q :=
  fun hC G X B s m S co ci ro ri Qc E k => by
    cases ro with
    | tup ho hr =>
      rename_i a vs n
      cases ri
      obtain ⟨cv, hcv, rv⟩ := hr.get hi
      have hlt : i < vs.length := (List.getElem?_eq_some_iff.mp hcv).1
      refine ⟨"tuple", _, slot_tuple_getitem.lookup, ⟨_, S.known _ _ ho, rfl⟩, PyProof.Rows.getItem_tuple (isTuple_of (S.known _ _ ho)) (by omega) (by omega) (j := i) ?_ (x := cv) (by simpa using hcv) (k v M X B s m cv (Le.refl _) S rv h)⟩
      have := seqIndex_of (k := (i : Int)) (n := vs.toArray.size) (by omega) (by simp; omega)
      simpa using this

theorem St.updList {M1 M2 : MS} {a : Addr} {l l' : List V} {vs vs' : List Value} {n : Nat} (S : St C xs G ρ (M1 ++ (a, .list l) :: M2) X B s m) (ho : s.heap.get? a = some (lisO vs n)) {f : Array Value → Array Value}
    (hf : f vs.toArray = vs'.toArray) (r : Reps C.w B l' vs') : St C xs G ρ (M1 ++ (a, .list l') :: M2) X B { s with heap := s.heap.update a (Obj.mapSeq f) } m := by
  have e1 := IsL.update (l := a) (items := vs.toArray) (n := n) ho f
  rw [hf] at e1
  exact S.setM (by trivial) s.toks (fun b o hb e => (Heap.get?_update_other _ _ (Ne.symm hb)).trans e) (.list e1 r)

/-- methods of lists -/
theorem JM_append {a : Addr} {l0 : List V} {pos : Pos} {e : Expr} {Q : V → MS → Prop} (h0 : MAt M a (.list l0))
    (h : JE C xs gs ρ M (eval e C.env) fun v M1 => ∃ l M2, MUpd M1 a (.list l) (.list (l ++ [v])) M2 ∧ l.length ≤ 100000 ∧ Q .none M2) : JM C xs gs ρ M (.mut a) "append" pos [(false, eval e C.env)] Q :=
  fun hC G X B s m S co ro Qc E k => by
    obtain ⟨a', va, na, e', ha, r1⟩ := S.lval (.mt h0) ro
    subst e'; cases ro
    refine ⟨"list", "list.append", F.plainAttrs_list, slot_list_append, F.type_list_append, ⟨_, ha, rfl⟩, fun b hb => by cases hb; exact ⟨_, ha, rfl⟩, ?_⟩
    refine P.append_list (h hC G X B s m S _ _ fun v M1 X1 B1 s1 m1 cv l1 S1 rv q1 => ?_)
    obtain ⟨l, M2, hu, hl, hq⟩ := q1
    obtain ⟨Ma, Mb, rfl, rfl⟩ := hu.split
    obtain ⟨Y, r⟩ := S1.getM
    cases r with
    | list ho hr =>
      rename_i vs n
      refine ⟨vs.toArray, n, by rw [List.size_toArray, hr.length, sizeLine_eq]; omega, ho, ?_⟩
      exact k _ _ X1 B1 _ m1 _ l1 (S1.updList ho (by rw [List.push_toArray]) (hr.append (.cons rv .nil))) .none hq
theorem Reps.take {w : World} {B : Base} : ∀ {x : List V} {v : List Value}, Reps w B x v → ∀ n, Reps w B (x.take n) (v.take n)
  | _, _, .nil, n => by simp; exact .nil
  | _, _, .cons a b, 0 => by simp; exact .nil
  | _, _, .cons a b, n + 1 => by simp; exact .cons a (b.take n)
theorem Reps.drop {w : World} {B : Base} : ∀ {x : List V} {v : List Value}, Reps w B x v → ∀ n, Reps w B (x.drop n) (v.drop n)
  | _, _, .nil, n => by simp; exact .nil
  | _, _, .cons a b, 0 => by simp; exact .cons a b
  | _, _, .cons a b, n + 1 => by simp; exact b.drop n
theorem Reps.reverse {w : World} {B : Base} : ∀ {x : List V} {v : List Value}, Reps w B x v → Reps w B x.reverse v.reverse
  | _, _, .nil => .nil
  | _, _, .cons a b => by rw [List.reverse_cons, List.reverse_cons]; exact b.reverse.append (.cons a .nil)
theorem Reps.eraseIdx {w : World} {B : Base} : ∀ {x : List V} {v : List Value}, Reps w B x v → ∀ n, Reps w B (x.eraseIdx n) (v.eraseIdx n)
  | _, _, .nil, n => by simp; exact .nil
  | _, _, .cons a b, 0 => by simp; exact b
  | _, _, .cons a b, n + 1 => by simp; exact .cons a (b.eraseIdx n)
theorem Reps.set {w : World} {B : Base} : ∀ {x : List V} {v : List Value}, Reps w B x v → ∀ n {y : V} {c : Value}, Rep w B y c → Reps w B (x.set n y) (v.set n c)
  | _, _, .nil, n, _, _, _ => by simp; exact .nil
  | _, _, .cons a b, 0, _, _, r => by simp; exact .cons r b
  | _, _, .cons a b, n + 1, _, _, r => by simp; exact .cons a (b.set n r)

theorem JM_pop {a : Addr} {l : List V} {x : V} {pos : Pos} {M2 : MS} {Q : V → MS → Prop} (h0 : MUpd M a (.list (l ++ [x])) (.list l) M2) (hl : l.length ≤ 100000) (h : Q x M2) : JM C xs gs ρ M (.mut a) "pop" pos [] Q :=
  fun hC G X B s m S co ro Qc E k => by
    cases ro
    obtain ⟨Ma, Mb, rfl, rfl⟩ := h0.split
    obtain ⟨Y, r⟩ := S.getM
    cases r with
    | list ho hr =>
      rename_i vs n
      refine ⟨"list", "list.pop", F.plainAttrs_list, F.slot_list_pop, F.type_list_pop, ⟨_, ho, rfl⟩, fun b hb => by cases hb; exact ⟨_, ho, rfl⟩, ?_⟩
      have hlen : vs.length = l.length + 1 := by rw [hr.length]; simp
      obtain ⟨cx, hcx, rx⟩ := hr.get (i := l.length) (a := x) (by simp)
      refine P.pop_list (items := vs.toArray) (n := n) (y := cx) ho (by simp only [List.size_toArray, hlen, Nat.add_sub_cancel, List.getElem?_toArray]; exact hcx) ?_ (by rw [List.size_toArray, hlen, sizeLine_eq]; omega)
      have e2 := hr.eraseIdx l.length
      rw [show (l ++ [x]).eraseIdx l.length = l by rw [List.eraseIdx_append_of_length_le (by simp)]; simp] at e2
      exact k x _ X B _ m cx (Le.refl _) (S.updList (vs' := vs.eraseIdx l.length) ho (by simp [hlen]) e2) rx h
theorem JM_pop0 {a : Addr} {l : List V} {x : V} {pos : Pos} {e : Expr} {Q : V → MS → Prop} {l0 : List V} (h00 : MAt M a (.list l0))
    (h : JE C xs gs ρ M (eval e C.env) fun v M1 => v = .int 0 ∧ ∃ x l M2, MUpd M1 a (.list (x :: l)) (.list l) M2 ∧ l.length ≤ 1000 ∧ Q x M2) : JM C xs gs ρ M (.mut a) "pop" pos [(false, eval e C.env)] Q :=
  fun hC G X B s m S co ro Qc E k => by
    obtain ⟨a', va, na, e', ha, r1⟩ := S.lval (.mt h00) ro
    subst e'; cases ro
    refine ⟨"list", "list.pop", F.plainAttrs_list, F.slot_list_pop, F.type_list_pop, ⟨_, ha, rfl⟩, fun b hb => by cases hb; exact ⟨_, ha, rfl⟩, ?_⟩
    refine P.pop_at_list (h hC G X B s m S _ _ fun v M1 X1 B1 s1 m1 cv l1 S1 rv q1 => ?_)
    obtain ⟨rfl, x, l, M2, h0, hl, hq⟩ := q1
    cases rv
    obtain ⟨Ma, Mb, rfl, rfl⟩ := h0.split
    obtain ⟨Y, r⟩ := S1.getM
    cases r with
    | list ho hr =>
      rename_i t vs n
      cases hr with
      | cons rx hr =>
        rename_i cx vs
        refine ⟨(cx :: vs).toArray, n, 0, t, 0, cx, by rw [List.size_toArray, List.length_cons, hr.length, sizeLine_eq]; omega, rfl, ho, by decide, seqIndex_of (by omega) (by simp), by simp, ?_⟩
        exact k x _ X1 B1 _ m1 cx l1 (S1.updList (vs' := vs) ho (by simp) hr) rx hq

/-- list.index -/
theorem JM_index {n : Nat} {P : V → Prop} (hP : EqOk n P) (hn : n ≤ 20) {ov : V} {l : List V} {pos : Pos} {e : Expr} {Q : V → MS → Prop} (h0 : LVal M ov l) (pl : ∀ y ∈ l, P y) (hl : l.length ≤ 1000)
    (h : JE C xs gs ρ M (eval e C.env) fun v M1 => M1 = M ∧ P v ∧ ∃ j : Nat, l[j]? = some v ∧ (∀ i, i < j → l[i]? ≠ some v) ∧ Q (.int j) M1) : JM C xs gs ρ M ov "index" pos [(false, eval e C.env)] Q :=
  fun hC G X B s m S co ro Qc E k => by
    obtain ⟨a, va, na, rfl, ha, r1⟩ := S.lval h0 ro
    refine ⟨"list", "list.index", F.plainAttrs_list, F.slot_list_index, F.type_list_index, ⟨_, ha, rfl⟩, fun b hb => by cases hb; exact ⟨_, ha, rfl⟩, ?_⟩
    refine seqMethod1_meets F.slot_list_index F.entry_list_index (h hC G X B s m S _ _ fun v M1 X1 B1 s1 m1 cv l1 S1 rv q1 => ?_)
    obtain ⟨rfl, pv, j, hj, hno, hq⟩ := q1
    obtain ⟨a', va', na', e', ha', r1'⟩ := S1.lval h0 (ro.mono l1)
    cases e'
    have hu := hC.units
    have hc : cLine = 9900 := rfl
    obtain ⟨e, he, hany, hiff⟩ := in_aux (A := C.A.in1) hP S1.known (by show C.A.units + 1 + n < cLine; omega) rv pv pl r1'
    have hjl : j < va'.length := by rw [r1'.length]; exact (List.getElem?_eq_some_iff.mp hj).1
    obtain ⟨cj, hcj, rj⟩ := r1'.get hj
    have hjx : j < l.length := (List.getElem?_eq_some_iff.mp hj).1
    refine ⟨⟨_, ha', rfl⟩, F.args_list_index_2 _ _, _, SeqAt.list_indexAt a va'.toArray na' none #[] cv e j (by simpa using hjl) (by omega) ?_ (fun i hi hij => ?_), ha', fun y hy => he y (by simpa using hy), ?_⟩
    · have : va'[j] = cj := by rw [List.getElem?_eq_getElem hjl] at hcj; exact Option.some.inj hcj
      simp only [List.getElem_toArray, this]
      exact (hiff v cj pv rj).mpr rfl
    · have hi' : i < va'.length := by simpa using hi
      have hil : i < l.length := by omega
      obtain ⟨ci, hci, ri⟩ := r1'.get (List.getElem?_eq_getElem hil)
      have : va'[i] = ci := by rw [List.getElem?_eq_getElem hi'] at hci; exact Option.some.inj hci
      simp only [List.getElem_toArray, this]
      cases hh : e ci with
      | false => rfl
      | true =>
        have := (hiff l[i] ci (pl _ (List.getElem_mem hil)) ri).mp hh
        exact absurd (by rw [List.getElem?_eq_getElem hil, this]) (hno i hij)
    · exact k _ M1 X1 B1 _ m1 _ l1 (S1.tok _) (.int _ _) hq
end
end Mine

namespace Mine
open PySem PySem.W PySem.Calls PyProof.Rows

def getI {K α : Type} [DecidableEq K] (es : List (K × α)) (k : K) : Option α := (es.find? fun p => decide (p.1 = k)).map (·.2)
def putI {K α : Type} [DecidableEq K] (es : List (K × α)) (k : K) (v : α) : List (K × α) :=
  if es.any (fun p => decide (p.1 = k)) then es.map (fun p => if p.1 = k then (p.1, v) else p) else es ++ [(k, v)]
theorem getI_nil {K α : Type} [DecidableEq K] (k : K) : getI ([] : List (K × α)) k = none := rfl
theorem getI_cons {K α : Type} [DecidableEq K] (p : K × α) (es : List (K × α)) (k : K) : getI (p :: es) k = if p.1 = k then some p.2 else getI es k := by
  unfold getI
  rw [List.find?_cons]
  by_cases h : p.1 = k <;> simp [h]
theorem getI_isSome {K α : Type} [DecidableEq K] : ∀ (es : List (K × α)) (k : K), (getI es k).isSome = es.any (fun p => decide (p.1 = k))
  | [], k => rfl
  | p :: es, k => by
    rw [getI_cons, List.any_cons, ← getI_isSome es k]
    by_cases h : p.1 = k <;> simp [h]
theorem getI_append {K α : Type} [DecidableEq K] : ∀ (es fs : List (K × α)) (k : K), getI (es ++ fs) k = (getI es k).or (getI fs k)
  | [], fs, k => by simp [getI_nil]
  | p :: es, fs, k => by
    rw [List.cons_append, getI_cons, getI_cons, getI_append es fs k]
    by_cases h : p.1 = k <;> simp [h]
theorem getI_map {K α : Type} [DecidableEq K] (v : α) (k j : K) : ∀ (es : List (K × α)), getI (es.map fun p => if p.1 = k then (p.1, v) else p) j = if j = k then (if (getI es k).isSome then some v else none) else getI es j
  | [] => by simp [getI_nil]
  | p :: es => by
    rw [List.map_cons, getI_cons, getI_map v k j es]
    by_cases h : p.1 = k
    · simp only [if_pos h]
      by_cases h2 : j = k
      · subst h2; simp [getI_cons, h]
      · have : ¬ p.1 = j := fun e => h2 (e.symm.trans h)
        simp [getI_cons, h2, this]
    · simp only [if_neg h]
      by_cases h2 : j = k
      · subst h2; simp [getI_cons, h]
      · simp [getI_cons, h2]
theorem getI_putI {K α : Type} [DecidableEq K] (es : List (K × α)) (k j : K) (v : α) : getI (putI es k v) j = if j = k then some v else getI es j := by
  unfold putI
  rw [← getI_isSome]
  by_cases h : (getI es k).isSome = true
  · rw [if_pos h, getI_map]
    simp [h]
  · rw [if_neg h, getI_append, getI_cons, getI_nil]
    by_cases h2 : j = k
    · subst h2
      have : getI es j = none := by simpa using h
      simp [this]
    · have : ¬ k = j := fun e => h2 e.symm
      simp [h2, this]
theorem keys_putI {K α : Type} [DecidableEq K] (es : List (K × α)) (k : K) (v : α) : (putI es k v).map (·.1) = if (getI es k).isSome then es.map (·.1) else es.map (·.1) ++ [k] := by
  unfold putI
  rw [← getI_isSome]
  by_cases h : (getI es k).isSome = true
  · rw [if_pos h, if_pos h, List.map_map]
    refine List.map_congr_left fun p _ => ?_
    by_cases e : p.1 = k <;> simp [e]
  · rw [if_neg h, if_neg h]; simp
theorem getI_none_iff {K α : Type} [DecidableEq K] {es : List (K × α)} {k : K} : getI es k = none ↔ k ∉ es.map (·.1) := by
  rw [← Option.not_isSome_iff_eq_none, getI_isSome]
  simp only [List.any_eq_true, decide_eq_true_eq, List.mem_map]
theorem length_putI {K α : Type} [DecidableEq K] (es : List (K × α)) (k : K) (v : α) : (putI es k v).length ≤ es.length + 1 := by
  unfold putI
  split <;> simp

section
variable {C : Cx} {xs : List Str} {gs : List (Str × Value)} {ρ : List (Option V)} {M : MS} {G : Gh} {X : List Addr} {B : Base} {s : Shared} {m : Str → Option Value}
theorem J1_key {i : Int} {v : V} (hv : v = .int i) {w : World} {B : Base} {c : Value} (r : Rep w B v c) : (intKind PG w).is i c = true := by
  subst hv
  cases r with
  | int _ t => exact (by simp [Value.isInt] : Value.isInt i (.int i t) = true)
theorem J1_keyS {i : Str} {v : V} (hv : v = .str i) {w : World} {B : Base} {c : Value} (r : Rep w B v c) : (PySem.strKind PG w).is i c = true := by
  subst hv
  cases r with
  | str _ t => exact (by simp [Value.isStrOf] : Value.isStrOf i (.str i t) = true)

theorem valueAt_I {w : World} {B : Base} : ∀ {es : List (Int × V)} {kvs : List (Int × Value)}, RepI w B es kvs → ∀ (k : Int),
    (∀ v, getI es k = some v → ∃ cv, valueAt kvs k = some cv ∧ Rep w B v cv) ∧ (getI es k = none → valueAt kvs k = none)
  | _, _, .nil, k => ⟨fun v h => by simp [getI_nil] at h, fun _ => rfl⟩
  | _, _, .cons (k := k') (x := x) (v := c) (l := l) (vs := vs) r rs, k => by
    have ih := valueAt_I rs k
    have e : valueAt ((k', c) :: vs) k = if k' = k then some c else valueAt vs k := by
      unfold valueAt
      rw [List.find?_cons]
      by_cases h : k' = k <;> simp [h]
    rw [e]
    constructor
    · intro v h
      rw [getI_cons] at h
      by_cases hk : k' = k
      · simp only [hk, if_true] at h ⊢
        cases h
        exact ⟨c, rfl, r⟩
      · simp only [hk, if_false] at h ⊢
        exact ih.1 v h
    · intro h
      rw [getI_cons] at h
      by_cases hk : k' = k
      · simp only [hk, if_true] at h; cases h
      · simp only [hk, if_false] at h ⊢
        exact ih.2 h
theorem any_I {w : World} {B : Base} (k : Int) : ∀ {es : List (Int × V)} {kvs : List (Int × Value)}, RepI w B es kvs → (kvs.any fun p => decide (p.1 = k)) = es.any fun p => decide (p.1 = k)
  | _, _, .nil => rfl
  | _, _, .cons _ rs => by rw [List.any_cons, List.any_cons, any_I k rs]
theorem RepI.append {w : World} {B : Base} : ∀ {x y : List (Int × V)} {v u : List (Int × Value)}, RepI w B x v → RepI w B y u → RepI w B (x ++ y) (v ++ u)
  | _, _, _, _, .nil, h => h
  | _, _, _, _, .cons a b, h => .cons a (b.append h)
theorem mapput_I {w : World} {B : Base} (k : Int) {v : V} {cv : Value} (r : Rep w B v cv) : ∀ {es : List (Int × V)} {kvs : List (Int × Value)}, RepI w B es kvs → RepI w B (es.map fun p => if p.1 = k then (p.1, v) else p) (kvs.map fun p => if p.1 = k then (p.1, cv) else p)
  | _, _, .nil => .nil
  | _, _, .cons (k := k') a b => by
    rw [List.map_cons, List.map_cons]
    by_cases h : k' = k
    · simp only [h, if_true]; exact .cons r (mapput_I k r b)
    · simp only [h, if_false]; exact .cons a (mapput_I k r b)
theorem stored_I {w : World} {B : Base} {es : List (Int × V)} {kvs : List (Int × Value)} (h : RepI w B es kvs) (k : Int) {v : V} {cv : Value} (r : Rep w B v cv) : RepI w B (putI es k v) (stored kvs k cv) := by
  unfold putI stored
  rw [any_I k h]
  by_cases e : (es.any fun p => decide (p.1 = k)) = true
  · rw [if_pos e, if_pos e]; exact mapput_I k r h
  · rw [if_neg e, if_neg e]; exact h.append (.cons r .nil)

/-- k in d -/
theorem J_inDI {x v : V} {k : Int} {es : List (Int × V)} (hx : x = .int k) (hd : DIVal M v es) {Q : V → MS → Prop} (h : Q (.bool (getI es k).isSome) M) : J2 C xs gs ρ M x v (fun x y => compareOp .In x y) Q :=
  fun hC G X B s m S ca cb ra rb Qc E kk => by
    obtain ⟨a, kvs, rfl, h2, hdo, hr⟩ := S.dival hd rb
    refine wpAny_in_of (J1_key hx ra) (not_sys h2) hdo.mapOf ?_
    have e : (valueAt kvs k).isSome = (getI es k).isSome := by
      cases hg : getI es k with
      | none => rw [(valueAt_I hr k).2 hg]; rfl
      | some v => obtain ⟨cv, h1, _⟩ := (valueAt_I hr k).1 v hg; rw [h1]; rfl
    rw [e]
    exact kk _ M X B _ m _ (Le.refl _) (S.tok _) (.bool _) h
theorem J_notInDI {x v : V} {k : Int} {es : List (Int × V)} (hx : x = .int k) (hd : DIVal M v es) {Q : V → MS → Prop} (h : Q (.bool (!(getI es k).isSome)) M) : J2 C xs gs ρ M x v (fun x y => compareOp .NotIn x y) Q :=
  fun hC G X B s m S ca cb ra rb Qc E kk => by
    obtain ⟨a, kvs, rfl, h2, hdo, hr⟩ := S.dival hd rb
    refine wpAny_notIn_of (J1_key hx ra) (not_sys h2) hdo.mapOf ?_
    have e : (valueAt kvs k).isSome = (getI es k).isSome := by
      cases hg : getI es k with
      | none => rw [(valueAt_I hr k).2 hg]; rfl
      | some v => obtain ⟨cv, h1, _⟩ := (valueAt_I hr k).1 v hg; rw [h1]; rfl
    rw [e]
    exact kk _ M X B _ m _ (Le.refl _) (S.tok _) (.bool _) h
/-- d[k] -/
theorem JSub_dI {ov x : V} {es : List (Int × V)} {k : Int} {v : V} {slice : Expr} (hd : DIVal M ov es) (hx : x = .int k) (hv : getI es k = some v) {Q : V → MS → Prop} (h : Q v M) : JSub C xs gs ρ M ov x slice Q :=
  fun hC G X B s m S co ci ro ri Qc E kk => by
    obtain ⟨a, kvs, rfl, h2, hdo, hr⟩ := S.dival hd ro
    obtain ⟨cv, hcv, rv⟩ := (valueAt_I hr k).1 v hv
    exact ⟨"dict", _, slot_dict_getitem.lookup, hdo.typeIs, wpAny_getItem_of (J1_key hx ri) hdo.mapOf hcv (kk v M X B _ m cv (Le.refl _) (S.tok _) rv h)⟩
/-- d[k] = v -/
theorem J3_dI {a : Addr} {x v : V} {es : List (Int × V)} {k : Int} {M' : MS} (hu : MUpd M a (.dictI es) (.dictI (putI es k v)) M') (hx : x = .int k) (hl : es.length ≤ 1000) {Q : MS → Prop} (h : Q M') :
    J3 C xs gs ρ M (.mut a) x v (fun a b c => setItem a b c) Q :=
  fun hC G X B s m S ca cb cc ra rb rc Qc E kk => by
    cases ra
    obtain ⟨Ma, Mb, rfl, rfl⟩ := hu.split
    obtain ⟨Y, r⟩ := S.getM
    cases r with
    | dictI h2 ho hd hr =>
      have hdo := dictOf_of ho hd
      refine wpAny_setItem_pairs (J1_key hx rb) hdo (fun h' hdo' hs' => ?_) (by rw [hr.length, sizeLine_eq]; omega)
      obtain ⟨o', ho', hd'⟩ := Heap.dictOf_iff.mp hdo'
      exact kk _ X B _ m (Le.refl _) (S.setM (by trivial) _ (fun b o hb e => hs'.extBut b o hb e) (.dictI h2 ho' hd' (stored_I hr k rc))) h
/-- d.get(k, v) -/
theorem JM_getDI {ov : V} {es : List (Int × V)} {pos : Pos} {e1 e2 : Expr} {Q : V → MS → Prop} (hd : DIVal M ov es)
    (h : JE C xs gs ρ M (eval e1 C.env) fun x M1 => M1 = M ∧ ∃ k : Int, x = .int k ∧ JE C xs gs ρ M1 (eval e2 C.env) fun v M2 => M2 = M ∧ Q ((getI es k).getD v) M2) : JM C xs gs ρ M ov "get" pos [(false, eval e1 C.env), (false, eval e2 C.env)] Q :=
  fun hC G X B s m S co ro Qc E kk => by
    obtain ⟨a, kvs, rfl, h2, hdo, hr⟩ := S.dival hd ro
    refine ⟨"dict", "dict.get", F.plainAttrs_dict, F.slot_dict_get, F.type_dict_get, hdo.typeIs, hdo.mapOf.noDict, ?_⟩
    refine wpAny_dict_get2 (knd := intKind PG C.w) (not_sys h2) (h hC G X B s m S _ _ fun x M1 X1 B1 s1 m1 cx l1 S1 rx q1 => ?_)
    obtain ⟨rfl, k, hx, q1⟩ := q1
    refine q1 hC G X1 B1 s1 m1 S1 _ _ fun v M2 X2 B2 s2 m2 cv l2 S2 rv q2 => ?_
    obtain ⟨rfl, q2⟩ := q2
    obtain ⟨a', kvs', e', h2', hdo', hr'⟩ := S2.dival hd ((ro.mono l1).mono l2)
    cases e'
    refine ⟨k, _, J1_key hx rx, hdo'.mapOf, ?_⟩
    cases hg : getI es k with
    | none =>
      rw [(valueAt_I hr' k).2 hg]
      rw [hg] at q2
      exact kk _ M2 X2 B2 _ m2 _ (l1.trans l2) (S2.tok _) rv q2
    | some u =>
      obtain ⟨cu, h1, ru⟩ := (valueAt_I hr' k).1 u hg
      rw [h1]
      rw [hg] at q2
      exact kk _ M2 X2 B2 _ m2 _ (l1.trans l2) (S2.tok _) ru q2

theorem valueAt_S {w : World} {B : Base} : ∀ {es : List (Str × V)} {kvs : List (Str × Value)}, RepS w B es kvs → ∀ (k : Str),
    (∀ v, getI es k = some v → ∃ cv, valueAt kvs k = some cv ∧ Rep w B v cv) ∧ (getI es k = none → valueAt kvs k = none)
  | _, _, .nil, k => ⟨fun v h => by simp [getI_nil] at h, fun _ => rfl⟩
  | _, _, .cons (k := k') (x := x) (v := c) (l := l) (vs := vs) r rs, k => by
    have ih := valueAt_S rs k
    have e : valueAt ((k', c) :: vs) k = if k' = k then some c else valueAt vs k := by
      unfold valueAt
      rw [List.find?_cons]
      by_cases h : k' = k <;> simp [h]
    rw [e]
    constructor
    · intro v h
      rw [getI_cons] at h
      by_cases hk : k' = k
      · simp only [hk, if_true] at h ⊢
        cases h
        exact ⟨c, rfl, r⟩
      · simp only [hk, if_false] at h ⊢
        exact ih.1 v h
    · intro h
      rw [getI_cons] at h
      by_cases hk : k' = k
      · simp only [hk, if_true] at h; cases h
      · simp only [hk, if_false] at h ⊢
        exact ih.2 h
theorem any_S {w : World} {B : Base} (k : Str) : ∀ {es : List (Str × V)} {kvs : List (Str × Value)}, RepS w B es kvs → (kvs.any fun p => decide (p.1 = k)) = es.any fun p => decide (p.1 = k)
  | _, _, .nil => rfl
  | _, _, .cons _ rs => by rw [List.any_cons, List.any_cons, any_S k rs]
theorem RepS.append {w : World} {B : Base} : ∀ {x y : List (Str × V)} {v u : List (Str × Value)}, RepS w B x v → RepS w B y u → RepS w B (x ++ y) (v ++ u)
  | _, _, _, _, .nil, h => h
  | _, _, _, _, .cons a b, h => .cons a (b.append h)
theorem mapput_S {w : World} {B : Base} (k : Str) {v : V} {cv : Value} (r : Rep w B v cv) : ∀ {es : List (Str × V)} {kvs : List (Str × Value)}, RepS w B es kvs → RepS w B (es.map fun p => if p.1 = k then (p.1, v) else p) (kvs.map fun p => if p.1 = k then (p.1, cv) else p)
  | _, _, .nil => .nil
  | _, _, .cons (k := k') a b => by
    rw [List.map_cons, List.map_cons]
    by_cases h : k' = k
    · simp only [h, if_true]; exact .cons r (mapput_S k r b)
    · simp only [h, if_false]; exact .cons a (mapput_S k r b)
theorem stored_S {w : World} {B : Base} {es : List (Str × V)} {kvs : List (Str × Value)} (h : RepS w B es kvs) (k : Str) {v : V} {cv : Value} (r : Rep w B v cv) : RepS w B (putI es k v) (stored kvs k cv) := by
  unfold putI stored
  rw [any_S k h]
  by_cases e : (es.any fun p => decide (p.1 = k)) = true
  · rw [if_pos e, if_pos e]; exact mapput_S k r h
  · rw [if_neg e, if_neg e]; exact h.append (.cons r .nil)

/-- k in d -/
theorem J_inDS {x v : V} {k : Str} {es : List (Str × V)} (hx : x = .str k) (hd : DSVal M v es) {Q : V → MS → Prop} (h : Q (.bool (getI es k).isSome) M) : J2 C xs gs ρ M x v (fun x y => compareOp .In x y) Q :=
  fun hC G X B s m S ca cb ra rb Qc E kk => by
    obtain ⟨a, kvs, rfl, h2, hdo, hr⟩ := S.dsval hd rb
    refine wpAny_in_of (J1_keyS hx ra) (not_sys h2) hdo.mapOf ?_
    have e : (valueAt kvs k).isSome = (getI es k).isSome := by
      cases hg : getI es k with
      | none => rw [(valueAt_S hr k).2 hg]; rfl
      | some v => obtain ⟨cv, h1, _⟩ := (valueAt_S hr k).1 v hg; rw [h1]; rfl
    rw [e]
    exact kk _ M X B _ m _ (Le.refl _) (S.tok _) (.bool _) h
theorem J_notInDS {x v : V} {k : Str} {es : List (Str × V)} (hx : x = .str k) (hd : DSVal M v es) {Q : V → MS → Prop} (h : Q (.bool (!(getI es k).isSome)) M) : J2 C xs gs ρ M x v (fun x y => compareOp .NotIn x y) Q :=
  fun hC G X B s m S ca cb ra rb Qc E kk => by
    obtain ⟨a, kvs, rfl, h2, hdo, hr⟩ := S.dsval hd rb
    refine wpAny_notIn_of (J1_keyS hx ra) (not_sys h2) hdo.mapOf ?_
    have e : (valueAt kvs k).isSome = (getI es k).isSome := by
      cases hg : getI es k with
      | none => rw [(valueAt_S hr k).2 hg]; rfl
      | some v => obtain ⟨cv, h1, _⟩ := (valueAt_S hr k).1 v hg; rw [h1]; rfl
    rw [e]
    exact kk _ M X B _ m _ (Le.refl _) (S.tok _) (.bool _) h
/-- d[k] -/
theorem JSub_dS {ov x : V} {es : List (Str × V)} {k : Str} {v : V} {slice : Expr} (hd : DSVal M ov es) (hx : x = .str k) (hv : getI es k = some v) {Q : V → MS → Prop} (h : Q v M) : JSub C xs gs ρ M ov x slice Q :=
  fun hC G X B s m S co ci ro ri Qc E kk => by
    obtain ⟨a, kvs, rfl, h2, hdo, hr⟩ := S.dsval hd ro
    obtain ⟨cv, hcv, rv⟩ := (valueAt_S hr k).1 v hv
    exact ⟨"dict", _, slot_dict_getitem.lookup, hdo.typeIs, wpAny_getItem_of (J1_keyS hx ri) hdo.mapOf hcv (kk v M X B _ m cv (Le.refl _) (S.tok _) rv h)⟩
/-- d[k] = v -/
theorem J3_dS {a : Addr} {x v : V} {es : List (Str × V)} {k : Str} {M' : MS} (hu : MUpd M a (.dictS es) (.dictS (putI es k v)) M') (hx : x = .str k) (hl : es.length ≤ 1000) {Q : MS → Prop} (h : Q M') :
    J3 C xs gs ρ M (.mut a) x v (fun a b c => setItem a b c) Q :=
  fun hC G X B s m S ca cb cc ra rb rc Qc E kk => by
    cases ra
    obtain ⟨Ma, Mb, rfl, rfl⟩ := hu.split
    obtain ⟨Y, r⟩ := S.getM
    cases r with
    | dictS h2 ho hd hr =>
      have hdo := dictOf_of ho hd
      refine wpAny_setItem_pairs (J1_keyS hx rb) hdo (fun h' hdo' hs' => ?_) (by rw [hr.length, sizeLine_eq]; omega)
      obtain ⟨o', ho', hd'⟩ := Heap.dictOf_iff.mp hdo'
      exact kk _ X B _ m (Le.refl _) (S.setM (by trivial) _ (fun b o hb e => hs'.extBut b o hb e) (.dictS h2 ho' hd' (stored_S hr k rc))) h
/-- d.get(k, v) -/
theorem JM_getDS {ov : V} {es : List (Str × V)} {pos : Pos} {e1 e2 : Expr} {Q : V → MS → Prop} (hd : DSVal M ov es)
    (h : JE C xs gs ρ M (eval e1 C.env) fun x M1 => M1 = M ∧ ∃ k : Str, x = .str k ∧ JE C xs gs ρ M1 (eval e2 C.env) fun v M2 => M2 = M ∧ Q ((getI es k).getD v) M2) : JM C xs gs ρ M ov "get" pos [(false, eval e1 C.env), (false, eval e2 C.env)] Q :=
  fun hC G X B s m S co ro Qc E kk => by
    obtain ⟨a, kvs, rfl, h2, hdo, hr⟩ := S.dsval hd ro
    refine ⟨"dict", "dict.get", F.plainAttrs_dict, F.slot_dict_get, F.type_dict_get, hdo.typeIs, hdo.mapOf.noDict, ?_⟩
    refine wpAny_dict_get2 (knd := PySem.strKind PG C.w) (not_sys h2) (h hC G X B s m S _ _ fun x M1 X1 B1 s1 m1 cx l1 S1 rx q1 => ?_)
    obtain ⟨rfl, k, hx, q1⟩ := q1
    refine q1 hC G X1 B1 s1 m1 S1 _ _ fun v M2 X2 B2 s2 m2 cv l2 S2 rv q2 => ?_
    obtain ⟨rfl, q2⟩ := q2
    obtain ⟨a', kvs', e', h2', hdo', hr'⟩ := S2.dsval hd ((ro.mono l1).mono l2)
    cases e'
    refine ⟨k, _, J1_keyS hx rx, hdo'.mapOf, ?_⟩
    cases hg : getI es k with
    | none =>
      rw [(valueAt_S hr' k).2 hg]
      rw [hg] at q2
      exact kk _ M2 X2 B2 _ m2 _ (l1.trans l2) (S2.tok _) rv q2
    | some u =>
      obtain ⟨cu, h1, ru⟩ := (valueAt_S hr' k).1 u hg
      rw [h1]
      rw [hg] at q2
      exact kk _ M2 X2 B2 _ m2 _ (l1.trans l2) (S2.tok _) ru q2

end
end Mine

namespace Mine
open PySem PySem.W PySem.Calls PyProof.Rows

theorem dictSetDefault_pairs {K : Type} [DecidableEq K] {w : World} {knd : KeyKind PG w K} {A : Around} {E : Post} {s : Shared} {d : Addr} {kvs : List (K × Value)} {k : K} {key dflt : Value} {Q : Value → Shared → Prop} (hkey : knd.is k key = true) (hm : s.heap.DictOf knd d kvs)
    (hthere : ∀ v, valueAt kvs k = some v → Q v { s with toks := s.toks + 1 })
    (hnew : valueAt kvs k = none → ∀ h', h'.DictOf knd d (kvs ++ [(k, dflt)]) → Heap.SameBut d s.heap h' → Q dflt { s with heap := h', toks := s.toks + 1 })
    (hsz : kvs.length ≤ 1000) : wpAny (model PG w) A (dictSetDefault d key dflt) Q E s := by
  obtain ⟨o, es, ep, ho, hc, hd, hk, hp, hn⟩ := id hm
  have hes : es.size ≤ sizeLine := by
    have e1 := hp.length
    have e2 : es.toList.length = es.size := by simp
    rw [sizeLine_eq]; omega
  unfold dictSetDefault
  try with_reducible refine wpAny_holding ?_
  refine wpAny_bind (knd.pyHash hkey ?_)
  refine wpAny_bind (wpAny_dictFind_of (s := { s with toks := s.toks + 1 }) hkey ho hd hk ?_)
  cases hi : es.findIdx? fun e => knd.is k e.key with
  | some i =>
    have hl : (es.toList.findIdx? fun e => knd.is k e.key) = some i := by rw [← hi]; obtain ⟨l⟩ := es; simp
    obtain ⟨e, he, hek, hev⟩ := hp.at hl
    have he' : es[i]? = some e := by rw [← he]; obtain ⟨l⟩ := es; simp
    refine wpAny_bind (wpAny_dictEntries (s := { s with toks := s.toks + 1 }) ho hd ?_)
    rw [he']
    exact wpAny_bind (wpAny_rule (wpAny_pure (hthere e.val hev)))
  | none =>
    have hv : valueAt kvs k = none := by
      rw [← hp.find k]
      have : (es.toList.find? fun e => knd.is k e.key) = none := by
        rw [List.find?_eq_none]
        intro e he
        have := Array.findIdx?_eq_none_iff.mp hi e (Array.mem_toList_iff.mp he)
        simpa using this
      rw [this]; rfl
    have hnot : k ∉ kvs.map (·.1) := by
      intro hm'
      obtain ⟨p, hp', rfl⟩ := List.mem_map.mp hm'
      have h1 := valueAt_isSome_eq_any kvs p.1
      rw [hv] at h1
      have : (kvs.any fun kv => decide (kv.1 = p.1)) = true := List.any_eq_true.mpr ⟨p, hp', by simp⟩
      rw [this] at h1; cases h1
    refine wpAny_bind (wpAny_rule (wpAny_bind (wpAny_updateDictKeys (hz := hes) (s := { s with toks := s.toks + 1 }) ho hd (wpAny_pure (hnew hv _ ⟨_, _, ep + 1, Heap.get?_update_self _ ho (Obj.isFreed_of_dict (Obj.data_mapDictKeys hd _)),
      hc.mapDictKeys _, Obj.data_mapDictKeys hd _, hk.push hkey _, ?_, ?_⟩ (Heap.SameBut.update ..))))))
    · have := hp.append hkey (knd.hash k) dflt
      obtain ⟨l⟩ := es
      simpa using this
    · rw [List.map_append, List.nodup_append]
      refine ⟨hn, by simp, ?_⟩
      intro a ha b hb
      simp only [List.map_cons, List.map_nil, List.mem_singleton] at hb
      subst hb
      exact fun e => hnot (e ▸ ha)

theorem callWith_setdefault {w : World} {A : Around} {E : Post} {s : Shared} {d : Addr} {pos : Pos} {x y : Sem Value} {Q : Value → Shared → Prop} (hd : (d == sysModules) = false)
    (h : wpAny (model PG w) A x (fun key s₁ => wpAny (model PG w) A y (fun dflt s₂ => ∃ k kvs, (intKind PG w).is k key = true ∧ s₂.heap.DictOf (intKind PG w) d kvs ∧ kvs.length ≤ 1000 ∧
      (∀ v, valueAt kvs k = some v → Q v { s₂ with toks := s₂.toks + 1 }) ∧
      (valueAt kvs k = none → ∀ h', h'.DictOf (intKind PG w) d (kvs ++ [(k, dflt)]) → Heap.SameBut d s₂.heap h' → Q dflt { s₂ with heap := h', toks := s₂.toks + 1 })) E s₁) E s) :
    wpAny (model PG w) A (callWith pos (.builtin "dict.setdefault") [.ref d] [(false, x), (false, y)] []) Q E s := by
  have meets : ∀ (k : Int) (key dflt : Value) (kvs : List (Int × Value)), (intKind PG w).is k key = true → kvs.length ≤ 1000 →
      MeetsIn PG w (Builtin.«dict.setdefault» ⟨[.ref d, key, dflt], []⟩) (fun _ R s => s.heap.DictOf (intKind PG w) d kvs ∧
        (∀ v, valueAt kvs k = some v → R (.ok (.ret v)) { s with toks := s.toks + 1 }) ∧
        (valueAt kvs k = none → ∀ h', h'.DictOf (intKind PG w) d (kvs ++ [(k, dflt)]) → Heap.SameBut d s.heap h' → R (.ok (.ret dflt)) { s with heap := h', toks := s.toks + 1 })) := fun k key dflt kvs hkey hsz =>
    .of_wp fun A R s ⟨hm, h1, h2⟩ => by
      unfold Builtin.«dict.setdefault»
      refine wpAny_bind ?_
      unfold Builtin.Dict.keyAndDefault
      refine wpAny_bind (wpAny_notOrdered_dict hm.typeIs ?_)
      show wpAny _ _ (pure (d, key, some dflt)) _ _ s
      refine wpAny_pure ?_
      show wpAny _ _ (if (d == sysModules) = true then _ else (dictSetDefault d key dflt >>= _)) _ _ s
      rw [if_neg (by rw [hd]; exact Bool.false_ne_true)]
      exact wpAny_bind (dictSetDefault_pairs hkey hm (fun v hv => wpAny_pure ⟨v, rfl, h1 v hv⟩) (fun hn h' hm' hs' => wpAny_pure ⟨dflt, rfl, h2 hn h' hm' hs'⟩) hsz)
  exact method2_meetsIn F.slot_dict_setdefault F.entry_dict_setdefault (wpAny_mono h (fun key _ h₁ => wpAny_mono h₁ (fun dflt _ h₂ => by
    obtain ⟨k, kvs, hkey, hm, hsz, q1, q2⟩ := h₂
    exact ⟨hm.typeIs, F.args_dict_setdefault_3 _ _ _, _, meets k key dflt kvs hkey hsz, hm, q1, q2⟩) fun _ _ e => e) fun _ _ e => e)

section
variable {w : World} {B : Base} {h h' : Heap}
theorem MRepL.length : ∀ {es : List (Int × List V)} {kvs : List (Int × Value)} {X : List Addr}, MRepL w B h es kvs X → kvs.length = es.length
  | _, _, _, .nil => rfl
  | _, _, _, .cons _ _ r => by rw [List.length_cons, List.length_cons, r.length]
theorem valueAt_cons (k' k : Int) (c : Value) (vs : List (Int × Value)) : valueAt ((k', c) :: vs) k = if k' = k then some c else valueAt vs k := by
  unfold valueAt
  rw [List.find?_cons]
  by_cases h : k' = k <;> simp [h]
theorem MRepL.none : ∀ {es : List (Int × List V)} {kvs : List (Int × Value)} {X : List Addr}, MRepL w B h es kvs X → ∀ {k : Int}, (getI es k = .none ↔ valueAt kvs k = .none)
  | _, _, _, .nil, k => ⟨fun _ => rfl, fun _ => rfl⟩
  | _, _, _, .cons (k := k') _ _ r, k => by
    rw [getI_cons, valueAt_cons]
    by_cases e : k' = k
    · simp [e]
    · simp only [if_neg e]; exact r.none
theorem MRepL.put_same : ∀ {es : List (Int × List V)} {kvs : List (Int × Value)} {X : List Addr}, MRepL w B h es kvs X → ∀ {k : Int} {c : Value}, valueAt kvs k = some c → X.Nodup → (kvs.map (·.1)).Nodup → ∃ l b vs n, getI es k = some l ∧ c = .ref b ∧ b ∈ X ∧ h.get? b = some (lisO vs n) ∧ Reps w B l vs ∧
      ∀ (l' : List V) (vs' : List Value) (n' : Nat) (h' : Heap), h'.get? b = some (lisO vs' n') → Reps w B l' vs' → (∀ a ∈ X, a ≠ b → ∀ o, h.get? a = some o → h'.get? a = some o) → MRepL w B h' (putI es k l') kvs X
  | _, _, _, .nil, k, c, hv, _, _ => by cases hv
  | _, _, _, .cons (k := k') (l := l) (b := b) (vs := vs) (n := n) (es := es) (kvs := kvs) (X := X) ho hr rest, k, c, hv, hnd, hkn => by
    rw [valueAt_cons] at hv
    rw [List.nodup_cons] at hnd
    rw [List.map_cons, List.nodup_cons] at hkn
    by_cases e : k' = k
    · subst e
      rw [if_pos rfl] at hv
      cases hv
      refine ⟨l, b, vs, n, by rw [getI_cons, if_pos rfl], rfl, .head _, ho, hr, fun l' vs' n' h' ho' hr' hk => ?_⟩
      have hkeys : rest.length = rest.length := rfl
      have hnone : getI es k' = .none := by
        rw [rest.none]
        have h1 := valueAt_isSome_eq_any kvs k'
        cases hh : valueAt kvs k' with
        | none => rfl
        | some v =>
          rw [hh] at h1
          obtain ⟨p, hp, he⟩ := List.any_eq_true.mp h1.symm
          exact absurd (List.mem_map.mpr ⟨p, hp, of_decide_eq_true he⟩) hkn.1
      have hmap : es.map (fun p => if p.1 = k' then (p.1, l') else p) = es := by
        conv => rhs; rw [← List.map_id es]
        refine List.map_congr_left fun p hp => ?_
        have : p.1 ≠ k' := fun e => (getI_none_iff.mp hnone) (List.mem_map.mpr ⟨p, hp, e⟩)
        simp [this]
      have : putI ((k', l) :: es) k' l' = (k', l') :: es := by
        unfold putI
        simp only [List.any_cons, decide_true, Bool.true_or, if_true, List.map_cons, hmap]
      rw [this]
      exact .cons ho' hr' (rest.mono (Le.refl B) fun a ha o e' => hk a (.tail _ ha) (fun h => hnd.1 (h ▸ ha)) o e')
    · rw [if_neg e] at hv
      obtain ⟨l2, b2, vs2, n2, h1, h2, h3, h4, h5, h6⟩ := rest.put_same hv hnd.2 hkn.2
      refine ⟨l2, b2, vs2, n2, by rw [getI_cons, if_neg e]; exact h1, h2, .tail _ h3, h4, h5, fun l' vs' n' h' ho' hr' hk => ?_⟩
      have : putI ((k', l) :: es) k l' = (k', l) :: putI es k l' := by
        unfold putI
        simp only [List.any_cons, e, decide_false, Bool.false_or, List.map_cons, if_false]
        split <;> rfl
      rw [this]
      have hne : b ≠ b2 := fun h => hnd.1 (h ▸ h3)
      exact .cons (hk b (.head _) hne _ ho) hr (h6 l' vs' n' h' ho' hr' fun a ha hab o e' => hk a (.tail _ ha) hab o e')
theorem MRepL.append_new {k : Int} {c : Addr} (hc : h.get? c = some (lisO [] 0)) : ∀ {es : List (Int × List V)} {kvs : List (Int × Value)} {X : List Addr}, MRepL w B h es kvs X → MRepL w B h (es ++ [(k, [])]) (kvs ++ [(k, .ref c)]) (X ++ [c])
  | _, _, _, .nil => .cons hc .nil .nil
  | _, _, _, .cons ho hr rest => .cons ho hr (rest.append_new hc)
theorem putI_absent {K α : Type} [DecidableEq K] {es : List (K × α)} {k : K} (h : getI es k = .none) (v : α) : putI es k v = es ++ [(k, v)] := by
  unfold putI
  rw [← getI_isSome, h]; rfl
end
section
variable {C : Cx} {xs : List Str} {gs : List (Str × Value)} {ρ : List (Option V)} {M : MS} {G : Gh} {X : List Addr} {B : Base} {s : Shared} {m : Str → Option Value}

theorem St.dlistMove {M1 M2 : MS} {d : Addr} {es es' : List (Int × List V)} {X1 Xl X2 Xl' : List Addr} (S : St C xs G ρ (M1 ++ (d, .dlist es) :: M2) (X1 ++ ((d :: Xl) ++ X2)) B s m)
    (m1 : MReps C.w B s.heap M1 X1) (m2 : MReps C.w B s.heap M2 X2) (h2 : 2 ≤ d) {h' : Heap} {tk : Nat} {o' : Obj} {kvs' : List (Int × Value)} (ho' : h'.get? d = some o') (hd' : o'.IsDictOf (intKind PG C.w) kvs') (hl' : MRepL C.w B h' es' kvs' Xl')
    (hX : ∀ a ∈ Xl', a ∈ Xl ∨ s.heap.get? a = none) (hnd : Xl'.Nodup) (keep : ∀ b o, b ∉ d :: Xl → s.heap.get? b = some o → h'.get? b = some o) :
    St C xs G ρ (M1 ++ (d, .dlist es') :: M2) (X1 ++ ((d :: Xl') ++ X2)) B { s with heap := h', toks := tk } m := by
  have nd := S.xnodup
  have nd1 := List.nodup_append.mp nd
  have nd2 := List.nodup_append.mp nd1.2.1
  have live := S.mrep.live
  have k1 : ∀ a ∈ X1, ∀ o, s.heap.get? a = some o → h'.get? a = some o := fun a ha o e => keep a o (fun hm => nd1.2.2 a ha a (List.mem_append_left _ hm) rfl) e
  have k2 : ∀ a ∈ X2, ∀ o, s.heap.get? a = some o → h'.get? a = some o := fun a ha o e => keep a o (fun hm => nd2.2.2 a hm a ha rfl) e
  have hdl : d ∉ Xl := (List.nodup_cons.mp nd2.1).1
  have old : ∀ a ∈ Xl', ∀ Y : List Addr, (∀ b ∈ Y, b ∈ X1 ++ ((d :: Xl) ++ X2) ∧ b ∉ Xl) → a ∉ Y := fun a ha Y hY hm => by
    rcases hX a ha with h1 | h1
    · exact (hY a hm).2 h1
    · obtain ⟨o, ho⟩ := live a (hY a hm).1
      rw [ho] at h1; cases h1
  have hdX : d ∈ X1 ++ ((d :: Xl) ++ X2) := List.mem_append_right _ (List.mem_append_left _ (.head _))
  refine S.move (Le.refl B) (fun b o e => keep b o (fun hm => ?_) (S.known _ _ e)) (fun b o hb e => keep b o (fun hm => hb (List.mem_append_right _ (List.mem_append_left _ hm))) e) (fun _ h => .inl h)
    ((m1.mono (Le.refl B) k1).join (.cons (.dlist h2 ho' hd' hl') (m2.mono (Le.refl B) k2))) ?_ (fun a ha => ?_) (fun a ha => ?_)
  · have := S.offX b (List.mem_append_right _ (List.mem_append_left _ hm))
    rw [this] at e; cases e
  · refine List.nodup_append.mpr ⟨nd1.1, List.nodup_append.mpr ⟨List.nodup_cons.mpr ⟨fun hm => ?_, hnd⟩, nd2.2.1, fun a ha b hb e => ?_⟩, fun a ha b hb e => ?_⟩
    · exact old d hm [d] (fun b hb => by rw [List.mem_singleton.mp hb]; exact ⟨hdX, hdl⟩) (.head _)
    · subst e
      rcases List.mem_cons.mp ha with rfl | ha
      · exact nd2.2.2 a (.head _) a hb rfl
      · exact old a ha X2 (fun b hb => ⟨List.mem_append_right _ (List.mem_append_right _ hb), fun hm => nd2.2.2 b (.tail _ hm) b hb rfl⟩) hb
    · subst e
      rcases List.mem_append.mp hb with hb | hb
      · rcases List.mem_cons.mp hb with rfl | hb
        · exact nd1.2.2 a ha a (List.mem_append_left _ (.head _)) rfl
        · exact old a hb X1 (fun b hb => ⟨List.mem_append_left _ hb, fun hm => nd1.2.2 b hb b (List.mem_append_left _ (.tail _ hm)) rfl⟩) ha
      · exact nd1.2.2 a ha a (List.mem_append_right _ hb) rfl
  · rcases List.mem_append.mp ha with ha | ha
    · exact .inl (List.mem_append_left _ ha)
    · rcases List.mem_append.mp ha with ha | ha
      · rcases List.mem_cons.mp ha with rfl | ha
        · exact .inl hdX
        · rcases hX a ha with h1 | h1
          · exact .inl (List.mem_append_right _ (List.mem_append_left _ (.tail _ h1)))
          · exact .inr h1
      · exact .inl (List.mem_append_right _ (List.mem_append_right _ ha))
  · rcases List.mem_append.mp ha with ha | ha
    · exact S.offX a (List.mem_append_left _ ha)
    · rcases List.mem_append.mp ha with ha | ha
      · rcases List.mem_cons.mp ha with rfl | ha
        · exact S.offX _ hdX
        · rcases hX a ha with h1 | h1
          · exact S.offX a (List.mem_append_right _ (List.mem_append_left _ (.tail _ h1)))
          · exact S.offFresh h1
      · exact S.offX a (List.mem_append_right _ (List.mem_append_right _ ha))

/-- d.setdefault(k, []): what it gives, and what is known behind it -/
theorem sd_call (hC : Ok C xs gs) {M1 M2 : MS} {d : Addr} {es : List (Int × List V)} (S : St C xs G ρ (M1 ++ (d, .dlist es) :: M2) X B s m) {x y : Str} {p q lp pos : Pos} {k : Int}
    (gy : GetAt xs y ρ (.int k)) (hlen : es.length ≤ 900) {Qc E : Post}
    (kk : ∀ b h' tk X1 X2 Xl' o' kvs', (∃ Xl, X = X1 ++ ((d :: Xl) ++ X2) ∧ (∀ a ∈ Xl', a ∈ Xl ∨ s.heap.get? a = none) ∧ (∀ b o, b ∉ d :: Xl → s.heap.get? b = some o → h'.get? b = some o)) → MReps C.w B s.heap M1 X1 → MReps C.w B s.heap M2 X2 → 2 ≤ d → h'.get? d = some o' → o'.IsDictOf (intKind PG C.w) kvs' → valueAt kvs' k = some (.ref b) → Xl'.Nodup →
      MRepL C.w B h' (match getI es k with | some _ => es | none => es ++ [(k, [])]) kvs' Xl' → Qc (.ref b) { s with heap := h', toks := tk }) :
    MethodOn PG C.w C.A "setdefault" pos (.ref d) [(false, eval (.Name y q) C.env), (false, eval (.List [] lp) C.env)] Qc E s := by
  obtain ⟨X1, Xd, X2, rfl, m1, md, m2⟩ := S.mrep.split
  cases md with
  | dlist h2 ho hd hr =>
    rename_i o kvs Xl
    have hdo := dictOf_of ho hd
    refine ⟨"dict", "dict.setdefault", F.plainAttrs_dict, F.slot_dict_setdefault, F.type_dict_setdefault, hdo.typeIs, hdo.mapOf.noDict, ?_⟩
    obtain ⟨iy, hy, hvy⟩ := gy.ok
    refine callWith_setdefault (not_sys h2) (wpAny_Name (S.load hC hy hvy fun ck rk => ?_) (beq_eq_false_iff_ne.mpr (hC.xkind y (List.mem_of_getElem? hy)).1))
    refine List_ (spliced_nil (wpAny_newObj_type ?_))
    have hs3 : ∀ b o, s.heap.get? b = some o → (s.heap.push (lisO [] 0)).get? b = some o := fun b o e => Heap.get?_push_of_some _ e
    have hdo3 : (s.heap.push (lisO [] 0)).DictOf (intKind PG C.w) d kvs := hdo.push _
    have hnd := S.xnodup
    have ndd := List.nodup_append.mp (List.nodup_append.mp hnd).2.1
    have hXl : Xl.Nodup := (List.nodup_cons.mp ndd.1).2
    have hkn : (kvs.map (·.1)).Nodup := by obtain ⟨o, es, ep, _, _, _, _, _, hn⟩ := hdo; exact hn
    refine ⟨k, kvs, J1_key rfl rk, hdo3, by rw [hr.length]; omega, fun v hv => ?_, fun hv h' hd' hs' => ?_⟩
    · obtain ⟨l, b, vs, n, hg, rfl, hb, hob, hrl, hput⟩ := hr.put_same hv hXl hkn
      refine kk b _ _ X1 X2 Xl o kvs ⟨Xl, rfl, fun a ha => .inl ha, fun b o _ e => hs3 b o e⟩ m1 m2 h2 (hs3 _ _ ho) hd hv hXl ?_
      rw [hg]
      exact hr.mono (Le.refl B) fun a _ o e => hs3 a o e
    · have hg := hr.none.mpr hv
      have hcd : s.heap.objs.size ≠ d := fun e => by rw [← e] at ho; exact absurd (Heap.lt_size ho) (Nat.lt_irrefl _)
      obtain ⟨o', ho', hd''⟩ := Heap.dictOf_iff.mp hd'
      have hcX : s.heap.objs.size ∉ Xl := fun hm => by
        obtain ⟨o, ho⟩ := S.mrep.live _ (List.mem_append_right X1 (List.mem_append_left X2 (List.mem_cons_of_mem d hm)))
        exact absurd (Heap.lt_size ho) (Nat.lt_irrefl _)
      refine kk s.heap.objs.size h' _ X1 X2 (Xl ++ [s.heap.objs.size]) o' _ ⟨Xl, rfl, fun a ha => ?_, fun b o hb e => hs'.extBut b o (fun e' => hb (e' ▸ .head _)) (hs3 b o e)⟩ m1 m2 h2 ho' hd'' ?_ ?_ ?_
      · rcases List.mem_append.mp ha with ha | ha
        · exact .inl ha
        · right; rw [List.mem_singleton.mp ha]; exact fresh_size _
      · have h1 : (valueAt kvs k).isSome = false := by rw [hv]; rfl
        unfold valueAt at hv ⊢
        rw [List.find?_append]
        have h3 : (kvs.find? fun kv => decide (kv.1 = k)) = none := by simpa using hv
        rw [h3]; simp
      · refine List.nodup_append.mpr ⟨hXl, by simp, fun a ha b hb e => ?_⟩
        rw [List.mem_singleton.mp hb] at e; exact hcX (e ▸ ha)
      · rw [hg]
        refine MRepL.append_new ?_ (hr.mono (Le.refl B) fun a ha o e => hs'.extBut a o (fun e' => (List.nodup_cons.mp ndd.1).1 (e' ▸ ha)) (hs3 a o e))
        exact hs'.extBut _ _ hcd (Heap.get?_push_size _ rfl)

/-- d.setdefault(k, []) alone -/
theorem JS_sd {d : Addr} {es : List (Int × List V)} {M' : MS} {x y : Str} {p q lp apos cpos pos : Pos} {k : Int} {Q : Fl → List (Option V) → MS → Prop}
    (hu : MUpd M d (.dlist es) (.dlist (match getI es k with | some _ => es | none => es ++ [(k, [])])) M') (hlen : es.length ≤ 900) (h : Q .next ρ M')
    (gx : GetAt xs x ρ (.mut d) := by with_reducible repeat (first | exact GetAt.head | apply GetAt.tail)) (gy : GetAt xs y ρ (.int k) := by with_reducible repeat (first | exact GetAt.head | apply GetAt.tail))
    (hbase : attributeBase (.Name x p) "setdefault" C.env (eval (.Name x p) C.env) = eval (.Name x p) C.env := by rfl) (hline : (apos.endLine == cpos.line) = true := by rfl)
    (htrees : backTo cpos (starEach [.Name y q, .List [] lp] C.env) = [(false, eval (.Name y q) C.env), (false, eval (.List [] lp) C.env)] := by rfl)
    (hs : swapsWith (.Call (.Attribute (.Name x p) "setdefault" apos) [.Name y q, .List [] lp] [] cpos) none pos.line C.env = pure false := by rfl) :
    JS C xs gs ρ M (exec (.Expr (.Call (.Attribute (.Name x p) "setdefault" apos) [.Name y q, .List [] lp] [] cpos) pos) C.env) Q :=
  fun hC G X B s m S Qc E kf => by
    obtain ⟨Ma, Mb, rfl, rfl⟩ := hu.split
    obtain ⟨ix, hx, hvx⟩ := gx.ok
    refine wpAny_Expr_any ?_ (not_interactive hC) hs
    refine wpAny_Call_method2_late hbase hline htrees (wpAny_Name (S.load hC hx hvx fun cd rd => ?_) (beq_eq_false_iff_ne.mpr (hC.xkind x (List.mem_of_getElem? hx)).1))
    cases rd
    refine sd_call hC S (x := x) (p := p) gy hlen fun b h' tk X1 X2 Xl' o' kvs' hXl m1 m2 h2 ho' hd' hv hnd hl' => ?_
    obtain ⟨Xl, rfl, hX, keep⟩ := hXl
    exact kf .next ρ _ _ B _ m .next (Le.refl _) (S.dlistMove m1 m2 h2 ho' hd' hl' hX hnd keep) .next h

/-- d.setdefault(k, []).append(v) -/
theorem JS_sdAppend {d : Addr} {es : List (Int × List V)} {M' : MS} {x y z : Str} {p q r lp apos bpos cpos dpos pos : Pos} {k : Int} {v : V} {Q : Fl → List (Option V) → MS → Prop}
    (hu : MUpd M d (.dlist es) (.dlist (putI es k ((getI es k).getD [] ++ [v]))) M') (hlen : es.length ≤ 900) (hlen2 : ((getI es k).getD []).length ≤ 900) (h : Q .next ρ M')
    (gx : GetAt xs x ρ (.mut d) := by with_reducible repeat (first | exact GetAt.head | apply GetAt.tail)) (gy : GetAt xs y ρ (.int k) := by with_reducible repeat (first | exact GetAt.head | apply GetAt.tail)) (gz : GetAt xs z ρ v := by with_reducible repeat (first | exact GetAt.head | apply GetAt.tail))
    (hbase : attributeBase (.Name x p) "setdefault" C.env (eval (.Name x p) C.env) = eval (.Name x p) C.env := by rfl) (hline : (apos.endLine == cpos.line) = true := by rfl)
    (htrees : backTo cpos (starEach [.Name y q, .List [] lp] C.env) = [(false, eval (.Name y q) C.env), (false, eval (.List [] lp) C.env)] := by rfl)
    (hbase2 : attributeBase (.Call (.Attribute (.Name x p) "setdefault" apos) [.Name y q, .List [] lp] [] cpos) "append" C.env (eval (.Call (.Attribute (.Name x p) "setdefault" apos) [.Name y q, .List [] lp] [] cpos) C.env) = eval (.Call (.Attribute (.Name x p) "setdefault" apos) [.Name y q, .List [] lp] [] cpos) C.env := by rfl)
    (hline2 : (bpos.endLine == dpos.line) = true := by rfl) (htrees2 : backTo dpos (starEach [.Name z r] C.env) = [(false, eval (.Name z r) C.env)] := by rfl)
    (hs : swapsWith (.Call (.Attribute (.Call (.Attribute (.Name x p) "setdefault" apos) [.Name y q, .List [] lp] [] cpos) "append" bpos) [.Name z r] [] dpos) none pos.line C.env = pure false := by rfl) :
    JS C xs gs ρ M (exec (.Expr (.Call (.Attribute (.Call (.Attribute (.Name x p) "setdefault" apos) [.Name y q, .List [] lp] [] cpos) "append" bpos) [.Name z r] [] dpos) pos) C.env) Q :=
  fun hC G X B s m S Qc E kf => by
    obtain ⟨Ma, Mb, rfl, rfl⟩ := hu.split
    obtain ⟨ix, hx, hvx⟩ := gx.ok
    obtain ⟨iz, hz, hvz⟩ := gz.ok
    refine wpAny_Expr_any ?_ (not_interactive hC) hs
    refine wpAny_Call_method1_late hbase2 hline2 htrees2 ?_
    refine wpAny_Call_method2_late hbase hline htrees (wpAny_Name (S.load hC hx hvx fun cd rd => ?_) (beq_eq_false_iff_ne.mpr (hC.xkind x (List.mem_of_getElem? hx)).1))
    cases rd
    refine sd_call hC S (x := x) (p := p) gy hlen fun b h' tk X1 X2 Xl' o' kvs' hXl m1 m2 h2 ho' hd' hv hnd hl' => ?_
    obtain ⟨Xl, rfl, hX, keep⟩ := hXl
    have S4 := S.dlistMove (tk := tk) m1 m2 h2 ho' hd' hl' hX hnd keep
    have hkn : (kvs'.map (·.1)).Nodup := by obtain ⟨o, es, ep, _, _, _, _, _, hn⟩ := dictOf_of ho' hd'; exact hn
    obtain ⟨l, b', vs, n, hg, hbb, hb, hob, hrl, hput⟩ := hl'.put_same hv hnd hkn
    cases hbb
    refine ⟨"list", "list.append", F.plainAttrs_list, slot_list_append, F.type_list_append, ⟨_, hob, rfl⟩, fun b2 hb2 => by cases hb2; exact ⟨_, hob, rfl⟩, ?_⟩
    refine P.append_list (wpAny_Name (S4.load hC hz hvz fun cz rz => ?_) (beq_eq_false_iff_ne.mpr (hC.xkind z (List.mem_of_getElem? hz)).1))
    have hl4 : l = (getI es k).getD [] := by
      cases hge : getI es k with
      | some l0 => rw [hge] at hg; simp only at hg; rw [hge] at hg; cases hg; rfl
      | none =>
        rw [hge] at hg; simp only at hg
        rw [getI_append, hge, getI_cons, if_pos rfl] at hg
        simp at hg; simp [hg]
    refine ⟨vs.toArray, n, by rw [List.size_toArray, hrl.length, hl4, sizeLine_eq]; omega, hob, ?_⟩
    have e1 := IsL.update (l := b) (items := vs.toArray) (n := n) hob (fun xs => xs.push cz)
    rw [List.push_toArray] at e1
    have hdb : d ≠ b := fun e => by
      have := (List.nodup_append.mp (List.nodup_append.mp S4.xnodup).2.1).1
      exact (List.nodup_cons.mp this).1 (e ▸ hb)
    have hfin := hput (l ++ [v]) (vs ++ [cz]) _ _ e1 (hrl.append (.cons rz .nil)) fun a _ hab o e => (Heap.get?_update_other _ _ (Ne.symm hab)).trans e
    have hes : putI (match getI es k with | some _ => es | none => es ++ [(k, [])]) k (l ++ [v]) = putI es k ((getI es k).getD [] ++ [v]) := by
      rw [hl4]
      cases hge : getI es k with
      | some l0 => rfl
      | none =>
        simp only [Option.getD_none, List.nil_append]
        rw [putI_absent hge]
        have hno := getI_none_iff.mp hge
        unfold putI
        have hany : (es ++ [(k, [])]).any (fun p => decide (p.1 = k)) = true := by simp
        rw [if_pos hany, List.map_append]
        congr 1
        · conv => rhs; rw [← List.map_id es]
          refine List.map_congr_left fun p hp => ?_
          have : p.1 ≠ k := fun e => hno (List.mem_map.mpr ⟨p, hp, e⟩)
          simp [this]
        · simp
    rw [hes] at hfin
    have S5 := S.dlistMove (tk := tk) m1 m2 h2 ((Heap.get?_update_other _ _ (Ne.symm hdb)).trans ho') hd' hfin hX hnd fun b2 o hb2 e => ?_
    · exact kf .next ρ _ _ B _ m .next (Le.refl _) S5 .next h
    · refine (Heap.get?_update_other _ _ fun e' => ?_).trans (keep b2 o hb2 e)
      subst e'
      rcases hX b hb with h1 | h1
      · exact hb2 (.tail _ h1)
      · rw [h1] at e; cases e
end
end Mine

namespace Mine
open PySem PySem.W PySem.Calls PyProof.Rows

inductive MDel : MS → Addr → MO → MS → Prop
  | head {a : Addr} {mo : MO} {M : MS} : MDel ((a, mo) :: M) a mo M
  | tail {a : Addr} {mo : MO} {p : Addr × MO} {M M' : MS} : MDel M a mo M' → MDel (p :: M) a mo (p :: M')
theorem MDel.split {M M' : MS} {a : Addr} {mo : MO} (h : MDel M a mo M') : ∃ M1 M2, M = M1 ++ (a, mo) :: M2 ∧ M' = M1 ++ M2 := by
  induction h with
  | @head a mo M => exact ⟨[], M, rfl, rfl⟩
  | @tail a mo p M M' _ ih => obtain ⟨M1, M2, rfl, rfl⟩ := ih; exact ⟨p :: M1, M2, rfl, rfl⟩

section
variable {C : Cx} {xs : List Str} {gs : List (Str × Value)} {ρ : List (Option V)} {M : MS} {G : Gh} {X : List Addr} {B : Base} {s : Shared} {m : Str → Option Value}

theorem MRepL.toI {w : World} {B B' : Base} {h : Heap} (hl : Le B B') : ∀ {es : List (Int × List V)} {kvs : List (Int × Value)} {X : List Addr}, MRepL w B h es kvs X → (∀ a ∈ X, B' a = h.get? a) → RepI w B' (es.map fun p => (p.1, .list p.2)) kvs
  | _, _, _, .nil, _ => .nil
  | _, _, _, .cons ho r rest, k => .cons (.list ((k _ (.head _)).trans ho) (r.mono hl)) (rest.toI hl fun a ha => k a (.tail _ ha))

/-- no longer to change -/
theorem St.freezeAll {M1 M2 : MS} {a : Addr} {mo : MO} (S : St C xs G ρ (M1 ++ (a, mo) :: M2) X B s m) : ∃ B' X', Le B B' ∧ St C xs G ρ (M1 ++ M2) X' B' s m ∧ Rep C.w B' mo.tree (.ref a) := by
  obtain ⟨X1, Y, X2, rfl, h1, h2, h3⟩ := S.mrep.split
  have nd := List.nodup_append.mp S.xnodup
  have nd2 := List.nodup_append.mp nd.2.1
  have hY : ∀ b ∈ Y, b ∈ X1 ++ (Y ++ X2) := fun b hb => List.mem_append_right _ (List.mem_append_left _ hb)
  let B' : Base := fun b => if b ∈ Y then s.heap.get? b else B b
  have hin : ∀ b ∈ Y, B' b = s.heap.get? b := fun b hb => if_pos hb
  have hout : ∀ b, b ∉ Y → B' b = B b := fun b hb => if_neg hb
  have hl : Le B B' := fun b o e => by
    by_cases hb : b ∈ Y
    · rw [S.offX b (hY b hb)] at e; cases e
    · rw [hout b hb]; exact e
  refine ⟨B', X1 ++ X2, hl, ?_, ?_⟩
  · have := S.move (tk := s.toks) (h' := s.heap) (M' := M1 ++ M2) (X' := X1 ++ X2) hl (fun b o e => by
        by_cases hb : b ∈ Y
        · rw [hin b hb] at e; exact e
        · rw [hout b hb] at e; exact S.known _ _ e) (fun b o _ e => e) (fun b hb => by
        by_cases hbY : b ∈ Y
        · exact .inr (.inr (hY b hbY))
        · rw [hout b hbY] at hb; exact .inl hb)
      ((h1.mono hl fun _ _ _ e => e).join (h3.mono hl fun _ _ _ e => e)) (List.nodup_append.mpr ⟨nd.1, nd2.2.1, fun x hx y hy => nd.2.2 x hx y (List.mem_append_right _ hy)⟩)
      (fun b hb => .inl (by
        rcases List.mem_append.mp hb with hb | hb
        · exact List.mem_append_left _ hb
        · exact List.mem_append_right _ (List.mem_append_right _ hb))) (fun b hb => by
        have hbY : b ∉ Y := fun hy => by
          rcases List.mem_append.mp hb with hb | hb
          · exact nd.2.2 b hb b (List.mem_append_left _ hy) rfl
          · exact nd2.2.2 b hy b hb rfl
        rw [hout b hbY]
        refine S.offX b ?_
        rcases List.mem_append.mp hb with hb | hb
        · exact List.mem_append_left _ hb
        · exact List.mem_append_right _ (List.mem_append_right _ hb))
    exact this
  · have ha := hin a h2.head
    cases h2 with
    | list ho r => exact .list (ha.trans ho) (r.mono hl)
    | dictI h2 ho hd r => exact .dictI h2 (ha.trans ho) hd (r.mono hl)
    | dictS h2 ho hd r => exact .dictS h2 (ha.trans ho) hd (r.mono hl)
    | dlist h2 ho hd r => exact .dictI h2 (ha.trans ho) hd (r.toI hl fun b hb => hin b (.tail _ hb))

/-- less is known of what may change -/
theorem MReps.sub {w : World} {B : Base} {h : Heap} {M M' : MS} (hs : M'.Sublist M) : ∀ {X : List Addr}, MReps w B h M X → ∃ X', X'.Sublist X ∧ MReps w B h M' X' := by
  induction hs with
  | slnil => intro X h; cases h; exact ⟨[], .slnil, .nil⟩
  | cons p hs ih =>
    intro X h
    cases h with
    | cons r rs =>
      obtain ⟨X', hx, h'⟩ := ih rs
      exact ⟨X', hx.trans (List.sublist_append_right _ _), h'⟩
  | cons_cons p hs ih =>
    intro X h
    cases h with
    | cons r rs =>
      obtain ⟨X', hx, h'⟩ := ih rs
      exact ⟨_, (List.Sublist.refl _).append hx, .cons r h'⟩
theorem St.sub (S : St C xs G ρ M X B s m) {M' : MS} (hs : M'.Sublist M) : ∃ X', St C xs G ρ M' X' B s m := by
  obtain ⟨X', hx, h'⟩ := S.mrep.sub hs
  exact ⟨X', S.move (h' := s.heap) (tk := s.toks) (Le.refl _) S.known (fun _ _ _ e => e) (fun _ h => .inl h) h' (hx.nodup S.xnodup) (fun a ha => .inl (hx.subset ha)) (fun a ha => S.offX a (hx.subset ha))⟩

theorem JE_freeze {t : Sem Value} {Q : V → MS → Prop} (h : JE C xs gs ρ M t fun v M1 => ∃ a mo M2, v = .mut a ∧ MDel M1 a mo M2 ∧ Q mo.tree M2) : JE C xs gs ρ M t Q :=
  fun hC G X B s m S Qc E k => h hC G X B s m S _ _ fun v M1 X1 B1 s1 m1 cv l1 S1 rv q1 => by
    obtain ⟨a, mo, M2, rfl, hd, hq⟩ := q1
    cases rv
    obtain ⟨Ma, Mb, rfl, rfl⟩ := hd.split
    obtain ⟨B2, X2, l2, S2, r2⟩ := S1.freezeAll
    exact k _ _ X2 B2 s1 m1 _ (l1.trans l2) S2 r2 hq
theorem JE_sub {t : Sem Value} {Q : V → MS → Prop} (h : JE C xs gs ρ M t fun v M1 => ∃ M2, M2.Sublist M1 ∧ Q v M2) : JE C xs gs ρ M t Q :=
  fun hC G X B s m S Qc E k => h hC G X B s m S _ _ fun v M1 X1 B1 s1 m1 cv l1 S1 rv q1 => by
    obtain ⟨M2, hs, hq⟩ := q1
    obtain ⟨X2, S2⟩ := S1.sub hs
    exact k _ _ X2 B1 s1 m1 _ l1 S2 rv hq
theorem JS_sub {t : Sem Flow} {Q : Fl → List (Option V) → MS → Prop} (h : JS C xs gs ρ M t fun f ρ' M1 => ∃ M2, M2.Sublist M1 ∧ Q f ρ' M2) : JS C xs gs ρ M t Q :=
  fun hC G X B s m S Qc E k => h hC G X B s m S _ _ fun v ρ1 M1 X1 B1 s1 m1 cv l1 S1 rv q1 => by
    obtain ⟨M2, hs, hq⟩ := q1
    obtain ⟨X2, S2⟩ := S1.sub hs
    exact k _ ρ1 _ X2 B1 s1 m1 _ l1 S2 rv hq
/-- less is known of the locals -/
theorem JS_weaken {t : Sem Flow} {ρ0 : List (Option V)} {Q : Fl → List (Option V) → MS → Prop} (h0 : ∀ (i : Nat) (v : V), ρ0[i]? = some (some v) → ρ[i]? = some (some v)) (h : JS C xs gs ρ0 M t Q) : JS C xs gs ρ M t Q :=
  fun hC G X B s m S Qc E k => h hC G X B s m (S.weaken h0) Qc E k

theorem St.adoptM (S : St C xs G ρ M X B s m) {a : Addr} {mo : MO} (ap : Apart C G B X [a]) (r : MRep C.w B s.heap a mo [a]) : St C xs G ρ ((a, mo) :: M) (a :: X) B s m := by
  have h := ap a (.head _)
  have h1 : a ∉ C.env.locals :: (C.own ++ X) := h.1
  have nd := List.nodup_cons.mp S.nodup
  have nd2 := List.nodup_append.mp nd.2
  refine { S with mrep := .cons r S.mrep, nodup := ?_, offB := fun b hb => ?_, offZ := fun b hb => ?_ }
  · refine List.nodup_cons.mpr ⟨fun hm => ?_, List.nodup_append.mpr ⟨nd2.1, List.nodup_cons.mpr ⟨fun hm => h1 (.tail _ (List.mem_append_right _ hm)), nd2.2.1⟩, fun b hb c hc e => ?_⟩⟩
    · rcases List.mem_append.mp hm with hm | hm
      · exact nd.1 (List.mem_append_left _ hm)
      · rcases List.mem_cons.mp hm with e | hm
        · exact h1 (by rw [← e]; exact .head _)
        · exact nd.1 (List.mem_append_right _ hm)
    · subst e
      rcases List.mem_cons.mp hc with rfl | hc
      · exact h1 (.tail _ (List.mem_append_left _ hb))
      · exact nd2.2.2 b hb b hc rfl
  · rcases List.mem_cons.mp hb with rfl | hb
    · exact S.offB _ (.head _)
    · rcases List.mem_append.mp hb with hb | hb
      · exact S.offB b (.tail _ (List.mem_append_left _ hb))
      · rcases List.mem_cons.mp hb with rfl | hb
        · exact h.2.1
        · exact S.offB b (.tail _ (List.mem_append_right _ hb))
  · rcases List.mem_cons.mp hb with rfl | hb
    · exact S.offZ _ (.head _)
    · rcases List.mem_append.mp hb with hb | hb
      · exact S.offZ b (.tail _ (List.mem_append_left _ hb))
      · rcases List.mem_cons.mp hb with rfl | hb
        · exact h.2.2
        · exact S.offZ b (.tail _ (List.mem_append_right _ hb))
/-- an object at the side that stays from now on -/
theorem St.adopt (S : St C xs G ρ M X B s m) {a : Addr} {o : Obj} (ap : Apart C G B X [a]) (ho : s.heap.get? a = some o) : Le B (put B a o) ∧ St C xs G ρ M X (put B a o) s m := by
  have hl := le_put (o := o) (ap a (.head _)).2.1
  refine ⟨hl, S.side (h' := s.heap) (tk := s.toks) ap hl (fun b o' e => ?_) (fun _ _ _ e => e) (fun b hb => ?_)⟩
  · by_cases hba : b = a
    · subst hba; rw [put_self] at e; cases e; exact ho
    · rw [put_ne hba] at e; exact S.known _ _ e
  · by_cases hba : b = a
    · subst hba; exact .inr (.inr (.head _))
    · rw [put_ne hba] at hb; exact .inl hb
theorem St.freshApart (S : St C xs G ρ M X B s m) {a : Addr} (ha : s.heap.get? a = none) {W : List Addr} (ap : Apart C G B X W) : Apart C G B X (a :: W) := fun b hb => by
  rcases List.mem_cons.mp hb with rfl | hb
  · refine ⟨fun hm => ?_, S.offFresh ha, ?_⟩
    · obtain ⟨o, ho⟩ := S.live _ hm
      rw [ha] at ho; cases ho
    · cases e : G.Z b with
      | none => rfl
      | some o => rw [S.kept _ _ e] at ha; cases ha
  · exact ap b hb
theorem Apart.nil : Apart C G B X [] := fun _ h => nomatch h
theorem Apart.mono {W W' : List Addr} (ap : Apart C G B X W) (h : ∀ b ∈ W', b ∈ W) : Apart C G B X W' := fun b hb => ap b (h b hb)

theorem live_ne {a : Addr} {h : Heap} {M : MS} {B : Base} {w : World} {X : List Addr} (mr : MReps w B h M X) (ha : a ∉ X) : ∀ p ∈ M, p.1 ≠ a := fun p hp e => by
  obtain ⟨M1, M2, rfl⟩ := List.append_of_mem hp
  obtain ⟨X1, Xa, X2, rfl, _, r, _⟩ := mr.split
  exact ha (e ▸ List.mem_append_right _ (List.mem_append_left _ r.head))

/-- {k: v} -/
theorem JE_Dict1 {ke ve : Expr} {pos : Pos} {Q : V → MS → Prop}
    (h : JE C xs gs ρ M (eval ke C.env) fun x M1 => ∃ k, x = .int k ∧ JE C xs gs ρ M1 (eval ve C.env) fun v M2 => ∀ a, (∀ p ∈ M2, p.1 ≠ a) → Q (.mut a) ((a, .dictI [(k, v)]) :: M2))
    (hshape : (evalEachOpt [some ke] C.env).zip ((evalEach [ve] C.env).map fun v => do let x ← v; standAt pos; pure x) = [(eval ke C.env, do let x ← eval ve C.env; standAt pos; pure x)].map fun p => (some p.1, p.2) := by rfl) :
    JE C xs gs ρ M (eval (.Dict [some ke] [ve] pos) C.env) Q :=
  fun hC G X B s m S Qc E kf => by
    refine wpAny_Dict_pairs (knd := intKind PG C.w) hshape (by simp) (by simp) ?_
    have hfr := fresh_size s.heap
    have hd2 : 2 ≤ s.heap.objs.size := Nat.lt_of_lt_of_le (by decide) (S.size2 hC)
    have S0 : St C xs G ρ M X B { s with heap := s.heap.push { cls := .type "dict", data := .dict #[] } } m := S.keeps s.toks (fun b o e => Heap.get?_push_of_some _ e)
    have ap0 : Apart C G B X [s.heap.objs.size] := S.freshApart hfr Apart.nil
    have live0 : ∀ b ∈ [s.heap.objs.size], ∃ o, (s.heap.push { cls := .type "dict", data := .dict #[] }).get? b = some o := fun b hb => by rw [List.mem_singleton.mp hb]; exact ⟨_, Heap.get?_push_size _ rfl⟩
    have hdo0 : (s.heap.push { cls := .type "dict", data := .dict #[] }).DictOf (intKind PG C.w) s.heap.objs.size [] := Heap.DictOf.new _
    refine evalPairs_cons (h hC _ X B _ m (S0.withZ ap0) _ _ fun x M1 X1 B1 s1 m1 cx l1 S1 rx q1 => ?_)
    obtain ⟨k, hx, q1⟩ := q1
    refine wpAny_bind (q1 hC _ X1 B1 s1 m1 S1 _ _ fun v M2 X2 B2 s2 m2 cv l2 S2 rv q2 => wpAny_bind (wpAny_standAt (wpAny_pure (evalPairs_nil ?_))))
    obtain ⟨S2', ap2, kept2⟩ := S0.backZ ap0 live0 S2
    refine ⟨[(k, cv)], ⟨J1_key hx rx, rfl, trivial⟩, hdo0.at fun o e => kept2 _ (.head _) o e, fun h' hd' hs' => ?_⟩
    obtain ⟨o', ho', hd''⟩ := Heap.dictOf_iff.mp hd'
    have S3 := S2'.side (h' := h') (tk := s2.toks + 1) ap2 (Le.refl _) (fun b o e => hs'.extBut b o (fun e' => by subst e'; rw [(ap2 _ (.head _)).2.1] at e; cases e) (S2'.known _ _ e))
      (fun b o hb e => hs'.extBut b o (fun e' => hb (e' ▸ .head _)) e) (fun _ h => .inl h)
    have S4 := S3.adoptM ap2 (mo := .dictI [(k, v)]) (.dictI hd2 ho' hd'' (.cons rv .nil))
    exact kf _ _ _ B2 _ m2 _ (l1.trans l2) S4 (.mut _) (q2 _ (live_ne S2'.mrep fun hm => (ap2 _ (.head _)).1 (.tail _ (List.mem_append_right _ hm))))

/-- {k1: v1, k2: v2}: names -/
theorem JE_Dict2S {k1 k2 v1 v2 : Expr} {pos : Pos} {Q : V → MS → Prop}
    (h : JE C xs gs ρ M (eval k1 C.env) fun x1 M1 => ∃ n1, x1 = .str n1 ∧ JE C xs gs ρ M1 (eval v1 C.env) fun u1 M2 => JE C xs gs ρ M2 (eval k2 C.env) fun x2 M3 => ∃ n2, x2 = .str n2 ∧ n1 ≠ n2 ∧ JE C xs gs ρ M3 (eval v2 C.env) fun u2 M4 =>
      ∀ a, (∀ p ∈ M4, p.1 ≠ a) → Q (.mut a) ((a, .dictS [(n1, u1), (n2, u2)]) :: M4))
    (hshape : (evalEachOpt [some k1, some k2] C.env).zip ((evalEach [v1, v2] C.env).map fun v => do let x ← v; standAt pos; pure x) = [(eval k1 C.env, do let x ← eval v1 C.env; standAt pos; pure x), (eval k2 C.env, do let x ← eval v2 C.env; standAt pos; pure x)].map fun p => (some p.1, p.2) := by rfl) :
    JE C xs gs ρ M (eval (.Dict [some k1, some k2] [v1, v2] pos) C.env) Q :=
  fun hC G X B s m S Qc E kf => by
    refine wpAny_Dict_pairs (knd := PySem.strKind PG C.w) hshape (by simp) (by simp) ?_
    have hfr := fresh_size s.heap
    have hd2 : 2 ≤ s.heap.objs.size := Nat.lt_of_lt_of_le (by decide) (S.size2 hC)
    have S0 : St C xs G ρ M X B { s with heap := s.heap.push { cls := .type "dict", data := .dict #[] } } m := S.keeps s.toks (fun b o e => Heap.get?_push_of_some _ e)
    have ap0 : Apart C G B X [s.heap.objs.size] := S.freshApart hfr Apart.nil
    have live0 : ∀ b ∈ [s.heap.objs.size], ∃ o, (s.heap.push { cls := .type "dict", data := .dict #[] }).get? b = some o := fun b hb => by rw [List.mem_singleton.mp hb]; exact ⟨_, Heap.get?_push_size _ rfl⟩
    have hdo0 : (s.heap.push { cls := .type "dict", data := .dict #[] }).DictOf (PySem.strKind PG C.w) s.heap.objs.size [] := Heap.DictOf.new _
    refine evalPairs_cons (h hC _ X B _ m (S0.withZ ap0) _ _ fun x1 M1 X1 B1 s1 m1 cx1 l1 S1 rx1 q1 => ?_)
    obtain ⟨n1, hx1, q1⟩ := q1
    refine wpAny_bind (q1 hC _ X1 B1 s1 m1 S1 _ _ fun u1 M2 X2 B2 s2 m2 cu1 l2 S2 ru1 q2 => wpAny_bind (wpAny_standAt (wpAny_pure ?_)))
    refine evalPairs_cons (q2 hC _ X2 B2 s2 m2 S2 _ _ fun x2 M3 X3 B3 s3 m3 cx2 l3 S3 rx2 q3 => ?_)
    obtain ⟨n2, hx2, hne, q3⟩ := q3
    refine wpAny_bind (q3 hC _ X3 B3 s3 m3 S3 _ _ fun u2 M4 X4 B4 s4 m4 cu2 l4 S4 ru2 q4 => wpAny_bind (wpAny_standAt (wpAny_pure (evalPairs_nil ?_))))
    obtain ⟨S4', ap4, kept4⟩ := S0.backZ ap0 live0 S4
    refine ⟨[(n1, cu1), (n2, cu2)], ⟨J1_keyS hx1 rx1, rfl, J1_keyS hx2 rx2, rfl, trivial⟩, hdo0.at fun o e => kept4 _ (.head _) o e, fun h' hd' hs' => ?_⟩
    have hm : merged [] [(n1, cu1), (n2, cu2)] = [(n1, cu1), (n2, cu2)] := by simp [merged, stored, hne]
    rw [hm] at hd'
    obtain ⟨o', ho', hd''⟩ := Heap.dictOf_iff.mp hd'
    have S5 := S4'.side (h' := h') (tk := s4.toks + 2) ap4 (Le.refl _) (fun b o e => hs'.extBut b o (fun e' => by subst e'; rw [(ap4 _ (.head _)).2.1] at e; cases e) (S4'.known _ _ e))
      (fun b o hb e => hs'.extBut b o (fun e' => hb (e' ▸ .head _)) e) (fun _ h => .inl h)
    have S6 := S5.adoptM ap4 (mo := .dictS [(n1, u1), (n2, u2)]) (.dictS hd2 ho' hd'' (.cons ((ru1.mono l3).mono l4) (.cons ru2 .nil)))
    exact kf _ _ _ B4 _ m4 _ (((l1.trans l2).trans l3).trans l4) S6 (.mut _) (q4 _ (live_ne S4'.mrep fun hm => (ap4 _ (.head _)).1 (.tail _ (List.mem_append_right _ hm))))
end
end Mine

namespace Mine
open PySem PySem.W PySem.Calls PyProof.Rows

theorem closureFor_one {scope : Scope} {env : Env} {y : Str} {c : Addr} (hn : scope.names.filter (fun p => p.2 == NameKind.free) = [(y, .free)]) (hc : env.cells.lookup y = some c) : closureFor scope env = pure [(y, c)] := by
  have hcell : cellOf env y = pure c := by
    unfold cellOf
    rw [hc]
  simp only [closureFor]
  have key : ∀ (l : List (Str × NameKind)) (acc : List (Str × Addr)) (z : List (Str × Addr)), (∃ zs : List (Str × NameKind), l.filter (fun p => p.2 == NameKind.free) = zs ∧ (∀ p ∈ zs, p = (y, NameKind.free)) ∧ z = zs.foldl (fun a _ => (y, c) :: a) acc) →
      forIn l acc (fun (x : Str × NameKind) (r : List (Str × Addr)) =>
        match x with
        | (name, kind) => if (kind == NameKind.free) = true then do let __do_lift ← cellOf env name; pure (ForInStep.yield ((name, __do_lift) :: r)) else pure (ForInStep.yield r)) = (pure z : Sem (List (Str × Addr))) := by
    intro l
    induction l with
    | nil => rintro acc z ⟨zs, h1, h2, rfl⟩; simp at h1; subst h1; rfl
    | cons p l ih =>
      rintro acc z ⟨zs, h1, h2, rfl⟩
      obtain ⟨n, k⟩ := p
      rw [List.forIn_cons]
      by_cases hk : (k == NameKind.free) = true
      · rw [List.filter_cons, if_pos hk] at h1
        subst h1
        have := h2 (n, k) (.head _)
        cases this
        simp only [hcell, hk, if_true, pure_bind]
        exact ih _ _ ⟨_, rfl, fun p hp => h2 p (.tail _ hp), by simp⟩
      · rw [List.filter_cons, if_neg hk] at h1
        simp only [hk]
        exact ih _ _ ⟨_, h1, h2, rfl⟩
  exact (congrArg (fun z => z >>= fun cs => pure cs) (key scope.names [] _ ⟨_, rfl, fun p hp => by rw [hn] at hp; exact List.mem_singleton.mp hp, rfl⟩)).trans (by rw [hn, pure_bind]; rfl)

theorem lookup_map_kind {g : Str → NameKind → NameKind} : ∀ (l : List (Str × NameKind)) (x : Str), (l.map fun p => (p.1, g p.1 p.2)).lookup x = (l.lookup x).map (g x)
  | [], x => rfl
  | (n, k) :: l, x => by
    rw [List.map_cons, List.lookup_cons, List.lookup_cons]
    by_cases h : (x == n) = true
    · rw [h]
      have : x = n := by simpa using h
      subst this; rfl
    · rw [Bool.not_eq_true] at h
      rw [h]; exact lookup_map_kind l x
theorem kindOf_relabel (scope : Scope) (cl : List (Str × Addr)) (L : Addr) (env : Env) (x : Str) :
    (compEnvC scope cl L env).kindOf x = (scope.names.lookup x).map fun k => if (k == .free && env.scope.kind == .function && env.kindOf x == some .cell) then .cell else k := by
  show (scope.names.map fun (n, k) => if (k == NameKind.free && env.scope.kind == .function && env.kindOf n == some .cell) then (n, NameKind.cell) else (n, k)).lookup x = _
  have e : (scope.names.map fun (n, k) => if (k == NameKind.free && env.scope.kind == .function && env.kindOf n == some .cell) then (n, NameKind.cell) else (n, k)) =
      scope.names.map fun p => (p.1, (fun n k => if (k == NameKind.free && env.scope.kind == .function && env.kindOf n == some .cell) then NameKind.cell else k) p.1 p.2) := by
    refine List.map_congr_left fun p _ => ?_
    obtain ⟨n, k⟩ := p
    dsimp only
    split <;> rfl
  rw [e]
  exact lookup_map_kind (g := fun n k => if (k == NameKind.free && env.scope.kind == .function && env.kindOf n == some .cell) then NameKind.cell else k) scope.names x

/-- what a comprehension's scope must be -/
def compChk (sc : Scope) (locs cap gn : List Str) : Bool :=
  decide (sc.kind = .function) && decide (locs ++ cap).Nodup && (locs.all fun x => x != ("__debug__" : Str) && sc.names.lookup x == some .local) && (cap.all fun x => x != ("__debug__" : Str) && sc.names.lookup x == some .free) &&
  (gn.all fun x => x != ("__debug__" : Str) && sc.names.lookup x == some .globalImplicit) && (sc.names.all fun p => p.2 != .cell && (p.2 != .local || sc.names.lookup p.1 == some .local)) &&
  decide (sc.names.filter (fun p => p.2 == .free) = cap.map fun y => (y, .free)) && decide (cap.length ≤ 1)

def compCx (C : Cx) (sc : Scope) (cl : List (Str × Addr)) (L : Addr) : Cx := ⟨C.w, C.A, compEnvC sc cl L C.env, C.h₀, []⟩

inductive SubG (gs : List (Str × Value)) : List (Str × Value) → Prop
  | nil : SubG gs []
  | cons {x : Str} {v : Value} {gs' : List (Str × Value)} : Has gs x v → SubG gs gs' → SubG gs ((x, v) :: gs')
theorem SubG.mem {gs : List (Str × Value)} : ∀ {gs' : List (Str × Value)}, SubG gs gs' → ∀ p ∈ gs', p ∈ gs
  | _, .nil, _, h => nomatch h
  | _, .cons g r, p, h => by
    rcases List.mem_cons.mp h with rfl | h
    · exact g.mem
    · exact r.mem p h

/-- captured names, with their values -/
inductive Caps (C : Cx) (xs : List Str) (ρ : List (Option V)) : List Str → List V → Prop
  | nil : Caps C xs ρ [] []
  | one {y : Str} {v : V} : GetAt xs y ρ v → C.env.kindOf y = some .cell → Caps C xs ρ [y] [v]

section
variable {C : Cx} {xs : List Str} {gs : List (Str × Value)} {ρ : List (Option V)} {M : MS} {G : Gh} {X : List Addr} {B : Base} {s : Shared} {m : Str → Option Value}

theorem Caps.cl (hC : Ok C xs gs) {cap : List Str} {vs : List V} (h : Caps C xs ρ cap vs) {sc : Scope} (hn : sc.names.filter (fun p => p.2 == NameKind.free) = cap.map fun y => (y, .free)) :
    ∃ cl, closureFor sc C.env = pure cl ∧ cl.map (·.1) = cap ∧ ∀ y c, cl.lookup y = some c → C.env.cells.lookup y = some c := by
  cases h with
  | nil =>
    refine ⟨[], closureFor_none fun x hx e => ?_, rfl, fun y c h => by cases h⟩
    have : x ∈ sc.names.filter (fun p => p.2 == NameKind.free) := List.mem_filter.mpr ⟨hx, by simp [e]⟩
    rw [hn] at this; cases this
  | one g hk =>
    rename_i y v
    obtain ⟨i, hi, _⟩ := g.ok
    rcases (hC.xkind y (List.mem_of_getElem? hi)).2 with h5 | ⟨_, c, hc⟩ | ⟨h5, _⟩
    · rw [hk] at h5; cases h5
    · refine ⟨[(y, c)], closureFor_one hn hc, rfl, fun z c' h => ?_⟩
      rw [List.lookup_cons] at h
      by_cases hz : (z == y) = true
      · rw [hz] at h
        have : z = y := by simpa using hz
        subst this; cases h; exact hc
      · rw [Bool.not_eq_true] at hz
        rw [hz] at h; cases h
    · rw [hk] at h5; cases h5

structure CompOk (C : Cx) (xs : List Str) (gs : List (Str × Value)) (ρ : List (Option V)) (sc : Scope) (locs cap : List Str) (vs : List V) (gs' : List (Str × Value)) : Prop where
  chk : compChk sc locs cap (gs'.map (·.1)) = true
  caps : Caps C xs ρ cap vs
  hg : C.env.globals = mainGlobals ∧ C.env.builtins = builtinsNs
  sub : ∃ h₀, C.h₀ = h₀ ∧ GlobAll h₀ gs'

theorem CompOk.unpack {sc : Scope} {locs cap : List Str} {vs : List V} {gs' : List (Str × Value)} (h : CompOk C xs gs ρ sc locs cap vs gs') :
    sc.kind = .function ∧ (locs ++ cap).Nodup ∧ (∀ x ∈ locs, x ≠ ("__debug__" : Str) ∧ sc.names.lookup x = some .local) ∧ (∀ x ∈ cap, x ≠ ("__debug__" : Str) ∧ sc.names.lookup x = some .free) ∧
    (∀ x ∈ gs'.map (·.1), x ≠ ("__debug__" : Str) ∧ sc.names.lookup x = some .globalImplicit) ∧ (∀ p ∈ sc.names, p.2 ≠ .cell ∧ (p.2 = .local → sc.names.lookup p.1 = some .local)) ∧
    sc.names.filter (fun p => p.2 == NameKind.free) = cap.map fun y => (y, .free) := by
  have := h.chk
  unfold compChk at this
  simp only [Bool.and_eq_true, decide_eq_true_eq, List.all_eq_true] at this
  obtain ⟨⟨⟨⟨⟨⟨⟨h1, h2⟩, h3⟩, h4⟩, h5⟩, h6⟩, h7⟩, _⟩ := this
  refine ⟨h1, h2, fun x hx => ?_, fun x hx => ?_, fun x hx => ?_, fun p hp => ?_, h7⟩
  · simpa using h3 x hx
  · simpa using h4 x hx
  · simpa using h5 x hx
  · have := h6 p hp
    simp only [bne_iff_ne, ne_eq, Bool.or_eq_true, beq_iff_eq] at this
    exact ⟨this.1, fun e => this.2.elim (fun q => absurd e q) id⟩

theorem CompOk.ok (hC : Ok C xs gs) {sc : Scope} {locs cap : List Str} {vs : List V} {gs' : List (Str × Value)} (h : CompOk C xs gs ρ sc locs cap vs gs') {cl : List (Str × Addr)} (hcl : cl.map (·.1) = cap)
    (hlk : ∀ y c, cl.lookup y = some c → C.env.cells.lookup y = some c) (L : Addr) : Ok (compCx C sc cl L) (locs ++ cap) gs' ∧ ∀ x ∈ locs, CanSto (compCx C sc cl L) x := by
  obtain ⟨h1, h2, h3, h4, h5, h6, h7⟩ := h.unpack
  have hloc : ∀ x ∈ locs, (compCx C sc cl L).env.kindOf x = some .local := fun x hx => by
    show (compEnvC sc cl L C.env).kindOf x = _
    rw [kindOf_relabel, (h3 x hx).2]; rfl
  have hcapk : ∀ x ∈ cap, C.env.kindOf x = some .cell := fun x hx => by
    cases h.caps with
    | nil => cases hx
    | one g hk => rw [List.mem_singleton.mp hx]; exact hk
  have hcap : ∀ x ∈ cap, (compCx C sc cl L).env.kindOf x = some .cell := fun x hx => by
    show (compEnvC sc cl L C.env).kindOf x = _
    rw [kindOf_relabel, (h4 x hx).2, hcapk x hx, hC.kind]; rfl
  have hone : cap.length ≤ 1 := by
    cases h.caps with
    | nil => simp
    | one => simp
  refine ⟨⟨h1, hC.room, h2, fun x hx => ?_, ?_, fun x v hm => ?_, hC.nolimit⟩, fun x hx => .inl (hloc x hx)⟩
  · rcases List.mem_append.mp hx with hx | hx
    · exact ⟨(h3 x hx).1, .inl (hloc x hx)⟩
    · refine ⟨(h4 x hx).1, .inr (.inl ⟨hcap x hx, ?_⟩)⟩
      show ∃ c, cl.lookup x = some c
      rw [← hcl] at hx
      obtain ⟨p, hp, rfl⟩ := List.mem_map.mp hx
      cases hl : cl.lookup p.1 with
      | some c => exact ⟨c, rfl⟩
      | none =>
        rw [List.lookup_eq_none_iff] at hl
        exact absurd (hl p hp) (by simp)
  · show cl.Pairwise _
    have : cl.length ≤ 1 := by rw [← List.length_map (f := (·.1)), hcl]; exact hone
    match cl, this with
    | [], _ => exact .nil
    | [p], _ => exact List.pairwise_singleton _ _
  · obtain ⟨h₀, e0, hga⟩ := h.sub
    subst e0
    have a3 : (∃ mg, C.h₀.Ns C.env.globals mg ∧ mg x = some v) ∨ (∃ mg mb, C.h₀.Ns C.env.globals mg ∧ mg x = none ∧ C.h₀.Ns C.env.builtins mb ∧ mb x = some v) := by
      rw [h.hg.1, h.hg.2]; exact hga.at x v hm
    obtain ⟨b1, b2⟩ := h5 x (List.mem_map.mpr ⟨(x, v), hm, rfl⟩)
    refine ⟨b1, ?_, a3⟩
    show (compEnvC sc cl L C.env).kindOf x = _
    rw [kindOf_relabel, b2]; rfl

/-- into the comprehension's frame -/
def Gh.inner (G : Gh) (X : List Addr) (L : Addr) (h : Heap) (B : Base) : Gh := ⟨G.s₀, fun a => if a ∈ X ∨ a = L then none else h.get? a, B⟩
theorem St.enter (S : St C xs G ρ M X B s m) (hC : Ok C xs gs) {sc : Scope} {locs cap : List Str} {vs : List V} {gs' : List (Str × Value)} (h : CompOk C xs gs ρ sc locs cap vs gs') {cl : List (Str × Addr)}
    (hlk : ∀ y c, cl.lookup y = some c → C.env.cells.lookup y = some c) (hcl : cl.map (·.1) = cap) {L : Addr} (ap : Apart C G B X [L]) {mL : Str → Option Value} (hns : s.heap.Ns L mL) :
    St (compCx C sc cl L) (locs ++ cap) (G.inner X L s.heap B) (locs.map (fun _ => none) ++ vs.map some) M X B s mL := by
  obtain ⟨h1, h2, h3, h4, h5, h6, h7⟩ := h.unpack
  have hL := ap L (.head _)
  have hLX : L ∉ X := fun hm => hL.1 (.tail _ (List.mem_append_right _ hm))
  have hz : ∀ a, a ∉ X → a ≠ L → (G.inner X L s.heap B).Z a = s.heap.get? a := fun a h1 h2 => if_neg (fun h => h.elim h1 h2)
  have ck : ∀ x c, C.env.cells.lookup x = some c → (∃ v, s.heap.IsCell c v) → c ∉ X ∧ c ≠ L := fun x c hl hv => by
    refine ⟨fun hm => ?_, fun e => ?_⟩
    · by_cases hc : c ∈ C.own
      · exact (List.nodup_append.mp (List.nodup_cons.mp S.nodup).2).2.2 c hc c hm rfl
      · exact S.fre x c (mem_of_lookup hl) hc (S.offZ c (.tail _ (List.mem_append_right _ hm)))
    · subst e
      by_cases hc : c ∈ C.own
      · exact hL.1 (.tail _ (List.mem_append_left _ hc))
      · exact S.fre x c (mem_of_lookup hl) hc hL.2.2
  have hcapv : ∀ y v, cap = [y] → vs = [v] → GetAt xs y ρ v := fun y v e1 e2 => by
    cases h.caps with
    | nil => cases e1
    | one g hk => cases e1; cases e2; exact g
  have hlen : vs.length = cap.length := by cases h.caps <;> rfl
  refine ⟨S.same, S.known, fun a o e => ?_, fun a o e => ?_, hns, fun i x v hx hv => ?_, fun c hc => (nomatch hc), fun x c h1' h2' => ?_, S.mrep, ?_, fun a ha => ?_, fun a ha => ?_, fun a ha => .inl ha⟩
  · by_cases ha : a ∈ X ∨ a = L
    · simp only [Gh.inner, if_pos ha] at e; cases e
    · simp only [Gh.inner, if_neg ha] at e; exact e
  · have e1 := S.base a o e
    have e2 := S.kept a o e1
    rw [hz a (fun hm => by rw [S.offZ a (.tail _ (List.mem_append_right _ hm))] at e1; cases e1) (fun hh => by rw [hh, hL.2.2] at e1; cases e1)]
    exact e2
  · by_cases hi : i < locs.length
    · have h0 : (locs.map (fun _ => (none : Option V)) ++ vs.map some)[i]? = some none := by
        rw [List.getElem?_append_left (by simpa using hi)]
        simp [List.getElem?_eq_getElem hi]
      rw [h0] at hv; cases hv
    · have hvi : (vs.map some)[i - locs.length]? = some (some v) := by
        rw [List.getElem?_append_right (by simpa using hi)] at hv
        simpa using hv
      have hxi : cap[i - locs.length]? = some x := by
        rw [List.getElem?_append_right (by omega)] at hx; exact hx
      have hcaps := h.caps
      cases hcaps with
      | nil => simp at hxi
      | one g hk =>
        rename_i y u
        have hi0 : i - locs.length = 0 := by
          have := (List.getElem?_eq_some_iff.mp hxi).1
          simpa using this
        rw [hi0] at hxi hvi
        simp at hxi hvi
        subst hxi hvi
        obtain ⟨j, hj, hvj⟩ := g.ok
        obtain ⟨cv, r, hh⟩ := S.slot j y u hj hvj
        refine ⟨cv, r, ?_⟩
        rcases hh with ⟨h9, _⟩ | ⟨_, c, h9, hcell⟩
        · rw [hk] at h9; cases h9
        · refine .inr ⟨.inl ?_, c, ?_, hcell⟩
          · show (compEnvC sc cl L C.env).kindOf y = _
            rw [kindOf_relabel, (h4 y (.head _)).2, hk, hC.kind]; rfl
          · show cl.lookup y = some c
            have : y ∈ cl.map (·.1) := by rw [hcl]; exact .head _
            obtain ⟨p, hp, he⟩ := List.mem_map.mp this
            cases hl : cl.lookup y with
            | some c' => rw [hlk y c' hl] at h9; exact h9
            | none =>
              rw [List.lookup_eq_none_iff] at hl
              exact absurd (hl p hp) (by simp [he])
  · -- cells of the closure stay
    have hmem : (x, c) ∈ cl := h1'
    have hx : x ∈ cap := by rw [← hcl]; exact List.mem_map.mpr ⟨(x, c), hmem, rfl⟩
    have hcaps := h.caps
    cases hcaps with
    | nil => cases hx
    | one g hk =>
      rename_i y u
      have hxy := List.mem_singleton.mp hx
      subst hxy
      obtain ⟨j, hj, hvj⟩ := g.ok
      obtain ⟨cv, r, hh⟩ := S.slot j x u hj hvj
      rcases hh with ⟨h9, _⟩ | ⟨_, c', h9, hcell⟩
      · rw [hk] at h9; cases h9
      · have hcc : c = c' := by
          have hl1 : cl = [(x, c)] := by
            match cl, hcl, hmem with
            | [p], hcl, hmem => rw [List.mem_singleton.mp hmem]
          have : cl.lookup x = some c := by rw [hl1]; simp
          have := hlk x c this
          rw [h9] at this; exact (Option.some.inj this).symm
        subst hcc
        obtain ⟨n1, n2⟩ := ck x c h9 ⟨_, hcell⟩
        rw [hz c n1 n2]
        obtain ⟨o, ho, _⟩ := hcell
        rw [ho]; simp
  · show (L :: ([] ++ X)).Nodup
    exact List.nodup_cons.mpr ⟨hLX, S.xnodup⟩
  · have ha : a ∈ L :: ([] ++ X) := ha
    rcases List.mem_cons.mp ha with rfl | ha
    · exact hL.2.1
    · exact S.offX a ha
  · have ha : a ∈ L :: ([] ++ X) := ha
    rcases List.mem_cons.mp ha with rfl | ha
    · exact if_pos (.inr rfl)
    · exact if_pos (.inl ha)

/-- and out of it -/
theorem St.leave (S : St C xs G ρ M X B s m) {sc : Scope} {cl : List (Str × Addr)} {L : Addr} {W : List Addr} (ap : Apart C G B X (L :: W)) (hLW : L ∉ W) (hlW : ∀ b ∈ W, ∃ o, s.heap.get? b = some o)
    {xs' : List Str} {ρ' : List (Option V)} {M' : MS} {X' : List Addr} {B' : Base} {s' : Shared} {mL : Str → Option Value} (hB : Le B B') (S' : St (compCx C sc cl L) xs' (G.inner X L s.heap B) ρ' M' X' B' s' mL) :
    St C xs G ρ M' X' B' s' m ∧ Apart C G B' X' (L :: W) ∧ s'.heap.Ns L mL ∧ ∀ b ∈ W, ∀ o, s.heap.get? b = some o → s'.heap.get? b = some o := by
  have hL := ap L (.head _)
  have hz : ∀ a, a ∉ X → a ≠ L → (G.inner X L s.heap B).Z a = s.heap.get? a := fun a h1 h2 => if_neg (fun h => h.elim h1 h2)
  have hzn : ∀ a, (G.inner X L s.heap B).Z a = none → a ∈ X ∨ a = L ∨ s.heap.get? a = none := fun a h => by
    by_cases h1 : a ∈ X
    · exact .inl h1
    · by_cases h2 : a = L
      · exact .inr (.inl h2)
      · rw [hz a h1 h2] at h; exact .inr (.inr h)
  have keep : ∀ a o, a ∉ X → a ≠ L → s.heap.get? a = some o → s'.heap.get? a = some o := fun a o h1 h2 e => S'.kept a o (by rw [hz a h1 h2]; exact e)
  have nd := List.nodup_cons.mp S.nodup
  have nd2 := List.nodup_append.mp nd.2
  have hlo : ∀ a ∈ C.env.locals :: C.own, a ∉ X ∧ a ≠ L := fun a ha => by
    rcases List.mem_cons.mp ha with rfl | ha
    · exact ⟨fun hm => nd.1 (List.mem_append_right _ hm), fun e => hL.1 (by rw [← e]; exact .head _)⟩
    · exact ⟨fun hm => nd2.2.2 a ha a hm rfl, fun e => hL.1 (by rw [← e]; exact .tail _ (List.mem_append_left _ ha))⟩
  have lol : ∀ a ∈ C.env.locals :: C.own, ∃ o, s.heap.get? a = some o := fun a ha => S.live a (by
    rcases List.mem_cons.mp ha with rfl | ha
    · exact .head _
    · exact .tail _ (List.mem_append_left _ ha))
  have ck : ∀ x c, C.env.cells.lookup x = some c → c ∉ X ∧ c ≠ L := fun x c hl => by
    by_cases hc : c ∈ C.own
    · exact hlo c (.tail _ hc)
    · have := S.fre x c (mem_of_lookup hl) hc
      exact ⟨fun hm => this (S.offZ c (.tail _ (List.mem_append_right _ hm))), fun e => this (e ▸ hL.2.2)⟩
  obtain ⟨oL, esL, epL, hoL, restL⟩ := S.ns
  have hX' : ∀ a ∈ X', (G.inner X L s.heap B).Z a = none := fun a ha => S'.offZ a (.tail _ (List.mem_append_right _ ha))
  have hLX' : L ∉ X' := fun hm => (List.nodup_cons.mp S'.nodup).1 (List.mem_append_right _ hm)
  have hlo' : ∀ a ∈ C.env.locals :: C.own, a ∉ X' := fun a ha hm => by
    obtain ⟨h1, h2⟩ := hlo a ha
    obtain ⟨o, ho⟩ := lol a ha
    rcases hzn a (hX' a hm) with h3 | h3 | h3
    · exact h1 h3
    · exact h2 h3
    · rw [ho] at h3; cases h3
  have hBlo : ∀ a, a ∉ X → a ≠ L → B a = none → (∃ o, s.heap.get? a = some o) → B' a = none := fun a h1 h2 h3 ⟨o, ho⟩ => by
    cases e : B' a with
    | none => rfl
    | some o' =>
      rcases S'.grow a (by rw [e]; simp) with h4 | h4
      · exact absurd h3 h4
      · rw [hz a h1 h2, ho] at h4; cases h4
  refine ⟨⟨?_, S'.known, fun a o e => ?_, S.base, ⟨oL, esL, epL, keep _ _ (hlo _ (.head _)).1 (hlo _ (.head _)).2 hoL, restL⟩, fun i x v hx hv => ?_, fun c hc => ?_, S.fre, S'.mrep, ?_, fun a ha => ?_, fun a ha => ?_, fun a ha => ?_⟩, fun b hb => ?_, S'.ns, fun b hb o e => ?_⟩
  · exact S'.same
  · have e2 := S.kept a o e
    refine keep a o (fun hm => ?_) (fun hh => ?_) e2
    · rw [S.offZ a (.tail _ (List.mem_append_right _ hm))] at e; cases e
    · rw [hh, hL.2.2] at e; cases e
  · obtain ⟨cv, r, hh⟩ := S.slot i x v hx hv
    refine ⟨cv, r.mono hB, ?_⟩
    rcases hh with hh | ⟨h1, c, h2, o, ho, hd⟩
    · exact .inl hh
    · exact .inr ⟨h1, c, h2, o, keep c o (ck x c h2).1 (ck x c h2).2 ho, hd⟩
  · obtain ⟨v, o, ho, hd⟩ := S.cel c hc
    exact ⟨v, o, keep c o (hlo c (.tail _ hc)).1 (hlo c (.tail _ hc)).2 ho, hd⟩
  · refine List.nodup_cons.mpr ⟨fun hm => ?_, List.nodup_append.mpr ⟨nd2.1, S'.xnodup, fun a ha b hb e => ?_⟩⟩
    · rcases List.mem_append.mp hm with hm | hm
      · exact nd.1 (List.mem_append_left _ hm)
      · exact hlo' _ (.head _) hm
    · subst e; exact hlo' a (.tail _ ha) hb
  · have hcase : a ∈ C.env.locals :: C.own ∨ a ∈ X' := by
      rcases List.mem_cons.mp ha with rfl | ha
      · exact .inl (.head _)
      · exact (List.mem_append.mp ha).imp (.tail _) id
    rcases hcase with h1 | h1
    · exact hBlo a (hlo a h1).1 (hlo a h1).2 (S.offB a (by
        rcases List.mem_cons.mp h1 with rfl | h1
        · exact .head _
        · exact .tail _ (List.mem_append_left _ h1))) (lol a h1)
    · exact S'.offX a h1
  · have hcase : a ∈ C.env.locals :: C.own ∨ a ∈ X' := by
      rcases List.mem_cons.mp ha with rfl | ha
      · exact .inl (.head _)
      · exact (List.mem_append.mp ha).imp (.tail _) id
    rcases hcase with h1 | h1
    · exact S.offZ a (by
        rcases List.mem_cons.mp h1 with rfl | h1
        · exact .head _
        · exact .tail _ (List.mem_append_left _ h1))
    · rcases hzn a (hX' a h1) with h3 | h3 | h3
      · exact S.offZ a (.tail _ (List.mem_append_right _ h3))
      · rw [h3]; exact hL.2.2
      · cases hzz : G.Z a with
        | none => rfl
        | some o => rw [S.kept _ _ hzz] at h3; cases h3
  · rcases S'.grow a ha with h4 | h4
    · exact S.grow a h4
    · rcases hzn a h4 with h3 | h3 | h3
      · exact .inr (S.offZ a (.tail _ (List.mem_append_right _ h3)))
      · right; rw [h3]; exact hL.2.2
      · right
        cases hzz : G.Z a with
        | none => rfl
        | some o => rw [S.kept _ _ hzz] at h3; cases h3
  · rcases List.mem_cons.mp hb with rfl | hbW
    · refine ⟨fun hm => ?_, S'.offB b (.head _), hL.2.2⟩
      rcases List.mem_cons.mp hm with e | hm
      · exact hL.1 (by rw [e]; exact .head _)
      · rcases List.mem_append.mp hm with hm | hm
        · exact hL.1 (.tail _ (List.mem_append_left _ hm))
        · exact hLX' hm
    · have hbL : b ≠ L := fun e => hLW (e ▸ hbW)
      have hbb := ap b hb
      have hbX : b ∉ X := fun hm => hbb.1 (.tail _ (List.mem_append_right _ hm))
      obtain ⟨o, ho⟩ := hlW b hbW
      refine ⟨fun hm => ?_, hBlo b hbX hbL hbb.2.1 ⟨o, ho⟩, hbb.2.2⟩
      rcases List.mem_cons.mp hm with e | hm
      · exact hbb.1 (by rw [e]; exact .head _)
      · rcases List.mem_append.mp hm with hm | hm
        · exact hbb.1 (.tail _ (List.mem_append_left _ hm))
        · rcases hzn b (hX' b hm) with h3 | h3 | h3
          · exact hbX h3
          · exact hbL h3
          · rw [ho] at h3; cases h3
  · have hbL : b ≠ L := fun e' => hLW (e' ▸ hb)
    have hbb := ap b (.tail _ hb)
    exact keep b o (fun hm => hbb.1 (.tail _ (List.mem_append_right _ hm))) hbL e
end
end Mine

namespace Mine
open PySem PySem.W PySem.Calls PyProof.Rows

section
variable {w : World} {A : Around} {R : Result → Shared → Prop} {s : Shared}
theorem compLoop_any {elt target iter : Expr} {ifs : List Expr} {scope : Scope} {pos : Pos} {it acc : Value} {env : Env} (I : Nat → Shared → Prop)
    (turn : ∀ n s, I n s → wpAny (model PG w) A (pyNext it) (fun r s₁ => match r with
      | none => R (.ok .next) s₁
      | some v => wpAny (model PG w) A (letOwnedTupleGo target it v) (fun _ s₁' => wpAny (model PG w) A (assign target env v) (fun _ s₂ =>
          wpAny (model PG w) A (forIn ifs true fun c r => if r = true then do let ok ← isTrue c env (eval c env); pure (ForInStep.yield ok) else pure (ForInStep.yield r)) (fun ok s₃ =>
            if ok = true then wpAny (model PG w) A (eval elt env) (fun x s₄ =>
              wpAny (model PG w) A (call (.builtin "list.append") [acc, x]) (fun _ s₅ => ∃ m, m < n ∧ I m s₅) (notedBy (model PG w) A env fun e s' => R (.error e) s') s₄) (notedBy (model PG w) A env fun e s' => R (.error e) s') s₃
            else ∃ m, m < n ∧ I m s₃) (notedBy (model PG w) A env fun e s' => R (.error e) s') s₂) (notedBy (model PG w) A env fun e s' => R (.error e) s') s₁') (notedBy (model PG w) A env fun e s' => R (.error e) s') s₁) (notedBy (model PG w) A env fun e s' => R (.error e) s') s)
    (n : Nat) (h : I n s) : codeAny (model PG w) A (.compLoop (.ListComp elt [⟨target, iter, ifs, 0⟩] scope pos) 0 it acc env) R s := by
  refine codeAny_loop rfl I (fun n s hI => ?_) n h
  show wpAny _ A ((compTurn (.ListComp elt [⟨target, iter, ifs, 0⟩] scope pos) 0 it acc env).onRaise (fun x => do noteFrame x env; theTreesLotGoes x)) _ _ s
  refine wpAny_noted ?_
  rw [compTurn_list]
  refine wpAny_bind (wpAny_standAt (wpAny_bind (wpAny_mono (turn n s hI) (fun r s₁ h₁ => ?_) fun _ _ h' => h')))
  cases r with
  | none => exact wpAny_pure h₁
  | some v =>
    refine wpAny_bind (wpAny_mono h₁ (fun _ s₁' h₁' => ?_) fun _ _ h' => h')
    refine wpAny_bind (wpAny_mono h₁' (fun _ s₂ h₂ => wpAny_bind (wpAny_mono h₂ (fun ok s₃ h₃ => ?_) fun _ _ h' => h')) fun _ _ h' => h')
    cases ok with
    | false => exact wpAny_pure ⟨rfl, h₃⟩
    | true =>
      exact wpAny_bind (wpAny_bind (wpAny_mono h₃ (fun x s₄ h₄ => wpAny_bind (wpAny_mono h₄ (fun _ s₅ h₅ => wpAny_pure (wpAny_pure ⟨rfl, h₅⟩)) fun _ _ h' => h')) fun _ _ h' => h'))
theorem compLoop_anyD {kx vx target iter : Expr} {ifs : List Expr} {scope : Scope} {pos : Pos} {it : Value} {D : Addr} {env : Env} (I : Nat → Shared → Prop)
    (turn : ∀ n s, I n s → wpAny (model PG w) A (pyNext it) (fun r s₁ => match r with
      | none => R (.ok .next) s₁
      | some v => wpAny (model PG w) A (letOwnedTupleGo target it v) (fun _ s₁' => wpAny (model PG w) A (assign target env v) (fun _ s₂ =>
          wpAny (model PG w) A (forIn ifs true fun c r => if r = true then do let ok ← isTrue c env (eval c env); pure (ForInStep.yield ok) else pure (ForInStep.yield r)) (fun ok s₃ =>
            if ok = true then wpAny (model PG w) A (eval kx env) (fun kv s₄ => wpAny (model PG w) A (eval vx env) (fun vv s₅ =>
              wpAny (model PG w) A (dictSet D kv vv) (fun _ s₆ => ∃ m, m < n ∧ I m s₆) (notedBy (model PG w) A env fun e s' => R (.error e) s') s₅) (notedBy (model PG w) A env fun e s' => R (.error e) s') s₄) (notedBy (model PG w) A env fun e s' => R (.error e) s') s₃
            else ∃ m, m < n ∧ I m s₃) (notedBy (model PG w) A env fun e s' => R (.error e) s') s₂) (notedBy (model PG w) A env fun e s' => R (.error e) s') s₁') (notedBy (model PG w) A env fun e s' => R (.error e) s') s₁) (notedBy (model PG w) A env fun e s' => R (.error e) s') s)
    (n : Nat) (h : I n s) : codeAny (model PG w) A (.compLoop (.DictComp kx vx [⟨target, iter, ifs, 0⟩] scope pos) 0 it (.ref D) env) R s := by
  refine codeAny_loop rfl I (fun n s hI => ?_) n h
  show wpAny _ A ((compTurn (.DictComp kx vx [⟨target, iter, ifs, 0⟩] scope pos) 0 it (.ref D) env).onRaise (fun x => do noteFrame x env; theTreesLotGoes x)) _ _ s
  refine wpAny_noted ?_
  rw [compTurn_dict]
  refine wpAny_bind (wpAny_standAt (wpAny_bind (wpAny_mono (turn n s hI) (fun r s₁ h₁ => ?_) fun _ _ h' => h')))
  cases r with
  | none => exact wpAny_pure h₁
  | some v =>
    refine wpAny_bind (wpAny_mono h₁ (fun _ s₁' h₁' => ?_) fun _ _ h' => h')
    refine wpAny_bind (wpAny_mono h₁' (fun _ s₂ h₂ => wpAny_bind (wpAny_mono h₂ (fun ok s₃ h₃ => ?_) fun _ _ h' => h')) fun _ _ h' => h')
    cases ok with
    | false => exact wpAny_pure ⟨rfl, h₃⟩
    | true =>
      exact wpAny_bind (wpAny_bind (wpAny_mono h₃ (fun kv s₄ h₄ => wpAny_bind (wpAny_holding (wpAny_mono h₄ (fun vv s₅ h₅ => wpAny_bind (wpAny_standAt (wpAny_holding (wpAny_mono h₅ (fun _ s₆ h₆ => wpAny_pure ⟨rfl, h₆⟩) fun _ _ h' => h')))) fun _ _ h' => h'))) fun _ _ h' => h'))
end

section
variable {C : Cx} {xs : List Str} {gs : List (Str × Value)} {ρ : List (Option V)} {M : MS}

def JT (C : Cx) (ifs : List Expr) : Sem Bool := forIn ifs true fun c r => if r = true then do let ok ← isTrue c C.env (eval c C.env); pure (ForInStep.yield ok) else pure (ForInStep.yield r)
theorem JT_nil {Q : Bool → MS → Prop} (h : Q true M) : JB C xs gs ρ M (JT C []) Q :=
  fun hC G X B s m S Qc E k => wpAny_tests_nil (k true M X B s m (Le.refl _) S h)
theorem JT_one {c : Expr} {Q : Bool → MS → Prop} (h : JB C xs gs ρ M (isTrue c C.env (eval c C.env)) Q) : JB C xs gs ρ M (JT C [c]) Q :=
  fun hC G X B s m S Qc E k => wpAny_tests_one (h hC G X B s m S Qc E k)

theorem JE_ListComp {elt iter tgt : Expr} {ifs : List Expr} {sc : Scope} {pos : Pos} {Q : V → MS → Prop} (locs cap : List Str) {vs : List V} {gs' : List (Str × Value)} (Inv : Nat → List V → MS → Prop) (N : Nat)
    (hok : CompOk C xs gs ρ sc locs cap vs gs')
    (h : JI C xs gs ρ M iter tgt fun cur M1 => Inv 0 [] M1 ∧ ∀ i acc M', Inv i acc M' → i ≤ N ∧ acc.length ≤ 1000 ∧ ∃ r, cur M' i r ∧ match r with
      | none => Q (.list acc) M'
      | some x => ∀ C' : Cx, C'.w = C.w → C'.h₀ = C.h₀ → C'.A = C.A → (∀ y ∈ locs, CanSto C' y) →
        JA C' (locs ++ cap) gs' (locs.map (fun _ => none) ++ vs.map some) M' x (assign tgt C'.env) fun ρ2 M2 => JB C' (locs ++ cap) gs' ρ2 M2 (JT C' ifs) fun b M3 =>
          (b = false → Inv (i + 1) acc M3) ∧ (b = true → JE C' (locs ++ cap) gs' ρ2 M3 (eval elt C'.env) fun y M4 => Inv (i + 1) (acc ++ [y]) M4))
    (hs : ∀ x, foldedSetIterable iter C.env x = pure x := by intro _; rfl) :
    JE C xs gs ρ M (eval (.ListComp elt [⟨tgt, iter, ifs, 0⟩] sc pos) C.env) Q :=
  fun hC G X B s m S Qc E kf => by
    obtain ⟨u1, u2, u3, u4, u5, u6, u7⟩ := hok.unpack
    obtain ⟨cl, hclos, hclk, hlk⟩ := hok.caps.cl hC u7
    rw [eval_ListComp]
    refine wpAny_comprehension_free (use := none) rfl hs hclos u1 (fun p hp => (u6 p hp).2) ?_
    refine h hC G X B s m S _ _ fun cur M1 X1 B1 s1 m1 I W StI l1 S1 hit ap1 hst1 q1 => ?_
    obtain ⟨inv0, step⟩ := q1
    refine wpAny_newObj_type (wpAny_newFunctionEnv (fun p hp => (u6 p hp).1) (by intro y hy; simp at hy) (fun h₁ hns₁ hsb₁ => ?_) u1)
    dsimp only at hns₁ hsb₁ ⊢
    generalize hD : s1.heap.objs.size = D at hns₁ hsb₁ ⊢
    generalize hH2 : s1.heap.push { cls := .type "list", dict := none, data := .seq ([] : List Value).toArray } = H2 at hns₁ hsb₁ ⊢
    have hL' : H2.objs.size = D + 1 := by rw [← hH2, Heap.size_push, hD]
    generalize hL : H2.objs.size = L at hns₁ hsb₁ ⊢
    rw [hL] at hL'
    have old : ∀ b o, s1.heap.get? b = some o → h₁.get? b = some o := fun b o e => by
      have hb := Heap.lt_size e
      rw [hD] at hb
      exact hsb₁.extBut b o (by rw [hL']; exact Nat.ne_of_lt (Nat.lt_succ_of_lt hb)) (Heap.get?_push_of_some _ (hH2 ▸ Heap.get?_push_of_some _ e))
    have hDn : s1.heap.get? D = none := by rw [← hD]; exact fresh_size _
    have hLn : s1.heap.get? L = none := by
      cases e : s1.heap.get? L with
      | none => rfl
      | some o => have := Heap.lt_size e; rw [hD, hL'] at this; exact absurd this (Nat.not_lt.mpr (Nat.le_succ _))
    have hDo : h₁.get? D = some (lisO [] 0) := hsb₁.extBut D _ (by rw [hL']; exact Nat.ne_of_lt (Nat.lt_succ_self _)) (Heap.get?_push_of_some _ (by rw [← hH2, ← hD]; exact Heap.get?_push_size _ rfl))
    have hDL : L ≠ D := by rw [hL']; exact Nat.succ_ne_self _
    have liveW : ∀ b ∈ W, ∃ o, s1.heap.get? b = some o := hit.live 0 _ hst1
    have hLW : L ∉ W := fun hm => by obtain ⟨o, ho⟩ := liveW L hm; rw [hLn] at ho; cases ho
    have hDW : D ∉ W := fun hm => by obtain ⟨o, ho⟩ := liveW D hm; rw [hDn] at ho; cases ho
    have apS : Apart C G B1 X1 (L :: D :: W) := S1.freshApart hLn (S1.freshApart hDn ap1)
    have S2 : St C xs G ρ M1 X1 B1 { s1 with heap := h₁, toks := s1.toks + ([] : List (Str × Value)).length } m1 := S1.keeps _ old
    have hstW : StI 0 h₁ := hit.frame _ _ _ hst1 fun b hb o e => old b o e
    have loop : ∀ s₃ : Shared, s₃ = { s1 with heap := h₁, toks := s1.toks + ([] : List (Str × Value)).length } →
        codeAny (model PG C.w) C.A (.compLoop (.ListComp elt [⟨tgt, iter, ifs, 0⟩] sc pos) 0 (.ref I) (.ref D) (compEnvC sc cl L C.env)) (compPost (model PG C.w) C.A E none Qc (.ref D) L) s₃ := by
      rintro s₃ rfl
      refine compLoop_any (fun n s' => ∃ i acc ys nn M' X' B' mL, n = N + 1 - i ∧ Le B1 B' ∧ St C xs G ρ M' X' B' s' m1 ∧ Apart C G B' X' (L :: D :: W) ∧ StI i s'.heap ∧ s'.heap.Ns L mL ∧ s'.heap.get? D = some (lisO ys nn) ∧ Reps C.w B' acc ys ∧ Inv i acc M') ?_ (N + 1)
        ⟨0, [], [], 0, M1, X1, B1, _, rfl, Le.refl _, S2, apS, hstW, hns₁, hDo, .nil, inv0⟩
      rintro n s' ⟨i, acc, ys, nn, M', X', B', mL, rfl, l', S', ap', hst', hns', hDo', racc, inv'⟩
      obtain ⟨hi, hacc, r, hcur, hr⟩ := step i acc M' inv'
      have liveW' := hit.live i _ hst'
      have live' : ∀ b ∈ L :: D :: W, ∃ o, s'.heap.get? b = some o := fun b hb => by
        rcases List.mem_cons.mp hb with rfl | hb
        · obtain ⟨o, _, _, ho, _⟩ := hns'; exact ⟨o, ho⟩
        · rcases List.mem_cons.mp hb with rfl | hb
          · exact ⟨_, hDo'⟩
          · exact liveW' b hb
      have apW : Apart C G B' X' W := ap'.mono fun b hb => .tail _ (.tail _ hb)
      refine wpAny_mono (hit.next i s' B' M' X' r l' S'.known S'.mrep (fun b hb => ⟨(apW b hb).2.1, fun hx => (apW b hb).1 (.tail _ (List.mem_append_right _ hx))⟩) hst' hcur _ _ _ _ ?_) (fun cr s₂ hh => by
        cases cr with
        | none => exact hh
        | some v => exact hh) fun _ _ e => e
      intro cr B2 h2 tk2 l2 new2 kn2 keep2 hres
      have S3 := S'.side (tk := tk2) apW l2 kn2 keep2 (fun a ha => (new2 a ha).imp id .inl)
      have ap3 : Apart C G B2 X' (L :: D :: W) := ap'.grow live' new2
      have hns3 : h2.Ns L mL := hns'.at' fun o e => keep2 L o hLW e
      have hDo3 : h2.get? D = some (lisO ys nn) := keep2 D _ hDW hDo'
      cases r with
      | none =>
        have e : cr = none := hres
        subst e
        refine ⟨mL, hns3, fun h3 hsb3 => ?_⟩
        have apL : Apart C G B2 X' [L] := ap3.mono fun b hb => by rw [List.mem_singleton.mp hb]; exact .head _
        have S4 := S3.side (h' := h3) (tk := tk2) apL (Le.refl _) (fun b o e => hsb3.extBut b o (fun e' => by subst e'; rw [(apL _ (.head _)).2.1] at e; cases e) (kn2 _ _ e))
          (fun b o hb e => hsb3.extBut b o (fun e' => hb (e' ▸ .head _)) e) (fun _ h => .inl h)
        have hDo4 : h3.get? D = some (lisO ys nn) := hsb3.extBut D _ (Ne.symm hDL) hDo3
        have apD : Apart C G B2 X' [D] := ap3.mono fun b hb => by rw [List.mem_singleton.mp hb]; exact .tail _ (.head _)
        obtain ⟨l5, S5⟩ := S4.adopt apD hDo4
        exact kf _ M' X' _ _ m1 _ (((l1.trans l').trans l2).trans l5) S5 (.list (put_self _ _ _) ((racc.mono l2).mono l5)) hr
      | some x =>
        obtain ⟨cv, rfl, rcv, hst3⟩ := hres
        obtain ⟨hOk', hsto'⟩ := hok.ok hC hclk hlk L
        have apL : Apart C G B2 X' [L] := ap3.mono fun b hb => by rw [List.mem_singleton.mp hb]; exact .head _
        have live3 : ∀ b ∈ D :: W, ∃ o, h2.get? b = some o := fun b hb => by
          rcases List.mem_cons.mp hb with rfl | hb
          · exact ⟨_, hDo3⟩
          · exact hit.live (i + 1) _ hst3 b hb
        have hLDW : L ∉ D :: W := fun hm => by
          rcases List.mem_cons.mp hm with e | hm
          · exact hDL e
          · exact hLW hm
        have Sin := S3.enter hC hok hlk hclk apL hns3
        -- whatever the frame's trees do, the outer frame has it back
        have back : ∀ {ρ4 : List (Option V)} {M4 : MS} {X4 : List Addr} {B4 : Base} {s4 : Shared} {m4 : Str → Option Value} (acc' : List V) (ys' : List Value) (nn' : Nat) (h5 : Heap), Le B2 B4 → St (compCx C sc cl L) (locs ++ cap) (G.inner X' L h2 B2) ρ4 M4 X4 B4 s4 m4 →
            (∀ b o, b ≠ D → s4.heap.get? b = some o → h5.get? b = some o) → h5.get? D = some (lisO ys' nn') → Reps C.w B4 acc' ys' → Inv (i + 1) acc' M4 →
            ∃ m, m < N + 1 - i ∧ ∃ i acc ys nn M' X' B' mL, m = N + 1 - i ∧ Le B1 B' ∧ St C xs G ρ M' X' B' { s4 with heap := h5 } m1 ∧ Apart C G B' X' (L :: D :: W) ∧ StI i h5 ∧ h5.Ns L mL ∧ h5.get? D = some (lisO ys nn) ∧ Reps C.w B' acc ys ∧ Inv i acc M' := by
          intro ρ4 M4 X4 B4 s4 m4 acc' ys' nn' h5 l4 S4 k5 hD5 r5 i5
          obtain ⟨S4', ap4, hns4, kept4⟩ := S3.leave ap3 hLDW live3 l4 S4
          have apD : Apart C G B4 X4 [D] := ap4.mono fun b hb => by rw [List.mem_singleton.mp hb]; exact .tail _ (.head _)
          have S5 := S4'.side (h' := h5) (tk := s4.toks) apD (Le.refl _) (fun b o e => k5 b o (fun e' => by subst e'; rw [(apD _ (.head _)).2.1] at e; cases e) (S4'.known _ _ e)) (fun b o hb e => k5 b o (fun e' => hb (e' ▸ .head _)) e) (fun _ h => .inl h)
          exact ⟨N + 1 - (i + 1), by omega, i + 1, acc', ys', nn', M4, X4, B4, m4, rfl, (l'.trans l2).trans l4, S5, ap4,
            hit.frame _ _ _ hst3 (fun b hb o e => k5 b o (fun e' => hDW (e' ▸ hb)) (kept4 b (.tail _ hb) o e)), hns4.at' (fun o e => k5 L o hDL e), hD5, r5, i5⟩
        refine hr (compCx C sc cl L) rfl rfl rfl hsto' hOk' _ X' B2 _ mL Sin cv rcv _ _ fun ρ4 M4 X4 B4 s4 m4 l4 S4 q4 => ?_
        refine q4 hOk' _ X4 B4 s4 m4 S4 _ _ fun b M5 X5 B5 s5 m5 l5 S5 q5 => ?_
        have hDk : ∀ {ρ4 : List (Option V)} {M4 : MS} {X4 : List Addr} {B4 : Base} {s4 : Shared} {m4 : Str → Option Value}, Le B2 B4 → St (compCx C sc cl L) (locs ++ cap) (G.inner X' L h2 B2) ρ4 M4 X4 B4 s4 m4 → s4.heap.get? D = some (lisO ys nn) :=
          fun l4 S4 => (S3.leave ap3 hLDW live3 l4 S4).2.2.2 D (.head _) _ hDo3
        cases b with
        | false =>
          simp only [Bool.false_eq_true, if_false]
          exact back acc ys nn s5.heap (l4.trans l5) S5 (fun _ _ _ e => e) (hDk (l4.trans l5) S5) (((racc.mono l2).mono l4).mono l5) (q5.1 rfl)
        | true =>
          simp only [if_true]
          refine (q5.2 rfl) hOk' _ X5 B5 s5 m5 S5 _ _ fun y M6 X6 B6 s6 m6 cy l6 S6 ry q6 => ?_
          have hD6 := hDk ((l4.trans l5).trans l6) S6
          have hlen : ys.length = acc.length := racc.length
          refine wpAny_list_append_plain (items := ys.toArray) ⟨nn, hD6⟩ (fun h7 hp7 hs7 => ?_) (by rw [List.size_toArray, hlen, sizeLine_eq]; omega)
          obtain ⟨n7, e7⟩ := hp7
          rw [List.push_toArray] at e7
          exact back (acc ++ [y]) (ys ++ [cy]) n7 h7 ((l4.trans l5).trans l6) S6 (fun b o hb e => hs7.extBut b o hb e) e7 (((((racc.mono l2).mono l4).mono l5).mono l6).append (.cons ry .nil)) q6
    exact codeAny_compStart_list (loop _ rfl) (hit.self 0 _ _ _ hstW (loop _ rfl))

theorem JE_DictComp {kx vx iter tgt : Expr} {ifs : List Expr} {sc : Scope} {pos : Pos} {Q : V → MS → Prop} (locs cap : List Str) {vs : List V} {gs' : List (Str × Value)} (Inv : Nat → List (Int × V) → MS → Prop) (N : Nat)
    (hok : CompOk C xs gs ρ sc locs cap vs gs')
    (h : JI C xs gs ρ M iter tgt fun cur M1 => Inv 0 [] M1 ∧ ∀ i acc M', Inv i acc M' → i ≤ N ∧ acc.length ≤ 1000 ∧ ∃ r, cur M' i r ∧ match r with
      | none => Q (.dictI acc) M'
      | some x => ∀ C' : Cx, C'.w = C.w → C'.h₀ = C.h₀ → C'.A = C.A → (∀ y ∈ locs, CanSto C' y) →
        JA C' (locs ++ cap) gs' (locs.map (fun _ => none) ++ vs.map some) M' x (assign tgt C'.env) fun ρ2 M2 => JB C' (locs ++ cap) gs' ρ2 M2 (JT C' ifs) fun b M3 =>
          (b = false → Inv (i + 1) acc M3) ∧ (b = true → JE C' (locs ++ cap) gs' ρ2 M3 (eval kx C'.env) fun y M4 => ∃ k, y = .int k ∧ JE C' (locs ++ cap) gs' ρ2 M4 (eval vx C'.env) fun z M5 => Inv (i + 1) (putI acc k z) M5))
    (hs : ∀ x, foldedSetIterable iter C.env x = pure x := by intro _; rfl) :
    JE C xs gs ρ M (eval (.DictComp kx vx [⟨tgt, iter, ifs, 0⟩] sc pos) C.env) Q :=
  fun hC G X B s m S Qc E kf => by
    obtain ⟨u1, u2, u3, u4, u5, u6, u7⟩ := hok.unpack
    obtain ⟨cl, hclos, hclk, hlk⟩ := hok.caps.cl hC u7
    rw [arm_eval_DictComp]
    refine wpAny_comprehension_free (use := none) rfl hs hclos u1 (fun p hp => (u6 p hp).2) ?_
    refine h hC G X B s m S _ _ fun cur M1 X1 B1 s1 m1 I W StI l1 S1 hit ap1 hst1 q1 => ?_
    obtain ⟨inv0, step⟩ := q1
    refine wpAny_newObj_type (wpAny_newFunctionEnv (fun p hp => (u6 p hp).1) (by intro y hy; simp at hy) (fun h₁ hns₁ hsb₁ => ?_) u1)
    dsimp only at hns₁ hsb₁ ⊢
    have hD2 : 2 ≤ s1.heap.objs.size := Nat.lt_of_lt_of_le (by decide) (S1.size2 hC)
    generalize hD : s1.heap.objs.size = D at hns₁ hsb₁ hD2 ⊢
    generalize hH2 : s1.heap.push { cls := .type "dict", data := .dict #[] } = H2 at hns₁ hsb₁ ⊢
    have hL' : H2.objs.size = D + 1 := by rw [← hH2, Heap.size_push, hD]
    generalize hL : H2.objs.size = L at hns₁ hsb₁ ⊢
    rw [hL] at hL'
    have old : ∀ b o, s1.heap.get? b = some o → h₁.get? b = some o := fun b o e => by
      have hb := Heap.lt_size e
      rw [hD] at hb
      exact hsb₁.extBut b o (by rw [hL']; exact Nat.ne_of_lt (Nat.lt_succ_of_lt hb)) (Heap.get?_push_of_some _ (hH2 ▸ Heap.get?_push_of_some _ e))
    have hDn : s1.heap.get? D = none := by rw [← hD]; exact fresh_size _
    have hLn : s1.heap.get? L = none := by
      cases e : s1.heap.get? L with
      | none => rfl
      | some o => have := Heap.lt_size e; rw [hD, hL'] at this; exact absurd this (Nat.not_lt.mpr (Nat.le_succ _))
    have hDo : h₁.DictOf (intKind PG C.w) D [] := by
      have h0 : (s1.heap.push { cls := .type "dict", data := .dict #[] }).DictOf (intKind PG C.w) D [] := by rw [← hD]; exact Heap.DictOf.new _
      exact (h0.at fun o e => hsb₁.extBut D o (by rw [hL']; exact Nat.ne_of_lt (Nat.lt_succ_self _)) (Heap.get?_push_of_some _ (by rw [← hH2]; exact e)))
    have hDL : L ≠ D := by rw [hL']; exact Nat.succ_ne_self _
    have liveW : ∀ b ∈ W, ∃ o, s1.heap.get? b = some o := hit.live 0 _ hst1
    have hLW : L ∉ W := fun hm => by obtain ⟨o, ho⟩ := liveW L hm; rw [hLn] at ho; cases ho
    have hDW : D ∉ W := fun hm => by obtain ⟨o, ho⟩ := liveW D hm; rw [hDn] at ho; cases ho
    have apS : Apart C G B1 X1 (L :: D :: W) := S1.freshApart hLn (S1.freshApart hDn ap1)
    have S2 : St C xs G ρ M1 X1 B1 { s1 with heap := h₁, toks := s1.toks + ([] : List (Str × Value)).length } m1 := S1.keeps _ old
    have hstW : StI 0 h₁ := hit.frame _ _ _ hst1 fun b hb o e => old b o e
    have loop : ∀ s₃ : Shared, s₃ = { s1 with heap := h₁, toks := s1.toks + ([] : List (Str × Value)).length } →
        codeAny (model PG C.w) C.A (.compLoop (.DictComp kx vx [⟨tgt, iter, ifs, 0⟩] sc pos) 0 (.ref I) (.ref D) (compEnvC sc cl L C.env)) (compPost (model PG C.w) C.A E none Qc (.ref D) L) s₃ := by
      rintro s₃ rfl
      refine compLoop_anyD (fun n s' => ∃ i acc kvs M' X' B' mL, n = N + 1 - i ∧ Le B1 B' ∧ St C xs G ρ M' X' B' s' m1 ∧ Apart C G B' X' (L :: D :: W) ∧ StI i s'.heap ∧ s'.heap.Ns L mL ∧ s'.heap.DictOf (intKind PG C.w) D kvs ∧ RepI C.w B' acc kvs ∧ Inv i acc M') ?_ (N + 1)
        ⟨0, [], [], M1, X1, B1, _, rfl, Le.refl _, S2, apS, hstW, hns₁, hDo, .nil, inv0⟩
      rintro n s' ⟨i, acc, kvs, M', X', B', mL, rfl, l', S', ap', hst', hns', hDo', racc, inv'⟩
      obtain ⟨hi, hacc, r, hcur, hr⟩ := step i acc M' inv'
      have liveW' := hit.live i _ hst'
      have live' : ∀ b ∈ L :: D :: W, ∃ o, s'.heap.get? b = some o := fun b hb => by
        rcases List.mem_cons.mp hb with rfl | hb
        · obtain ⟨o, _, _, ho, _⟩ := hns'; exact ⟨o, ho⟩
        · rcases List.mem_cons.mp hb with rfl | hb
          · obtain ⟨o, ho, _⟩ := Heap.dictOf_iff.mp hDo'; exact ⟨o, ho⟩
          · exact liveW' b hb
      have apW : Apart C G B' X' W := ap'.mono fun b hb => .tail _ (.tail _ hb)
      refine wpAny_mono (hit.next i s' B' M' X' r l' S'.known S'.mrep (fun b hb => ⟨(apW b hb).2.1, fun hx => (apW b hb).1 (.tail _ (List.mem_append_right _ hx))⟩) hst' hcur _ _ _ _ ?_) (fun cr s₂ hh => by
        cases cr with
        | none => exact hh
        | some v => exact hh) fun _ _ e => e
      intro cr B2 h2 tk2 l2 new2 kn2 keep2 hres
      have S3 := S'.side (tk := tk2) apW l2 kn2 keep2 (fun a ha => (new2 a ha).imp id .inl)
      have ap3 : Apart C G B2 X' (L :: D :: W) := ap'.grow live' new2
      have hns3 : h2.Ns L mL := hns'.at' fun o e => keep2 L o hLW e
      have hDo3 : h2.DictOf (intKind PG C.w) D kvs := hDo'.at fun o e => keep2 D o hDW e
      cases r with
      | none =>
        have e : cr = none := hres
        subst e
        refine ⟨mL, hns3, fun h3 hsb3 => ?_⟩
        have apL : Apart C G B2 X' [L] := ap3.mono fun b hb => by rw [List.mem_singleton.mp hb]; exact .head _
        have S4 := S3.side (h' := h3) (tk := tk2) apL (Le.refl _) (fun b o e => hsb3.extBut b o (fun e' => by subst e'; rw [(apL _ (.head _)).2.1] at e; cases e) (kn2 _ _ e))
          (fun b o hb e => hsb3.extBut b o (fun e' => hb (e' ▸ .head _)) e) (fun _ h => .inl h)
        obtain ⟨o4, ho4, hd4⟩ := Heap.dictOf_iff.mp (hDo3.at fun o e => hsb3.extBut D o (Ne.symm hDL) e)
        have apD : Apart C G B2 X' [D] := ap3.mono fun b hb => by rw [List.mem_singleton.mp hb]; exact .tail _ (.head _)
        obtain ⟨l5, S5⟩ := S4.adopt apD ho4
        exact kf _ M' X' _ _ m1 _ (((l1.trans l').trans l2).trans l5) S5 (.dictI hD2 (put_self _ _ _) hd4 ((racc.mono l2).mono l5)) hr
      | some x =>
        obtain ⟨cv, rfl, rcv, hst3⟩ := hres
        obtain ⟨hOk', hsto'⟩ := hok.ok hC hclk hlk L
        have apL : Apart C G B2 X' [L] := ap3.mono fun b hb => by rw [List.mem_singleton.mp hb]; exact .head _
        have live3 : ∀ b ∈ D :: W, ∃ o, h2.get? b = some o := fun b hb => by
          rcases List.mem_cons.mp hb with rfl | hb
          · obtain ⟨o, ho, _⟩ := Heap.dictOf_iff.mp hDo3; exact ⟨o, ho⟩
          · exact hit.live (i + 1) _ hst3 b hb
        have hLDW : L ∉ D :: W := fun hm => by
          rcases List.mem_cons.mp hm with e | hm
          · exact hDL e
          · exact hLW hm
        have Sin := S3.enter hC hok hlk hclk apL hns3
        have back : ∀ {ρ4 : List (Option V)} {M4 : MS} {X4 : List Addr} {B4 : Base} {s4 : Shared} {m4 : Str → Option Value} (acc' : List (Int × V)) (kvs' : List (Int × Value)) (h5 : Heap) (tk5 : Nat), Le B2 B4 → St (compCx C sc cl L) (locs ++ cap) (G.inner X' L h2 B2) ρ4 M4 X4 B4 s4 m4 →
            (∀ b o, b ≠ D → s4.heap.get? b = some o → h5.get? b = some o) → h5.DictOf (intKind PG C.w) D kvs' → RepI C.w B4 acc' kvs' → Inv (i + 1) acc' M4 →
            ∃ m, m < N + 1 - i ∧ ∃ i acc kvs M' X' B' mL, m = N + 1 - i ∧ Le B1 B' ∧ St C xs G ρ M' X' B' { s4 with heap := h5, toks := tk5 } m1 ∧ Apart C G B' X' (L :: D :: W) ∧ StI i h5 ∧ h5.Ns L mL ∧ h5.DictOf (intKind PG C.w) D kvs ∧ RepI C.w B' acc kvs ∧ Inv i acc M' := by
          intro ρ4 M4 X4 B4 s4 m4 acc' kvs' h5 tk5 l4 S4 k5 hD5 r5 i5
          obtain ⟨S4', ap4, hns4, kept4⟩ := S3.leave ap3 hLDW live3 l4 S4
          have apD : Apart C G B4 X4 [D] := ap4.mono fun b hb => by rw [List.mem_singleton.mp hb]; exact .tail _ (.head _)
          have S5 := S4'.side (h' := h5) (tk := tk5) apD (Le.refl _) (fun b o e => k5 b o (fun e' => by subst e'; rw [(apD _ (.head _)).2.1] at e; cases e) (S4'.known _ _ e)) (fun b o hb e => k5 b o (fun e' => hb (e' ▸ .head _)) e) (fun _ h => .inl h)
          exact ⟨N + 1 - (i + 1), by omega, i + 1, acc', kvs', M4, X4, B4, m4, rfl, (l'.trans l2).trans l4, S5, ap4,
            hit.frame _ _ _ hst3 (fun b hb o e => k5 b o (fun e' => hDW (e' ▸ hb)) (kept4 b (.tail _ hb) o e)), hns4.at' (fun o e => k5 L o hDL e), hD5, r5, i5⟩
        refine hr (compCx C sc cl L) rfl rfl rfl hsto' hOk' _ X' B2 _ mL Sin cv rcv _ _ fun ρ4 M4 X4 B4 s4 m4 l4 S4 q4 => ?_
        refine q4 hOk' _ X4 B4 s4 m4 S4 _ _ fun b M5 X5 B5 s5 m5 l5 S5 q5 => ?_
        have hDk : ∀ {ρ4 : List (Option V)} {M4 : MS} {X4 : List Addr} {B4 : Base} {s4 : Shared} {m4 : Str → Option Value}, Le B2 B4 → St (compCx C sc cl L) (locs ++ cap) (G.inner X' L h2 B2) ρ4 M4 X4 B4 s4 m4 → s4.heap.DictOf (intKind PG C.w) D kvs :=
          fun l4 S4 => hDo3.at fun o e => (S3.leave ap3 hLDW live3 l4 S4).2.2.2 D (.head _) o e
        cases b with
        | false =>
          simp only [Bool.false_eq_true, if_false]
          exact back acc kvs s5.heap s5.toks (l4.trans l5) S5 (fun _ _ _ e => e) (hDk (l4.trans l5) S5) (((racc.mono l2).mono l4).mono l5) (q5.1 rfl)
        | true =>
          simp only [if_true]
          refine (q5.2 rfl) hOk' _ X5 B5 s5 m5 S5 _ _ fun y M6 X6 B6 s6 m6 cy l6 S6 ry q6 => ?_
          obtain ⟨k, hk, q6⟩ := q6
          refine q6 hOk' _ X6 B6 s6 m6 S6 _ _ fun z M7 X7 B7 s7 m7 cz l7 S7 rz q7 => ?_
          have hD7 := hDk (((l4.trans l5).trans l6).trans l7) S7
          refine wpAny_dictSet_pairs (J1_key hk ry) hD7 (fun h8 hd8 hs8 => ?_) (by rw [racc.length, sizeLine_eq]; omega)
          exact back (putI acc k z) _ h8 _ (((l4.trans l5).trans l6).trans l7) S7 (fun b o hb e => hs8.extBut b o hb e) hd8 (stored_I ((((racc.mono l2).mono l4).mono l5).mono l6 |>.mono l7) k rz) q7
    exact codeAny_compStart_dict (loop _ rfl) (hit.self 0 _ _ _ hstW (loop _ rfl))
end
end Mine

namespace Mine
open PySem PySem.W PySem.Calls PyProof.Rows

section
variable {C : Cx} {xs : List Str} {gs : List (Str × Value)} {ρ : List (Option V)} {M : MS}

theorem Reps.one {w : World} {B : Base} {a : V} {vs : List Value} (h : Reps w B [a] vs) : ∃ u, vs = [u] ∧ Rep w B a u := by
  cases h with
  | cons x h => cases h; exact ⟨_, rfl, x⟩

theorem Jn_len {v : V} {l : List V} (hv : LVal M v l) (hl : l.length ≤ 1000) {Q : V → MS → Prop} (h : Q (.int l.length) M) : Jn C xs gs ρ M [v] (fun cl => call (.builtin "len") cl) Q :=
  fun hC G X B s m S cl rl Qc E k => by
    obtain ⟨u, rfl, r⟩ := rl.one
    obtain ⟨a, vs, n, rfl, ha, hr⟩ := S.lval hv r
    refine call_len_list (isList_of ha) (by simp [hr.length]; omega) ?_
    have e : ((vs.toArray.size : Nat) : Int) = ((l.length : Nat) : Int) := by rw [List.size_toArray, hr.length]
    rw [e]
    exact k _ M X B _ m _ (Le.refl _) ((S.tok (s.toks + 1)).tok _) (.int _ _) h
theorem Jn_max {i j : Int} {Q : V → MS → Prop} (h : Q (.int (max i j)) M) : Jn C xs gs ρ M [.int i, .int j] (fun cl => call (.builtin "max") cl) Q :=
  fun hC G X B s m S cl rl Qc E k => by
    obtain ⟨u, v, rfl, ru, rv⟩ := rl.two
    cases ru; cases rv
    refine max_two_ints hC.room.1 fun h' tk hk => ?_
    by_cases hc : j > i
    · rw [if_pos hc]; rw [show max i j = j by omega] at h; exact k _ M X B _ m _ (Le.refl _) (S.keeps tk hk) (.int _ _) h
    · rw [if_neg hc]; rw [show max i j = i by omega] at h; exact k _ M X B _ m _ (Le.refl _) (S.keeps tk hk) (.int _ _) h
theorem Jn_min {i j : Int} {Q : V → MS → Prop} (h : Q (.int (min i j)) M) : Jn C xs gs ρ M [.int i, .int j] (fun cl => call (.builtin "min") cl) Q :=
  fun hC G X B s m S cl rl Qc E k => by
    obtain ⟨u, v, rfl, ru, rv⟩ := rl.two
    cases ru; cases rv
    refine min_two_ints hC.room.1 fun h' tk hk => ?_
    by_cases hc : j < i
    · rw [if_pos hc]; rw [show min i j = j by omega] at h; exact k _ M X B _ m _ (Le.refl _) (S.keeps tk hk) (.int _ _) h
    · rw [if_neg hc]; rw [show min i j = i by omega] at h; exact k _ M X B _ m _ (Le.refl _) (S.keeps tk hk) (.int _ _) h
theorem Jn_intI {i : Int} {Q : V → MS → Prop} (h : Q (.int i) M) : Jn C xs gs ρ M [.int i] (fun cl => call (.type "int") cl) Q :=
  fun hC G X B s m S cl rl Qc E k => by
    obtain ⟨u, rfl, r⟩ := rl.one
    cases r
    exact call_int_int (k _ M X B s m _ (Le.refl _) S (.int _ _) h)
theorem Jn_intB {b : Bool} {Q : V → MS → Prop} (h : Q (.int (if b then 1 else 0)) M) : Jn C xs gs ρ M [.bool b] (fun cl => call (.type "int") cl) Q :=
  fun hC G X B s m S cl rl Qc E k => by
    obtain ⟨u, rfl, r⟩ := rl.one
    cases r
    exact call_int_bool (k _ M X B _ m _ (Le.refl _) (S.tok _) (.int _ _) h)
theorem Jn_range {n : Nat} {Q : V → MS → Prop} (h : Q (.rng n) M) : Jn C xs gs ρ M [.int n] (fun cl => call (.type "range") cl) Q :=
  fun hC G X B s m S cl rl Qc E k => by
    obtain ⟨u, rfl, r⟩ := rl.one
    cases r with
    | int _ t =>
      refine call_range_1 ?_
      obtain ⟨l2, S2⟩ := S.addB (a := s.heap.objs.size) (o := { cls := .type "range", dict := none, data := .fields #[.int 0 s.toks, .int n t, .int 1 (s.toks + 1)], slots := #[] }) (s.toks + 1 + 1) (fun b o e => Heap.get?_push_of_some _ e) (Heap.get?_push_size _ rfl) (fresh_size _)
      exact k _ M X _ _ m _ l2 S2 (.rng (put_self _ _ _) ⟨_, _, _, rfl⟩) h

theorem reps_of_ints {w : World} {B : Base} : ∀ {vs : List Value} {ns : List Int}, IntsAre vs ns → Reps w B (ns.map .int) vs
  | _, _, .nil => .nil
  | _, _, .cons n t h => .cons (.int n t) (reps_of_ints h)
theorem ints_of_reps {w : World} {B : Base} : ∀ {ns : List Int} {vs : List Value}, Reps w B (ns.map .int) vs → IntsAre vs ns := by
  intro ns
  induction ns with
  | nil => intro vs h; cases h; exact .nil
  | cons n ns ih =>
    intro vs h
    cases h with
    | cons r rs => cases r with
      | int _ t => exact .cons n t (ih rs)
theorem reps_of_strs {w : World} {B : Base} : ∀ {vs : List Value} {ns : List Str}, StrsAre vs ns → Reps w B (ns.map .str) vs
  | _, _, .nil => .nil
  | _, _, .cons n t h => .cons (.str n t) (reps_of_strs h)

theorem lisO_toList (a : Array Value) (n : Nat) : lisO a.toList n = { cls := .type "list", data := .seq a n } := by simp [lisO]

/-- list(range(n)) -/
theorem Jn_listRange {n : Nat} (hn : n ≤ 1000) {Q : V → MS → Prop} (h : Q (.list ((List.range n).map fun i : Nat => .int (i : Int))) M) : Jn C xs gs ρ M [.rng n] (fun cl => call (.type "list") cl) Q :=
  fun hC G X B s m S cl rl Qc E k => by
    obtain ⟨u, rfl, r⟩ := rl.one
    cases r with
    | rng ho hd =>
      obtain ⟨t1, t2, t3, rfl⟩ := hd
      refine call_list_range hC.room.1 (S.known _ _ ho) (small_up hn) (size_up n) (by omega) fun h' tk acc' c' hk hS' hacc => ?_
      have hr : Reps C.w B ((List.range n).map fun i : Nat => V.int (i : Int)) acc'.toList := by
        have key : ∀ (l : List Nat) (vs : List Value), l.length = vs.length → (∀ (j : Nat) (i : Nat) (v : Value), l[j]? = some i → vs[j]? = some v → ∃ t, v = .int i t) → Reps C.w B (l.map fun i : Nat => V.int (i : Int)) vs := by
          intro l
          induction l with
          | nil => intro vs h1 _; cases vs with
            | nil => exact .nil
            | cons => simp at h1
          | cons i l ih => intro vs h1 h2; cases vs with
            | nil => simp at h1
            | cons v vs =>
              obtain ⟨t, rfl⟩ := h2 0 i v rfl rfl
              exact .cons (.int _ _) (ih vs (by simpa using h1) fun j i v e1 e2 => h2 (j + 1) i v (by simpa using e1) (by simpa using e2))
        refine key _ _ (by simp [hacc.1]) fun j i v e1 e2 => ?_
        obtain ⟨t, ht⟩ := hacc.2 j v (by rw [← Array.getElem?_toList]; exact e2)
        have : i = j := by
          have := (List.getElem?_eq_some_iff.mp e1)
          obtain ⟨hlt, he⟩ := this
          simpa using he.symm
        subst this
        exact ⟨t, by rw [ht]; simp⟩
      obtain ⟨l2, S2⟩ := S.addB (a := s.heap.objs.size) (o := lisO acc'.toList c') (h' := h') tk hk (by rw [lisO_toList]; exact hS') (fresh_size _)
      exact k _ M X _ _ m _ l2 S2 (.list (put_self _ _ _) (hr.mono l2)) h

/-- sorted(list of ints) -/
theorem Jn_sortedL {v : V} {ns : List Int} (hv : LVal M v (ns.map .int)) (hl : ns.length < 64) {Q : V → MS → Prop} (h : ∀ ns' : List Int, ns'.Perm ns → ns'.Pairwise (· ≤ ·) → Q (.list (ns'.map .int)) M) : Jn C xs gs ρ M [v] (fun cl => call (.builtin "sorted") cl) Q :=
  fun hC G X B s m S cl rl Qc E k => by
    obtain ⟨u, rfl, r⟩ := rl.one
    obtain ⟨a, vs, n, rfl, ha, hr⟩ := S.lval hv r
    refine sorted_ints (isList_of ha) (ints_of_reps hr) (by rw [hr.length, List.length_map]; exact hl) fun out ns' i1 i2 i3 => ?_
    obtain ⟨e, he⟩ := sortedAll_at s.heap vs out
    obtain ⟨l2, S2⟩ := S.addB (a := s.heap.objs.size + 1) (o := lisO out.toList e) (h' := sortedAll s.heap vs out) s.toks (fun b o hb => sortedAll_old hb) (by rw [lisO_toList]; exact he) (by
      cases hh : s.heap.get? (s.heap.objs.size + 1) with
      | none => rfl
      | some o => exact absurd (Heap.lt_size hh) (Nat.not_lt.mpr (Nat.le_succ _)))
    exact k _ M X _ _ m _ l2 S2 (.list (put_self _ _ _) (reps_of_ints i1)) (h ns' i2 i3)

/-- what `sorted` collects from a source that is no list -/
theorem sorted_srcI {T : String} {r d : Addr} {n : Nat} {P : Nat → Value → Prop} {OK : Heap → Prop} {w : World} {A : Around} {E : Post} {s : Shared} {Q : Post} (K : KdlSrc PG w T r d n P OK) (hh : A.handled = none) (hok : OK s.heap) (hn : n < 64)
    {ns : List Int} (hns : ns.length = n) (hP : ∀ i v, P i v → ∃ k t, ns[i]? = some k ∧ v = .int k t)
    (h : ∀ (h' : Heap) (tk : Nat) (a : Addr) (out : List Value) (e : Nat) (ns' : List Int), (∀ b o, s.heap.get? b = some o → h'.get? b = some o) → s.heap.get? a = none → h'.get? a = some (lisO out e) → IntsAre out ns' → ns'.Perm ns → ns'.Pairwise (· ≤ ·) → Q (.ref a) { s with heap := h', toks := tk }) :
    wpAny (model PG w) A (call (.builtin "sorted") [.ref r]) Q E s := by
  refine Calls.call_function_entry kind_sorted plain_sorted entry_sorted (args_sorted1 _) ?_
  unfold Builtin.«sorted»
  refine wpAny_bind (m := checkCount "sorted" 1 1 _) (wpAny_pure ?_)
  refine wpAny_bind (kdu_collect (A := A.in1) K hh hok (by rw [sizeLine_eq]; omega) fun h' tk acc hk hacc => ?_)
  have hl : acc.toList.length = n := by rw [Array.length_toList]; exact hacc.1
  have hI : IntsAre acc.toList ns := by
    have key : ∀ (vs : List Value) (ns : List Int), vs.length = ns.length → (∀ (i : Nat) (v : Value), vs[i]? = some v → ∃ k t, ns[i]? = some k ∧ v = .int k t) → IntsAre vs ns := by
      intro vs
      induction vs with
      | nil => intro ns h1 _; cases ns with
        | nil => exact .nil
        | cons => simp at h1
      | cons v vs ih => intro ns h1 h2; cases ns with
        | nil => simp at h1
        | cons k ns =>
          obtain ⟨k', t, e1, rfl⟩ := h2 0 v rfl
          simp at e1; subst e1
          exact .cons _ _ (ih ns (by simpa using h1) fun i v e => by simpa using h2 (i + 1) v (by simpa using e))
    exact key _ _ (by rw [hl, hns]) fun i v e => hP i v (hacc.2 i v (by rw [← Array.getElem?_toList]; exact e))
  refine wpAny_bind (wpAny_newList ?_ (by rw [hl, sizeLine_eq]; omega))
  have hoL : (h'.push (seqObj "list" acc.toList.toArray 0)).get? h'.objs.size = some (seqObj "list" acc.toList.toArray 0) := Heap.get?_push_size _ rfl
  have hge : s.heap.get? h'.objs.size = none := by
    cases e : s.heap.get? h'.objs.size with
    | none => rfl
    | some o => have := hk _ _ e; rw [fresh_size] at this; cases this
  refine wpAny_bind (wpAny_holding (wpAny_call_entry PyProof.Rows.slot_list_sort ⟨_, hoL, rfl⟩ entry_list_sort (list_sort_tree hoL hI (by rw [hl]; exact hn) fun out ns' a1 a2 a3 => ⟨_, rfl, ?_⟩) (args_list_sort _)))
  refine wpAny_pure ⟨_, rfl, ?_⟩
  obtain ⟨e, he⟩ := sortedHeap_at (out := out) hoL
  exact h _ tk h'.objs.size out.toList e ns' (fun b o hb => by
    have h1 := hk b o hb
    have hlt := Heap.lt_size h1
    exact (sortedHeap_old (Nat.ne_of_lt hlt) (by rw [Heap.size_push]; exact Nat.lt_succ_of_lt hlt)).trans (Heap.get?_push_of_some _ h1)) hge (by show _ = some (lisO out.toList e); rw [lisO_toList]; exact he) a1 a2 a3
theorem St.sortedOut {G : Gh} {X : List Addr} {B : Base} {s : Shared} {m : Str → Option Value} (S : St C xs G ρ M X B s m) {h' : Heap} {tk e : Nat} {a : Addr} {out : List Value} {l : List V} (hk : ∀ b o, s.heap.get? b = some o → h'.get? b = some o) (hn : s.heap.get? a = none)
    (ho : h'.get? a = some (lisO out e)) (hr : ∀ B : Base, Reps C.w B l out) : ∃ B', Le B B' ∧ St C xs G ρ M X B' { s with heap := h', toks := tk } m ∧ Rep C.w B' (.list l) (.ref a) := by
  obtain ⟨l2, S2⟩ := S.addB (o := lisO out e) (h' := h') tk hk ho hn
  exact ⟨_, l2, S2, .list (put_self _ _ _) (hr _)⟩

/-- sorted(dict with int keys) -/
theorem Jn_sortedDI {v : V} {es : List (Int × V)} (hv : DIVal M v es) (hl : es.length < 64) {Q : V → MS → Prop} (h : ∀ ns' : List Int, ns'.Perm (es.map (·.1)) → ns'.Pairwise (· ≤ ·) → Q (.list (ns'.map .int)) M) : Jn C xs gs ρ M [v] (fun cl => call (.builtin "sorted") cl) Q :=
  fun hC G X B s m S cl rl Qc E k => by
    obtain ⟨u, rfl, r⟩ := rl.one
    obtain ⟨a, kvs, rfl, h2, hdo, hr⟩ := S.dival hv r
    obtain ⟨ep, hat⟩ := hdo.dictAt
    have hkeys := hr.keys
    refine sorted_srcI (kdl_dict (knd := intKind PG C.w) (ep := ep) (kvs := kvs) (not_sys h2)) hC.room.1 hat (by rw [hr.length]; exact hl) (ns := es.map (·.1)) (by rw [List.length_map, hr.length]) (fun i v hp => ?_) fun h' tk a out e ns' hk hn ho hI hp hs => ?_
    · obtain ⟨k, x, e1, e2⟩ := hp
      obtain ⟨t, rfl⟩ := isInt_shape e2
      exact ⟨k, t, by rw [← hkeys, List.getElem?_map, e1]; rfl, rfl⟩
    · obtain ⟨B', l2, S2, r2⟩ := S.sortedOut (tk := tk) hk hn ho (fun B => reps_of_ints (w := C.w) (B := B) hI)
      exact k _ M X B' _ m _ l2 S2 r2 (h ns' hp hs)

theorem sorted_srcS {T : String} {r d : Addr} {n : Nat} {P : Nat → Value → Prop} {OK : Heap → Prop} {w : World} {A : Around} {E : Post} {s : Shared} {Q : Post} (K : KdlSrc PG w T r d n P OK) (hh : A.handled = none) (hok : OK s.heap) (hn : n < 64)
    {ns : List Str} (hns : ns.length = n) (hP : ∀ i v, P i v → ∃ k t, ns[i]? = some k ∧ v = .str k t)
    (h : ∀ (h' : Heap) (tk : Nat) (a : Addr) (out : List Value) (e : Nat) (ns' : List Str), (∀ b o, s.heap.get? b = some o → h'.get? b = some o) → s.heap.get? a = none → h'.get? a = some (lisO out e) → StrsAre out ns' → ns'.Perm ns → sortedS ns' = true → Q (.ref a) { s with heap := h', toks := tk }) :
    wpAny (model PG w) A (call (.builtin "sorted") [.ref r]) Q E s := by
  refine Calls.call_function_entry kind_sorted plain_sorted entry_sorted (args_sorted1 _) ?_
  unfold Builtin.«sorted»
  refine wpAny_bind (m := checkCount "sorted" 1 1 _) (wpAny_pure ?_)
  refine wpAny_bind (kdu_collect (A := A.in1) K hh hok (by rw [sizeLine_eq]; omega) fun h' tk acc hk hacc => ?_)
  have hl : acc.toList.length = n := by rw [Array.length_toList]; exact hacc.1
  have hI : StrsAre acc.toList ns := by
    have key : ∀ (vs : List Value) (ns : List Str), vs.length = ns.length → (∀ (i : Nat) (v : Value), vs[i]? = some v → ∃ k t, ns[i]? = some k ∧ v = .str k t) → StrsAre vs ns := by
      intro vs
      induction vs with
      | nil => intro ns h1 _; cases ns with
        | nil => exact .nil
        | cons => simp at h1
      | cons v vs ih => intro ns h1 h2; cases ns with
        | nil => simp at h1
        | cons k ns =>
          obtain ⟨k', t, e1, rfl⟩ := h2 0 v rfl
          simp at e1; subst e1
          exact .cons _ _ (ih ns (by simpa using h1) fun i v e => by simpa using h2 (i + 1) v (by simpa using e))
    exact key _ _ (by rw [hl, hns]) fun i v e => hP i v (hacc.2 i v (by rw [← Array.getElem?_toList]; exact e))
  refine wpAny_bind (wpAny_newList ?_ (by rw [hl, sizeLine_eq]; omega))
  have hoL : (h'.push (seqObj "list" acc.toList.toArray 0)).get? h'.objs.size = some (seqObj "list" acc.toList.toArray 0) := Heap.get?_push_size _ rfl
  have hge : s.heap.get? h'.objs.size = none := by
    cases e : s.heap.get? h'.objs.size with
    | none => rfl
    | some o => have := hk _ _ e; rw [fresh_size] at this; cases this
  refine wpAny_bind (wpAny_holding (wpAny_call_entry PyProof.Rows.slot_list_sort ⟨_, hoL, rfl⟩ entry_list_sort (list_sort_treeK strKind_oneLt hoL hI.keysOf (fun v₁ v₂ rest e => keyKind_strs (by rw [← e]; exact hI)) (by rw [hl]; exact hn) fun st' hp hs => ⟨_, rfl, ?_⟩) (args_list_sort _)))
  refine wpAny_pure ⟨_, rfl, ?_⟩
  obtain ⟨ns', a1, a2, a3⟩ := sorted_out_str hI hp hs
  obtain ⟨e, he⟩ := sortedHeap_at hoL
  exact h _ tk h'.objs.size _ e ns' (fun b o hb => by
    have h1 := hk b o hb
    have hlt := Heap.lt_size h1
    exact (sortedHeap_old (Nat.ne_of_lt hlt) (by rw [Heap.size_push]; exact Nat.lt_succ_of_lt hlt)).trans (Heap.get?_push_of_some _ h1)) hge (by rw [lisO_toList]; exact he) a1 a2 a3
/-- sorted(dict with str keys) -/
theorem Jn_sortedDS {v : V} {es : List (Str × V)} (hv : DSVal M v es) (hl : es.length < 64) {Q : V → MS → Prop} (h : ∀ ns' : List Str, ns'.Perm (es.map (·.1)) → sortedS ns' = true → Q (.list (ns'.map .str)) M) : Jn C xs gs ρ M [v] (fun cl => call (.builtin "sorted") cl) Q :=
  fun hC G X B s m S cl rl Qc E k => by
    obtain ⟨u, rfl, r⟩ := rl.one
    obtain ⟨a, kvs, rfl, h2, hdo, hr⟩ := S.dsval hv r
    obtain ⟨ep, hat⟩ := hdo.dictAt
    have hkeys := hr.keys
    refine sorted_srcS (kdl_dict (knd := PySem.strKind PG C.w) (ep := ep) (kvs := kvs) (not_sys h2)) hC.room.1 hat (by rw [hr.length]; exact hl) (ns := es.map (·.1)) (by rw [List.length_map, hr.length]) (fun i v hp => ?_) fun h' tk a out e ns' hk hn ho hI hp hs => ?_
    · obtain ⟨k, x, e1, e2⟩ := hp
      obtain ⟨t, rfl⟩ := Value.isStrOf_shape e2
      exact ⟨k, t, by rw [← hkeys, List.getElem?_map, e1]; rfl, rfl⟩
    · obtain ⟨B', l2, S2, r2⟩ := S.sortedOut (tk := tk) hk hn ho (fun B => reps_of_strs (w := C.w) (B := B) hI)
      exact k _ M X B' _ m _ l2 S2 r2 (h ns' hp hs)
end
end Mine

namespace Mine
open PySem PySem.W PySem.Calls PyProof.Rows

theorem list_no_keys : typeLookup (.type "list") "keys" = pure none := by rw [typeLookup_type, builtinLookup_eq_fast]; kernel_rfl
theorem keys_miss {w : World} {A : Around} {E : Post} {s : Shared} {a : Addr} {xs : Array Value} {k : Nat} {Q : Option Value → Shared → Prop}
    (hx : s.heap.get? a = some { cls := .type "list", dict := none, data := .seq xs k, slots := #[] }) (hA : A.handled = none)
    (h : ∀ h' tk, (∀ b o, s.heap.get? b = some o → h'.get? b = some o) → Q none { s with heap := h', toks := tk }) :
    wpAny (model PG w) A (getAttr? (.ref a) "keys") Q E s := by
  obtain ⟨hp, g, d, tk, os⟩ := s
  have hT : ∀ tk', (⟨hp, g, d, tk', os⟩ : Shared).TypeIs (.ref a) "list" := fun _ => ⟨_, hx, rfl⟩
  have f1 := sub_AttributeError
  have f3 := F.slot_list_getattribute.lookup
  have f4 := F.slot_list_getattribute.bind (.ref a)
  have f5 := am_list_getattr_none
  unfold getAttr? getAttrBy? getAttrBy
  repeat (any_goals (first | assumption | exact hT _ | ((with_reducible show wpAny _ _ (call (Value.builtin "list.__getattribute__") _ _) _ _ _); refine call_meets F.slot_list_getattribute (hT _) am_entry_list_getattribute (F.args_list_getattribute_2 _ _) (meets_getattribute_miss_list a xs k _ "keys" _ list_no_keys (by decide) (by decide +kernel)) ⟨hx, hA, fun h' tk' e hx' => ?_⟩) | wp_step))
  obtain ⟨t', u', he⟩ := hx'.there
  show wpAny _ _ (getattributeRaised _ _ _ _ _ _ _) _ _ _
  unfold getattributeRaised
  repeat (any_goals (first | assumption | wp_step))
  exact h _ _ hx'.of.keeps

theorem entry_dict_update_loop : entryFor table "dict.update.loop" = some Builtin.«dict.update.loop» := entryFor_of_tree (by kernel_rfl)
theorem plain_dict_update_loop : plainId "dict.update.loop" = true := by decide +kernel

section
variable {w : World} {K : Type} [DecidableEq K] {knd : KeyKind PG w K} {A : Around}

/-- the pairs, one by one -/
theorem dict_loop {d I l : Addr} {vs : List Value} {n : Nat} {ps : List (K × Value)} (hh : A.handled = none) (hdI : d ≠ I) (hdl : d ≠ l) (hlI : l ≠ I) (hsz : vs.length ≤ 1000)
    (hpl : ps.length = vs.length) (h0 : Heap) (hps : ∀ (i : Nat) (k : K) (x : Value), ps[i]? = some (k, x) → ∃ a key m, vs[i]? = some (.ref a) ∧ knd.is k key = true ∧ h0.get? a = some (tupO [key, x] m)) (hId : h0.get? I = none) (hdd : h0.get? d = none)
    (hol : h0.get? l = some (lisO vs n)) :
    ∀ (j i : Nat) (s : Shared) (t : Tok) (R : Result → Shared → Prop), vs.length - i = j → i ≤ vs.length → (∀ b o, h0.get? b = some o → s.heap.get? b = some o) → s.heap.IsListIter I l i → s.heap.DictOf knd d (merged [] (ps.take i)) →
      (∀ h' tk, (∀ b o, h0.get? b = some o → h'.get? b = some o) → h'.DictOf knd d (merged [] ps) → R (.ok (.ret .none)) { s with heap := h', toks := tk }) →
      codeAny (model PG w) A (.builtin "dict.update.loop" ⟨[.ref d, .ref I, .int (i : Int) t, .none], []⟩) R s := by
  intro j
  induction j with
  | zero =>
    intro i s t R hj hi hk hit hd hR
    have hin : i = vs.length := by omega
    subst hin
    refine codeAny_builtin entry_dict_update_loop ?_
    rw [Around.under_plainId plain_dict_update_loop _]
    show wpAny _ A.in1 (pyNext (.ref I) >>= _) _ _ s
    refine wpAny_bind (wpAny_pyNext_list_end (A := A.in1) hh hit (isList_of (hk _ _ hol)) (by simp) fun h' hx => ?_)
    show wpAny _ A.in1 (Builtin.Dict.addKeywords d [] >>= _) _ _ _
    refine wpAny_bind (wpAny_pure (wpAny_pure (hR h' _ (fun b o e => hx b o (fun e' => by rw [e', hId] at e; cases e) (hk b o e)) ?_)))
    have : ps.take vs.length = ps := List.take_of_length_le (by omega)
    rw [this] at hd
    exact hd.at fun o e => hx d o hdI e
  | succ j ih =>
    intro i s t R hj hi hk hit hd hR
    have hlt : i < vs.length := by omega
    obtain ⟨⟨k, x⟩, hp⟩ : ∃ p, ps[i]? = some p := ⟨ps[i]'(by omega), List.getElem?_eq_getElem (by omega)⟩
    obtain ⟨a, key, m, hv, hkey, ha⟩ := hps i k x hp
    refine codeAny_builtin entry_dict_update_loop ?_
    rw [Around.under_plainId plain_dict_update_loop _]
    show wpAny _ A.in1 (pyNext (.ref I) >>= _) _ _ s
    refine wpAny_bind (wpAny_pyNext_list_item hit (isList_of (hk _ _ hol)) (x := .ref a) (by simpa using hv) fun h1 hit1 hs1 => ?_)
    have k1 : ∀ b o, h0.get? b = some o → h1.get? b = some o := fun b o e => hs1.extBut b o (fun e' => by rw [e', hId] at e; cases e) (hk b o e)
    have ht : (Shared.TypeIs { s with heap := h1 } (.ref a) "tuple") := ⟨_, k1 _ _ ha, rfl⟩
    refine wpAny_bind (wpAny_holding ?_)
    refine wpAny_bind (wpAny_tryCatch ?_)
    unfold Builtin.Dict.pairItems
    refine wpAny_bind (wpAny_typeOf ht ?_)
    rw [if_pos (by decide)]
    refine wpAny_bind (wpAny_seqItems (k1 _ _ ha) rfl (wpAny_pure ?_))
    show wpAny _ _ (holding [key, x] (dictSet d key x)) _ _ _
    have hd1 : h1.DictOf knd d (merged [] (ps.take i)) := hd.at fun o e => hs1.extBut d o hdI e
    have hml : ∀ (l acc : List (K × Value)), (merged acc l).length ≤ acc.length + l.length := by
      intro l
      induction l with
      | nil => intro acc; simp [merged]
      | cons p l ih =>
        intro acc
        have := ih (stored acc p.1 p.2)
        have e := stored_length_le acc p.1 p.2
        show (merged (stored acc p.1 p.2) l).length ≤ _
        rw [List.length_cons]; omega
    refine wpAny_holding (wpAny_dictSet_pairs hkey hd1 (fun h2 hd2 hs2 => ?_) (by
      have := hml (ps.take i) []
      rw [List.length_take, List.length_nil] at this
      rw [sizeLine_eq]; omega))
    refine wpAny_pure ⟨plainId_quiet plain_dict_update_loop _, ?_⟩
    have k2 : ∀ b o, h0.get? b = some o → h2.get? b = some o := fun b o e => hs2.extBut b o (fun e' => by rw [e', hdd] at e; cases e) (k1 b o e)
    have := ih (i + 1) { s with heap := h2, toks := s.toks + 1 } 0 R (by omega) hlt k2 (hit1.at fun o e => hs2.extBut I o (Ne.symm hdI) e) (by
      rw [List.take_add_one, hp]
      have e : merged [] (ps.take i ++ (some (k, x)).toList) = stored (merged [] (ps.take i)) k x := by
        simp [merged, List.foldl_append]
      rw [e]; exact hd2) hR
    exact this
end

section
variable {w : World} {K : Type} [DecidableEq K] {knd : KeyKind PG w K} {A : Around} {E : Post} {s : Shared}
theorem call_dict_pairs {l : Addr} {vs : List Value} {n : Nat} {ps : List (K × Value)} {Q : Post} (hh : A.handled = none) (hol : s.heap.get? l = some (lisO vs n)) (hsz : vs.length ≤ 1000) (hpl : ps.length = vs.length) (hnd : (ps.map (·.1)).Nodup)
    (hps : ∀ (i : Nat) (k : K) (x : Value), ps[i]? = some (k, x) → ∃ a key m, vs[i]? = some (.ref a) ∧ knd.is k key = true ∧ s.heap.get? a = some (tupO [key, x] m))
    (h : ∀ h' tk, (∀ b o, s.heap.get? b = some o → h'.get? b = some o) → h'.DictOf knd s.heap.objs.size ps → Q (.ref s.heap.objs.size) { s with heap := h', toks := tk }) :
    wpAny (model PG w) A (call (.type "dict") [.ref l]) Q E s := by
  refine callType_codes (Q₁ := fun obj s₁ => obj = .ref s.heap.objs.size ∧ s₁ = { s with heap := s.heap.push { cls := .type "dict", data := .dict #[] } }) F.kt_called_dict (F.kt_typeCall_dict_1 _) F.entry_dict_init (kt_code_dict_new _ ⟨rfl, rfl⟩) ?_
  rintro obj s₁ ⟨rfl, rfl⟩
  have hnew : (s.heap.push { cls := .type "dict", data := .dict #[] }).DictOf knd s.heap.objs.size [] := Heap.DictOf.new s.heap
  have hk0 : ∀ b o, s.heap.get? b = some o → (s.heap.push { cls := .type "dict", data := .dict #[] }).get? b = some o := fun b o e => Heap.get?_push_of_some _ e
  have hl0 := hk0 _ _ hol
  have hT : (Shared.TypeIs { s with heap := s.heap.push { cls := .type "dict", data := .dict #[] } } (.ref l) "list") := ⟨_, hl0, rfl⟩
  have hlt : l < s.heap.objs.size := Heap.lt_size hol
  refine ⟨hnew.typeIs, F.args_dict_init_2 _ _, ?_⟩
  unfold Builtin.«dict.__init__»
  refine wpAny_bind ?_
  unfold Builtin.Dict.selfAndRest
  refine wpAny_bind (wpAny_notOrdered_dict hnew.typeIs ?_)
  show wpAny _ _ (pure (s.heap.objs.size, [Value.ref l])) _ _ _
  refine wpAny_pure ?_
  show wpAny _ _ (Builtin.Dict.updateFrom "dict.__init__" s.heap.objs.size (.ref l) [] .none) _ _ _
  unfold Builtin.Dict.updateFrom
  refine wpAny_bind (wpAny_typeOf hT ?_)
  rw [if_pos (by decide)]
  refine wpAny_bind (keys_miss (xs := vs.toArray) (k := n) hl0 (by exact hh) fun h1 tk1 k1 => ?_)
  simp only [Option.isNone_none, if_true]
  refine wpAny_bind (wpAny_rule ?_)
  have hl1 := k1 _ _ hl0
  refine wpAny_bind (wpAny_pyIter_list (isList_of hl1) ?_)
  refine wpAny_pure ⟨plainId_quiet plain_dict_update_loop _, ?_⟩
  have hIn : (s.heap.get? h1.objs.size) = none := by
    cases e : s.heap.get? h1.objs.size with
    | none => rfl
    | some o => have := k1 _ _ (hk0 _ _ e); rw [fresh_size] at this; cases this
  have hdI : s.heap.objs.size ≠ h1.objs.size := fun e => by
    have h3 : (s.heap.push { cls := .type "dict", data := .dict #[] }).get? s.heap.objs.size = some { cls := .type "dict", data := .dict #[] } := Heap.get?_push_size _ rfl
    have := k1 _ _ h3
    rw [e, fresh_size] at this; cases this
  have := dict_loop (A := A.in1) (d := s.heap.objs.size) (I := h1.objs.size) (l := l) (ps := ps) (knd := knd) hh hdI (Nat.ne_of_gt hlt) (fun e => by rw [e] at hol; rw [hIn] at hol; cases hol) hsz hpl s.heap hps hIn (fresh_size _) hol vs.length 0
    { s with heap := h1.push { cls := .type "list_iterator", data := .fields #[.ref l, .int 0 0] }, toks := tk1 } 0 (wants (fun r s₂ => r = .none ∧ Q (.ref s.heap.objs.size) s₂) E) (by omega) (Nat.zero_le _)
    (fun b o e => Heap.get?_push_of_some _ (k1 _ _ (hk0 _ _ e))) ⟨_, Heap.get?_push_size _ rfl, rfl, rfl⟩ ((hnew.at fun o e => k1 _ _ e).push _) (fun h' tk hk hd => ⟨rfl, h h' tk hk (by rwa [merged_nil_of_nodup ps hnd] at hd)⟩)
  exact this
end
end Mine

namespace Mine
open PySem PySem.W PySem.Calls PyProof.Rows
section
variable {C : Cx} {xs : List Str} {gs : List (Str × Value)} {ρ : List (Option V)} {M : MS}

theorem pairs_I {w : World} {B : Base} : ∀ {es : List (Int × V)} {vs : List Value}, Reps w B (es.map fun p => .tup [.int p.1, p.2]) vs →
    ∃ kvs : List (Int × Value), RepI w B es kvs ∧ kvs.length = vs.length ∧ ∀ (i : Nat) (k : Int) (x : Value), kvs[i]? = some (k, x) → ∃ a key m, vs[i]? = some (.ref a) ∧ (intKind PG w).is k key = true ∧ B a = some (tupO [key, x] m)
  | [], _, .nil => ⟨[], .nil, rfl, fun i k x h => by simp at h⟩
  | (k, v) :: es, _, .cons r rs => by
    obtain ⟨kvs, h1, h2, h3⟩ := pairs_I rs
    cases r with
    | tup ho hr =>
      rename_i a us n
      obtain ⟨ck, cx, rfl, rk, rx⟩ := hr.two
      refine ⟨(k, cx) :: kvs, .cons rx h1, by simp [h2], fun i k' x h => ?_⟩
      cases i with
      | zero => simp at h; obtain ⟨rfl, rfl⟩ := h; exact ⟨a, ck, n, rfl, J1_key rfl rk, ho⟩
      | succ i => exact h3 i k' x (by simpa using h)
theorem Jn_dictI {es : List (Int × V)} (hl : es.length ≤ 1000) (hnd : (es.map (·.1)).Nodup) {Q : V → MS → Prop} (h : Q (.dictI es) M) : Jn C xs gs ρ M [.list (es.map fun p => .tup [.int p.1, p.2])] (fun cl => call (.type "dict") cl) Q :=
  fun hC G X B s m S cl rl Qc E kf => by
    obtain ⟨u, rfl, r⟩ := rl.one
    cases r with
    | list ho hr =>
      rename_i a vs n
      obtain ⟨kvs, h1, h2, h3⟩ := pairs_I hr
      have hlen : vs.length = es.length := by rw [hr.length, List.length_map]
      refine call_dict_pairs (knd := intKind PG C.w) (ps := kvs) hC.room.1 (S.known _ _ ho) (by omega) h2 (by rw [h1.keys]; exact hnd) (fun i k x e => ?_) fun h' tk hk hd => ?_
      · obtain ⟨a, key, m, e1, e2, e3⟩ := h3 i k x e
        exact ⟨a, key, m, e1, e2, S.known _ _ e3⟩
      · obtain ⟨o, ho', hd'⟩ := Heap.dictOf_iff.mp hd
        obtain ⟨l2, S2⟩ := S.addB (o := o) (h' := h') tk hk ho' (fresh_size _)
        exact kf _ M X _ _ m _ l2 S2 (.dictI (Nat.lt_of_lt_of_le (by decide) (S.size2 hC)) (put_self _ _ _) hd' (h1.mono l2)) h

theorem pairs_S {w : World} {B : Base} : ∀ {es : List (Str × V)} {vs : List Value}, Reps w B (es.map fun p => .tup [.str p.1, p.2]) vs →
    ∃ kvs : List (Str × Value), RepS w B es kvs ∧ kvs.length = vs.length ∧ ∀ (i : Nat) (k : Str) (x : Value), kvs[i]? = some (k, x) → ∃ a key m, vs[i]? = some (.ref a) ∧ (PySem.strKind PG w).is k key = true ∧ B a = some (tupO [key, x] m)
  | [], _, .nil => ⟨[], .nil, rfl, fun i k x h => by simp at h⟩
  | (k, v) :: es, _, .cons r rs => by
    obtain ⟨kvs, h1, h2, h3⟩ := pairs_S rs
    cases r with
    | tup ho hr =>
      rename_i a us n
      obtain ⟨ck, cx, rfl, rk, rx⟩ := hr.two
      refine ⟨(k, cx) :: kvs, .cons rx h1, by simp [h2], fun i k' x h => ?_⟩
      cases i with
      | zero => simp at h; obtain ⟨rfl, rfl⟩ := h; exact ⟨a, ck, n, rfl, J1_keyS rfl rk, ho⟩
      | succ i => exact h3 i k' x (by simpa using h)
theorem Jn_dictS {es : List (Str × V)} (hl : es.length ≤ 1000) (hnd : (es.map (·.1)).Nodup) {Q : V → MS → Prop} (h : Q (.dictS es) M) : Jn C xs gs ρ M [.list (es.map fun p => .tup [.str p.1, p.2])] (fun cl => call (.type "dict") cl) Q :=
  fun hC G X B s m S cl rl Qc E kf => by
    obtain ⟨u, rfl, r⟩ := rl.one
    cases r with
    | list ho hr =>
      rename_i a vs n
      obtain ⟨kvs, h1, h2, h3⟩ := pairs_S hr
      have hlen : vs.length = es.length := by rw [hr.length, List.length_map]
      refine call_dict_pairs (knd := PySem.strKind PG C.w) (ps := kvs) hC.room.1 (S.known _ _ ho) (by omega) h2 (by rw [h1.keys]; exact hnd) (fun i k x e => ?_) fun h' tk hk hd => ?_
      · obtain ⟨a, key, m, e1, e2, e3⟩ := h3 i k x e
        exact ⟨a, key, m, e1, e2, S.known _ _ e3⟩
      · obtain ⟨o, ho', hd'⟩ := Heap.dictOf_iff.mp hd
        obtain ⟨l2, S2⟩ := S.addB (o := o) (h' := h') tk hk ho' (fresh_size _)
        exact kf _ M X _ _ m _ l2 S2 (.dictS (Nat.lt_of_lt_of_le (by decide) (S.size2 hC)) (put_self _ _ _) hd' (h1.mono l2)) h

/-- enumerate(list) as what is iterated -/
theorem JI_enum {x : Str} {p pos : Pos} {e : Expr} {elts : List Expr} {k1 : Nat} {tp : Pos} {Q : (MS → Nat → Option V → Prop) → MS → Prop}
    (h : JE C xs gs ρ M (eval e C.env) fun v M1 => ∃ l, v = .list l ∧ Q (fun _ i r => r = (l[i]?).map fun y => .tup [.int (i : Int), y]) M1)
    (g : Has gs x (.type "enumerate") := by with_reducible repeat (first | exact Has.head | apply Has.tail)) (he : starEach [e] C.env = (false, eval e C.env) :: starEach [] C.env := by rfl) :
    JI C xs gs ρ M (.Call (.Name x p) [e] [] pos) (.Tuple elts k1 tp) Q :=
  fun hC G X B s m S Qc E kf => by
    refine wpAny_Call_Name_kw (glob_load S hC g (PyProof.Rows.callWith_type1 (JEs_cons (C := C) (xs := xs) (gs := gs) (ρ := ρ) (M := M) (Q := fun vs M1 => ∃ l, vs = [.list l] ∧ Q (fun _ i r => r = (l[i]?).map fun y => .tup [.int (i : Int), y]) M1)
      (JE_mono h fun v M1 q => JEs_nil (by obtain ⟨l, rfl, q⟩ := q; exact ⟨l, rfl, q⟩)) he hC G X B s m S _ _ fun vs M1 X1 B1 s1 m1 cl l1 S1 rl q1 => ?_) he rfl))
    obtain ⟨l, rfl, q1⟩ := q1
    obtain ⟨u, rfl, r⟩ := rl.one
    cases r with
    | list ho hr =>
      rename_i a vs n
      have hl := isList_of (S1.known _ _ ho)
      refine call_enumerate_list hl fun h' he' hit' hsz hk => ?_
      refine wpAny_pyIter_enum he' ?_
      have hIn : s1.heap.get? s1.heap.objs.size = none := fresh_size _
      have hEn : s1.heap.get? (s1.heap.objs.size + 1) = none := by
        cases hh : s1.heap.get? (s1.heap.objs.size + 1) with
        | none => rfl
        | some o => exact absurd (Heap.lt_size hh) (Nat.not_lt.mpr (Nat.le_succ _))
      generalize hI : s1.heap.objs.size = I at *
      generalize hEE : I + 1 = e' at *
      have hne : e' ≠ I := by rw [← hEE]; exact Nat.succ_ne_self _
      refine kf _ M1 X1 B1 _ m1 e' [e', I] (fun i h => (∃ old, IsEnum h e' I i old) ∧ h.IsListIter I a i) l1 (S1.keeps (h' := h') s1.toks hk) ?_ (S1.freshApart hEn (S1.freshApart hIn Apart.nil)) ⟨⟨_, he'⟩, hit'⟩ q1
      refine ⟨fun i h h' st kk => ?_, fun i h st b hb => ?_, fun i s Q E st q => ?_, fun i s' B' M' X' r lB kB' mr' ap st hc P1 P2 E E' kk => ?_⟩
      · obtain ⟨⟨old, h1⟩, h2⟩ := st
        exact ⟨⟨old, kk _ (.head _) _ h1⟩, h2.at fun o e => kk _ (.tail _ (.head _)) o e⟩
      · obtain ⟨⟨old, h1⟩, h2⟩ := st
        rcases List.mem_cons.mp hb with rfl | hb
        · exact ⟨_, h1⟩
        · rw [List.mem_singleton.mp hb]; obtain ⟨o, ho, _⟩ := h2; exact ⟨o, ho⟩
      · obtain ⟨⟨old, h1⟩, h2⟩ := st
        exact wpAny_pyIter_enum h1 q
      · obtain ⟨⟨old, h1⟩, h2⟩ := st
        have hl' := isList_of (kB' _ _ (lB _ _ ho))
        subst hc
        have apE := ap e' (.head _)
        have apI := ap I (.tail _ (.head _))
        cases hr' : l[i]? with
        | some y =>
          obtain ⟨cy, hcy, ry⟩ := hr.get hr'
          refine wpAny_pyNext_enum_item h1 h2 hl' (x := cy) (by simpa using hcy) hne fun h3 ho3 hit3 hT3 hsz3 hk3 => ?_
          refine wpAny_letOwnedTupleGo_enum ho3 fun h4 he4 hs4 => ?_
          have hTn : s'.heap.get? s'.heap.objs.size = none := fresh_size _
          have hTe : s'.heap.objs.size ≠ e' := fun ee => absurd (Heap.lt_size h1) (by rw [← ee]; exact Nat.lt_irrefl _)
          have hB'n : B' s'.heap.objs.size = none := by
            cases hh : B' s'.heap.objs.size with
            | none => rfl
            | some o => rw [kB' _ _ hh] at hTn; cases hTn
          have lp := le_put (o := tupO [.int i s'.toks, cy] 0) hB'n
          refine kk (some _) (put B' s'.heap.objs.size (tupO [.int i s'.toks, cy] 0)) h4 _ lp (fun b hb => ?_) (fun b o e => ?_) (fun b o hb e => ?_) ?_
          · by_cases hbt : b = s'.heap.objs.size
            · subst hbt; exact .inr hTn
            · rw [put_ne hbt] at hb; exact .inl hb
          · by_cases hbt : b = s'.heap.objs.size
            · subst hbt; rw [put_self] at e; cases e
              exact (hs4.2 _ hTe).trans hT3
            · rw [put_ne hbt] at e
              have hbe : b ≠ e' := fun ee => by rw [ee, apE.1] at e; cases e
              have hbI : b ≠ I := fun ee => by rw [ee, apI.1] at e; cases e
              exact (hs4.2 b hbe).trans (hk3 b o hbe hbI (kB' _ _ e))
          · have hbe : b ≠ e' := fun ee => hb (ee ▸ .head _)
            have hbI : b ≠ I := fun ee => hb (ee ▸ .tail _ (.head _))
            exact (hs4.2 b hbe).trans (hk3 b o hbe hbI e)
          · rw [hr']
            refine ⟨_, rfl, .tup (put_self _ _ _) (.cons (.int _ _) (.cons ((ry.mono lB).mono lp) .nil)), ⟨cy, ?_⟩, ?_⟩
            · have e1 : ((i + 1 : Nat) : Int) = (i : Int) + 1 := by omega
              rw [e1]; exact he4
            · exact hit3.at fun o e => (hs4.2 I (Ne.symm hne)).trans e
        | none =>
          have hn : vs.toArray[i]? = none := by
            rw [List.getElem?_eq_none_iff] at hr'
            simp [hr.length]; exact hr'
          refine wpAny_pyNext_enum_end (A := C.A) hC.room.1 h1 h2 hl' hn fun h3 hx => ?_
          exact kk none B' h3 s'.toks (Le.refl _) (fun _ h => .inl h) (fun b o e => hx b o (fun hb => by rw [hb, apI.1] at e; cases e) (kB' _ _ e))
            (fun b o hb e => hx b o (fun h => hb (h ▸ .tail _ (.head _))) e) (by rw [hr']; rfl)
end
end Mine

namespace Mine
open PySem PySem.W PySem.Calls PyProof.Rows

/-- the run of a set's table, by hashes alone -/
def layT (t : SetTable) (hs : Array Int) (h : Int) : Array Int × SetTable × Bool × Bool :=
  match t.freeSlot h with
  | some (slot, wd) => let (t', p) := t.put slot; let hs' := SetTable.insertAt hs p h; (hs', t'.orStandIn hs'.size, wd, !t'.fits hs'.size)
  | none => (hs.push h, t.standIn (hs.size + 1), false, true)
def relayT (t : SetTable) (hs : Array Int) (wanted : Nat) : Array Int × SetTable × Bool :=
  match t.relaid hs wanted with
  | some (t', order) => let hs' := order.filterMap (hs[·]?); if coversAll order hs.size && t'.fits hs'.size then (hs', t', false) else (hs, t.standIn hs.size, true)
  | none => (hs, t.standIn hs.size, true)
def addT (st : Array Int × SetTable) (h : Int) : Array Int × SetTable :=
  let L := layT st.2 st.1 h
  if (!L.2.2.1 && L.2.1.tooFull) = true then let R := relayT L.2.1 L.1 (SetTable.grown L.1.size); (R.1, R.2.1) else (L.1, L.2.1)
def addP (st : Array (Int × Value) × SetTable) (h : Int) (x : Value) : Array (Int × Value) × SetTable :=
  let L := layNew st.2 st.1 h x
  if (!L.2.2.1 && L.2.1.tooFull) = true then let R := relayAll L.2.1 L.1 (SetTable.grown L.1.size); (R.1, R.2.1) else (L.1, L.2.1)

theorem insertAt_map {α β : Type} (f : α → β) (xs : Array α) (p : Nat) (x : α) : (SetTable.insertAt xs p x).map f = SetTable.insertAt (xs.map f) p (f x) := by
  unfold SetTable.insertAt
  simp [Array.map_append, Array.map_push, Array.map_extract]
theorem insertAt_size {α : Type} (xs : Array α) (p : Nat) (x : α) : (SetTable.insertAt xs p x).size = xs.size + 1 := by
  have := (SetTable.insertAt_perm xs p x).length_eq
  simpa using this
theorem lay_map (t : SetTable) (es : Array (Int × Value)) (h : Int) (x : Value) : ((layNew t es h x).1.map (·.1), (layNew t es h x).2) = ((layT t (es.map (·.1)) h).1, (layT t (es.map (·.1)) h).2) := by
  unfold layNew layT
  cases t.freeSlot h with
  | none => simp
  | some p =>
    obtain ⟨slot, wd⟩ := p
    simp only [insertAt_map, insertAt_size, Array.size_map]
theorem relay_map (t : SetTable) (es : Array (Int × Value)) (n : Nat) : ((relayAll t es n).1.map (·.1), (relayAll t es n).2) = ((relayT t (es.map (·.1)) n).1, (relayT t (es.map (·.1)) n).2) := by
  unfold relayAll relayT
  cases hr : t.relaid (es.map (·.1)) n with
  | none => simp
  | some p =>
    obtain ⟨t', order⟩ := p
    have e1 : (order.filterMap (es[·]?)).map (·.1) = order.filterMap ((es.map (·.1))[·]?) := by
      rw [Array.map_filterMap]
      congr 1
      funext i
      rw [Array.getElem?_map]
    have e2 : (order.filterMap (es[·]?)).size = (order.filterMap ((es.map (·.1))[·]?)).size := by rw [← e1, Array.size_map]
    simp only [← e2, Array.size_map]
    split <;> simp [e1]
theorem add_map (es : Array (Int × Value)) (t : SetTable) (h : Int) (x : Value) : ((addP (es, t) h x).1.map (·.1), (addP (es, t) h x).2) = addT (es.map (·.1), t) h := by
  have h1 := lay_map t es h x
  have a1 : (layNew t es h x).1.map (·.1) = (layT t (es.map (·.1)) h).1 := congrArg (·.1) h1
  have a2 : (layNew t es h x).2 = (layT t (es.map (·.1)) h).2 := congrArg (·.2) h1
  unfold addP addT
  simp only
  have hsz : (layNew t es h x).1.size = (layT t (es.map (·.1)) h).1.size := by rw [← a1, Array.size_map]
  rw [← a2, ← hsz]
  have h2 := relay_map (layNew t es h x).2.1 (layNew t es h x).1 (SetTable.grown (layNew t es h x).1.size)
  rw [a1] at h2
  have b1 := congrArg (·.1) h2
  have b2 := congrArg (·.2.1) h2
  simp only at b1 b2
  split
  · simp only [b1, b2]
  · simp only [a1]

def runT (led : Bool) (ns : List Int) : Array Int × SetTable := ns.foldl (fun st n => addT st (hashInt n)) (#[], .fresh 0 0 led)
def risingB : List Nat → Bool
  | [] => true
  | [_] => true
  | a :: b :: r => decide (a < b) && risingB (b :: r)
def okS (st : Array Int × SetTable) : Bool := st.2.plain && risingB st.2.place.toList
def chk : List Int → Array Int × SetTable → Bool
  | [], st => okS st
  | a :: r, st => chk r st && chk r (addT st (hashInt a))
def nine : List Int := [0, 1, 2, 3, 4, 5, 6, 7, 8]
theorem all_ok (led : Bool) : chk nine (#[], .fresh 0 0 led) = true := by kernel_rfl
theorem chk_of {l ns : List Int} (h : ns.Sublist l) : ∀ st, chk l st = true → okS (ns.foldl (fun st n => addT st (hashInt n)) st) = true := by
  induction h with
  | slnil => intro st h; exact h
  | cons a _ ih => intro st h; unfold chk at h; rw [Bool.and_eq_true] at h; exact ih st h.1
  | cons_cons a _ ih => intro st h; unfold chk at h; rw [Bool.and_eq_true] at h; exact ih _ h.2
theorem okT_of (led : Bool) {ns : List Int} (h : ns.Sublist nine) : okS (runT led ns) = true := chk_of h _ (all_ok led)
theorem led_add (st : Array Int × SetTable) (h : Int) : (addT st h).2.led = st.2.led := by
  have h1 : ∀ (t : SetTable) (n : Nat), (t.orStandIn n).led = t.led := fun t n => by
    unfold SetTable.orStandIn SetTable.standIn; split <;> rfl
  have h2 : ∀ (t : SetTable) (hs : Array Int) (h : Int), (layT t hs h).2.1.led = t.led := fun t hs h => by
    unfold layT
    cases t.freeSlot h with
    | none => rfl
    | some p => obtain ⟨slot, wd⟩ := p; simp only [h1]; rfl
  have h3 : ∀ (t : SetTable) (hs : Array Int) (n : Nat), (relayT t hs n).2.1.led = t.led := fun t hs n => by
    unfold relayT
    cases hr : t.relaid hs n with
    | none => rfl
    | some p =>
      obtain ⟨t', order⟩ := p
      have : t'.led = t.led := by
        unfold SetTable.relaid SetTable.laid at hr
        cases hc : SetTable.layClean (SetTable.sizeAbove n - 1) hs with
        | none => rw [hc] at hr; cases hr
        | some o => rw [hc] at hr; cases hr; rfl
      simp only
      split
      · exact this
      · rfl
  unfold addT
  simp only
  split
  · simp only [h3, h2]
  · simp only [h2]
theorem led_run (led : Bool) (ns : List Int) : (runT led ns).2.led = led := by
  have key : ∀ (ns : List Int) (st : Array Int × SetTable), (ns.foldl (fun st n => addT st (hashInt n)) st).2.led = st.2.led := by
    intro ns
    induction ns with
    | nil => intro st; rfl
    | cons n ns ih => intro st; rw [List.foldl_cons, ih, led_add]
  exact key ns _
theorem sorted_of_risingB : ∀ {l : List Nat}, risingB l = true → l.Pairwise (· < ·)
  | [], _ => .nil
  | [a], _ => List.pairwise_singleton _ _
  | a :: b :: r, h => by
    unfold risingB at h
    rw [Bool.and_eq_true, decide_eq_true_eq] at h
    have ih := sorted_of_risingB h.2
    refine List.pairwise_cons.mpr ⟨fun x hx => ?_, ih⟩
    rcases List.mem_cons.mp hx with rfl | hx
    · exact h.1
    · exact Nat.lt_trans h.1 (List.rel_of_pairwise_cons ih hx)
theorem sublist_of_rising : ∀ (k : Nat) (a : Int) (ns : List Int), ns.Pairwise (· < ·) → (∀ n ∈ ns, a ≤ n ∧ n < a + k) → ns.Sublist ((List.range k).map fun i : Nat => a + (i : Int))
  | 0, a, ns, _, h => by
    cases ns with
    | nil => simp
    | cons n ns => have := h n (.head _); omega
  | k + 1, a, ns, hp, h => by
    have e : (List.range (k + 1)).map (fun i : Nat => a + (i : Int)) = a :: (List.range k).map (fun i : Nat => (a + 1) + (i : Int)) := by
      rw [List.range_succ_eq_map, List.map_cons, List.map_map]
      congr 1
      · simp
      · refine List.map_congr_left fun i _ => ?_
        simp only [Function.comp]; omega
    rw [e]
    cases ns with
    | nil => simp
    | cons n ns =>
      obtain ⟨h1, h2⟩ := List.pairwise_cons.mp hp
      by_cases hn : n = a
      · subst hn
        refine .cons_cons _ (sublist_of_rising k _ ns h2 fun m hm => ?_)
        have := h m (.tail _ hm)
        have := h1 m hm
        omega
      · refine .cons _ (sublist_of_rising k _ (n :: ns) hp fun m hm => ?_)
        have h3 := h m hm
        have h4 := h n (.head _)
        rcases List.mem_cons.mp hm with rfl | hm
        · omega
        · have := h1 m hm; omega
theorem sublist_nine {ns : List Int} (hp : ns.Pairwise (· < ·)) (h : ∀ n ∈ ns, 0 ≤ n ∧ n < 9) : ns.Sublist nine := by
  have := sublist_of_rising 9 0 ns hp (fun n hn => by have := h n hn; omega)
  exact this
end Mine

namespace Mine
open PySem PySem.W PySem.Calls PyProof.Rows

theorem below_spec {xs : Array Nat} (hr : xs.toList.Pairwise (· < ·)) (j : Nat) :
    SetTable.below xs j ≤ xs.size ∧ (∀ k, k < SetTable.below xs j → xs.getD k 0 < j) ∧ (∀ k, SetTable.below xs j ≤ k → k < xs.size → j ≤ xs.getD k 0) := by
  have mono : ∀ a b, a < b → b < xs.size → xs.getD a 0 < xs.getD b 0 := fun a b hab hb => by
    have h1 := List.pairwise_iff_getElem.mp hr a b (by simp; omega) (by simpa using hb) hab
    rw [Array.getD_eq_getD_getElem?, Array.getD_eq_getD_getElem?, Array.getElem?_eq_getElem (by omega), Array.getElem?_eq_getElem hb]
    simpa using h1
  have key : ∀ (fuel lo hi : Nat), hi - lo ≤ fuel → lo ≤ hi → hi ≤ xs.size → (∀ k, k < lo → xs.getD k 0 < j) → (∀ k, hi ≤ k → k < xs.size → j ≤ xs.getD k 0) →
      SetTable.below.go xs j fuel lo hi ≤ xs.size ∧ (∀ k, k < SetTable.below.go xs j fuel lo hi → xs.getD k 0 < j) ∧ (∀ k, SetTable.below.go xs j fuel lo hi ≤ k → k < xs.size → j ≤ xs.getD k 0) := by
    intro fuel
    induction fuel with
    | zero =>
      intro lo hi h1 h2 h3 h4 h5
      have : lo = hi := by omega
      subst this
      unfold SetTable.below.go
      exact ⟨h3, h4, h5⟩
    | succ fuel ih =>
      intro lo hi h1 h2 h3 h4 h5
      unfold SetTable.below.go
      by_cases hlt : lo < hi
      · rw [if_pos hlt]
        simp only
        have hgd : xs.getD ((lo + hi) / 2) j = xs.getD ((lo + hi) / 2) 0 := by
          have hlt2 : (lo + hi) / 2 < xs.size := by omega
          rw [Array.getD_eq_getD_getElem?, Array.getD_eq_getD_getElem?, Array.getElem?_eq_getElem hlt2]; rfl
        rw [hgd]
        by_cases hm : xs.getD ((lo + hi) / 2) 0 < j
        · rw [if_pos hm]
          refine ih _ _ (by omega) (by omega) h3 (fun k hk => ?_) h5
          by_cases hk2 : k = (lo + hi) / 2
          · subst hk2; exact hm
          · exact Nat.lt_trans (mono k _ (by omega) (by omega)) hm
        · rw [if_neg hm]
          refine ih _ _ (by omega) (by omega) (by omega) h4 (fun k hk hk2 => ?_)
          by_cases hk3 : k = (lo + hi) / 2
          · subst hk3; omega
          · have := mono ((lo + hi) / 2) k (by omega) hk2; omega
      · rw [if_neg hlt]
        have : lo = hi := by omega
        subst this
        exact ⟨h3, h4, h5⟩
  exact key xs.size 0 xs.size (by omega) (by omega) (Nat.le_refl _) (fun k hk => absurd hk (Nat.not_lt_zero _)) (fun k h1 h2 => by omega)
theorem below_zero {xs : Array Nat} (hr : xs.toList.Pairwise (· < ·)) : SetTable.below xs 0 = 0 := by
  obtain ⟨h1, h2, h3⟩ := below_spec hr 0
  rcases Nat.eq_zero_or_pos (SetTable.below xs 0) with h | h
  · exact h
  · exact absurd (h2 0 h) (Nat.not_lt_zero _)
theorem below_next {xs : Array Nat} (hr : xs.toList.Pairwise (· < ·)) {i : Nat} (hi : i < xs.size) : SetTable.below xs (xs.getD i 0 + 1) = i + 1 := by
  obtain ⟨h1, h2, h3⟩ := below_spec hr (xs.getD i 0 + 1)
  have mono : ∀ a b, a < b → b < xs.size → xs.getD a 0 < xs.getD b 0 := fun a b hab hb => by
    have h1 := List.pairwise_iff_getElem.mp hr a b (by simp; omega) (by simpa using hb) hab
    rw [Array.getD_eq_getD_getElem?, Array.getD_eq_getD_getElem?, Array.getElem?_eq_getElem (by omega), Array.getElem?_eq_getElem hb]
    simpa using h1
  generalize SetTable.below xs (xs.getD i 0 + 1) = b at h1 h2 h3
  rcases Nat.lt_trichotomy b (i + 1) with h | h | h
  · have := h3 i (by omega) hi; omega
  · exact h
  · have := h2 (i + 1) (by omega)
    have := mono i (i + 1) (by omega) (by omega); omega

theorem get_erase_perm {α : Type} : ∀ (l : List α) (i : Nat) (h : i < l.length), (l[i] :: l.eraseIdx i).Perm l
  | a :: l, 0, _ => by simp
  | a :: l, i + 1, h => by
    rw [List.getElem_cons_succ, List.eraseIdx_cons_succ]
    exact (List.Perm.swap _ _ _).trans ((get_erase_perm l i (by simpa using h)).cons a)
theorem pickOrder_perm {α : Type} (next : Nat → Nat) (xs : Array α) : (pickOrder next xs).toList.Perm xs.toList := by
  have key : ∀ (fuel k : Nat) (left : List α) (out : Array α), left.length ≤ fuel → (pickOrder.go next fuel k left out).toList.Perm (out.toList ++ left) := by
    intro fuel
    induction fuel with
    | zero => intro k left out h; have : left = [] := List.length_eq_zero_iff.mp (by omega); subst this; unfold pickOrder.go; simp
    | succ fuel ih =>
      intro k left out h
      unfold pickOrder.go
      cases hl : left[next k % left.length]? with
      | none =>
        have : left = [] := by
          rcases left with _ | ⟨a, l⟩
          · rfl
          · rw [List.getElem?_eq_none_iff] at hl
            have := Nat.mod_lt (next k) (show (a :: l).length > 0 by simp)
            omega
        subst this
        simp
      | some x =>
        obtain ⟨hlt, hx⟩ := List.getElem?_eq_some_iff.mp hl
        refine (ih _ _ _ (by rw [List.length_eraseIdx]; split <;> omega)).trans ?_
        simp only [Array.toList_push, List.append_assoc]
        refine List.Perm.append_left _ ?_
        have := get_erase_perm left (next k % left.length) hlt
        rw [hx] at this
        exact this
  have := key xs.size 0 xs.toList #[] (by simp)
  simpa [pickOrder] using this

section
variable {w : World} {A : Around} {E : Post} {s : Shared}
theorem ints_elems {es : Array (Int × Value)} (h : ∀ e ∈ es.toList, ∃ i k, e = (hashInt i, Value.int i k)) : ElemsOf (intKind PG w) es.toList := fun e he => by
  obtain ⟨i, k, rfl⟩ := h e he
  exact ⟨⟨i, by show Value.isInt i (.int i k) = true; simp [Value.isInt], rfl⟩, rfl⟩

theorem findIdx_none {es : List (Int × Value)} {i : Int} (h : ∀ e ∈ es, intOf e.2 ≠ i) (hi : ∀ e ∈ es, ∃ i k, e = (hashInt i, Value.int i k)) : es.findIdx? (fun e => (intKind PG w).is i e.2) = none := by
  rw [List.findIdx?_eq_none_iff]
  intro e he
  obtain ⟨j, k, rfl⟩ := hi e he
  show Value.isInt i (.int j k) = false
  have := h _ he
  simp [Value.isInt, intOf] at this ⊢
  exact this

/-- one more element -/
theorem addHashed_ints {a : Addr} {o : Obj} {es : Array (Int × Value)} {ep : Nat} {t : SetTable} {i : Int} {tk : Tok} {Q : Bool → Shared → Prop} (ho : s.heap.get? a = some o) (hd : o.data = .set es ep t) (hf : t.fits es.size = true) (hb : es.size + 1 < 4000)
    (hes : ∀ e ∈ es.toList, ∃ i k, e = (hashInt i, Value.int i k)) (hne : ∀ e ∈ es.toList, intOf e.2 ≠ i)
    (h : ∀ h' ep', h'.get? a = some { o with data := .set (addP (es, t) (hashInt i) (.int i tk)).1 ep' (addP (es, t) (hashInt i) (.int i tk)).2 } → Heap.SameBut a s.heap h' → Q true { s with heap := h' }) :
    wpAny (model PG w) A (setAddHashed a (.int i tk) (hashInt i)) Q E s := by
  have hel := ints_elems (w := w) hes
  have hkey : (intKind PG w).is i (.int i tk) = true := by show Value.isInt i (.int i tk) = true; simp [Value.isInt]
  unfold setAddHashed setAddHashedIn
  refine wpAny_holding (wpAny_bind (wpAny_setState_of ho hd hf ?_))
  dsimp only
  rw [byScan_of rfl (by show es.size < 4096; omega) hel]
  simp only [↓reduceIte]
  unfold setAddByScan
  refine wpAny_bind ?_
  refine wpAny_bind (wpAny_rule ?_)
  refine wpAny_bind (wpAny_setScan_of (knd := intKind PG w) (k := i) hkey ho hd hf hel ?_)
  rw [findIdx_none hne hes]
  dsimp only
  have hgw : ∀ (b : Bool) {s₁ : Shared} {Q' : Unit → Shared → Prop}, Q' () s₁ → wpAny (model PG w) A (match b with | true => rule "set.scan.the-table-gave-way" | false => pure ()) Q' E s₁ :=
    fun b s₁ Q' hq => by cases b <;> first | exact wpAny_pure hq | exact wpAny_rule hq
  have hperm := layNew_perm t es (hashInt i) (.int i tk)
  have hfits := layNew_fits t es (hashInt i) (.int i tk)
  unfold addP at h
  simp only at h
  generalize hL : layNew t es (hashInt i) (.int i tk) = L at hperm hfits h ⊢
  obtain ⟨es1, t1, wasDummy, gave⟩ := L
  dsimp only at hperm hfits h ⊢
  have hsz1 : es1.size = es.size + 1 := by
    have := hperm.length_eq
    simpa using this
  refine wpAny_bind (hgw _ ?_)
  have fin : wpAny (model PG w) A (do
        storeSet a es1 t1
        if (!wasDummy && t1.tooFull) = true then do
            (match (relayAll t1 es1 (SetTable.grown es1.size)).2.2 with | true => rule "set.scan.the-table-gave-way" | false => pure ())
            storeSet a (relayAll t1 es1 (SetTable.grown es1.size)).1 (relayAll t1 es1 (SetTable.grown es1.size)).2.1
            pure (some true)
          else pure (some true)) (fun r s' => wpAny (model PG w) A (match r with | some added => pure added | none => setAddHashedIn a (.int i tk) (hashInt i) 99999) Q E s') E s := by
    refine wpAny_bind (wpAny_storeSet_of ho hd ?_ (by rw [hsz1, sizeLine_eq]; omega))
    have hg1 : (s.heap.update a (Obj.putSet es1 t1)).get? a = some { o with data := .set es1 (ep + 1) t1 } := by
      have := Heap.get?_update_self (Obj.putSet es1 t1) ho (by rw [putSet_of es1 t1 hd]; rfl)
      rw [putSet_of es1 t1 hd] at this; exact this
    have hsb1 := Heap.SameBut.update s.heap a (Obj.putSet es1 t1)
    by_cases hc : (!wasDummy && t1.tooFull) = true
    · rw [if_pos hc] at h ⊢
      have hp2 := relayAll_perm t1 es1 (SetTable.grown es1.size)
      generalize hRl : relayAll t1 es1 (SetTable.grown es1.size) = Rl at hp2 h ⊢
      obtain ⟨es2, t3, gave2⟩ := Rl
      dsimp only at hp2 h ⊢
      have hsz2 : es2.size = es1.size := by rw [← Array.length_toList, hp2.length_eq, Array.length_toList]
      refine wpAny_bind (hgw _ ?_)
      refine wpAny_bind (wpAny_storeSet_of hg1 rfl ?_ (by rw [hsz2, hsz1, sizeLine_eq]; omega))
      have hg2 : ((s.heap.update a (Obj.putSet es1 t1)).update a (Obj.putSet es2 t3)).get? a = some { o with data := .set es2 (ep + 1 + 1) t3 } := by
        have := Heap.get?_update_self (Obj.putSet es2 t3) hg1 (by rw [putSet_of es2 t3 rfl]; rfl)
        rw [putSet_of es2 t3 rfl] at this; exact this
      exact wpAny_pure (wpAny_pure (h _ _ hg2 (hsb1.trans (Heap.SameBut.update _ a _))))
    · rw [if_neg hc] at h ⊢
      exact wpAny_pure (wpAny_pure (h _ _ hg1 hsb1))
  split
  · refine wpAny_bind ?_
    rw [hashByValue_scannable 8 (x := .int i tk) rfl]
    refine wpAny_pure ?_
    show wpAny _ A _ _ _ s
    simp only [plainKind, ↓reduceIte]
    exact fin
  · refine wpAny_bind (wpAny_pure ?_)
    simp only [↓reduceIte]
    exact fin
end
end Mine

namespace Mine
open PySem PySem.W PySem.Calls PyProof.Rows

theorem slot_froz_init : Slot "frozenset" "__init__" "object.__init__" :=
  .of (owner := "object") (n := "__init__") (by rw [typeLookup_type, builtinLookup_eq_fast]; kernel_rfl) (by decide +kernel) (by decide +kernel) (by decide +kernel)
    (by first | exact .inl (by decide +kernel) | exact .inr (by decide +kernel)) (by rw [isSubtype_type]; kernel_rfl)
theorem mro_froz : mroOf (.type "frozenset") = pure [.type "frozenset", .type "object"] := by rw [mroOf_type]; kernel_rfl
theorem lookup_froz_new : typeLookup (.type "frozenset") "__new__" = pure (some (.builtin "frozenset.__new__")) := by rw [typeLookup_type, builtinLookup_eq_fast]; kernel_rfl
theorem called_froz : TypeCalled "frozenset" "frozenset.__new__" "object.__init__" :=
  ⟨by decide +kernel, by decide +kernel, ⟨_, _, mro_froz⟩, madeBy_type mro_froz lookup_froz_new (by decide +kernel), by decide +kernel, by rw [isSubtype_type]; kernel_rfl, slot_froz_init⟩
theorem typeCall_froz_0 : checkTypeCall "frozenset" ⟨[], []⟩ = pure () := by kernel_rfl
theorem newCall_froz_0 : checkBuiltinCall "frozenset.__new__" ⟨[.type "frozenset"], []⟩ = pure () := by kernel_rfl
theorem typeCall_froz_1 (a : Value) : checkTypeCall "frozenset" ⟨[a], []⟩ = pure () := by kernel_rfl
theorem newCall_froz_1 (a : Value) : checkBuiltinCall "frozenset.__new__" ⟨[.type "frozenset", a], []⟩ = pure () := by kernel_rfl
theorem entry_froz_new : entryFor table "frozenset.__new__" = some Builtin.«frozenset.__new__» := entryFor_of_tree (by kernel_rfl)
theorem plain_froz_new : plainId "frozenset.__new__" = true := by decide +kernel
theorem sub_froz_self : isSubtype (.type "frozenset") (.type "frozenset") = pure true := by rw [isSubtype_type]; kernel_rfl
theorem lookup_froz_init : typeLookup (.type "frozenset") "__init__" = pure (some (.builtin "object.__init__")) := slot_froz_init.lookup

def frozNew (w : World) : Obj := { cls := .type "frozenset", dict := none, data := .set #[] 0 (.fresh 0 0 (!(w.params.followText "set-order"))) }
section
variable {w : World} {A : Around} {E : Post} {s : Shared}
theorem init_object {obj : Value} {rest : List Value} {s₁ : Shared} {Q : Post} (hT : s₁.TypeIs obj "frozenset") (hq : Q obj s₁) :
    wpAny (model PG w) A.in1 (Builtin.«object.__init__» ⟨obj :: rest, []⟩)
      (fun fin s' => match fin with | .done f => wants (fun r s₂ => r = .none ∧ Q obj s₂) E (.ok f) s' | .again c' => c'.quiet = true ∧ codeAny (model PG w) A c' (wants (fun r s₂ => r = .none ∧ Q obj s₂) E) s')
      (fun e s' => wants (fun r s₂ => r = .none ∧ Q obj s₂) E (.error e) s') s₁ :=
  object_init_meets (rest := rest) called_froz.init.lookup called_froz.made (by decide) PG w A _ s₁ ⟨hT, rfl, hq⟩
theorem call_froz_0 {Q : Post} (h : Q (.ref s.heap.objs.size) { s with heap := s.heap.push (frozNew w) }) : wpAny (model PG w) A (call (.type "frozenset") []) Q E s := by
  refine callType_codes (Q₁ := fun obj s₁ => obj = .ref s.heap.objs.size ∧ s₁ = { s with heap := s.heap.push (frozNew w) }) called_froz typeCall_froz_0 F.entry_object_init ?_ ?_
  · refine codeAny_call_builtin plain_froz_new entry_froz_new (wpAny_of_eq newCall_froz_0 ?_)
    have hsub := sub_froz_self
    have hini := lookup_froz_init
    obtain ⟨hp, g, d, tk, os⟩ := s
    unfold Builtin.«frozenset.__new__» Builtin.Frozenset.newClass
    dsimp only
    wp_walk
    refine wpAny_askSetting (wpAny_pure ?_)
    dsimp only
    simp only [newObj]
    refine wpAny_bind (wpAny_alloc (wpAny_pure ?_))
    exact wpAny_pure ⟨rfl, rfl⟩
  · rintro obj s₁ ⟨rfl, rfl⟩
    refine ⟨⟨_, Heap.get?_push_size _ rfl, rfl⟩, F.args_object_init_1 _, init_object ⟨_, Heap.get?_push_size _ rfl, rfl⟩ h⟩
end

theorem addP_perm (es : Array (Int × Value)) (t : SetTable) (h : Int) (x : Value) : (addP (es, t) h x).1.toList.Perm (es.toList ++ [(h, x)]) := by
  have h1 := layNew_perm t es h x
  rw [Array.toList_push] at h1
  unfold addP
  simp only
  split
  · exact (relayAll_perm _ _ _).trans h1
  · exact h1
theorem addP_fits (es : Array (Int × Value)) (t : SetTable) (h : Int) (x : Value) : (addP (es, t) h x).2.fits (addP (es, t) h x).1.size = true := by
  unfold addP
  simp only
  split
  · exact relayAll_fits _ _ _
  · exact layNew_fits t es h x

section
variable {w : World} {A : Around}
def frozAt (w : World) (es : Array (Int × Value)) (ep : Nat) (t : SetTable) : Obj := { cls := .type "frozenset", dict := none, data := .set es ep t }
theorem froz_loop {S I l : Addr} {vs : List Value} {n : Nat} {ns : List Int} (hh : A.handled = none) (hSI : S ≠ I) (hSl : S ≠ l) (hlI : l ≠ I) (hint : IntsAre vs ns) (hnd : ns.Nodup) (hlen : ns.length < 1000) (led : Bool)
    (h0 : Heap) (hol : h0.get? l = some (lisO vs n)) (hIn : h0.get? I = none) (hSn : h0.get? S = none) :
    ∀ (j i : Nat) (s : Shared) (R : Result → Shared → Prop) (es : Array (Int × Value)) (ep : Nat) (t : SetTable), ns.length - i = j → i ≤ ns.length → (∀ b o, h0.get? b = some o → s.heap.get? b = some o) → s.heap.IsListIter I l i →
      s.heap.get? S = some (frozAt w es ep t) → t.fits es.size = true → (es.map (·.1), t) = runT led (ns.take i) → (∀ e ∈ es.toList, ∃ i k, e = (hashInt i, Value.int i k)) → (es.toList.map fun e => intOf e.2).Perm (ns.take i) →
      (∀ h' es' ep' t', (∀ b o, h0.get? b = some o → h'.get? b = some o) → h'.get? S = some (frozAt w es' ep' t') → t'.fits es'.size = true → (es'.map (·.1), t') = runT led ns → (∀ e ∈ es'.toList, ∃ i k, e = (hashInt i, Value.int i k)) → (es'.toList.map fun e => intOf e.2).Perm ns →
        ∀ tk, R (.ok (.ret .none)) { s with heap := h', toks := tk }) →
      codeAny (model PG w) A (.builtin "set.update.loop" ⟨[.ref S, .ref I], []⟩) R s := by
  intro j
  induction j with
  | zero =>
    intro i s R es ep t hj hi hk hit hS hf hr hel hp hR
    have hin : i = ns.length := by omega
    subst hin
    have hvl : vs.length = ns.length := hint.length
    refine codeAny_builtin F.entry_set_update_loop ?_
    rw [Around.under_plainId F.plain_set_update_loop _]
    show wpAny _ A.in1 (pyNext (.ref I) >>= _) _ _ s
    refine wpAny_bind (wpAny_pyNext_list_end (A := A.in1) hh hit (isList_of (hk _ _ hol)) (by simp [hvl]) fun h' hx => ?_)
    show wpAny _ A.in1 (ret Value.none) _ _ _
    have ht : ns.take ns.length = ns := List.take_length
    rw [ht] at hr hp
    exact wpAny_pure (hR h' es ep t (fun b o e => hx b o (fun e' => by rw [e', hIn] at e; cases e) (hk b o e)) (hx S _ hSI hS) hf hr hel hp _)
  | succ j ih =>
    intro i s R es ep t hj hi hk hit hS hf hr hel hp hR
    have hlt : i < ns.length := by omega
    have hni : ns[i]? = some ns[i] := List.getElem?_eq_getElem hlt
    generalize hx : ns[i] = x at hni
    obtain ⟨tk, hv⟩ := hint.get i x hni
    refine codeAny_builtin F.entry_set_update_loop ?_
    rw [Around.under_plainId F.plain_set_update_loop _]
    show wpAny _ A.in1 (pyNext (.ref I) >>= _) _ _ s
    refine wpAny_bind (wpAny_pyNext_list_item hit (isList_of (hk _ _ hol)) (x := .int x tk) (by simpa using hv) fun h1 hit1 hs1 => ?_)
    have k1 : ∀ b o, h0.get? b = some o → h1.get? b = some o := fun b o e => hs1.extBut b o (fun e' => by rw [e', hIn] at e; cases e) (hk b o e)
    have hS1 : h1.get? S = some (frozAt w es ep t) := hs1.extBut S _ hSI hS
    show wpAny _ A.in1 (holding [Value.int x tk] (setAdd S (.int x tk)) >>= _) _ _ _
    refine wpAny_bind (wpAny_holding ?_)
    unfold setAdd
    refine wpAny_holding ?_
    refine wpAny_bind ((intKind PG w).pyHash (k := x) (by show Value.isInt x (.int x tk) = true; simp [Value.isInt]) ?_)
    have hlen2 : es.size < 1000 := by
      have := hp.length_eq
      simp at this; omega
    have hnotin : ∀ e ∈ es.toList, intOf e.2 ≠ x := fun e he heq => by
      have h2 : x ∈ ns.take i := hp.mem_iff.mp (List.mem_map.mpr ⟨e, he, heq⟩)
      obtain ⟨k, hk2⟩ := List.mem_iff_getElem?.mp h2
      rw [List.getElem?_take] at hk2
      split at hk2
      · rename_i hki
        have := (List.getElem?_inj (by omega : k < ns.length) hnd).mp (hk2.trans hni.symm)
        omega
      · cases hk2
    refine addHashed_ints (s := { s with heap := h1, toks := s.toks + 1 }) hS1 rfl hf (by omega) hel hnotin fun h2 ep2 hg2 hs2 => ?_
    refine wpAny_pure ⟨plainId_quiet F.plain_set_update_loop _, ?_⟩
    have htake : ns.take (i + 1) = ns.take i ++ [x] := by rw [List.take_add_one, hni]; rfl
    have hperm := addP_perm es t (hashInt x) (.int x tk)
    refine ih (i + 1) { s with heap := h2, toks := s.toks + 1 } R _ ep2 _ (by omega) hlt (fun b o e => hs2.extBut b o (fun e' => by rw [e', hSn] at e; cases e) (k1 b o e)) (hit1.at fun o e => hs2.extBut I o (Ne.symm hSI) e) hg2 (addP_fits _ _ _ _) ?_ ?_ ?_ hR
    · rw [add_map, hr, htake]
      unfold runT
      rw [List.foldl_append]; rfl
    · intro e he
      rcases List.mem_append.mp (hperm.mem_iff.mp he) with h3 | h3
      · exact hel e h3
      · rw [List.mem_singleton.mp h3]; exact ⟨x, tk, rfl⟩
    · rw [htake]
      refine (hperm.map _).trans ?_
      rw [List.map_append]
      exact hp.append_right _
end

section
variable {w : World} {A : Around} {E : Post} {s : Shared}
theorem call_froz_list {l : Addr} {vs : List Value} {n : Nat} {ns : List Int} {Q : Post} (hh : A.handled = none) (hol : s.heap.get? l = some (lisO vs n)) (hint : IntsAre vs ns) (hsub : ns.Sublist nine)
    (h : ∀ h' tk o, (∀ b o, s.heap.get? b = some o → h'.get? b = some o) → h'.get? s.heap.objs.size = some o → FsetO w o ns → Q (.ref s.heap.objs.size) { s with heap := h', toks := tk }) :
    wpAny (model PG w) A (call (.type "frozenset") [.ref l]) Q E s := by
  have hnd : ns.Nodup := hsub.nodup (by decide)
  have hlen : ns.length ≤ 9 := hsub.length_le
  refine callType_codes (Q₁ := fun obj s₁ => obj = .ref s.heap.objs.size ∧ ∃ h' tk o, s₁ = { s with heap := h', toks := tk } ∧ (∀ b o, s.heap.get? b = some o → h'.get? b = some o) ∧ h'.get? s.heap.objs.size = some o ∧ o.cls = .type "frozenset" ∧ FsetO w o ns) called_froz (typeCall_froz_1 _) F.entry_object_init ?_ ?_
  · refine codeAny_call_builtin plain_froz_new entry_froz_new (wpAny_of_eq (newCall_froz_1 _) ?_)
    have hsub' := sub_froz_self
    have hini := lookup_froz_init
    have hsls := F.sub_list_set
    have hslf := F.sub_list_frozenset
    have hT : ∀ (h' : Heap) tk, (∀ b o, s.heap.get? b = some o → h'.get? b = some o) → Shared.TypeIs { s with heap := h', toks := tk } (.ref l) "list" := fun h' tk hk => ⟨_, hk _ _ hol, rfl⟩
    have hk1 : ∀ b o, s.heap.get? b = some o → (s.heap.push (frozNew w)).get? b = some o := fun b o e => Heap.get?_push_of_some _ e
    have hlS : l < s.heap.objs.size := Heap.lt_size hol
    have hloop := froz_loop (w := w) (A := A.in1.in1) (S := s.heap.objs.size) (I := (s.heap.push (frozNew w)).objs.size) (l := l) (n := n) hh (by rw [Heap.size_push]; exact Nat.ne_of_lt (Nat.lt_succ_self _)) (Nat.ne_of_gt hlS)
      (by rw [Heap.size_push]; exact Nat.ne_of_lt (Nat.lt_succ_of_lt hlS)) hint hnd (by omega) (!(w.params.followText "set-order")) s.heap hol (by
        cases e : s.heap.get? (s.heap.push (frozNew w)).objs.size with
        | none => rfl
        | some o => have := Heap.lt_size e; rw [Heap.size_push] at this; exact absurd this (Nat.not_lt.mpr (Nat.le_succ _))) (fresh_size _) ns.length 0
    obtain ⟨hp, g, d, tk, os⟩ := s
    unfold Builtin.«frozenset.__new__» Builtin.Frozenset.newClass
    generalize hUF : Builtin.Frozenset.newFrom = NF
    dsimp only
    have hT0 := hT hp tk (fun _ _ e => e)
    have hne : (Value.type "list" == Value.type "frozenset") = false := by decide
    wp_walk
    subst hUF
    unfold Builtin.Frozenset.newFrom
    refine wpAny_bind ?_
    unfold newSet setsByText
    refine wpAny_bind (wpAny_bind (wpAny_askSetting (wpAny_pure ?_)))
    dsimp only
    simp only [newObj]
    refine wpAny_bind (wpAny_alloc (wpAny_pure ?_))
    have hl1 : (hp.push (frozNew w)).get? l = some (lisO vs n) := hk1 _ _ hol
    have hT1 := hT (hp.push (frozNew w)) tk hk1
    refine wpAny_bind (wpAny_pure ?_)
    refine wpAny_bind (wpAny_holding ?_)
    unfold Builtin.Frozenset.updateFrom
    refine wpAny_bind ?_
    unfold Builtin.Frozenset.isAnySet orM
    refine wpAny_bind (wpAny_isInstance hT1 hsls ?_)
    show wpAny _ _ (isInstance (.ref l) (.type "frozenset")) _ _ _
    refine wpAny_isInstance hT1 hslf ?_
    simp only [Bool.false_eq_true, if_false]
    refine wpAny_bind (wpAny_typeOf hT1 ?_)
    rw [if_neg (by decide)]
    refine wpAny_bind (wpAny_pyIter_list (isList_of hl1) ?_)
    refine wpAny_bind (wpAny_runValue ?_)
    refine hloop _ _ #[] 0 (.fresh 0 0 (!(w.params.followText "set-order"))) rfl (Nat.zero_le _) (fun b o e => Heap.get?_push_of_some _ (hk1 b o e)) ⟨_, Heap.get?_push_size _ rfl, rfl, rfl⟩
      (Heap.get?_push_of_some _ (Heap.get?_push_size _ rfl)) (by rfl) (by simp [runT]) (fun e he => by simp at he) (by simp) fun h' es' ep' t' hk hg hf hr hel hp tk' => ?_
    refine wpAny_pure (wpAny_pure (wpAny_pure ⟨rfl, h', tk', _, rfl, hk, hg, rfl, es', ep', t', rfl, hf, ?_, ?_, ?_, ?_, hel, hp, hnd⟩))
    · have h1 := okT_of (!(w.params.followText "set-order")) hsub
      rw [← hr] at h1
      exact (Bool.and_eq_true _ _ ▸ h1).1
    · have h1 := led_run (!(w.params.followText "set-order")) ns
      rw [← hr] at h1; exact h1
    · have h1 := okT_of (!(w.params.followText "set-order")) hsub
      rw [← hr] at h1
      unfold okS at h1
      rw [Bool.and_eq_true] at h1
      exact sorted_of_risingB h1.2
    · have := hp.length_eq
      simp at this; omega
  · rintro obj s₁ ⟨rfl, h', tk, o, rfl, hk, ho, hc, hF⟩
    exact ⟨⟨_, ho, hc⟩, F.args_object_init_2 _ _, init_object ⟨_, ho, hc⟩ (h h' tk o hk ho hF)⟩
end
end Mine

namespace Mine
open PySem PySem.W PySem.Calls PyProof.Rows

theorem owner_setiter : Manifest.owners.lookup (String.ofList ['r', 'o', 't', 'a', 'r', 'e', 't', 'i', '_', 't', 'e', 's'].reverse) = some Manifest.sig_set_iterator := by kernel_rfl
theorem slot_setiter_next : Slot "set_iterator" "__next__" "set_iterator.__next__" :=
  .of (owner := "set_iterator") (n := "__next__") (by rw [typeLookup_type, builtinLookup_eq_fast]; kernel_rfl) (by decide +kernel) (by decide +kernel) (by decide +kernel)
    (by first | exact .inl (by decide +kernel) | exact .inr (by decide +kernel)) (by rw [isSubtype_type]; kernel_rfl)
theorem slot_setiter_iter : Slot "set_iterator" "__iter__" "set_iterator.__iter__" :=
  .of (owner := "set_iterator") (n := "__iter__") (by rw [typeLookup_type, builtinLookup_eq_fast]; kernel_rfl) (by decide +kernel) (by decide +kernel) (by decide +kernel)
    (by first | exact .inl (by decide +kernel) | exact .inr (by decide +kernel)) (by rw [isSubtype_type]; kernel_rfl)
theorem slot_froz_iter : Slot "frozenset" "__iter__" "frozenset.__iter__" :=
  .of (owner := "frozenset") (n := "__iter__") (by rw [typeLookup_type, builtinLookup_eq_fast]; kernel_rfl) (by decide +kernel) (by decide +kernel) (by decide +kernel)
    (by first | exact .inl (by decide +kernel) | exact .inr (by decide +kernel)) (by rw [isSubtype_type]; kernel_rfl)
theorem slot_froz_len : Slot "frozenset" "__len__" "frozenset.__len__" :=
  .of (owner := "frozenset") (n := "__len__") (by rw [typeLookup_type, builtinLookup_eq_fast]; kernel_rfl) (by decide +kernel) (by decide +kernel) (by decide +kernel)
    (by first | exact .inl (by decide +kernel) | exact .inr (by decide +kernel)) (by rw [isSubtype_type]; kernel_rfl)
theorem entry_setiter_next : entryFor table "set_iterator.__next__" = some Builtin.«set_iterator.__next__» := entryFor_of_tree (by kernel_rfl)
theorem entry_setiter_iter : entryFor table "set_iterator.__iter__" = some Builtin.«dict_keyiterator.__iter__» :=
  entryFor_alias (id' := "dict_keyiterator.__iter__") (by kernel_rfl) (by first | rfl | decide +kernel | (unfold String.splitOn; simp +decide [String.splitOnAux])) (by decide +kernel) (by kernel_rfl)
theorem entry_froz_iter : entryFor table "frozenset.__iter__" = some Builtin.«frozenset.__iter__» := entryFor_of_tree (by kernel_rfl)
theorem args_setiter_next (a : Value) : argsOk "set_iterator.__next__" ⟨[a], []⟩ := by
  unfold argsOk; rw [signature?_of (id := "set_iterator.__next__") (n := ['_', '_', 't', 'x', 'e', 'n', '_', '_']) (o := ['r', 'o', 't', 'a', 'r', 'e', 't', 'i', '_', 't', 'e', 's']) (by kernel_rfl) owner_setiter]; kernel_rfl
theorem args_setiter_iter (a : Value) : argsOk "set_iterator.__iter__" ⟨[a], []⟩ := by
  unfold argsOk; rw [signature?_of (id := "set_iterator.__iter__") (n := ['_', '_', 'r', 'e', 't', 'i', '_', '_']) (o := ['r', 'o', 't', 'a', 'r', 'e', 't', 'i', '_', 't', 'e', 's']) (by kernel_rfl) owner_setiter]; kernel_rfl
theorem args_froz_iter (a : Value) : argsOk "frozenset.__iter__" ⟨[a], []⟩ := by
  unfold argsOk; rw [signature?_of (id := "frozenset.__iter__") (n := ['_', '_', 'r', 'e', 't', 'i', '_', '_']) (o := ['t', 'e', 's', 'n', 'e', 'z', 'o', 'r', 'f']) (by kernel_rfl) FB.owner_frozenset]; kernel_rfl

section
variable {w : World} {A : Around} {E : Post} {s : Shared}
theorem in_fset {a : Addr} {o : Obj} {l : List Int} {k : Int} {tk : Tok} {Q : Post} (ho : s.heap.get? a = some o) (hF : FsetO w o l) (h : Q (.bool (decide (k ∈ l))) { s with toks := s.toks + 1 }) :
    wpAny (model PG w) A (compareOp .In (.int k tk) (.ref a)) Q E s := by
  obtain ⟨es, ep, t, rfl, hf, _, _, _, hb, hel, hp, _⟩ := hF
  have hT : s.TypeIs (.ref a) "frozenset" := ⟨_, ho, rfl⟩
  have hkey : (intKind PG w).is k (.int k tk) = true := by show Value.isInt k (.int k tk) = true; simp [Value.isInt]
  have hmem : ∀ k', decide (k' ∈ l) = true ↔ ∃ e ∈ es.toList, (intKind PG w).is k' e.2 = true := fun k' => by
    rw [decide_eq_true_eq, ← hp.mem_iff, List.mem_map]
    constructor
    · rintro ⟨e, he, rfl⟩
      obtain ⟨i, t, rfl⟩ := hel e he
      exact ⟨_, he, by show Value.isInt (intOf (.int i t)) (.int i t) = true; simp [Value.isInt, intOf]⟩
    · rintro ⟨e, he, h2⟩
      obtain ⟨i, t, rfl⟩ := hel e he
      obtain ⟨t', e'⟩ := isInt_shape (k := k') (v := .int i t) h2
      cases e'
      exact ⟨_, he, rfl⟩
  show wpAny _ _ (do return .bool (← contains (.ref a) (.int k tk))) Q E s
  refine wpAny_bind ?_
  unfold contains
  try with_reducible refine wpAny_holding ?_
  refine wpAny_bind (wpAny_specialOf hT FB.slot_frozenset_contains.lookup ?_)
  show wpAny _ _ (if (some (Value.builtin "frozenset.__contains__") == some Value.none) = true then _ else _) _ E s
  rw [if_neg (by rw [beq_builtin_none]; exact Bool.false_ne_true)]
  refine wpAny_bind (wpAny_callSpecialUnlessNone?_slot (name := Str.ofString "__contains__") hT FB.slot_frozenset_contains
    (wpAny_call_entry FB.slot_frozenset_contains hT FB.entry_frozenset_contains ?_ (FB.args_frozenset_contains_2 _ _)))
  unfold Builtin.«frozenset.__contains__» Builtin.Frozenset.oneOther
  simp only [List.isEmpty_nil, bind_assoc]
  unfold Builtin.Frozenset.addrOf Builtin.Frozenset.withSetAsKey setContains
  refine wpAny_bind (wpAny_pure ?_)
  try dsimp only
  refine wpAny_bind (wpAny_pure ?_)
  try dsimp only
  refine wpAny_bind (wpAny_tryCatch ?_)
  refine wpAny_holding ?_
  refine wpAny_bind ((intKind PG w).pyHash hkey ?_)
  refine wpAny_bind (setFind_any (knd := intKind PG w) (S := fun k' => decide (k' ∈ l)) (s := { s with toks := s.toks + 1 }) hkey rfl ho rfl (ints_elems hel) hmem (by show es.size < 4096; omega) hf fun r hr => ?_)
  refine wpAny_pure ?_
  show wpAny _ _ (ret (Value.bool r.isSome)) _ _ _
  rw [hr]
  exact wpAny_pure ⟨_, rfl, wpAny_truthy_bool (wpAny_pure h)⟩
end

/-- an iterator over a set, at its i-th place -/
def SetIt (w : World) (I a : Addr) (ep n : Nat) (pl : Array Nat) (i : Nat) (h : Heap) : Prop :=
  ∃ slot t0 t1 t2 t3 : Nat, h.get? I = some { cls := .type "set_iterator", dict := none, data := .fields #[.int slot t0, .int (i : Int) t1, .ref a, .int (n : Int) t2, .int (ep : Int) t3], slots := #[] } ∧
    (w.params.followText "set-order" = false → SetTable.below pl slot = i)

section
variable {w : World} {A : Around} {E : Post} {s : Shared}
def ordOf (w : World) (a : Addr) (ep : Nat) (es : Array (Int × Value)) : Array (Int × Value) := if w.params.followText "set-order" then pickOrder (w.params.setOrder a ep) es else es
theorem ordOf_perm (a : Addr) (ep : Nat) (es : Array (Int × Value)) : (ordOf w a ep es).toList.Perm es.toList := by
  unfold ordOf; split
  · exact pickOrder_perm _ _
  · exact List.Perm.refl _
theorem ordOf_size (a : Addr) (ep : Nat) (es : Array (Int × Value)) : (ordOf w a ep es).size = es.size := by
  have := (ordOf_perm (w := w) a ep es).length_eq
  simpa using this

theorem setNext_item {a : Addr} {es : Array (Int × Value)} {ep : Nat} {t : SetTable} {i slot : Nat} {x : Int × Value} {Q : Option (Value × Nat) → Shared → Prop}
    (ho : s.heap.get? a = some (frozAt w es ep t)) (hf : t.fits es.size = true) (hpl : t.plain = true) (hled : t.led = !(w.params.followText "set-order")) (hr : t.place.toList.Pairwise (· < ·))
    (hslot : w.params.followText "set-order" = false → SetTable.below t.place slot = i) (hx : (ordOf w a ep es)[i]? = some x)
    (h : ∀ slot', (w.params.followText "set-order" = false → SetTable.below t.place slot' = i + 1) → Q (some (x.2, slot')) s) : wpAny (model PG w) A (setNext a slot i ep) Q E s := by
  unfold setNext
  refine wpAny_bind (wpAny_setState_of ho rfl hf ?_)
  dsimp only
  unfold setsByText
  refine wpAny_bind (wpAny_bind (wpAny_askSetting (wpAny_pure ?_)))
  have hps : t.place.size = es.size := by
    simp only [SetTable.fits, Bool.and_eq_true, beq_iff_eq] at hf; exact hf.1
  cases hft : w.params.followText "set-order" with
  | true =>
    have e : (⟨(model PG w).prog, (model PG w).w.params⟩ : Setting).params.followText "set-order" = true := hft
    rw [e]
    simp only [if_true]
    rw [if_neg (by simp)]
    unfold setWalk setsByText
    refine wpAny_bind ?_
    refine wpAny_bind (wpAny_setState_of ho rfl hf ?_)
    dsimp only
    refine wpAny_bind (wpAny_bind (wpAny_askSetting (wpAny_pure ?_)))
    rw [e]
    simp only [if_true]
    refine wpAny_bind (wpAny_askSetting (wpAny_pure ?_))
    unfold ordOf at hx
    rw [hft, if_pos rfl] at hx
    have hx' : (pickOrder ((⟨(model PG w).prog, (model PG w).w.params⟩ : Setting).params.setOrder a ep) es)[i]? = some x := hx
    rw [hx']
    exact wpAny_pure (h slot (fun hh => by rw [hft] at hh; cases hh))
  | false =>
    have e : (⟨(model PG w).prog, (model PG w).w.params⟩ : Setting).params.followText "set-order" = false := hft
    rw [e]
    simp only [Bool.false_eq_true, if_false]
    have hdr : ¬ ((!t.plain && decide (es.size > 1)) = true) := by rw [hpl]; simp
    have hl : t.led = true := by rw [hled, hft]; rfl
    refine wpAny_ite_split (fun hab => absurd hab hdr) (fun _ => ?_)
    refine wpAny_bind ?_
    show wpAny _ _ (if (!t.led && !es.isEmpty) = true then unsupported "set:maker-not-led" else pure ()) _ _ _
    rw [if_neg (by rw [hl]; simp)]
    refine wpAny_pure (wpAny_pure ?_)
    rw [hslot hft]
    unfold ordOf at hx
    rw [hft, if_neg Bool.false_ne_true] at hx
    have hi : i < es.size := (Array.getElem?_eq_some_iff.mp hx).1
    have hp2 : t.place[i]? = some (t.place.getD i 0) := by
      rw [Array.getD_eq_getD_getElem?, Array.getElem?_eq_getElem (by omega)]; rfl
    rw [hx, hp2]
    exact h _ fun _ => below_next hr (by omega)

theorem setNext_end {a : Addr} {es : Array (Int × Value)} {ep : Nat} {t : SetTable} {slot : Nat} {Q : Option (Value × Nat) → Shared → Prop}
    (ho : s.heap.get? a = some (frozAt w es ep t)) (hf : t.fits es.size = true) (hpl : t.plain = true) (hled : t.led = !(w.params.followText "set-order"))
    (hslot : w.params.followText "set-order" = false → SetTable.below t.place slot = es.size)
    (h : Q none s) : wpAny (model PG w) A (setNext a slot es.size ep) Q E s := by
  unfold setNext
  refine wpAny_bind (wpAny_setState_of ho rfl hf ?_)
  dsimp only
  unfold setsByText
  refine wpAny_bind (wpAny_bind (wpAny_askSetting (wpAny_pure ?_)))
  cases hft : w.params.followText "set-order" with
  | true =>
    have e : (⟨(model PG w).prog, (model PG w).w.params⟩ : Setting).params.followText "set-order" = true := hft
    rw [e]
    simp only [if_true]
    rw [if_neg (by simp)]
    unfold setWalk setsByText
    refine wpAny_bind ?_
    refine wpAny_bind (wpAny_setState_of ho rfl hf ?_)
    dsimp only
    refine wpAny_bind (wpAny_bind (wpAny_askSetting (wpAny_pure ?_)))
    rw [e]
    simp only [if_true]
    refine wpAny_bind (wpAny_askSetting (wpAny_pure ?_))
    have hsz : (pickOrder ((⟨(model PG w).prog, (model PG w).w.params⟩ : Setting).params.setOrder a ep) es).size = es.size := by
      have := (pickOrder_perm ((⟨(model PG w).prog, (model PG w).w.params⟩ : Setting).params.setOrder a ep) es).length_eq
      simpa using this
    rw [Array.getElem?_eq_none (by rw [hsz]; exact Nat.le_refl _)]
    exact wpAny_pure h
  | false =>
    have e : (⟨(model PG w).prog, (model PG w).w.params⟩ : Setting).params.followText "set-order" = false := hft
    rw [e]
    simp only [Bool.false_eq_true, if_false]
    have hdr : ¬ ((!t.plain && decide (es.size > 1)) = true) := by rw [hpl]; simp
    have hl : t.led = true := by rw [hled, hft]; rfl
    refine wpAny_ite_split (fun hab => absurd hab hdr) (fun _ => ?_)
    refine wpAny_bind ?_
    show wpAny _ _ (if (!t.led && !es.isEmpty) = true then unsupported "set:maker-not-led" else pure ()) _ _ _
    rw [if_neg (by rw [hl]; simp)]
    refine wpAny_pure (wpAny_pure ?_)
    rw [hslot hft, Array.getElem?_eq_none (Nat.le_refl _)]
    exact h

theorem pyIter_fset {a : Addr} {es : Array (Int × Value)} {ep : Nat} {t : SetTable} {Q : Post} (ho : s.heap.get? a = some (frozAt w es ep t)) (hf : t.fits es.size = true) (hpl : t.plain = true)
    (h : Q (.ref s.heap.objs.size) { s with heap := s.heap.push { cls := .type "set_iterator", dict := none, data := .fields #[rawInt 0, rawInt 0, .ref a, rawInt es.size, rawInt ep], slots := #[] } }) :
    wpAny (model PG w) A (pyIter (.ref a)) Q E s := by
  have hT : s.TypeIs (.ref a) "frozenset" := ⟨_, ho, rfl⟩
  refine wpAny_pyIter_slot hT slot_froz_iter (wpAny_call_entry slot_froz_iter hT entry_froz_iter ?_ (args_froz_iter _))
  unfold Builtin.«frozenset.__iter__»
  refine wpAny_bind ?_
  unfold Builtin.Frozenset.slot0
  refine wpAny_bind (wpAny_pure ?_)
  unfold Builtin.Frozenset.addrOf
  refine wpAny_pure ?_
  refine wpAny_bind ?_
  unfold Builtin.Frozenset.sizeOf setEntries
  refine wpAny_bind (wpAny_bind (wpAny_setState_of ho rfl hf (wpAny_pure (wpAny_pure ?_))))
  refine wpAny_bind ?_
  unfold setDrawn setsByText
  refine wpAny_bind (wpAny_setState_of ho rfl hf ?_)
  dsimp only
  refine wpAny_bind (wpAny_bind (wpAny_askSetting (wpAny_pure ?_)))
  refine wpAny_pure ?_
  have hdr : ¬ ((!t.plain && decide (es.size > 1)) = true) := by rw [hpl]; simp
  refine wpAny_ite_split (fun hab => absurd (Bool.and_eq_true _ _ ▸ hab).2 hdr) (fun _ => ?_)
  refine wpAny_bind (wpAny_pure ?_)
  refine wpAny_bind (wpAny_setEpoch_of ho rfl hf ?_)
  refine wpAny_bind (wpAny_newObj_type ?_)
  exact wpAny_pure ⟨_, rfl, "set_iterator", _, ⟨_, Heap.get?_push_size _ rfl, rfl⟩, slot_setiter_next.lookup, h⟩

theorem SetIt.typeIs {I a : Addr} {ep n : Nat} {pl : Array Nat} {i : Nat} (x : SetIt w I a ep n pl i s.heap) : s.TypeIs (.ref I) "set_iterator" := by
  obtain ⟨slot, t0, t1, t2, t3, ho, _⟩ := x; exact ⟨_, ho, rfl⟩
theorem SetIt.at {h h' : Heap} {I a : Addr} {ep n : Nat} {pl : Array Nat} {i : Nat} (x : SetIt w I a ep n pl i h) (hk : ∀ o, h.get? I = some o → h'.get? I = some o) : SetIt w I a ep n pl i h' := by
  obtain ⟨slot, t0, t1, t2, t3, ho, r⟩ := x; exact ⟨slot, t0, t1, t2, t3, hk _ ho, r⟩

theorem pyNext_fset_item {I a : Addr} {es : Array (Int × Value)} {ep : Nat} {t : SetTable} {i : Nat} {x : Int × Value} {Q : Option Value → Shared → Prop} (hIa : I ≠ a)
    (hit : SetIt w I a ep es.size t.place i s.heap) (ho : s.heap.get? a = some (frozAt w es ep t)) (hf : t.fits es.size = true) (hpl : t.plain = true) (hled : t.led = !(w.params.followText "set-order")) (hr : t.place.toList.Pairwise (· < ·))
    (hx : (ordOf w a ep es)[i]? = some x) (h : ∀ h', SetIt w I a ep es.size t.place (i + 1) h' → Heap.SameBut I s.heap h' → Q (some x.2) { s with heap := h' }) :
    wpAny (model PG w) A (pyNext (.ref I)) Q E s := by
  have hT := hit.typeIs
  obtain ⟨slot, t0, t1, t2, t3, hoI, hslot⟩ := hit
  unfold pyNext
  refine wpAny_bind (wpAny_attempt (wpAny_callSpecial?_slot (name := Str.ofString "__next__") hT slot_setiter_next
    (wpAny_call_entry slot_setiter_next hT entry_setiter_next ?_ (args_setiter_next _))))
  unfold Builtin.«set_iterator.__next__»
  refine wpAny_bind (wpAny_pure ?_)
  refine wpAny_bind (wpAny_fieldsOf hoI rfl ?_)
  dsimp only
  refine wpAny_bind ?_
  unfold setEntries
  refine wpAny_bind (wpAny_setState_of ho rfl hf (wpAny_pure ?_))
  rw [if_neg (by simp)]
  simp only [Int.toNat_natCast]
  refine wpAny_bind (setNext_item ho hf hpl hled hr hslot hx fun slot' hs' => ?_)
  dsimp only
  refine wpAny_bind (wpAny_setField hoI rfl (by simp) ?_)
  have h1 : (s.heap.update I (Obj.mapFields (·.setIfInBounds 0 (rawInt slot')))).get? I = some { cls := .type "set_iterator", dict := none, data := .fields #[.int slot' 0, .int (i : Int) t1, .ref a, .int (es.size : Int) t2, .int (ep : Int) t3], slots := #[] } :=
    Heap.get?_update_self _ hoI rfl
  refine wpAny_bind (wpAny_setField h1 rfl (by simp) ?_)
  have h2 : ((s.heap.update I (Obj.mapFields (·.setIfInBounds 0 (rawInt slot')))).update I (Obj.mapFields (·.setIfInBounds 1 (rawInt ((i : Int) + 1))))).get? I = some { cls := .type "set_iterator", dict := none, data := .fields #[.int slot' 0, .int ((i : Int) + 1) 0, .ref a, .int (es.size : Int) t2, .int (ep : Int) t3], slots := #[] } :=
    Heap.get?_update_self _ h1 rfl
  exact wpAny_pure ⟨_, rfl, wpAny_pure (h _ ⟨slot', 0, 0, t2, t3, by rw [h2]; simp, hs'⟩ ((Heap.SameBut.update ..).trans (Heap.SameBut.update ..)))⟩

theorem pyNext_fset_end {I a : Addr} {es : Array (Int × Value)} {ep : Nat} {t : SetTable} {Q : Option Value → Shared → Prop} (hh : A.handled = none)
    (hit : SetIt w I a ep es.size t.place es.size s.heap) (ho : s.heap.get? a = some (frozAt w es ep t)) (hf : t.fits es.size = true) (hpl : t.plain = true) (hled : t.led = !(w.params.followText "set-order"))
    (h : ∀ h', Heap.ExtBut I s.heap h' → Q none { s with heap := h' }) :
    wpAny (model PG w) A (pyNext (.ref I)) Q E s := by
  have hT := hit.typeIs
  obtain ⟨slot, t0, t1, t2, t3, hoI, hslot⟩ := hit
  unfold pyNext
  refine wpAny_bind (wpAny_attempt (wpAny_callSpecial?_slot (name := Str.ofString "__next__") hT slot_setiter_next
    (wpAny_call_entry slot_setiter_next hT entry_setiter_next ?_ (args_setiter_next _))))
  unfold Builtin.«set_iterator.__next__»
  refine wpAny_bind (wpAny_pure ?_)
  refine wpAny_bind (wpAny_fieldsOf hoI rfl ?_)
  dsimp only
  refine wpAny_bind ?_
  unfold setEntries
  refine wpAny_bind (wpAny_setState_of ho rfl hf (wpAny_pure ?_))
  rw [if_neg (by simp)]
  simp only [Int.toNat_natCast]
  refine wpAny_bind (setNext_end ho hf hpl hled hslot ?_)
  dsimp only
  refine wpAny_bind (wpAny_setField hoI rfl (by simp) ?_)
  show wpAny _ _ (newExc (.type "StopIteration") [] >>= _) _ _ _
  refine wpAny_bind ?_
  simp only [newExc, newTuple]
  refine wpAny_bind (wpAny_newObj_type ?_ (by size_fits))
  refine wpAny_bind (m := firstArgMember _ _) (wpAny_of_eq (a := Value.none) (by first | rfl | (simp only [firstArgMember]; rfl)) ?_)
  refine wpAny_newObj_type ?_ (by size_fits)
  simp only [raiseNew]
  refine wpAny_bind (wpAny_handled ?_)
  rw [show A.in1.handled = none from hh]
  refine wpAny_bind (wpAny_pure (wpAny_throw ?_))
  refine wpAny_bind (wpAny_isInstance (T := "StopIteration") (b := true) ⟨_, Heap.get?_push_size _ rfl, rfl⟩ isSubtype_stop ?_)
  exact wpAny_pure (h _ (((Heap.SameBut.update ..).extBut.push _).push _))
theorem pyIter_setiter {I a : Addr} {ep n : Nat} {pl : Array Nat} {i : Nat} {Q : Post} (hit : SetIt w I a ep n pl i s.heap) (h : Q (.ref I) s) : wpAny (model PG w) A (pyIter (.ref I)) Q E s := by
  refine wpAny_pyIter_slot hit.typeIs slot_setiter_iter (wpAny_call_entry slot_setiter_iter hit.typeIs entry_setiter_iter ?_ (args_setiter_iter _))
  show wpAny _ _ (ret (.ref I)) _ _ s
  exact wpAny_pure ⟨_, rfl, "set_iterator", _, hit.typeIs, slot_setiter_next.lookup, h⟩
end

section
variable {w : World} {A : Around}
theorem Walks.fset (hh : A.handled = none) (I a : Addr) (hne : a ≠ I) (es : Array (Int × Value)) (ep : Nat) (t : SetTable) (hf : t.fits es.size = true) (hpl : t.plain = true) (hled : t.led = !(w.params.followText "set-order")) (hr : t.place.toList.Pairwise (· < ·)) :
    Walks PG w A I [I, a] [I] es.size (fun i v => ∃ x, (ordOf w a ep es)[i]? = some x ∧ v = x.2) (fun i h => SetIt w I a ep es.size t.place i h ∧ h.get? a = some (frozAt w es ep t)) where
  sub := fun b hb => by simp at hb; simp [hb]
  frame := fun _ _ _ st hk => ⟨st.1.at fun o e => hk I (by simp) o e, hk a (by simp) _ st.2⟩
  item := fun i s Q E hi st hQ => by
    have hi' : i < (ordOf w a ep es).size := by rw [ordOf_size]; exact hi
    refine pyNext_fset_item (Ne.symm hne) st.1 st.2 hf hpl hled hr (x := (ordOf w a ep es)[i]) (Array.getElem?_eq_getElem hi') fun h' hit' hs' => ?_
    exact hQ _ h' s.toks ⟨_, Array.getElem?_eq_getElem hi', rfl⟩ ⟨hit', hs'.extBut a _ hne st.2⟩ fun b o hb e => hs'.extBut b o (fun h => hb (by simp [h])) e
  done := fun s Q E st hQ => pyNext_fset_end hh st.1 st.2 hf hpl hled fun h' he' => hQ h' s.toks fun b o hb e => he' b o (fun h => hb (by simp [h])) e
  self := fun _ _ _ _ st hQ => pyIter_setiter st.1 hQ
theorem hint_fset {E : Post} {s : Shared} {r : Addr} {Q : Bool → Shared → Prop} (hT : s.TypeIs (.ref r) "frozenset") (h : Q false s) : wpAny (model PG w) A (Builtin.List.listLengthHint (.ref r)) Q E s := by
  unfold Builtin.List.listLengthHint
  refine wpAny_bind (wpAny_specialOf hT slot_froz_len.lookup ?_)
  generalize hid : ("frozenset.__len__" : String) = id0
  wp_delta
  rw [show splitId id0 = some ("frozenset", "__len__") from by subst hid; decide +kernel]
  subst hid
  refine wpAny_bind (wpAny_isInstance (T := "frozenset") (b := true) hT (by rw [isSubtype_type]; kernel_rfl) ?_)
  refine wpAny_ite_split (fun hab => absurd hab (by decide)) (fun _ => ?_)
  refine wpAny_ite_split (fun _ => ?_) (fun hab => absurd (by decide +kernel) hab)
  refine wpAny_bind (wpAny_typeOf hT ?_)
  exact wpAny_pure h
theorem kdl_fset {a : Addr} (es : Array (Int × Value)) (ep : Nat) (t : SetTable) (hf : t.fits es.size = true) (hpl : t.plain = true) (hled : t.led = !(w.params.followText "set-order")) (hr : t.place.toList.Pairwise (· < ·)) :
    KdlSrc PG w "frozenset" a a es.size (fun i v => ∃ x, (ordOf w a ep es)[i]? = some x ∧ v = x.2) (fun h => h.get? a = some (frozAt w es ep t)) where
  type := fun _ hm => ⟨_, hm, rfl⟩
  there := fun _ hm => ⟨Heap.lt_size hm, Heap.lt_size hm⟩
  keep := fun _ _ hm hk => hk a (.inl rfl) _ hm
  notList := by decide
  notTuple := by decide
  hint := fun _ _ _ _ hm hq => hint_fset ⟨_, hm, rfl⟩ hq
  iter := fun A s hh hm => ⟨_, _, (fun _ _ hq => pyIter_fset hm hf hpl hq), Walks.fset hh _ a (Nat.ne_of_lt (Heap.lt_size hm)) es ep t hf hpl hled hr,
    ⟨⟨0, 0, 0, 0, 0, Heap.get?_push_size _ rfl, fun _ => below_zero hr⟩, Heap.get?_push_of_some _ hm⟩⟩
end

section
variable {C : Cx} {xs : List Str} {gs : List (Str × Value)} {ρ : List (Option V)} {M : MS}
/-- k in frozenset -/
theorem J_inF {k : Int} {l : List Int} {Q : V → MS → Prop} (h : Q (.bool (decide (k ∈ l))) M) : J2 C xs gs ρ M (.int k) (.fset l) (fun x y => compareOp .In x y) Q :=
  fun hC G X B s m S ca cb ra rb Qc E kk => by
    cases rb with
    | fset ho hF =>
      cases ra
      exact in_fset (S.known _ _ ho) hF (kk _ M X B _ m _ (Le.refl _) (S.tok _) (.bool _) h)
/-- sorted(frozenset) -/
theorem Jn_sortedF {l : List Int} (hl : l.length < 64) {Q : V → MS → Prop} (h : ∀ ns' : List Int, ns'.Perm l → ns'.Pairwise (· ≤ ·) → Q (.list (ns'.map .int)) M) : Jn C xs gs ρ M [.fset l] (fun cl => call (.builtin "sorted") cl) Q :=
  fun hC G X B s m S cl rl Qc E k => by
    obtain ⟨u, rfl, r⟩ := rl.one
    cases r with
    | fset ho hF =>
      rename_i a o
      obtain ⟨es, ep, t, rfl, hf, hpl, hled, hr, hb, hel, hp, hnd⟩ := hF
      have hpo := ordOf_perm (w := C.w) a ep es
      have hsz : es.size = l.length := by have := hp.length_eq; simpa using this
      refine sorted_srcI (kdl_fset (w := C.w) (a := a) es ep t hf hpl hled hr) hC.room.1 (S.known _ _ ho) (by omega) (ns := (ordOf C.w a ep es).toList.map fun e => intOf e.2) (by rw [List.length_map, Array.length_toList, ordOf_size]) (fun i v hv => ?_) fun h' tk a2 out e ns' hk hn ho' hI hp' hs => ?_
      · obtain ⟨x, e1, rfl⟩ := hv
        have hxm : x ∈ (ordOf C.w a ep es).toList := List.mem_of_getElem? (by rw [Array.getElem?_toList]; exact e1)
        obtain ⟨i', t', rfl⟩ := hel x (hpo.mem_iff.mp hxm)
        exact ⟨i', t', by rw [List.getElem?_map, Array.getElem?_toList, e1]; rfl, rfl⟩
      · obtain ⟨B', l2, S2, r2⟩ := S.sortedOut (tk := tk) hk hn ho' (fun B => reps_of_ints (w := C.w) (B := B) hI)
        exact k _ M X B' _ m _ l2 S2 r2 (h ns' (hp'.trans ((hpo.map _).trans hp)) hs)
/-- frozenset(rising list of small ints), frozenset() -/
theorem Jn_froz {v : V} {ns : List Int} (hv : LVal M v (ns.map .int)) (hsub : ns.Sublist nine) {Q : V → MS → Prop} (h : Q (.fset ns) M) : Jn C xs gs ρ M [v] (fun cl => call (.type "frozenset") cl) Q :=
  fun hC G X B s m S cl rl Qc E k => by
    obtain ⟨u, rfl, r⟩ := rl.one
    obtain ⟨a, vs, n, rfl, ha, hr⟩ := S.lval hv r
    refine call_froz_list hC.room.1 ha (ints_of_reps hr) hsub fun h' tk o hk ho hF => ?_
    obtain ⟨l2, S2⟩ := S.addB (o := o) (h' := h') tk hk ho (fresh_size _)
    exact k _ M X _ _ m _ l2 S2 (.fset (put_self _ _ _) hF) h
theorem Jn_froz0 {Q : V → MS → Prop} (h : Q (.fset []) M) : Jn C xs gs ρ M [] (fun cl => call (.type "frozenset") cl) Q :=
  fun hC G X B s m S cl rl Qc E k => by
    cases rl
    refine call_froz_0 ?_
    obtain ⟨l2, S2⟩ := S.addB (o := frozNew C.w) (h' := s.heap.push (frozNew C.w)) s.toks (fun b o e => Heap.get?_push_of_some _ e) (Heap.get?_push_size _ rfl) (fresh_size _)
    exact k _ M X _ _ m _ l2 S2 (.fset (put_self _ _ _) ⟨#[], 0, _, rfl, rfl, rfl, rfl, .nil, by simp, fun e he => by simp at he, by simp, .nil⟩) h
end
end Mine

namespace Mine
open PySem PySem.W PySem.Calls PyProof.Rows

theorem len1 {l : List Value} (h : l.length = 1) : ∃ a, l = [a] := by
  match l, h with
  | [a], _ => exact ⟨a, rfl⟩
theorem len2 {l : List Value} (h : l.length = 2) : ∃ a b, l = [a, b] := by
  cases l with
  | nil => cases h
  | cons x l => obtain ⟨a, rfl⟩ := len1 (Nat.succ.inj h); exact ⟨x, a, rfl⟩
theorem len3 {l : List Value} (h : l.length = 3) : ∃ a b c, l = [a, b, c] := by
  cases l with
  | nil => cases h
  | cons x l => obtain ⟨a, b, rfl⟩ := len2 (Nat.succ.inj h); exact ⟨x, a, b, rfl⟩
theorem len4 {l : List Value} (h : l.length = 4) : ∃ a b c d, l = [a, b, c, d] := by
  cases l with
  | nil => cases h
  | cons x l => obtain ⟨a, b, c, rfl⟩ := len3 (Nat.succ.inj h); exact ⟨x, a, b, c, rfl⟩

/-- what the proof needs of the run's top -/
structure Pg (h₀ : Heap) (ad : Nat → Addr) : Prop where
  lim : h₀.NoLimit
  f4 : FnAt h₀ (ad 4) 4
  f5 : FnAt h₀ (ad 5) 5
  f6 : FnAt h₀ (ad 6) 6
  f7 : FnAt h₀ (ad 7) 7
  f8 : FnAt h₀ (ad 8) 8
  f9 : FnAt h₀ (ad 9) 9
  f10 : FnAt h₀ (ad 10) 10
  f11 : FnAt h₀ (ad 11) 11
  f12 : FnAt h₀ (ad 12) 12
  f13 : FnAt h₀ (ad 13) 13
  f14 : FnAt h₀ (ad 14) 14
  f16 : FnAt h₀ (ad 16) 16
  f17 : FnAt h₀ (ad 17) 17
  f19 : FnAt h₀ (ad 19) 19
  f20 : FnAt h₀ (ad 20) 20
  f21 : FnAt h₀ (ad 21) 21
  f22 : FnAt h₀ (ad 22) 22
  f23 : FnAt h₀ (ad 23) 23
  f24 : FnAt h₀ (ad 24) 24
  g4 : GlobAt h₀ "ordered_names" (.ref (ad 4))
  g5 : GlobAt h₀ "end_of" (.ref (ad 5))
  g6 : GlobAt h₀ "elements_of" (.ref (ad 6))
  g7 : GlobAt h₀ "bits_of" (.ref (ad 7))
  g8 : GlobAt h₀ "begun" (.ref (ad 8))
  g9 : GlobAt h₀ "followers" (.ref (ad 9))
  g10 : GlobAt h₀ "grown" (.ref (ad 10))
  g11 : GlobAt h₀ "solve" (.ref (ad 11))
  g12 : GlobAt h₀ "lacking" (.ref (ad 12))
  g13 : GlobAt h₀ "why" (.ref (ad 13))
  g14 : GlobAt h₀ "chain" (.ref (ad 14))
  g16 : GlobAt h₀ "_law_pool" (.ref (ad 16))
  g17 : GlobAt h₀ "_law_take" (.ref (ad 17))
  g19 : GlobAt h₀ "_law_scene" (.ref (ad 19))
  g20 : GlobAt h₀ "_law_ends" (.ref (ad 20))
  g21 : GlobAt h₀ "_law_own" (.ref (ad 21))
  g22 : GlobAt h₀ "_law_reached" (.ref (ad 22))
  g23 : GlobAt h₀ "_law_why_right" (.ref (ad 23))
  g24 : GlobAt h₀ "_law_lacking" (.ref (ad 24))
  bSorted : GlobAt h₀ "sorted" (.builtin "sorted")
  bFroz : GlobAt h₀ "frozenset" (.type "frozenset")
  bMax : GlobAt h₀ "max" (.builtin "max")
  bMin : GlobAt h₀ "min" (.builtin "min")
  bInt : GlobAt h₀ "int" (.type "int")
  bLen : GlobAt h₀ "len" (.builtin "len")
  bRange : GlobAt h₀ "range" (.type "range")
  bList : GlobAt h₀ "list" (.type "list")
  bDict : GlobAt h₀ "dict" (.type "dict")
  bEnum : GlobAt h₀ "enumerate" (.type "enumerate")
  stat : ∃ tk, GlobAt h₀ "STATIC" (.str "'static" tk)

/-- the signatures that occur -/
def nA : Str := "'a"
def nB : Str := "'b"
def nS : Str := "'static"
inductive Uni : List (Str × Nat) → Prop
  | zero : Uni []
  | two : Uni [(nA, 0), (nB, 1)]
  | three : Uni [(nA, 0), (nB, 1), (nS, 2)]
abbrev uV (u : List (Str × Nat)) : V := .dictS (u.map fun p => (p.1, .int p.2))
theorem Uni.len {u : List (Str × Nat)} (h : Uni u) : u.length ≤ 3 := by cases h <;> simp
theorem Uni.nodup {u : List (Str × Nat)} (h : Uni u) : (u.map (·.1)).Nodup := by cases h <;> decide
theorem sorted_uni {u : List (Str × Nat)} (h : Uni u) {ns : List Str} (hp : ns.Perm (u.map (·.1))) (hs : sortedS ns = true) : ns = u.map (·.1) := by
  cases h with
  | zero => simpa using hp
  | two =>
    have hl := hp.length_eq
    match ns, hl with
    | [x, y], _ =>
      have hx : x ∈ [nA, nB] := hp.mem_iff.mp (.head _)
      have hy : y ∈ [nA, nB] := hp.mem_iff.mp (.tail _ (.head _))
      have hn : [x, y].Nodup := hp.nodup_iff.mpr (by decide)
      simp only [List.mem_cons, List.not_mem_nil, or_false] at hx hy
      rcases hx with rfl | rfl <;> rcases hy with rfl | rfl <;> first | rfl | exact absurd hn (by decide) | exact absurd hs (by decide)
  | three =>
    have hl := hp.length_eq
    match ns, hl with
    | [x, y, z], _ =>
      have hx : x ∈ [nA, nB, nS] := hp.mem_iff.mp (.head _)
      have hy : y ∈ [nA, nB, nS] := hp.mem_iff.mp (.tail _ (.head _))
      have hz : z ∈ [nA, nB, nS] := hp.mem_iff.mp (.tail _ (.tail _ (.head _)))
      have hn : [x, y, z].Nodup := hp.nodup_iff.mpr (by decide)
      simp only [List.mem_cons, List.not_mem_nil, or_false] at hx hy hz
      rcases hx with rfl | rfl | rfl <;> rcases hy with rfl | rfl | rfl <;> rcases hz with rfl | rfl | rfl <;> first | rfl | exact absurd hn (by decide) | exact absurd hs (by decide)

section
variable {w : World} {h₀ : Heap} {ad : Nat → Addr}

theorem fs4 (P : Pg h₀ ad) {u : List (Str × Nat)} (hu : Uni u) {Q : V → MS → Prop} {d : Nat} (h : Q (.list (u.map fun p => .str p.1)) []) : FS w h₀ (d + 1) (.ref (ad 4)) [uV u] [] Q := by
  refine FS_intro (xs := ["universal"]) (gs := [("sorted", .builtin "sorted")]) ["universal"] P.f4 P.lim (.cons P.bSorted .nil) rfl rfl (by kernel_rfl) (fun _ _ _ vals hv => ?_) fun C hw hh hr hsto hk hgl => ?_
  · obtain ⟨a, rfl⟩ := len1 hv; rfl
  · simp only [ρ₀]
    refine JS_cons (JS_Return (JE_CallB (JEs_cons (JE_Name ?_) ) ))
    refine JEs_nil ?_
    refine Jn_sortedDS (.fz _) (by rw [List.length_map]; have := hu.len; omega) fun ns' hp hs => ?_
    rw [List.map_map] at hp
    have := sorted_uni hu hp hs
    subst this
    rw [List.map_map]
    exact h
end
end Mine

namespace Mine
open PySem PySem.W PySem.Calls PyProof.Rows

section
variable {C : Cx} {xs : List Str} {gs : List (Str × Value)} {ρ : List (Option V)} {M : MS}
/-- -k -/
theorem JE_Neg {i : Int} {k : Nat} {cp pos : Pos} {Q : V → MS → Prop} (h : Q (.int (-i)) M) : JE C xs gs ρ M (eval (.UnaryOp .USub (.Constant (.int i) k cp) pos) C.env) Q :=
  fun hC G X B s m S Qc E kf => wpAny_UnaryOp (wpAny_Constant_int (neg_int (kf _ M X B _ m _ (Le.refl B) ((S.tok (s.toks + 1)).tok (s.toks + 1 + 1)) (.int _ _) h)))

theorem St.sliced {G : Gh} {X : List Addr} {B : Base} {s : Shared} {m : Str → Option Value} (S : St C xs G ρ M X B s m) {o1 : Obj} {vs : List Value} {l : List V} (tk : Nat) (hr : Reps C.w B l vs) :
    ∃ B', Le B B' ∧ St C xs G ρ M X B' { s with heap := (s.heap.push o1).push { cls := .type "list", data := .seq vs.toArray }, toks := tk } m ∧ Rep C.w B' (.list l) (.ref (s.heap.push o1).objs.size) := by
  have S1 := S.keeps (h' := s.heap.push o1) tk (fun b o e => Heap.get?_push_of_some _ e)
  obtain ⟨l2, S2⟩ := S1.addB (a := (s.heap.push o1).objs.size) (o := lisO vs 0) (h' := (s.heap.push o1).push (lisO vs 0)) tk (fun b o e => Heap.get?_push_of_some _ e) (Heap.get?_push_size _ rfl) (fresh_size _)
  exact ⟨_, l2, S2, .list (put_self _ _ _) (hr.mono l2)⟩

/-- l[::-1] -/
theorem JE_sliceRev {e : Expr} {k : Nat} {cp up sp pos : Pos} {Q : V → MS → Prop}
    (h : JE C xs gs ρ M (eval e C.env) fun v M1 => ∃ l, LVal M1 v l ∧ l.length ≤ 1000 ∧ Q (.list l.reverse) M1)
    (ht : ∀ o r, letTemporaryGo e o r = pure () := by intro _ _; rfl) :
    JE C xs gs ρ M (eval (.Subscript e (.Slice none none (some (.UnaryOp .USub (.Constant (.int 1) k cp) up)) sp) pos) C.env) Q :=
  fun hC G X B s m S Qc E kf => wpAny_Subscript_Slice_step slot_list_getitem.lookup (h hC G X B s m S _ _ fun v M1 X1 B1 s1 m1 cv l1 S1 rv q1 => by
    obtain ⟨l, hv, hl, hq⟩ := q1
    obtain ⟨a, vs, n, rfl, ha, hr⟩ := S1.lval hv rv
    refine wpAny_Slice (wpAny_of_eq (evalPart_none _) (wpAny_of_eq (evalPart_none _) (show wpAny _ _ (eval (.UnaryOp .USub (.Constant (.int 1) k cp) up) C.env) _ _ _ from wpAny_UnaryOp (wpAny_Constant_int (neg_int ?_)))))
    refine ⟨⟨_, Heap.get?_push_of_some _ ha, rfl⟩, wpAny_getItem_list_slice (isList_of (Heap.get?_push_of_some _ ha)) (Heap.IsSliceOf.new ..) .none .none (.int _ _) (by decide) ?_ (by rw [List.size_toArray, hr.length, sizeLine_eq]; omega)⟩
    obtain ⟨B2, l2, S2, r2⟩ := S1.sliced (o1 := { cls := .type "slice", data := .fields #[.none, .none, .int (-1) (s1.toks + 1)] }) (s1.toks + 1 + 1) hr.reverse
    have e : slicePick vs.toArray none none (some (-1)) = vs.reverse.toArray := krv_pick vs.toArray
    rw [e]
    exact kf _ M1 X1 B2 _ m1 _ (l1.trans l2) S2 r2 hq) ht

theorem pick_upto1 (vs : List Value) : slicePick vs.toArray none (some 1) none = (vs.take 1).toArray := by
  have e : sliceBounds none (some 1) none vs.toArray.size = (((0 : Nat) : Int), ((min 1 vs.toArray.size : Nat) : Int), 1) := by
    simp only [sliceBounds, Option.getD_none, show (1 : Int) > 0 by decide, if_true, if_neg (show ¬ ((1 : Int) < 0) by omega)]
    congr 1
    congr 1
    omega
  rw [kmk_pick_nat _ e]
  simp only [List.drop_zero, Nat.sub_zero, List.size_toArray, kmk_take_min]
theorem pick_last1 (vs : List Value) : slicePick vs.toArray (some (-1)) none none = (vs.drop (vs.length - 1)).toArray := by
  have e : sliceBounds (some (-1)) none none vs.toArray.size = (((vs.toArray.size - 1 : Nat) : Int), ((vs.toArray.size : Nat) : Int), 1) := by
    simp only [sliceBounds, Option.getD_none, show (1 : Int) > 0 by decide, if_true, if_pos (show (-1 : Int) < 0 by omega)]
    congr 1
    omega
  rw [kmk_pick_nat _ e]
  show ((vs.drop _).take _).toArray = _
  rw [List.size_toArray, List.take_of_length_le (by rw [List.length_drop]; omega)]
/-- l[:1] -/
theorem JE_slice1 {e : Expr} {k : Nat} {cp sp pos : Pos} {Q : V → MS → Prop}
    (h : JE C xs gs ρ M (eval e C.env) fun v M1 => ∃ l, LVal M1 v l ∧ l.length ≤ 1000 ∧ Q (.list (l.take 1)) M1)
    (ht : ∀ o r, letTemporaryGo e o r = pure () := by intro _ _; rfl) :
    JE C xs gs ρ M (eval (.Subscript e (.Slice none (some (.Constant (.int 1) k cp)) none sp) pos) C.env) Q :=
  fun hC G X B s m S Qc E kf => wpAny_Subscript_Slice slot_list_getitem.lookup (h hC G X B s m S _ _ fun v M1 X1 B1 s1 m1 cv l1 S1 rv q1 => by
    obtain ⟨l, hv, hl, hq⟩ := q1
    obtain ⟨a, vs, n, rfl, ha, hr⟩ := S1.lval hv rv
    refine wpAny_Slice (wpAny_of_eq (evalPart_none _) (show wpAny _ _ (eval (.Constant (.int 1) k cp) C.env) _ _ _ from wpAny_Constant_int (wpAny_of_eq (evalPart_none _) ?_)))
    refine ⟨⟨_, Heap.get?_push_of_some _ ha, rfl⟩, wpAny_getItem_list_slice (isList_of (Heap.get?_push_of_some _ ha)) (Heap.IsSliceOf.new ..) .none (.int _ _) .none (by decide) ?_ (by rw [List.size_toArray, hr.length, sizeLine_eq]; omega)⟩
    obtain ⟨B2, l2, S2, r2⟩ := S1.sliced (o1 := { cls := .type "slice", data := .fields #[.none, .int 1 s1.toks, .none] }) (s1.toks + 1) (hr.take 1)
    rw [pick_upto1]
    exact kf _ M1 X1 B2 _ m1 _ (l1.trans l2) S2 r2 hq) ht
/-- l[-1:] -/
theorem JE_sliceLast {e : Expr} {k : Nat} {cp up sp pos : Pos} {Q : V → MS → Prop}
    (h : JE C xs gs ρ M (eval e C.env) fun v M1 => ∃ l, LVal M1 v l ∧ l.length ≤ 1000 ∧ Q (.list (l.drop (l.length - 1))) M1)
    (ht : ∀ o r, letTemporaryGo e o r = pure () := by intro _ _; rfl) :
    JE C xs gs ρ M (eval (.Subscript e (.Slice (some (.UnaryOp .USub (.Constant (.int 1) k cp) up)) none none sp) pos) C.env) Q :=
  fun hC G X B s m S Qc E kf => wpAny_Subscript_Slice slot_list_getitem.lookup (h hC G X B s m S _ _ fun v M1 X1 B1 s1 m1 cv l1 S1 rv q1 => by
    obtain ⟨l, hv, hl, hq⟩ := q1
    obtain ⟨a, vs, n, rfl, ha, hr⟩ := S1.lval hv rv
    refine wpAny_Slice (show wpAny _ _ (eval (.UnaryOp .USub (.Constant (.int 1) k cp) up) C.env) _ _ _ from wpAny_UnaryOp (wpAny_Constant_int (neg_int (wpAny_of_eq (evalPart_none _) (wpAny_of_eq (evalPart_none _) ?_)))))
    refine ⟨⟨_, Heap.get?_push_of_some _ ha, rfl⟩, wpAny_getItem_list_slice (isList_of (Heap.get?_push_of_some _ ha)) (Heap.IsSliceOf.new ..) (.int _ _) .none .none (by decide) ?_ (by rw [List.size_toArray, hr.length, sizeLine_eq]; omega)⟩
    obtain ⟨B2, l2, S2, r2⟩ := S1.sliced (o1 := { cls := .type "slice", data := .fields #[.int (-1) (s1.toks + 1), .none, .none] }) (s1.toks + 1 + 1) (hr.drop (l.length - 1))
    have e : slicePick vs.toArray (some (-1)) none none = (vs.drop (l.length - 1)).toArray := by rw [pick_last1, hr.length]
    rw [e]
    exact kf _ M1 X1 B2 _ m1 _ (l1.trans l2) S2 r2 hq) ht

/-- {} that is to hold names -/
theorem JE_DictSM {pos : Pos} {Q : V → MS → Prop} (h : ∀ a, (∀ p ∈ M, p.1 ≠ a) → Q (.mut a) ((a, .dictS []) :: M)) : JE C xs gs ρ M (eval (.Dict [] [] pos) C.env) Q :=
  fun hC G X B s m S Qc E kk => wpAny_Dict_empty (by
    have S2 := S.addM (a := s.heap.objs.size) (mo := .dictS []) (h' := s.heap.push { cls := .type "dict", data := .dict #[] }) s.toks (fun b o e => Heap.get?_push_of_some _ e)
      (.dictS (Nat.lt_of_lt_of_le (by decide) (S.size2 hC)) (Heap.get?_push_size _ rfl) (kvs := []) ⟨#[], 0, ⟨rfl, rfl, rfl⟩, rfl, fun _ he => by simp at he, .nil, List.nodup_nil⟩ .nil) (fresh_size _)
    exact kk _ _ _ B _ m _ (Le.refl B) S2 (.mut _) (h _ (live_ne S.mrep fun hm => by
      obtain ⟨o, ho⟩ := S.mrep.live _ hm
      exact absurd (Heap.lt_size ho) (Nat.lt_irrefl _))))
/-- {} that is to hold lists -/
theorem JE_DictLM {pos : Pos} {Q : V → MS → Prop} (h : ∀ a, (∀ p ∈ M, p.1 ≠ a) → Q (.mut a) ((a, .dlist []) :: M)) : JE C xs gs ρ M (eval (.Dict [] [] pos) C.env) Q :=
  fun hC G X B s m S Qc E kk => wpAny_Dict_empty (by
    have S2 := S.addM (a := s.heap.objs.size) (mo := .dlist []) (h' := s.heap.push { cls := .type "dict", data := .dict #[] }) s.toks (fun b o e => Heap.get?_push_of_some _ e)
      (.dlist (Nat.lt_of_lt_of_le (by decide) (S.size2 hC)) (Heap.get?_push_size _ rfl) (kvs := []) ⟨#[], 0, ⟨rfl, rfl, rfl⟩, rfl, fun _ he => by simp at he, .nil, List.nodup_nil⟩ .nil) (fresh_size _)
    exact kk _ _ _ B _ m _ (Le.refl B) S2 (.mut _) (h _ (live_ne S.mrep fun hm => by
      obtain ⟨o, ho⟩ := S.mrep.live _ hm
      exact absurd (Heap.lt_size ho) (Nat.lt_irrefl _))))
end
end Mine

namespace Mine
open PySem PySem.W PySem.Calls PyProof.Rows

section
variable {C : Cx} {xs : List Str} {gs : List (Str × Value)} {ρ : List (Option V)} {M : MS}
/-- what is to hold behind, held as one letter (it keeps the terms small) -/
theorem JS_abs {t : Sem Flow} {Q : Fl → List (Option V) → MS → Prop} (h : ∀ K : Fl → List (Option V) → MS → Prop, (∀ f ρ' M', Q f ρ' M' → K f ρ' M') → JS C xs gs ρ M t K) : JS C xs gs ρ M t Q := h Q fun _ _ _ x => x
/-- a loop whose word, and what is to hold behind, are held as letters (it keeps the terms small) -/
theorem JS_ForO {tgt iter : Expr} {body : List Stmt} {pos : Pos} {Q : Fl → List (Option V) → MS → Prop} (Inv : Nat → List (Option V) → MS → Prop) (N : Nat)
    (h : ∀ (I : Nat → List (Option V) → MS → Prop) (K : Fl → List (Option V) → MS → Prop), (∀ i ρ' M', Inv i ρ' M' → I i ρ' M') → (∀ i ρ' M', I i ρ' M' → Inv i ρ' M') → (∀ f ρ' M', Q f ρ' M' → K f ρ' M') →
      JI C xs gs ρ M iter tgt fun cur M1 => I 0 ρ M1 ∧ ∀ i ρ' M', I i ρ' M' → i ≤ N ∧ ∃ r, cur M' i r ∧ match r with
        | none => K .next ρ' M'
        | some x => JA C xs gs ρ' M' x (assign tgt C.env) (KBd C xs gs body (KLp I K i)))
    (hs : ∀ x, foldedSetIterable iter C.env x = pure x := by intro _; rfl) : JS C xs gs ρ M (exec (.For tgt iter body [] pos) C.env) Q :=
  JS_For Inv N (h Inv Q (fun _ _ _ x => x) (fun _ _ _ x => x) (fun _ _ _ x => x)) hs
theorem JS_WhileO {test : Expr} {body : List Stmt} {pos : Pos} {Q : Fl → List (Option V) → MS → Prop} (Inv : Nat → List (Option V) → MS → Prop) {n : Nat} (h0 : Inv n ρ M)
    (step : ∀ (I : Nat → List (Option V) → MS → Prop) (K : Fl → List (Option V) → MS → Prop), (∀ i ρ' M', Inv i ρ' M' → I i ρ' M') → (∀ f ρ' M', Q f ρ' M' → K f ρ' M') → ∀ n ρ' M', Inv n ρ' M' → JB C xs gs ρ' M' (isTrue test C.env (eval test C.env)) fun b M2 =>
      (b = true → JS C xs gs ρ' M2 (execs body C.env) fun f ρ3 M3 => match f with
        | .next | .cont => ∃ n', n' < n ∧ I n' ρ3 M3
        | .brk => K .next ρ3 M3
        | .ret v => K (.ret v) ρ3 M3) ∧ (b = false → K .next ρ' M2)) : JS C xs gs ρ M (exec (.While test body [] pos) C.env) Q :=
  JS_While Inv h0 (step Inv Q (fun _ _ _ x => x) (fun _ _ _ x => x))
/-- arguments that are names and constants, all at once -/
inductive SV (xs : List Str) (ρ : List (Option V)) : Expr → V → Prop
  | name {x : Str} {p : Pos} {v : V} : GetAt xs x ρ v → SV xs ρ (.Name x p) v
  | int {i : Int} {k : Nat} {p : Pos} : SV xs ρ (.Constant (.int i) k p) (.int i)
  | str {t : Str} {k : Nat} {p : Pos} : SV xs ρ (.Constant (.str t) k p) (.str t)
inductive SVs (xs : List Str) (ρ : List (Option V)) : List Expr → List V → Prop
  | nil : SVs xs ρ [] []
  | cons {e : Expr} {v : V} {es : List Expr} {vs : List V} : SV xs ρ e v → SVs xs ρ es vs → SVs xs ρ (e :: es) (v :: vs)
theorem JE_SV {e : Expr} {v : V} (h : SV xs ρ e v) {Q : V → MS → Prop} (q : Q v M) : JE C xs gs ρ M (eval e C.env) Q := by
  cases h with
  | name g => exact JE_Name q g
  | int => exact JE_int q
  | str => exact JE_str q
theorem SV.star {e : Expr} {v : V} {rest : List Expr} (h : SV xs ρ e v) : starEach (e :: rest) C.env = (false, eval e C.env) :: starEach rest C.env := by
  cases h <;> rfl
theorem JEs_S {es : List Expr} {vs : List V} {pos : Pos} {Q : List V → MS → Prop} (q : Q vs M)
    (h : SVs xs ρ es vs := by repeat (first | exact SVs.nil | (refine SVs.cons ?_ ?_; first | exact SV.int | exact SV.str | (refine SV.name ?_; with_reducible repeat (first | exact GetAt.head | apply GetAt.tail))))) : JEs C xs gs ρ M (spliced (backTo pos (starEach es C.env))) Q := by
  induction h generalizing Q with
  | nil => exact JEs_nil q
  | cons h1 h2 ih => exact JEs_cons (JE_SV h1 (ih q)) h1.star
theorem JE_abs {t : Sem Value} {Q : V → MS → Prop} (h : ∀ K : V → MS → Prop, (∀ v M', Q v M' → K v M') → JE C xs gs ρ M t K) : JE C xs gs ρ M t Q := h Q fun _ _ x => x
end

/-- bits and elements -/
def elemsN (b : Nat) : List Nat := (List.range 9).filter fun i => b.testBit i
def elemsI (b : Nat) : List Int := (elemsN b).map fun i : Nat => (i : Int)
def bitsN (l : List Nat) : Nat := l.foldl (fun b e => b ||| 1 <<< e) 0
abbrev natsV (l : List Nat) : List V := l.map fun i : Nat => .int (i : Int)

theorem sublist_map_range : ∀ (k : Nat) (p : Nat → Bool), (((List.range k).filter p).map fun i : Nat => (i : Int)).Sublist ((List.range k).map fun i : Nat => (i : Int)) := fun k p => (List.filter_sublist).map _
theorem elemsI_sub (b : Nat) : (elemsI b).Sublist nine := sublist_map_range 9 _

theorem filter_range_succ (p : Nat → Bool) (k : Nat) : (List.range (k + 1)).filter p = (List.range k).filter p ++ (if p k then [k] else []) := by
  rw [List.range_succ, List.filter_append]
  by_cases h : p k <;> simp [h]

section
variable {w : World} {h₀ : Heap} {ad : Nat → Addr}

theorem fs5 (P : Pg h₀ ad) {u : List (Str × Nat)} (hu : Uni u) {n : Str} {j : Nat} (hj : (u.map (·.1))[j]? = some n) {many : Int} {Q : V → MS → Prop} {d : Nat} (h : Q (.int (many + j)) []) : FS w h₀ (d + 2) (.ref (ad 5)) [.str n, uV u, .int many] [] Q := by
  refine FS_intro (xs := ["name", "universal", "many"]) (gs := [("ordered_names", .ref (ad 4))]) ["name", "universal", "many"] P.f5 P.lim (.cons P.g4 .nil) rfl rfl (by kernel_rfl) (fun _ _ _ vals hv => ?_) fun C hw hh hr hsto hk hgl => ?_
  · obtain ⟨a, b, c, rfl⟩ := len3 hv; rfl
  · simp only [ρ₀]
    refine JS_cons (JS_Return (JE_BinOp (JE_Name (JE_Method1 (JE_CallFn hw hh P.f4.is hr (JEs_cons (JE_Name (JEs_nil ⟨[], [], [], rfl, fs4 P hu ?_⟩))))))))
    refine JM_index EqOk.str (by decide) (.fz _) (fun y hy => ?_) (by rw [List.length_map]; have := hu.len; omega) (JE_Name ⟨rfl, .mk _, j, ?_, fun i hi => ?_, J_add h⟩)
    · obtain ⟨p, _, rfl⟩ := List.mem_map.mp hy; exact .mk _
    · rw [List.getElem?_map] at hj ⊢
      cases he : u[j]? with
      | none => rw [he] at hj; cases hj
      | some p => rw [he] at hj; simp at hj; simp [hj]
    · intro hc
      have hlt : j < (u.map (·.1)).length := (List.getElem?_eq_some_iff.mp hj).1
      have h2 : (u.map (·.1))[i]? = some n := by
        rw [List.getElem?_map] at hc ⊢
        cases he : u[i]? with
        | none => rw [he] at hc; cases hc
        | some p => rw [he] at hc; simp at hc; simp [hc]
      have := (List.getElem?_inj (by omega) hu.nodup).mp (h2.trans hj.symm)
      omega

theorem fs6 (P : Pg h₀ ad) {b : Nat} (hb : b < 512) {Q : V → MS → Prop} {d : Nat} (h : Q (.fset (elemsI b)) []) : FS w h₀ (d + 1) (.ref (ad 6)) [.int b] [] Q := by
  refine FS_intro (xs := ["bits", "found", "at"]) (gs := [("frozenset", .type "frozenset")]) ["bits"] P.f6 P.lim (.cons P.bFroz .nil) rfl rfl (by kernel_rfl) (fun _ _ _ vals hv => ?_) fun C hw hh hr hsto hk hgl => ?_
  · obtain ⟨a, rfl⟩ := len1 hv; rfl
  · simp only [ρ₀]
    refine JS_sub ?_
    refine JS_cons (JS_AssignT2 (hsto _ (by decide)) (hsto _ (by decide)) (by decide) (JE_Tuple (JEs_cons (JE_ListM (JEs_nil ⟨by simp, fun a ha => JEs_cons (JE_int (JEs_nil ⟨by simp, _, _, _, _, rfl, .tail .head, .tail (.tail .head), ?_⟩))⟩)))))
    refine JS_cons (JS_While (fun n ρ M => ∃ at' : Nat, at' ≤ 9 ∧ n = b / 2 ^ at' ∧ ρ = [some (.int ((b / 2 ^ at' : Nat) : Int)), some (.mut a), some (.int (at' : Int))] ∧ M = [(a, .list (natsV ((List.range at').filter fun i => b.testBit i)))]) (n := b) ⟨0, by omega, by simp, by simp, rfl⟩ ?_)
    rintro n _ _ ⟨at', h9, rfl, rfl, rfl⟩
    have hlen : (natsV ((List.range at').filter fun i => b.testBit i)).length ≤ 100000 := by
      rw [List.length_map]
      have := (List.filter_sublist (l := List.range at') (p := fun i => b.testBit i)).length_le
      rw [List.length_range] at this
      omega
    refine JB_Compare (JE_Name (JE_int (J_gtI ⟨_, rfl, fun hc => ?_, fun hc => ?_⟩)))
    · rw [decide_eq_true_eq] at hc
      have hpos : 0 < b / 2 ^ at' := by omega
      have hlt : at' < 9 := by
        rcases Nat.lt_or_ge at' 9 with h | h
        · exact h
        · have : at' = 9 := by omega
          subst this
          rw [Nat.div_eq_of_lt hb] at hpos; omega
      have hodd : ((b / 2 ^ at' : Nat) : Int) % 2 = if b.testBit at' then 1 else 0 := by
        rw [Nat.testBit_eq_decide_div_mod_eq]
        generalize b / 2 ^ at' = z
        by_cases hm : z % 2 = 1
        · rw [if_pos (decide_eq_true hm)]; omega
        · rw [if_neg (by simpa using hm)]; omega
      have hdiv : ((b / 2 ^ at' : Nat) : Int) / 2 = ((b / 2 ^ (at' + 1) : Nat) : Int) := by
        rw [Nat.pow_succ, ← Nat.div_div_eq_div_mul]; generalize b / 2 ^ at' = z at *; omega
      have hlt2 : b / 2 ^ (at' + 1) < b / 2 ^ at' := by
        rw [Nat.pow_succ, ← Nat.div_div_eq_div_mul]; generalize b / 2 ^ at' = z at *; omega
      refine JS_cons (JS_mono (Q := fun f ρ' M' => f = .next ∧ ρ' = [some (.int ((b / 2 ^ at' : Nat) : Int)), some (.mut a), some (.int (at' : Int))] ∧ M' = [(a, .list (natsV ((List.range (at' + 1)).filter fun i => b.testBit i)))])
        (JS_If (JB_Compare (JE_BinOp (JE_Name (JE_int (J_mod (by decide) (JE_int (J_eqI ⟨_, rfl, fun ht => ?_, fun ht => ?_⟩)))))))) ?_)
      · rw [hodd, decide_eq_true_eq] at ht
        have hbit : b.testBit at' = true := by
          by_cases h : b.testBit at' = true
          · exact h
          · simp [h] at ht
        refine JS_cons (JS_Expr (JE_Method1 (JE_Name (JM_append .head (JE_Name ⟨_, _, .head, hlen, JS_nil ⟨rfl, rfl, ?_⟩⟩)))))
        rw [filter_range_succ, hbit]; simp
      · rw [hodd, decide_eq_false_iff_not] at ht
        have hbit : b.testBit at' = false := by
          by_cases h : b.testBit at' = true
          · simp [h] at ht
          · simpa using h
        refine JS_nil ⟨rfl, rfl, ?_⟩
        rw [filter_range_succ, hbit]; simp
      · rintro f _ _ ⟨rfl, rfl, rfl⟩
        refine JS_cons (JS_Assign hsto (JE_BinOp (JE_Name (JE_int (J_div (by decide) (by decide) ⟨_, .head, ?_⟩)))))
        refine JS_cons (JS_Assign hsto (JE_BinOp (JE_Name (JE_int (J_add ⟨_, .tail (.tail .head), ?_⟩)))))
        refine JS_nil ⟨_, hlt2, at' + 1, hlt, rfl, ?_, rfl⟩
        rw [hdiv]; rfl
    · rw [decide_eq_false_iff_not] at hc
      have hz : b / 2 ^ at' = 0 := by generalize b / 2 ^ at' = z at *; omega
      refine JS_cons (JS_Return (JE_CallT (JEs_cons (JE_Name (JEs_nil ?_)))))
      have e : (List.range at').filter (fun i => b.testBit i) = elemsN b := by
        unfold elemsN
        obtain ⟨k, hk⟩ : ∃ k, 9 = at' + k := ⟨9 - at', by omega⟩
        rw [hk, List.range_add, List.filter_append]
        have : (List.map (fun x => at' + x) (List.range k)).filter (fun i => b.testBit i) = [] := by
          rw [List.filter_eq_nil_iff]
          intro x hx
          obtain ⟨y, _, rfl⟩ := List.mem_map.mp hx
          have : b < 2 ^ (at' + y) := by
            have h1 : b < 2 ^ at' := (Nat.div_eq_zero_iff_lt (by exact Nat.two_pow_pos _)).mp hz
            exact Nat.lt_of_lt_of_le h1 (Nat.pow_le_pow_right (by decide) (by omega))
          simp [Nat.testBit_lt_two_pow this]
        rw [this, List.append_nil]
      rw [e]
      refine Jn_froz (ns := elemsI b) (.mt ?_) (elemsI_sub b) ⟨[], by simp, h⟩
      have e2 : natsV (elemsN b) = (elemsI b).map V.int := by unfold elemsI; rw [List.map_map]; rfl
      rw [e2]; exact .head
end
end Mine

namespace Mine
open PySem PySem.W PySem.Calls PyProof.Rows

theorem bitsN_snoc (l : List Nat) (e : Nat) : bitsN (l ++ [e]) = bitsN l ||| 1 <<< e := by simp [bitsN, List.foldl_append]
theorem take_snoc {α : Type} {l : List α} {i : Nat} {x : α} (h : l[i]? = some x) : l.take (i + 1) = l.take i ++ [x] := by rw [List.take_add_one, h]; rfl
theorem getm {α β : Type} {f : α → β} {l : List α} {i : Nat} {y : β} (h : (l.map f)[i]? = some y) : ∃ x, l[i]? = some x ∧ y = f x := by
  rw [List.getElem?_map] at h
  cases hx : l[i]? with
  | none => rw [hx] at h; cases h
  | some x => rw [hx] at h; cases h; exact ⟨x, rfl, rfl⟩
theorem getn {α β : Type} {f : α → β} {l : List α} {i : Nat} (h : (l.map f)[i]? = none) : l.length ≤ i := by
  rw [List.getElem?_eq_none_iff] at h; simpa using h
theorem lt_of_get {α : Type} {l : List α} {i : Nat} {x : α} (h : l[i]? = some x) : i < l.length := (List.getElem?_eq_some_iff.mp h).1

section
variable {w : World} {h₀ : Heap} {ad : Nat → Addr}

theorem fs7 (P : Pg h₀ ad) {l : List Nat} (hl : ∀ e ∈ l, e ≤ 1000) {Q : V → MS → Prop} {d : Nat} (h : Q (.int (bitsN l : Nat)) []) : FS w h₀ (d + 1) (.ref (ad 7)) [.list (natsV l)] [] Q := by
  refine FS_intro (xs := ["elements", "found", "element"]) (gs := []) ["elements"] P.f7 P.lim .nil rfl rfl (by kernel_rfl) (fun _ _ _ vals hv => ?_) fun C hw hh hr hsto hk hgl => ?_
  · obtain ⟨a, rfl⟩ := len1 hv; rfl
  · simp only [ρ₀]
    refine JS_cons (JS_Assign hsto (JE_int ⟨_, .tail .head, ?_⟩))
    refine JS_cons (JS_For (fun i ρ M => i ≤ l.length ∧ M = [] ∧ ∃ o, ρ = [some (.list (natsV l)), some (.int (bitsN (l.take i) : Nat)), o]) l.length (JI_of (JE_Name ⟨_, Src_list, ⟨Nat.zero_le _, rfl, none, rfl⟩, ?_⟩)))
    rintro i _ _ ⟨hi, rfl, o, rfl⟩
    refine ⟨hi, _, rfl, ?_⟩
    cases hx : (natsV l)[i]? with
    | none =>
      have := getn hx
      rw [List.take_of_length_le this]
      exact JS_cons (JS_Return (JE_Name h))
    | some x =>
      obtain ⟨e, he, rfl⟩ := getm hx
      refine JA_Name (hsto _ (by decide)) ⟨_, .tail (.tail .head), ?_⟩
      refine JS_cons (JS_Assign hsto (JE_BinOp (JE_Name (JE_BinOp (JE_int (JE_Name (J_shl (hl e (List.mem_of_getElem? he)) (J_or ⟨_, .tail .head, ?_⟩))))))))
      refine JS_nil ⟨lt_of_get he, rfl, some (.int (e : Int)), ?_⟩
      rw [take_snoc he, bitsN_snoc]
end
end Mine

namespace Mine
open PySem PySem.W PySem.Calls PyProof.Rows

/-- dicts with natural keys -/
abbrev dV {α : Type} (g : α → V) (f : List (Nat × α)) : List (Int × V) := f.map fun p => ((p.1 : Int), g p.2)
abbrev iV (n : Nat) : V := .int (n : Int)
abbrev lV (l : List Nat) : V := .list (natsV l)
theorem getI_dV {α : Type} (g : α → V) (k : Nat) : ∀ (f : List (Nat × α)), getI (dV g f) (k : Int) = (getI f k).map g
  | [] => rfl
  | p :: f => by
    show getI (((p.1 : Int), g p.2) :: dV g f) (k : Int) = _
    rw [getI_cons, getI_cons, getI_dV g k f]
    by_cases h : p.1 = k
    · have : (p.1 : Int) = (k : Int) := by omega
      simp [h]
    · have : ¬ (p.1 : Int) = (k : Int) := by omega
      simp [h, this]
theorem putI_dV {α : Type} (g : α → V) (k : Nat) (x : α) (f : List (Nat × α)) : putI (dV g f) (k : Int) (g x) = dV g (putI f k x) := by
  unfold putI
  rw [← getI_isSome, ← getI_isSome, getI_dV, Option.isSome_map]
  split
  · show List.map _ (List.map _ f) = List.map _ (List.map _ f)
    rw [List.map_map, List.map_map]
    refine List.map_congr_left fun p _ => ?_
    simp only [Function.comp]
    by_cases h : p.1 = k
    · have : (p.1 : Int) = (k : Int) := by omega
      simp [h]
    · have : ¬ (p.1 : Int) = (k : Int) := by omega
      simp [h, this]
  · simp
theorem getD_dV (f : List (Nat × Nat)) (k : Nat) (d : Nat) : (getI (dV iV f) (k : Int)).getD (iV d) = iV ((getI f k).getD d) := by
  rw [getI_dV]; cases getI f k <;> rfl
theorem nodup_putI {K α : Type} [DecidableEq K] {es : List (K × α)} (h : (es.map (·.1)).Nodup) (k : K) (v : α) : ((putI es k v).map (·.1)).Nodup := by
  rw [keys_putI]
  split
  · exact h
  · rename_i hn
    refine List.nodup_append.mpr ⟨h, by simp, fun a ha b hb e => ?_⟩
    rw [List.mem_singleton.mp hb] at e
    subst e
    exact hn (by rw [getI_isSome]; obtain ⟨p, hp, rfl⟩ := List.mem_map.mp ha; exact List.any_eq_true.mpr ⟨p, hp, by simp⟩)
theorem keys_put_mem {K α : Type} [DecidableEq K] {es : List (K × α)} {k x : K} {v : α} (h : x ∈ (putI es k v).map (·.1)) : x ∈ es.map (·.1) ∨ x = k := by
  rw [keys_putI] at h
  split at h
  · exact .inl h
  · rcases List.mem_append.mp h with h | h
    · exact .inl h
    · exact .inr (List.mem_singleton.mp h)
theorem getI_of_nodup {K α : Type} [DecidableEq K] : ∀ {es : List (K × α)} {i : Nat} {k : K} {v : α}, (es.map (·.1)).Nodup → es[i]? = some (k, v) → getI es k = some v
  | p :: es, 0, k, v, _, h => by simp at h; subst h; rw [getI_cons, if_pos rfl]
  | p :: es, i + 1, k, v, hn, h => by
    rw [List.map_cons, List.nodup_cons] at hn
    have h' : es[i]? = some (k, v) := by simpa using h
    have hne : ¬ p.1 = k := fun e => hn.1 (e ▸ List.mem_map.mpr ⟨(k, v), List.mem_of_getElem? h', rfl⟩)
    rw [getI_cons, if_neg hne, getI_of_nodup hn.2 h']

theorem Uni.at {u : List (Str × Nat)} (hu : Uni u) {j : Nat} {n : Str} {r : Nat} (h : u[j]? = some (n, r)) : r = j := by
  cases hu with
  | zero => simp at h
  | two => match j, h with
    | 0, h => cases h; rfl
    | 1, h => cases h; rfl
  | three => match j, h with
    | 0, h => cases h; rfl
    | 1, h => cases h; rfl
    | 2, h => cases h; rfl
theorem Uni.get {u : List (Str × Nat)} (hu : Uni u) {j : Nat} {n : Str} {r : Nat} (h : u[j]? = some (n, r)) : getI (u.map fun p => (p.1, V.int (p.2 : Int))) n = some (iV j) := by
  have := hu.at h
  subst this
  refine getI_of_nodup (i := r) (by rw [List.map_map]; exact hu.nodup) ?_
  rw [List.getElem?_map, h]; rfl
theorem Uni.stat {u : List (Str × Nat)} (hu : Uni u) : (getI (u.map fun p => (p.1, V.int (p.2 : Int))) ("'static" : Str)).isSome = decide (u.length = 3) := by
  cases hu <;> decide
theorem Uni.getS {u : List (Str × Nat)} (hu : Uni u) (h : u.length = 3) : getI (u.map fun p => (p.1, V.int (p.2 : Int))) ("'static" : Str) = some (iV 2) := by
  cases hu with
  | zero => simp at h
  | two => simp at h
  | three => rfl

abbrev Live := List (Nat × List Nat)
def ownN (live : Live) (u : List (Str × Nat)) (many r : Nat) : List Nat :=
  if r < u.length then List.range many ++ (if r = 2 then (List.range u.length).map (many + ·) else [many + r]) else (getI live r).getD []
structure LiveOk (live : Live) (many : Nat) : Prop where
  nodup : (live.map (·.1)).Nodup
  lt : ∀ p ∈ live, p.1 < 6
  spots : ∀ p ∈ live, ∀ e ∈ p.2, e < many
  len : live.length ≤ 100
theorem bit_bitsN (l : List Nat) (e : Nat) : (bitsN l).testBit e = decide (e ∈ l) := by
  have key : ∀ (l : List Nat) (b : Nat), (l.foldl (fun b e => b ||| 1 <<< e) b).testBit e = (b.testBit e || decide (e ∈ l)) := by
    intro l
    induction l with
    | nil => intro b; simp
    | cons x l ih =>
      intro b
      rw [List.foldl_cons, ih, Nat.testBit_or, Nat.shiftLeft_eq, Nat.one_mul, Nat.testBit_two_pow]
      by_cases h : x = e
      · simp [h]
      · have h2 : ¬ e = x := fun h' => h h'.symm
        simp [h, h2]
  have := key l 0
  simpa [bitsN] using this

section
variable {w : World} {h₀ : Heap} {ad : Nat → Addr}
abbrev liveV (live : Live) : V := .dictI (dV lV live)

theorem fs8 (P : Pg h₀ ad) {u : List (Str × Nat)} (hu : Uni u) {live : Live} {many : Nat} (hm : many ≤ 6) (hl : LiveOk live many) {Q : V → MS → Prop} {d : Nat}
    (h : ∀ f : List (Nat × Nat), (f.map (·.1)).Nodup → (∀ k ∈ f.map (·.1), k < 6) → (∀ r e, ((getI f r).getD 0).testBit e = decide (e ∈ ownN live u many r)) → ∀ a, Q (.mut a) [(a, .dictI (dV iV f))]) :
    FS w h₀ (d + 3) (.ref (ad 8)) [liveV live, uV u, iV many] [] Q := by
  obtain ⟨tk, hstat⟩ := P.stat
  refine FS_intro (xs := ["live", "universal", "many", "found", "region", "whole", "name", "end"]) (gs := [("bits_of", .ref (ad 7)), ("ordered_names", .ref (ad 4)), ("end_of", .ref (ad 5)), ("STATIC", .str "'static" tk)]) ["live", "universal", "many"] P.f8 P.lim (.cons P.g7 (.cons P.g4 (.cons P.g5 (.cons hstat .nil)))) rfl rfl (by kernel_rfl) (fun _ _ _ vals hv => ?_) fun C hw hh hr hsto hk hgl => ?_
  · obtain ⟨a, b, c, rfl⟩ := len3 hv; rfl
  · simp only [ρ₀]
    refine JS_cons (JS_Assign hsto (JE_DictIM fun a ha => ⟨_, .tail (.tail (.tail .head)), ?_⟩))
    refine JS_cons (JS_ForO (fun i ρ M => i ≤ live.length ∧ M = [(a, .dictI (dV iV ((live.take i).map fun p => (p.1, bitsN p.2))))] ∧ ∃ o, ρ = [some (liveV live), some (uV u), some (iV many), some (.mut a), o, none, none, none]) live.length fun I K hI hI' hK => (JI_of (JE_Name ⟨_, Src_dictI, hI _ _ _ ⟨Nat.zero_le _, rfl, none, rfl⟩, ?_⟩)))
    intro i ρ' M' hi'
    obtain ⟨hi, rfl, o, rfl⟩ := hI' _ _ _ hi'
    clear hi'
    refine ⟨hi, _, rfl, ?_⟩
    have es : ((dV lV live)[i]?).map (fun p => V.int p.1) = (live[i]?).map fun p => iV p.1 := by rw [List.getElem?_map, Option.map_map]; rfl
    rw [es]
    cases hx : live[i]? with
    | some p =>
      obtain ⟨r, sp⟩ := p
      have hmem : (r, sp) ∈ live := List.mem_of_getElem? hx
      have hget : getI (dV lV live) (r : Int) = some (lV sp) := by rw [getI_dV, getI_of_nodup hl.nodup hx]; rfl
      refine JA_Name (hsto _ (by decide)) ⟨_, .tail (.tail (.tail (.tail .head))), ?_⟩
      refine JS_cons (JS_AssignSub (JE_CallFn hw hh P.f7.is hr (JEs_cons (JE_Subscript (JE_Name (JE_Name (JSub_dI (.fz _) rfl hget (JEs_nil ⟨[(a, _)], [], [], rfl, fs7 P (fun e he => ?_) ?_⟩))))))))
      · have := hl.spots _ hmem e he; omega
      refine JE_Name (JE_Name (J3_dI .head rfl ?_ ?_))
      · rw [List.length_map, List.length_map, List.length_take]; have := hl.len; omega
      refine JS_nil (hI _ _ _ ⟨lt_of_get hx, ?_, some (iV r), rfl⟩)
      rw [putI_dV, take_snoc hx, List.map_append]
      have hno : getI ((live.take i).map fun p => (p.1, bitsN p.2)) r = none := by
        rw [getI_none_iff, List.map_map]
        intro hm'
        obtain ⟨p, hp, hpr⟩ := List.mem_map.mp hm'
        obtain ⟨k, hk⟩ := List.mem_iff_getElem?.mp hp
        have hki : k < i := by have := lt_of_get hk; rw [List.length_take] at this; omega
        rw [List.getElem?_take, if_pos hki] at hk
        have e1 : (live.map (·.1))[k]? = some r := by rw [List.getElem?_map, hk]; exact congrArg some hpr
        have e2 : (live.map (·.1))[i]? = some r := by rw [List.getElem?_map, hx]; rfl
        have := (List.getElem?_inj (by rw [List.length_map]; have := lt_of_get hx; omega) hl.nodup).mp (e1.trans e2.symm)
        omega
      unfold putI
      rw [← getI_isSome, hno]; rfl
    | none =>
      have hlen : live.length ≤ i := by simpa using hx
      rw [List.take_of_length_le hlen]
      refine hK _ _ _ ?_
      clear hK hI hI' I K
      refine JS_cons (JS_Assign hsto (JE_BinOp (JE_BinOp (JE_int (JE_Name (J_shl (b := many) (by omega) (JE_int (J_sub ⟨_, .tail (.tail (.tail (.tail (.tail .head)))), ?_⟩))))))))
      have e1 : ((1 <<< many : Nat) : Int) - (1 : Int) = ((1 <<< many - 1 : Nat) : Int) := by
        have : 0 < 1 <<< many := by rw [Nat.shiftLeft_eq, Nat.one_mul]; exact Nat.two_pow_pos _
        omega
      rw [e1]
      generalize hf0 : (live.map fun p => (p.1, bitsN p.2)) = f0
      have f0k : f0.map (·.1) = live.map (·.1) := by rw [← hf0, List.map_map]; rfl
      have f0n : (f0.map (·.1)).Nodup := by rw [f0k]; exact hl.nodup
      have f0l : f0.length ≤ 100 := by rw [← hf0, List.length_map]; exact hl.len
      have f0lt : ∀ k ∈ f0.map (·.1), k < 6 := by
        rw [f0k]; intro k hk
        obtain ⟨p, hp, rfl⟩ := List.mem_map.mp hk
        exact hl.lt p hp
      have f0g : ∀ r, (getI f0 r).getD 0 = bitsN ((getI live r).getD []) := by
        intro r
        rw [← hf0]
        clear hf0 f0k f0n f0l f0lt
        have : ∀ lv : Live, (getI (lv.map fun p => (p.1, bitsN p.2)) r).getD 0 = bitsN ((getI lv r).getD []) := by
          intro lv
          induction lv with
          | nil => rfl
          | cons p lv ih =>
            rw [List.map_cons, getI_cons, getI_cons]
            by_cases h : p.1 = r
            · simp [h]
            · simp only [h, if_false]; exact ih
        exact this live
      clear hf0 es hx hlen hi
      refine JS_cons (JS_ForO (fun i ρ M => i ≤ u.length ∧ (∃ f : List (Nat × Nat), M = [(a, .dictI (dV iV f))] ∧ f.length ≤ 100 + i ∧ (f.map (·.1)).Nodup ∧ (∀ k ∈ f.map (·.1), k < 6) ∧ (∀ r, (getI f r).getD 0 = if r < i then (bitsN ((getI live r).getD []) ||| (1 <<< many - 1)) ||| 1 <<< (many + r) else bitsN ((getI live r).getD []))) ∧
        ∃ o1 o2 o3, ρ = [some (liveV live), some (uV u), some (iV many), some (.mut a), o1, some (iV (1 <<< many - 1)), o2, o3]) u.length fun I K hI hI' hK =>
        (JI_of (JE_CallFn hw hh P.f4.is (hr.le (by omega)) (JEs_cons (JE_Name (JEs_nil ⟨[(a, _)], [], [], rfl, fs4 (d := 0) P hu ⟨_, Src_list, hI _ _ _ ⟨Nat.zero_le _, ⟨f0, rfl, by omega, f0n, f0lt, fun r => by rw [f0g]; simp⟩, _, none, none, rfl⟩, ?_⟩⟩))))))
      intro i ρ' M' hi'
      obtain ⟨hi, ⟨f, rfl, hfl, hfn, hflt, hfg⟩, o1, o2, o3, rfl⟩ := hI' _ _ _ hi'
      clear hi'
      refine ⟨hi, _, rfl, ?_⟩
      cases hx : u[i]? with
      | some p =>
        obtain ⟨n, r⟩ := p
        have hri := hu.at hx
        subst hri
        have hgu := hu.get hx
        have hlt := lt_of_get hx
        have hu3 := hu.len
        rw [show (u.map fun p => V.str p.1)[r]? = some (.str n) by rw [List.getElem?_map, hx]; rfl]
        refine JA_Name (hsto _ (by decide)) ⟨_, .tail (.tail (.tail (.tail (.tail (.tail .head))))), ?_⟩
        refine JS_cons <| JS_Assign hsto <| JE_BinOp <| JE_int <| JE_CallFn hw hh P.f5.is hr <| JEs_cons <| JE_Name <| JEs_cons <| JE_Name <| JEs_cons <| JE_Name <| JEs_nil ⟨[(a, _)], [], [], rfl, fs5 P hu (j := r) (by rw [List.getElem?_map, hx]; rfl) ?_⟩
        rw [show (many : Int) + (r : Int) = ((many + r : Nat) : Int) by omega]
        refine J_shl (by omega) ⟨_, .tail (.tail (.tail (.tail (.tail (.tail (.tail .head)))))), ?_⟩
        refine JS_cons <| JS_AssignSub <| JE_BinOp <| JE_BinOp <| JE_Method2 <| JE_Name <| JM_getDI (.mt .head) <| JE_Subscript <| JE_Name <| JE_Name <| JSub_dS (.fz _) rfl hgu ⟨rfl, (r : Int), rfl, JE_int ⟨rfl, ?_⟩⟩
        rw [show (V.int 0) = iV 0 from rfl, getD_dV]
        refine JE_Name <| J_or <| JE_Name <| J_or <| JE_Name <| JE_Subscript <| JE_Name <| JE_Name <| JSub_dS (.fz _) rfl hgu <| J3_dI .head rfl (by rw [List.length_map]; omega) ?_
        rw [putI_dV]
        have hlen := length_putI f r ((getI f r).getD 0 ||| (1 <<< many - 1) ||| 1 <<< (many + r))
        refine JS_nil (hI _ _ _ ⟨hlt, ⟨_, rfl, by omega, nodup_putI hfn _ _, fun k hk => ?_, fun r' => ?_⟩, o1, some (.str n), some (iV (1 <<< (many + r))), rfl⟩)
        · rcases keys_put_mem hk with hk | rfl
          · exact hflt k hk
          · omega
        · rw [getI_putI]
          by_cases hr' : r' = r
          · subst hr'
            rw [if_pos rfl, if_pos (by omega), hfg, if_neg (by omega)]; rfl
          · rw [if_neg hr', hfg]
            by_cases h' : r' < r
            · rw [if_pos h', if_pos (by omega)]
            · rw [if_neg h', if_neg (by omega)]
      | none =>
        have hul : u.length = i := by have : u.length ≤ i := by simpa using hx
                                      omega
        subst hul
        rw [show (u.map fun p => V.str p.1)[u.length]? = none by rw [List.getElem?_map, hx]; rfl]
        have hu3 := hu.len
        have hbit : ∀ r e, r < u.length → ((getI f r).getD 0).testBit e = (decide (e < many) || decide (e = many + r)) := by
          intro r e hr'
          rw [hfg, if_pos hr', Nat.testBit_or, Nat.testBit_or, bit_bitsN, Nat.shiftLeft_eq, Nat.one_mul, Nat.shiftLeft_eq, Nat.one_mul, Nat.testBit_two_pow, Nat.testBit_two_pow_sub_one]
          have hin : e ∈ (getI live r).getD [] → e < many := by
            intro he
            cases hg : getI live r with
            | none => rw [hg] at he; simp at he
            | some sp =>
              rw [hg] at he
              have : (r, sp) ∈ live := by
                unfold getI at hg
                cases hf' : live.find? (fun p => decide (p.1 = r)) with
                | none => rw [hf'] at hg; cases hg
                | some p =>
                  rw [hf'] at hg
                  have h1 := List.mem_of_find?_eq_some hf'
                  have h2 := List.find?_some hf'
                  simp at h2 hg
                  subst h2 hg
                  exact h1
              exact hl.spots _ this e he
          by_cases h1 : e < many
          · simp [h1]
          · have : ¬ e ∈ (getI live r).getD [] := fun h => h1 (hin h)
            simp [h1, this, eq_comm]
        have hoff : ∀ r e, ¬ r < u.length → ((getI f r).getD 0).testBit e = decide (e ∈ ownN live u many r) := by
          intro r e hr'
          rw [hfg, if_neg hr', bit_bitsN]; unfold ownN; rw [if_neg hr']
        refine hK _ _ _ ?_
        clear hK hI hI' I K
        refine JS_cons (JS_If (JB_Compare <| JE_GlobStr <| JE_Name <| J_inDS rfl (.fz _) ⟨_, rfl, fun ht => ?_, fun ht => ?_⟩))
        · rw [hu.stat, decide_eq_true_eq] at ht
          have hg2 : ∃ x, getI f 2 = some x ∧ ∀ e, x.testBit e = (decide (e < many) || decide (e = many + 2)) := by
            have hb := fun e => hbit 2 e (by omega)
            cases hg : getI f 2 with
            | none => have := hb (many + 2); rw [hg] at this; simp at this
            | some x => exact ⟨x, rfl, fun e => by have := hb e; rwa [hg] at this⟩
          refine JS_cons <| JS_ForO (fun i ρ M => i ≤ u.length ∧ (∃ f' : List (Nat × Nat), M = [(a, .dictI (dV iV f'))] ∧ f'.length ≤ 200 + i ∧ (f'.map (·.1)).Nodup ∧ (∀ k ∈ f'.map (·.1), k < 6) ∧ (∃ x, getI f' 2 = some x ∧ ∀ e, x.testBit e = (decide (e < many + i) || decide (e = many + 2))) ∧ ∀ r, r ≠ 2 → getI f' r = getI f r) ∧
            ∃ o1 o2 o3, ρ = [some (liveV live), some (uV u), some (iV many), some (.mut a), o1, some (iV (1 <<< many - 1)), o2, o3]) u.length fun I K hI hI' hK =>
            (JI_of <| JE_Name ⟨_, Src_dictS, hI _ _ _ ⟨Nat.zero_le _, ⟨f, rfl, by omega, hfn, hflt, hg2, fun _ _ => rfl⟩, o1, o2, o3, rfl⟩, ?_⟩)
          clear hg2
          intro i ρ' M' hi'
          obtain ⟨hi, ⟨f', rfl, hfl', hfn', hflt', ⟨x, hx2, hxb⟩, hoth⟩, o1, o2, o3, rfl⟩ := hI' _ _ _ hi'
          clear hi'
          refine ⟨hi, _, rfl, ?_⟩
          have es : ((u.map fun p => (p.1, V.int (p.2 : Int)))[i]?).map (fun p => V.str p.1) = (u[i]?).map fun p => V.str p.1 := by rw [List.getElem?_map, Option.map_map]; rfl
          rw [es]
          cases hxi : u[i]? with
          | some p =>
            obtain ⟨n, r⟩ := p
            have hri := hu.at hxi
            subst hri
            have hlt := lt_of_get hxi
            have hgf : getI (dV iV f') (2 : Int) = some (iV x) := by rw [show (2 : Int) = ((2 : Nat) : Int) from rfl, getI_dV, hx2]; rfl
            refine JA_Name (hsto _ (by decide)) ⟨_, .tail (.tail (.tail (.tail (.tail (.tail .head))))), ?_⟩
            refine JS_cons <| JS_AssignSub <| JE_BinOp <| JE_Subscript <| JE_Name <| JE_Subscript <| JE_Name <| JE_GlobStr <| JSub_dS (.fz _) rfl (hu.getS ht) <| JSub_dI (.mt .head) rfl hgf <| JE_BinOp <| JE_int <|
              JE_CallFn hw hh P.f5.is hr <| JEs_cons <| JE_Name <| JEs_cons <| JE_Name <| JEs_cons <| JE_Name <| JEs_nil ⟨[(a, _)], [], [], rfl, fs5 P hu (j := r) (by rw [List.getElem?_map, hxi]; rfl) ?_⟩
            rw [show (many : Int) + (r : Int) = ((many + r : Nat) : Int) by omega]
            refine J_shl (by omega) <| J_or <| JE_Name <| JE_Subscript <| JE_Name <| JE_GlobStr <| JSub_dS (.fz _) rfl (hu.getS ht) <| J3_dI .head rfl (by rw [List.length_map]; omega) ?_
            rw [putI_dV]
            have hlen := length_putI f' 2 (x ||| 1 <<< (many + r))
            refine JS_nil (hI _ _ _ ⟨hlt, ⟨_, rfl, by omega, nodup_putI hfn' _ _, fun k hk => ?_, ⟨_, by rw [getI_putI, if_pos rfl], fun e => ?_⟩, fun r' hr' => by rw [getI_putI, if_neg hr']; exact hoth r' hr'⟩, o1, some (.str n), o3, rfl⟩)
            · rcases keys_put_mem hk with hk | rfl
              · exact hflt' k hk
              · omega
            · rw [Nat.testBit_or, hxb, Nat.shiftLeft_eq, Nat.one_mul, Nat.testBit_two_pow, Bool.eq_iff_iff]
              simp only [Bool.or_eq_true, decide_eq_true_eq]
              omega
          | none =>
            have hiu : i = 3 := by have : u.length ≤ i := by simpa using hxi
                                   omega
            subst hiu
            refine hK _ _ _ <| JS_nil (JS_cons (JS_Return (JE_Name (h f' hfn' hflt' (fun r e => ?_) a))))
            by_cases hr' : r < u.length
            · by_cases hr2 : r = 2
              · subst hr2
                rw [hx2]; unfold ownN; rw [if_pos hr', if_pos rfl, ht]
                show x.testBit e = _
                rw [hxb, Bool.eq_iff_iff]
                simp only [Bool.or_eq_true, decide_eq_true_eq, List.mem_append, List.mem_range, List.mem_map]
                constructor
                · intro h
                  by_cases he : e < many
                  · exact .inl he
                  · exact .inr ⟨e - many, by omega, by omega⟩
                · rintro (h | ⟨k, hk, rfl⟩) <;> omega
              · rw [hoth r hr2, hbit r e hr']; unfold ownN; rw [if_pos hr', if_neg hr2]; simp
            · rw [hoth r (by omega)]; exact hoff r e hr'
        · rw [hu.stat, decide_eq_false_iff_not] at ht
          refine JS_nil (JS_cons (JS_Return (JE_Name (h f hfn hflt (fun r e => ?_) a))))
          by_cases hr' : r < u.length
          · rw [hbit r e hr']; unfold ownN; rw [if_pos hr', if_neg (by omega)]; simp
          · exact hoff r e hr'
end
end Mine

namespace Mine
open PySem PySem.W PySem.Calls PyProof.Rows

abbrev nM {α β : Type} (g : α → β) (f : List (Nat × α)) : List (Int × β) := f.map fun p => ((p.1 : Int), g p.2)
theorem getI_nM {α β : Type} (g : α → β) (k : Nat) : ∀ (f : List (Nat × α)), getI (nM g f) (k : Int) = (getI f k).map g
  | [] => rfl
  | p :: f => by
    show getI (((p.1 : Int), g p.2) :: nM g f) (k : Int) = _
    rw [getI_cons, getI_cons, getI_nM g k f]
    by_cases h : p.1 = k
    · have : (p.1 : Int) = (k : Int) := by omega
      simp [h]
    · have : ¬ (p.1 : Int) = (k : Int) := by omega
      simp [h, this]
theorem putI_nM {α β : Type} (g : α → β) (k : Nat) (x : α) (f : List (Nat × α)) : putI (nM g f) (k : Int) (g x) = nM g (putI f k x) := by
  unfold putI
  rw [← getI_isSome, ← getI_isSome, getI_nM, Option.isSome_map]
  split
  · show List.map _ (List.map _ f) = List.map _ (List.map _ f)
    rw [List.map_map, List.map_map]
    refine List.map_congr_left fun p _ => ?_
    simp only [Function.comp]
    by_cases h : p.1 = k
    · have : (p.1 : Int) = (k : Int) := by omega
      simp [h]
    · have : ¬ (p.1 : Int) = (k : Int) := by omega
      simp [h, this]
  · simp

/-- constraints: longer, shorter, point -/
abbrev Con := Nat × Nat × Nat
abbrev cV (c : Con) : V := .tup [iV c.1, iV c.2.1, .tup [iV 0, iV c.2.2]]
abbrev csV (cs : List Con) : V := .list (cs.map cV)

abbrev Aft := List (Nat × List Nat)
structure FolOk (after : Aft) (cs : List Con) : Prop where
  nodup : (after.map (·.1)).Nodup
  mem : ∀ s l, l ∈ (getI after s).getD [] ↔ ∃ p, (l, s, p) ∈ cs
  ins : ∀ c ∈ cs, (getI after c.1).isSome ∧ (getI after c.2.1).isSome
  keys : ∀ k ∈ after.map (·.1), ∃ c ∈ cs, k = c.1 ∨ k = c.2.1
  len : after.length ≤ 2 * cs.length
  lens : ∀ s, ((getI after s).getD []).length ≤ cs.length
theorem FolOk.nil : FolOk [] [] := ⟨.nil, by simp [getI_nil], by simp, by simp, by simp, by simp [getI_nil]⟩
def folStep (after : Aft) (c : Con) : Aft :=
  let a1 := putI after c.2.1 ((getI after c.2.1).getD [] ++ [c.1])
  match getI a1 c.1 with
  | some _ => a1
  | none => a1 ++ [(c.1, [])]
theorem folStep_eq (after : Aft) (c : Con) : ∃ b : Bool, folStep after c = (if b then putI (putI after c.2.1 ((getI after c.2.1).getD [] ++ [c.1])) c.1 [] else putI after c.2.1 ((getI after c.2.1).getD [] ++ [c.1])) ∧
    (b = true ↔ getI (putI after c.2.1 ((getI after c.2.1).getD [] ++ [c.1])) c.1 = none) := by
  unfold folStep
  simp only
  cases hg : getI (putI after c.2.1 ((getI after c.2.1).getD [] ++ [c.1])) c.1 with
  | some x => exact ⟨false, rfl, by simp⟩
  | none => exact ⟨true, by rw [if_pos rfl, putI_absent hg], by simp⟩
theorem FolOk.snoc {after : Aft} {cs : List Con} (h : FolOk after cs) (c : Con) : FolOk (folStep after c) (cs ++ [c]) := by
  obtain ⟨b, he, hb⟩ := folStep_eq after c
  obtain ⟨l, s, p⟩ := c
  simp only at he hb ⊢
  have hlen1 := length_putI after s ((getI after s).getD [] ++ [l])
  have hlen2 := length_putI (putI after s ((getI after s).getD [] ++ [l])) l []
  have hget : ∀ k, getI (folStep after (l, s, p)) k = (if k = s then some ((getI after s).getD [] ++ [l]) else if k = l ∧ b = true then some [] else getI after k) := by
    intro k
    rw [he]
    cases b with
    | false =>
      simp only [Bool.false_eq_true, if_false, and_false]
      rw [getI_putI]
    | true =>
      have hn := hb.mp rfl
      rw [getI_putI] at hn
      have hls : ¬ l = s := fun e => by rw [if_pos e] at hn; cases hn
      simp only [if_true, and_true]
      rw [getI_putI, getI_putI]
      by_cases h1 : k = l
      · subst h1; rw [if_pos rfl, if_neg hls, if_pos rfl]
      · rw [if_neg h1, if_neg h1]
  have hold : ∀ k, k ≠ s → (getI (folStep after (l, s, p)) k).getD [] = (getI after k).getD [] := by
    intro k hk
    rw [hget, if_neg hk]
    split
    · rename_i hkl
      obtain ⟨rfl, hb'⟩ := hkl
      have := hb.mp hb'
      rw [getI_putI, if_neg hk] at this
      rw [this]; rfl
    · rfl
  refine ⟨?_, fun s' l' => ?_, fun c hc => ?_, fun k hk => ?_, ?_, fun s' => ?_⟩
  · rw [he]
    split
    · exact nodup_putI (nodup_putI h.nodup _ _) _ _
    · exact nodup_putI h.nodup _ _
  · by_cases hs : s' = s
    · subst hs
      rw [hget, if_pos rfl]
      show l' ∈ (getI after s').getD [] ++ [l] ↔ _
      rw [List.mem_append, h.mem]
      constructor
      · rintro (⟨p', h'⟩ | h')
        · exact ⟨p', List.mem_append_left _ h'⟩
        · rw [List.mem_singleton.mp h']; exact ⟨p, List.mem_append_right _ (.head _)⟩
      · rintro ⟨p', h'⟩
        rcases List.mem_append.mp h' with h' | h'
        · exact .inl ⟨p', h'⟩
        · have := List.mem_singleton.mp h'
          injection this with e1 _
          exact .inr (by rw [e1]; exact .head _)
    · rw [hold s' hs, h.mem]
      constructor
      · rintro ⟨p', h'⟩; exact ⟨p', List.mem_append_left _ h'⟩
      · rintro ⟨p', h'⟩
        rcases List.mem_append.mp h' with h' | h'
        · exact ⟨p', h'⟩
        · have := List.mem_singleton.mp h'
          injection this with e1 e2
          injection e2 with e2 e3
          exact absurd e2 hs
  · have grow : ∀ k, (getI after k).isSome → (getI (folStep after (l, s, p)) k).isSome := fun k hk => by
      rw [hget]; split
      · rfl
      · split
        · rfl
        · exact hk
    rcases List.mem_append.mp hc with hc | hc
    · exact ⟨grow _ (h.ins c hc).1, grow _ (h.ins c hc).2⟩
    · rw [List.mem_singleton.mp hc]
      refine ⟨?_, by rw [hget, if_pos rfl]; rfl⟩
      rw [hget]
      split
      · rfl
      · split
        · rfl
        · rename_i h1 h2
          cases b with
          | true => exact absurd ⟨rfl, rfl⟩ h2
          | false =>
            have : ¬ getI (putI after s ((getI after s).getD [] ++ [l])) l = none := fun e => by have := hb.mpr e; cases this
            rw [getI_putI, if_neg h1] at this
            exact Option.isSome_iff_ne_none.mpr this
  · rw [he] at hk
    have fin : k ∈ after.map (·.1) ∨ k = s ∨ k = l := by
      split at hk
      · rcases keys_put_mem hk with hk | hk
        · rcases keys_put_mem hk with hk | hk
          · exact .inl hk
          · exact .inr (.inl hk)
        · exact .inr (.inr hk)
      · rcases keys_put_mem hk with hk | hk
        · exact .inl hk
        · exact .inr (.inl hk)
    rcases fin with hk | rfl | rfl
    · obtain ⟨c, hc, e⟩ := h.keys k hk
      exact ⟨c, List.mem_append_left _ hc, e⟩
    · exact ⟨_, List.mem_append_right _ (.head _), .inr rfl⟩
    · exact ⟨_, List.mem_append_right _ (.head _), .inl rfl⟩
  · have := h.len
    rw [List.length_append, List.length_singleton, he]
    split <;> omega
  · have hl := h.lens
    rw [List.length_append, List.length_singleton]
    by_cases hs : s' = s
    · subst hs
      rw [hget, if_pos rfl]
      show ((getI after s').getD [] ++ [l]).length ≤ _
      rw [List.length_append, List.length_singleton]
      have := hl s'; omega
    · rw [hold s' hs]; have := hl s'; omega

section
variable {w : World} {h₀ : Heap} {ad : Nat → Addr}

theorem fs9 (P : Pg h₀ ad) {cs : List Con} (hc : cs.length ≤ 100) {Q : V → MS → Prop} {d : Nat} (h : ∀ after : Aft, FolOk after cs → Q (.dictI (dV lV after)) []) :
    FS w h₀ (d + 1) (.ref (ad 9)) [csV cs] [] Q := by
  refine FS_intro (xs := ["constraints", "found", "longer", "shorter", "point"]) (gs := []) ["constraints"] P.f9 P.lim .nil rfl rfl (by kernel_rfl) (fun _ _ _ vals hv => ?_) fun C hw hh hr hsto hk hgl => ?_
  · obtain ⟨a, rfl⟩ := len1 hv; rfl
  · simp only [ρ₀]
    refine JS_cons (JS_Assign hsto (JE_DictLM fun a ha => ⟨_, .tail .head, ?_⟩))
    refine JS_cons <| JS_For (fun i ρ M => i ≤ cs.length ∧ (∃ after : Aft, FolOk after (cs.take i) ∧ M = [(a, .dlist (nM natsV after))]) ∧ ∃ o1 o2 o3, ρ = [some (csV cs), some (.mut a), o1, o2, o3]) cs.length
      (JI_of <| JE_Name ⟨_, Src_list, ⟨Nat.zero_le _, ⟨[], by simpa using FolOk.nil, rfl⟩, none, none, none, rfl⟩, ?_⟩)
    rintro i _ _ ⟨hi, ⟨after, hok, rfl⟩, o1, o2, o3, rfl⟩
    refine ⟨hi, _, rfl, ?_⟩
    cases hx : (cs.map cV)[i]? with
    | some x =>
      obtain ⟨c, hcx, rfl⟩ := getm hx
      obtain ⟨l, s, p⟩ := c
      refine JA_Tuple (.tup _) (by simp) (JAs_cons <| JA_Name (hsto _ (by decide)) ⟨_, .tail (.tail .head), JAs_cons <| JA_Name (hsto _ (by decide)) ⟨_, .tail (.tail (.tail .head)), JAs_cons <| JA_Name (hsto _ (by decide)) ⟨_, .tail (.tail (.tail (.tail .head))), JAs_nil ?_⟩⟩⟩) rfl rfl
      have hlen := hok.len
      rw [List.length_take] at hlen
      have hls := hok.lens s
      rw [List.length_take] at hls
      have e0 : (getI (nM natsV after) ((s : Nat) : Int)).getD [] = natsV ((getI after s).getD []) := by rw [getI_nM]; cases getI after s <;> rfl
      refine JS_cons <| JS_sdAppend .head (by rw [List.length_map]; omega) (by rw [e0, List.length_map]; omega) ?_
      have e1 : putI (nM natsV after) ((s : Nat) : Int) ((getI (nM natsV after) ((s : Nat) : Int)).getD [] ++ [iV l]) = nM natsV (putI after s ((getI after s).getD [] ++ [l])) := by
        rw [← putI_nM, e0]; congr 1; simp [natsV]
      rw [e1]
      have hl1 := length_putI after s ((getI after s).getD [] ++ [l])
      refine JS_cons <| JS_sd .head (by rw [List.length_map]; omega) ?_
      refine JS_nil ⟨lt_of_get hcx, ⟨folStep after (l, s, p), by rw [take_snoc hcx]; exact hok.snoc _, ?_⟩, some (iV l), some (iV s), some (.tup [iV 0, iV p]), rfl⟩
      rw [getI_nM]
      unfold folStep
      simp only
      cases getI (putI after s ((getI after s).getD [] ++ [l])) l with
      | some _ => rfl
      | none => simp
    | none =>
      have := getn hx
      rw [List.take_of_length_le this] at hok
      refine JS_cons (JS_Return (JE_freeze (JE_Name ⟨a, _, _, rfl, .head, ?_⟩)))
      have := h after hok
      show Q (.dictI ((nM natsV after).map fun p => (p.1, V.list p.2))) []
      rw [List.map_map]
      exact this
end
end Mine

namespace Mine
open PySem PySem.W PySem.Calls PyProof.Rows

section
variable {C : Cx} {xs : List Str} {gs : List (Str × Value)} {ρ : List (Option V)} {M : MS}
/-- sorted(dict with int keys), a list that is to change -/
theorem Jn_sortedDIM {v : V} {es : List (Int × V)} (hv : DIVal M v es) (hl : es.length < 64) {Q : V → MS → Prop} (h : ∀ ns' : List Int, ns'.Perm (es.map (·.1)) → ns'.Pairwise (· ≤ ·) → ∀ a, (∀ p ∈ M, p.1 ≠ a) → Q (.mut a) ((a, .list (ns'.map .int)) :: M)) : Jn C xs gs ρ M [v] (fun cl => call (.builtin "sorted") cl) Q :=
  fun hC G X B s m S cl rl Qc E k => by
    obtain ⟨u, rfl, r⟩ := rl.one
    obtain ⟨a, kvs, rfl, h2, hdo, hr⟩ := S.dival hv r
    obtain ⟨ep, hat⟩ := hdo.dictAt
    have hkeys := hr.keys
    refine sorted_srcI (kdl_dict (knd := intKind PG C.w) (ep := ep) (kvs := kvs) (not_sys h2)) hC.room.1 hat (by rw [hr.length]; exact hl) (ns := es.map (·.1)) (by rw [List.length_map, hr.length]) (fun i v hp => ?_) fun h' tk a out e ns' hk hn ho hI hp hs => ?_
    · obtain ⟨k, x, e1, e2⟩ := hp
      obtain ⟨t, rfl⟩ := isInt_shape e2
      exact ⟨k, t, by rw [← hkeys, List.getElem?_map, e1]; rfl, rfl⟩
    · have S2 := S.addM (a := a) (h' := h') (mo := .list (ns'.map .int)) tk hk (.list ho (reps_of_ints hI)) hn
      refine k _ _ _ B _ m _ (Le.refl B) S2 (.mut a) (h ns' hp hs a (live_ne S.mrep fun hm => ?_))
      obtain ⟨o, ho⟩ := S.mrep.live _ hm
      rw [hn] at ho; cases ho
end

abbrev Vals := List (Nat × Nat)
abbrev val (f : Vals) (r : Nat) : Nat := (getI f r).getD 0
def Sub (a b : Nat) : Prop := ∀ e, a.testBit e = true → b.testBit e = true
def Edge (after : Aft) (s l : Nat) : Prop := l ∈ (getI after s).getD []
inductive Up (after : Aft) (s : Nat) : Nat → Prop
  | refl : Up after s s
  | step {m l : Nat} : Up after s m → Edge after m l → Up after s l

def cap (f : Vals) : Nat := ((List.range 6).map fun r => 511 - val f r).sum
theorem sum_le {g : Nat → Nat} {m : Nat} (h : ∀ r, g r ≤ m) (l : List Nat) : (l.map g).sum ≤ l.length * m := by
  induction l with
  | nil => exact Nat.zero_le _
  | cons x l ih =>
    rw [List.map_cons, List.sum_cons, List.length_cons, Nat.succ_mul, Nat.add_comm]
    exact Nat.add_le_add ih (h x)
theorem sum_mono {g g' : Nat → Nat} (h : ∀ r, g' r ≤ g r) (l : List Nat) : (l.map g').sum ≤ (l.map g).sum := by
  induction l with
  | nil => exact Nat.le_refl _
  | cons x l ih =>
    rw [List.map_cons, List.sum_cons, List.map_cons, List.sum_cons]
    exact Nat.add_le_add (h x) ih
theorem sum_lt {g g' : Nat → Nat} {k : Nat} (h : ∀ r, g' r ≤ g r) (hk : g' k + 1 ≤ g k) (l : List Nat) (hm : k ∈ l) : (l.map g').sum + 1 ≤ (l.map g).sum := by
  induction l with
  | nil => cases hm
  | cons x l ih =>
    rw [List.map_cons, List.sum_cons, List.map_cons, List.sum_cons]
    rcases List.mem_cons.mp hm with e | hm
    · subst e
      rw [Nat.add_right_comm]
      exact Nat.add_le_add hk (sum_mono h l)
    · rw [Nat.add_assoc]
      exact Nat.add_le_add (h x) (ih hm)
theorem cap_le (f : Vals) : cap f ≤ 3066 := sum_le (m := 511) (fun r => Nat.sub_le _ _) (List.range 6)
theorem val_put (f : Vals) (k v r : Nat) : val (putI f k v) r = if r = k then v else val f r := by
  unfold val; rw [getI_putI]; split <;> rfl
theorem cap_put {f : Vals} {k v : Nat} (hk : k < 6) (h1 : val f k < v) (h2 : v ≤ 511) : cap (putI f k v) + 1 ≤ cap f := by
  refine sum_lt (k := k) (fun r => ?_) ?_ (List.range 6) (List.mem_range.mpr hk)
  · rw [val_put]
    split
    · rename_i e; subst e; omega
    · exact Nat.le_refl _
  · rw [val_put, if_pos rfl]; omega
theorem lt512_of_bits {a : Nat} (h : ∀ e, a.testBit e = true → e < 9) : a < 512 := by
  rcases Nat.lt_or_ge a 512 with h' | h'
  · exact h'
  · obtain ⟨i, hi, hb⟩ := Nat.exists_ge_and_testBit_of_ge_two_pow (n := 9) h'
    have := h i hb; omega
theorem or_gt {a b : Nat} (h : a ||| b ≠ a) : a < a ||| b := by
  have : a ≤ a ||| b := Nat.left_le_or
  omega
theorem sub_of_or {a b : Nat} (h : a ||| b = a) : Sub b a := fun e he => by
  rw [← h, Nat.testBit_or, he]; simp

/-- the run of grown -/
structure GInv (f0 : Vals) (after : Aft) (f : Vals) : Prop where
  nodup : (f.map (·.1)).Nodup
  keys : ∀ k ∈ f.map (·.1), k < 6
  sound : ∀ r e, (val f r).testBit e = true → ∃ s, Up after s r ∧ (val f0 s).testBit e = true
  mono : ∀ r, Sub (val f0 r) (val f r)
structure AftOk (after : Aft) : Prop where
  lt : ∀ s l, Edge after s l → l < 6
  ins : ∀ s l, Edge after s l → l ∈ after.map (·.1)
  small : after.length < 64
theorem GInv.bits {f0 f : Vals} {after : Aft} (h : GInv f0 after f) (h9 : ∀ r e, (val f0 r).testBit e = true → e < 9) : ∀ r, val f r < 512 := fun r => lt512_of_bits fun e he => by
  obtain ⟨s, _, hs⟩ := h.sound r e he
  exact h9 s e hs
theorem GInv.put {f0 f : Vals} {after : Aft} (h : GInv f0 after f) {r l : Nat} (hl : l < 6) (he : Edge after r l) : GInv f0 after (putI f l (val f l ||| val f r)) where
  nodup := nodup_putI h.nodup _ _
  keys := fun k hk => by
    rcases keys_put_mem hk with hk | rfl
    · exact h.keys k hk
    · exact hl
  sound := fun r' e hb => by
    rw [val_put] at hb
    split at hb
    · rename_i hr; subst hr
      rw [Nat.testBit_or, Bool.or_eq_true] at hb
      rcases hb with hb | hb
      · exact h.sound _ e hb
      · obtain ⟨s, hs, hs2⟩ := h.sound _ e hb
        exact ⟨s, hs.step he, hs2⟩
    · exact h.sound _ e hb
  mono := fun r' e hb => by
    rw [val_put]
    split
    · rename_i hr; subst hr
      rw [Nat.testBit_or, h.mono _ e hb]; rfl
    · exact h.mono _ e hb
/-- what is still to be done: the ends of left, and the rest of one turn -/
def Closed (after : Aft) (f : Vals) (L : List Nat) (r : Nat) (rest : List Nat) : Prop := ∀ s l, Edge after s l → s ∈ L ∨ Sub (val f s) (val f l) ∨ (s = r ∧ l ∈ rest)
theorem Closed.same {after : Aft} {f : Vals} {L : List Nat} {r l : Nat} {rest : List Nat} (h : Closed after f L r (l :: rest)) (hs : val f l ||| val f r = val f l) : Closed after f L r rest := fun s m he => by
  rcases h s m he with h1 | h1 | ⟨rfl, h1⟩
  · exact .inl h1
  · exact .inr (.inl h1)
  · rcases List.mem_cons.mp h1 with rfl | h1
    · exact .inr (.inl (sub_of_or hs))
    · exact .inr (.inr ⟨rfl, h1⟩)
theorem Closed.put {after : Aft} {f : Vals} {L : List Nat} {r l : Nat} {rest : List Nat} (h : Closed after f L r (l :: rest)) : Closed after (putI f l (val f l ||| val f r)) (L ++ [l]) r rest := fun s m he => by
  by_cases hs : s = l
  · subst hs; exact .inl (by simp)
  · have vs : val (putI f l (val f l ||| val f r)) s = val f s := by rw [val_put, if_neg hs]
    rw [vs]
    have up : ∀ m, Sub (val f s) (val f m) → Sub (val f s) (val (putI f l (val f l ||| val f r)) m) := fun m hm e hb => by
      rw [val_put]
      split
      · rename_i hml; subst hml
        rw [Nat.testBit_or, hm e hb]; rfl
      · exact hm e hb
    rcases h s m he with h1 | h1 | ⟨rfl, h1⟩
    · exact .inl (List.mem_append_left _ h1)
    · exact .inr (.inl (up m h1))
    · rcases List.mem_cons.mp h1 with rfl | h1
      · refine .inr (.inl fun e hb => ?_)
        rw [val_put, if_pos rfl, Nat.testBit_or, hb]; simp
      · exact .inr (.inr ⟨rfl, h1⟩)
theorem GInv.final {f0 f : Vals} {after : Aft} (h : GInv f0 after f) (hc : ∀ s l, Edge after s l → Sub (val f s) (val f l)) (r e : Nat) : (val f r).testBit e = true ↔ ∃ s, Up after s r ∧ (val f0 s).testBit e = true := by
  constructor
  · exact h.sound r e
  · rintro ⟨s, hu, hs⟩
    induction hu with
    | refl => exact h.mono _ e hs
    | step _ he ih => exact hc _ _ he e ih
end Mine

namespace Mine
open PySem PySem.W PySem.Calls PyProof.Rows

theorem ints_nats : ∀ {ns : List Int}, (∀ n ∈ ns, 0 ≤ n) → ∃ l : List Nat, ns = l.map fun i : Nat => (i : Int)
  | [], _ => ⟨[], rfl⟩
  | n :: ns, h => by
    obtain ⟨l, rfl⟩ := ints_nats (fun m hm => h m (.tail _ hm))
    have := h n (.head _)
    exact ⟨n.toNat :: l, by rw [List.map_cons, Int.toNat_of_nonneg this]⟩
theorem natsV_inj {a b : List Nat} (h : natsV a = natsV b) : a = b := by
  have := congrArg (fun l => l.map fun v => match v with | V.int i => i.toNat | _ => 0) h
  simpa [natsV, List.map_map, Function.comp_def] using this
theorem isI_nats (l : List Nat) : ∀ x ∈ natsV l, IsI x := fun x hx => by obtain ⟨i, _, rfl⟩ := List.mem_map.mp hx; exact .mk _

theorem natsV_snoc (L : List Nat) (r : Nat) : natsV (L ++ [r]) = natsV L ++ [iV r] := by show List.map _ (L ++ [r]) = _; rw [List.map_append]; rfl
theorem len_of_lt : ∀ (n : Nat) {l : List Nat}, l.Nodup → (∀ k ∈ l, k < n) → l.length ≤ n
  | 0, l, _, h => by
    cases l with
    | nil => simp
    | cons a l => have := h a (.head _); omega
  | n + 1, l, hn, h => by
    have h1 := len_of_lt n (l := l.erase n) (hn.erase n) fun k hk => by
      have h2 := h k (List.mem_of_mem_erase hk)
      have h3 : k ≠ n := fun e => by subst e; exact (List.Nodup.not_mem_erase hn) hk
      omega
    rw [List.length_erase] at h1
    split at h1 <;> omega

section
variable {w : World} {h₀ : Heap} {ad : Nat → Addr}
theorem fs10 (P : Pg h₀ ad) {after : Aft} (hA : AftOk after) {f0 : Vals} (h0n : (f0.map (·.1)).Nodup) (h0k : ∀ k ∈ f0.map (·.1), k < 6) (h9 : ∀ r e, (val f0 r).testBit e = true → e < 9) {a : Addr} {Q : V → MS → Prop} {d : Nat}
    (h : ∀ f : Vals, (f.map (·.1)).Nodup → (∀ k ∈ f.map (·.1), k < 6) → (∀ r e, (val f r).testBit e = true ↔ ∃ s, Up after s r ∧ (val f0 s).testBit e = true) → Q (.mut a) [(a, .dictI (dV iV f))]) :
    FS w h₀ (d + 1) (.ref (ad 10)) [.mut a, .dictI (dV lV after)] [(a, .dictI (dV iV f0))] Q := by
  refine FS_intro (xs := ["values", "after", "left", "region", "longer", "both"]) (gs := [("sorted", .builtin "sorted")]) ["values", "after"] P.f10 P.lim (.cons P.bSorted .nil) rfl rfl (by kernel_rfl) (fun _ _ _ vals hv => ?_) fun C hw hh hr hsto hk hgl => ?_
  · obtain ⟨a, b, rfl⟩ := len2 hv; rfl
  · simp only [ρ₀]
    refine JS_sub ?_
    refine JS_cons <| JS_Assign hsto <| JE_CallB <| JEs_cons <| JE_Name <| JEs_nil <| Jn_sortedDIM (es := dV lV after) (.fz _) (by rw [List.length_map]; exact hA.small) fun ns' hp hs b hb => ⟨_, .tail (.tail .head), ?_⟩
    have hpk : ns'.Perm ((after.map (·.1)).map fun i : Nat => (i : Int)) := by
      have e : (dV lV after).map (·.1) = (after.map (·.1)).map fun i : Nat => (i : Int) := by rw [List.map_map, List.map_map]; rfl
      rw [← e]; exact hp
    obtain ⟨L0, rfl⟩ := ints_nats (ns := ns') fun n hn => by
      obtain ⟨i, _, rfl⟩ := List.mem_map.mp (hpk.mem_iff.mp hn); omega
    have hL0 : ∀ x, x ∈ L0 ↔ x ∈ after.map (·.1) := fun x => by
      have h1 := hpk.mem_iff (a := (x : Int))
      rw [List.mem_map, List.mem_map] at h1
      constructor
      · intro hx
        obtain ⟨y, hy, e⟩ := h1.mp ⟨x, hx, rfl⟩
        have : y = x := by omega
        exact this ▸ hy
      · intro hx
        obtain ⟨y, hy, e⟩ := h1.mpr ⟨x, hx, rfl⟩
        have : y = x := by omega
        exact this ▸ hy
    have hL0l : L0.length < 64 := by
      have := hpk.length_eq
      rw [List.length_map, List.length_map, List.length_map] at this
      have := hA.small; omega
    have eL : ((L0.map fun i : Nat => (i : Int)).map V.int) = natsV L0 := by rw [List.map_map]; rfl
    rw [eL]
    have g0 : GInv f0 after f0 := ⟨h0n, h0k, fun r e hb => ⟨r, .refl, hb⟩, fun r e hb => hb⟩
    refine JS_cons <| JS_While (fun n ρ M => ∃ f L, GInv f0 after f ∧ n = cap f + L.length ∧ n ≤ 4000 ∧ (∀ x ∈ L, x ∈ after.map (·.1)) ∧ (∀ s l, Edge after s l → s ∈ L ∨ Sub (val f s) (val f l)) ∧ M = [(b, .list (natsV L)), (a, .dictI (dV iV f))] ∧
      ∃ o1 o2 o3, ρ = [some (.mut a), some (.dictI (dV lV after)), some (.mut b), o1, o2, o3]) (n := cap f0 + L0.length)
      ⟨f0, L0, g0, rfl, by have := cap_le f0; omega, fun x hx => (hL0 x).mp hx, fun s l he => .inl ((hL0 s).mpr ?_), rfl, none, none, none, rfl⟩ ?_
    · unfold Edge at he
      cases hg : getI after s with
      | none => rw [hg] at he; simp at he
      | some ls =>
        have : ¬ getI after s = none := by rw [hg]; simp
        rw [getI_none_iff] at this
        exact Decidable.not_not.mp this
    rintro n _ _ ⟨f, L, hG, rfl, hcap, hLk, hcl, rfl, o1, o2, o3, rfl⟩
    refine JB_Compare <| JE_Name <| JE_List <| JEs_nil ⟨by simp, J_neL EqOk.int (by decide) (.mt .head) (.fz _) (isI_nats L) (by simp) fun t ht => ⟨_, rfl, fun hc => ?_, fun hc => ?_⟩⟩
    · have hne : L ≠ [] := fun e => (ht.mp hc) (by rw [e]; rfl)
      rcases List.eq_nil_or_concat L with e | ⟨L', r, e⟩
      · exact absurd e hne
      rw [List.concat_eq_append] at e
      subst e
      have hrk : r ∈ after.map (·.1) := hLk r (by simp)
      rw [natsV_snoc]
      have hlen : L'.length ≤ 4000 := by rw [List.length_append, List.length_singleton] at hcap; omega
      refine JS_cons <| JS_Assign hsto <| JE_Method0 <| JE_Name <| JM_pop .head (by rw [List.length_map]; omega) ⟨_, .tail (.tail (.tail .head)), ?_⟩
      obtain ⟨ls, hls⟩ : ∃ ls, getI after r = some ls := by
        cases hg : getI after r with
        | none => exact absurd hrk (getI_none_iff.mp hg)
        | some ls => exact ⟨ls, rfl⟩
      have hE : ∀ l, Edge after r l ↔ l ∈ ls := fun l => by unfold Edge; rw [hls]; rfl
      have hget : getI (dV lV after) (r : Int) = some (lV ls) := by rw [getI_dV, hls]; rfl
      refine JS_cons <| JS_For (fun i ρ M => i ≤ ls.length ∧ (∃ f1 L1, GInv f0 after f1 ∧ cap f1 + L1.length ≤ cap f + L'.length ∧ (∀ x ∈ L1, x ∈ after.map (·.1)) ∧ Closed after f1 L1 r (ls.drop i) ∧ M = [(b, .list (natsV L1)), (a, .dictI (dV iV f1))]) ∧
        ∃ o2 o3, ρ = [some (.mut a), some (.dictI (dV lV after)), some (.mut b), some (iV r), o2, o3]) ls.length
        (JI_of <| JE_Subscript <| JE_Name <| JE_Name <| JSub_dI (.fz _) rfl hget ⟨_, Src_list, ⟨Nat.zero_le _, ⟨f, L', hG, Nat.le_refl _, fun x hx => hLk x (List.mem_append_left _ hx), fun s l he => ?_, rfl⟩, o2, o3, rfl⟩, ?_⟩)
      · rcases hcl s l he with h1 | h1
        · rcases List.mem_append.mp h1 with h1 | h1
          · exact .inl h1
          · rw [List.mem_singleton.mp h1] at he ⊢
            exact .inr (.inr ⟨rfl, by rw [List.drop_zero]; exact (hE l).mp he⟩)
        · exact .inr (.inl h1)
      rintro i _ _ ⟨hi, ⟨f1, L1, hG1, hcap1, hLk1, hcl1, rfl⟩, o2', o3', rfl⟩
      refine ⟨hi, _, rfl, ?_⟩
      cases hx : (natsV ls)[i]? with
      | some x =>
        obtain ⟨l, hlx, rfl⟩ := getm hx
        have hin : l ∈ ls := List.mem_of_getElem? hlx
        have hEl := (hE l).mpr hin
        have hl6 := hA.lt r l hEl
        have hdrop : ls.drop i = l :: ls.drop (i + 1) := by
          obtain ⟨hlt, he⟩ := List.getElem?_eq_some_iff.mp hlx
          rw [List.drop_eq_getElem_cons hlt, he]
        rw [hdrop] at hcl1
        have hdl : (dV iV f1).length ≤ 1000 := by
          rw [List.length_map]
          have h1 : f1.length = (f1.map (·.1)).length := by rw [List.length_map]
          have h2 : (f1.map (·.1)).length ≤ (List.range 6).length := by
            rw [List.length_range]; exact len_of_lt 6 hG1.nodup hG1.keys
          rw [List.length_range] at h2; omega
        refine JA_Name (hsto _ (by decide)) ⟨_, .tail (.tail (.tail (.tail .head))), ?_⟩
        refine JS_cons <| JS_Assign hsto <| JE_BinOp <| JE_Method2 <| JE_Name <| JM_getDI (.mt (.tail .head)) <| JE_Name ⟨rfl, (l : Int), rfl, JE_int ⟨rfl, ?_⟩⟩
        rw [show (V.int 0) = iV 0 from rfl, getD_dV]
        refine JE_Method2 <| JE_Name <| JM_getDI (.mt (.tail .head)) <| JE_Name ⟨rfl, (r : Int), rfl, JE_int ⟨rfl, ?_⟩⟩
        rw [show (V.int 0) = iV 0 from rfl, getD_dV]
        refine J_or ⟨_, .tail (.tail (.tail (.tail (.tail .head)))), ?_⟩
        refine JS_cons <| JS_If <| JB_Compare <| JE_Name <| JE_Method2 <| JE_Name <| JM_getDI (.mt (.tail .head)) <| JE_Name ⟨rfl, (l : Int), rfl, JE_int ⟨rfl, ?_⟩⟩
        rw [show (V.int 0) = iV 0 from rfl, getD_dV]
        have hb9 := hG1.bits h9
        refine J_neI ⟨_, rfl, fun hc2 => ?_, fun hc2 => ?_⟩
        · rw [decide_eq_true_eq] at hc2
          have hne2 : val f1 l ||| val f1 r ≠ val f1 l := fun e => hc2 (by show ((val f1 l ||| val f1 r : Nat) : Int) = (val f1 l : Int); rw [e])
          have hgt := or_gt hne2
          have hG2 := hG1.put hl6 hEl
          have hle : val f1 l ||| val f1 r ≤ 511 := by
            have := hG2.bits h9 l
            rw [val_put, if_pos rfl] at this
            omega
          have hcp := cap_put hl6 hgt hle
          refine JS_cons <| JS_AssignSub <| JE_Name <| JE_Name <| JE_Name <| J3_dI (.tail .head) rfl hdl ?_
          have e2 : putI (dV iV f1) (l : Int) (V.int ((val f1 l ||| val f1 r : Nat) : Int)) = dV iV (putI f1 l (val f1 l ||| val f1 r)) := putI_dV iV l _ f1
          rw [show ((getI f1 l).getD 0 ||| (getI f1 r).getD 0) = (val f1 l ||| val f1 r) from rfl, e2]
          refine JS_cons <| JS_Expr <| JE_Method1 <| JE_Name <| JM_append .head <| JE_Name ⟨_, _, .head, by rw [List.length_map]; omega, ?_⟩
          rw [← natsV_snoc]
          refine JS_nil (JS_nil ⟨lt_of_get hlx, ⟨_, _, hG2, by rw [List.length_append, List.length_singleton]; omega, fun x hx => ?_, hcl1.put, rfl⟩, _, _, rfl⟩)
          rcases List.mem_append.mp hx with hx | hx
          · exact hLk1 x hx
          · rw [List.mem_singleton.mp hx]; exact hA.ins r l hEl
        · rw [decide_eq_false_iff_not, Decidable.not_not] at hc2
          have heq : val f1 l ||| val f1 r = val f1 l := by
            have : ((val f1 l ||| val f1 r : Nat) : Int) = (val f1 l : Int) := hc2
            omega
          exact JS_nil (JS_nil ⟨lt_of_get hlx, ⟨f1, L1, hG1, hcap1, hLk1, hcl1.same heq, rfl⟩, _, _, rfl⟩)
      | none =>
        have hend := getn hx
        rw [List.drop_eq_nil_of_le hend] at hcl1
        refine JS_nil ⟨cap f1 + L1.length, ?_, f1, L1, hG1, rfl, ?_, hLk1, fun s l he => ?_, rfl, _, _, _, rfl⟩
        · rw [List.length_append, List.length_singleton]; omega
        · rw [List.length_append, List.length_singleton] at hcap; omega
        · rcases hcl1 s l he with h1 | h1 | ⟨_, h1⟩
          · exact .inl h1
          · exact .inr h1
          · cases h1
    · have hnil : L = [] := by
        by_cases e : L = []
        · exact e
        · have := ht.mpr fun e' => e (natsV_inj (b := []) e')
          rw [hc] at this; cases this
      subst hnil
      refine JS_cons <| JS_Return <| JE_Name ⟨_, ?_, h f hG.nodup hG.keys (hG.final fun s l he => ?_)⟩
      · simp
      · rcases hcl s l he with h1 | h1
        · cases h1
        · exact h1
end
end Mine

namespace Mine
open PySem PySem.W PySem.Calls PyProof.Rows

theorem put_take {K α : Type} [DecidableEq K] {f : List (K × α)} (hn : (f.map (·.1)).Nodup) {i : Nat} {k : K} {v : α} (h : f[i]? = some (k, v)) : putI (f.take i) k v = f.take (i + 1) := by
  have hno : getI (f.take i) k = none := by
    rw [getI_none_iff]
    intro hm
    obtain ⟨p, hp, hpr⟩ := List.mem_map.mp hm
    obtain ⟨j, hj⟩ := List.mem_iff_getElem?.mp hp
    have hji : j < i := by have := lt_of_get hj; rw [List.length_take] at this; omega
    rw [List.getElem?_take, if_pos hji] at hj
    have e1 : (f.map (·.1))[j]? = some k := by rw [List.getElem?_map, hj]; exact congrArg some hpr
    have e2 : (f.map (·.1))[i]? = some k := by rw [List.getElem?_map, h]; rfl
    have := (List.getElem?_inj (by rw [List.length_map]; have := lt_of_get h; omega) hn).mp (e1.trans e2.symm)
    omega
  rw [putI_absent hno, take_snoc h]

def Leads (cs : List Con) (l s : Nat) : Prop := ∃ p, (l, s, p) ∈ cs
/-- regions to which constraints lead -/
inductive Rch (cs : List Con) (r : Nat) : Nat → Prop
  | refl : Rch cs r r
  | step {m s : Nat} : Rch cs r m → Leads cs m s → Rch cs r s
theorem Rch.head {cs : List Con} {l m s : Nat} (h : Leads cs l m) (h2 : Rch cs m s) : Rch cs l s := by
  induction h2 with
  | refl => exact .step .refl h
  | step _ he ih => exact .step ih he
theorem Up.head {after : Aft} {s m r : Nat} (h : Edge after s m) (h2 : Up after m r) : Up after s r := by
  induction h2 with
  | refl => exact .step .refl h
  | step _ he ih => exact .step ih he
theorem FolOk.edge {after : Aft} {cs : List Con} (h : FolOk after cs) (s l : Nat) : Edge after s l ↔ Leads cs l s := h.mem s l
theorem FolOk.up {after : Aft} {cs : List Con} (h : FolOk after cs) (s r : Nat) : Up after s r ↔ Rch cs r s := by
  constructor
  · intro hu
    induction hu with
    | refl => exact .refl
    | step _ he ih => exact .head ((h.edge _ _).mp he) ih
  · intro hu
    induction hu with
    | refl => exact .refl
    | step _ he ih => exact .head ((h.edge _ _).mpr he) ih
structure CsOk (cs : List Con) : Prop where
  len : cs.length ≤ 30
  lt : ∀ c ∈ cs, c.1 < 6 ∧ c.2.1 < 6
theorem FolOk.aft {after : Aft} {cs : List Con} (h : FolOk after cs) (hc : CsOk cs) : AftOk after where
  lt := fun s l he => by obtain ⟨p, hp⟩ := (h.edge _ _).mp he; exact (hc.lt _ hp).1
  ins := fun s l he => by
    obtain ⟨p, hp⟩ := (h.edge _ _).mp he
    have := (h.ins _ hp).1
    have h2 : ¬ getI after l = none := fun e => by simp only [e] at this; cases this
    rw [getI_none_iff] at h2
    exact Decidable.not_not.mp h2
  small := by have := h.len; have := hc.len; omega
theorem getI_mem {K α : Type} [DecidableEq K] {es : List (K × α)} {k : K} {v : α} (hg : getI es k = some v) : (k, v) ∈ es := by
  unfold getI at hg
  cases hf' : es.find? (fun p => decide (p.1 = k)) with
  | none => rw [hf'] at hg; cases hg
  | some p =>
    rw [hf'] at hg
    have h1 := List.mem_of_find?_eq_some hf'
    have h2 := List.find?_some hf'
    simp at h2 hg
    subst h2 hg
    exact h1
theorem own_lt {live : Live} {u : List (Str × Nat)} {many r e : Nat} (hm : many ≤ 6) (hu : u.length ≤ 3) (hl : LiveOk live many) (h : e ∈ ownN live u many r) : e < 9 := by
  unfold ownN at h
  split at h
  · rename_i hr
    rcases List.mem_append.mp h with h | h
    · have := List.mem_range.mp h; omega
    · split at h
      · obtain ⟨k, hk, rfl⟩ := List.mem_map.mp h
        have := List.mem_range.mp hk; omega
      · rw [List.mem_singleton.mp h]; omega
  · cases hg : getI live r with
    | none => rw [hg] at h; simp at h
    | some sp => rw [hg] at h; have := hl.spots _ (getI_mem hg) e h; omega

abbrev fsV (n : Nat) : V := .fset (elemsI n)
structure Told (cs : List Con) (live : Live) (u : List (Str × Nat)) (many : Nat) (f : Vals) : Prop where
  nodup : (f.map (·.1)).Nodup
  keys : ∀ k ∈ f.map (·.1), k < 6
  bits : ∀ r e, (val f r).testBit e = true ↔ ∃ s, Rch cs r s ∧ e ∈ ownN live u many s

section
variable {w : World} {h₀ : Heap} {ad : Nat → Addr}
theorem fs11 (P : Pg h₀ ad) {u : List (Str × Nat)} (hu : Uni u) {live : Live} {many : Nat} (hm : many ≤ 6) (hl : LiveOk live many) {cs : List Con} (hc : CsOk cs) {Q : V → MS → Prop} {d : Nat}
    (h : ∀ f : Vals, Told cs live u many f → Q (.dictI (dV fsV f)) []) :
    FS w h₀ (d + 4) (.ref (ad 11)) [csV cs, liveV live, uV u, iV many] [] Q := by
  refine FS_intro (xs := ["constraints", "live", "universal", "many", "values"]) (gs := [("grown", .ref (ad 10)), ("begun", .ref (ad 8)), ("followers", .ref (ad 9))]) ["constraints", "live", "universal", "many"] P.f11 P.lim (.cons P.g10 (.cons P.g8 (.cons P.g9 .nil))) rfl rfl (by kernel_rfl) (fun _ _ _ vals hv => ?_) fun C hw hh hr hsto hk hgl => ?_
  · obtain ⟨a, b, c, e, rfl⟩ := len4 hv; rfl
  · simp only [ρ₀]
    refine JS_cons <| JS_Assign hsto <| JE_freeze <| JE_CallFn hw hh P.f10.is (hr.le (by omega : d + 2 ≤ d + 3)) <| JEs_cons <| JE_CallFn hw hh P.f8.is hr <| JEs_cons <| JE_Name <| JEs_cons <| JE_Name <| JEs_cons <| JE_Name <| JEs_nil ⟨[], [], [], rfl, fs8 P hu hm hl fun f0 h0n h0k h0b a => ?_⟩
    refine JEs_cons <| JE_CallFn hw hh P.f9.is (hr.le (by omega : d + 2 ≤ d + 3)) <| JEs_cons <| JE_Name <| JEs_nil ⟨[(a, _)], [], [], rfl, fs9 P (by have := hc.len; omega) fun after hF => JEs_nil ⟨[], [(a, _)], [], rfl, fs10 P (hF.aft hc) h0n h0k (fun r e hb => ?_) fun f hfn hfk hfb => ?_⟩⟩
    · rw [show val f0 r = (getI f0 r).getD 0 from rfl, h0b, decide_eq_true_eq] at hb
      exact own_lt hm hu.len hl hb
    · have hT : Told cs live u many f := ⟨hfn, hfk, fun r e => by
        rw [hfb]
        constructor
        · rintro ⟨s, h1, h2⟩
          rw [show val f0 s = (getI f0 s).getD 0 from rfl, h0b, decide_eq_true_eq] at h2
          exact ⟨s, (hF.up _ _).mp h1, h2⟩
        · rintro ⟨s, h1, h2⟩
          exact ⟨s, (hF.up _ _).mpr h1, by rw [show val f0 s = (getI f0 s).getD 0 from rfl, h0b, decide_eq_true_eq]; exact h2⟩⟩
      have h512 : ∀ r, val f r < 512 := fun r => lt512_of_bits fun e he => by
        obtain ⟨s, _, hs⟩ := (hT.bits r e).mp he
        exact own_lt hm hu.len hl hs
      have hfl : f.length ≤ 6 := by
        have := len_of_lt 6 hfn hfk
        rwa [List.length_map] at this
      refine ⟨a, _, _, rfl, .head, ?_⟩
      show ∃ ρ', SetAt _ _ (.dictI (dV iV f)) _ ρ' ∧ _
      refine ⟨_, .tail (.tail (.tail (.tail .head))), ?_⟩
      refine JS_cons <| JS_Return <| JE_DictComp ["region"] ["values"] (gs' := [("elements_of", .ref (ad 6))]) (fun i acc M => i ≤ f.length ∧ M = [] ∧ acc = dV fsV (f.take i)) f.length
        ⟨by kernel_rfl, .one (.tail (.tail (.tail (.tail .head)))) ((hk _).trans (by kernel_rfl)), hgl, ⟨_, hh, .cons P.g6 .nil⟩⟩
        (JI_of <| JE_Name ⟨_, Src_dictI, ⟨Nat.zero_le _, rfl, rfl⟩, ?_⟩)
      rintro i _ _ ⟨hi, rfl, rfl⟩
      refine ⟨hi, by rw [List.length_map, List.length_take]; omega, _, rfl, ?_⟩
      have es : ((dV iV f)[i]?).map (fun p => V.int p.1) = (f[i]?).map fun p => iV p.1 := by rw [List.getElem?_map, Option.map_map]; rfl
      rw [es]
      cases hx : f[i]? with
      | some p =>
        obtain ⟨r, n⟩ := p
        have hg := getI_of_nodup hfn hx
        have hget : getI (dV iV f) (r : Int) = some (iV n) := by rw [getI_dV, hg]; rfl
        have hn : n < 512 := by have := h512 r; unfold val at this; rw [hg] at this; exact this
        intro C' cw ch cA hsto'
        dsimp only [List.cons_append, List.nil_append]
        show JA C' ["region", "values"] _ [none, some (.dictI (dV iV f))] [] (iV r) _ _
        refine JA_Name (hsto' _ (by decide)) ⟨_, .head, JT_nil ⟨(fun h => nomatch h), fun _ => JE_Name ⟨_, rfl, ?_⟩⟩⟩
        refine JE_CallFn (cw.trans hw) (ch.trans hh) P.f6.is (by rw [cA]; exact hr.le (by omega : 1 ≤ d + 3)) <| JEs_cons <| JE_Subscript <| JE_Name <| JE_Name <| JSub_dI (.fz _) rfl hget <| JEs_nil ⟨[], [], [], rfl, fs6 (d := 0) P hn ⟨lt_of_get hx, rfl, ?_⟩⟩
        rw [← put_take hfn hx]
        exact putI_dV fsV r n (f.take i)
      | none =>
        have hend : f.length ≤ i := by simpa using hx
        rw [List.take_of_length_le hend]
        exact h f hT
end
end Mine

namespace Mine
open PySem PySem.W PySem.Calls PyProof.Rows

abbrev Came := List (Nat × Option Con)
abbrev coV : Option Con → V
  | none => .none
  | some c => cV c
inductive PathTo (came : Came) : Nat → List Con → Prop
  | nil {r : Nat} : getI came r = some none → PathTo came r []
  | snoc {r : Nat} {c : Con} {rows : List Con} : getI came r = some (some c) → PathTo came c.1 rows → PathTo came r (rows ++ [c])
theorem PathTo.put {came : Came} {k : Nat} {v : Option Con} (hk : getI came k = none) {r : Nat} {rows : List Con} (h : PathTo came r rows) : PathTo (putI came k v) r rows := by
  have key : ∀ {r : Nat} {x : Option Con}, getI came r = some x → getI (putI came k v) r = some x := fun {r x} e => by
    rw [getI_putI, if_neg (fun e' => by rw [e', hk] at e; cases e)]; exact e
  induction h with
  | nil h => exact .nil (key h)
  | snoc h _ ih => exact .snoc (key h) ih

section
variable {w : World} {h₀ : Heap} {ad : Nat → Addr}
theorem fs14 (P : Pg h₀ ad) {came : Came} {r : Nat} {rows : List Con} (hp : PathTo came r rows) (hlen : rows.length ≤ 100) {Q : V → MS → Prop} {d : Nat} (h : Q (.list (rows.map cV)) []) :
    FS w h₀ (d + 1) (.ref (ad 14)) [.dictI (dV coV came), iV r] [] Q := by
  refine FS_intro (xs := ["came", "region", "found"]) (gs := []) ["came", "region"] P.f14 P.lim .nil rfl rfl (by kernel_rfl) (fun _ _ _ vals hv => ?_) fun C hw hh hr hsto hk hgl => ?_
  · obtain ⟨a, b, rfl⟩ := len2 hv; rfl
  · simp only [ρ₀]
    refine JS_sub ?_
    refine JS_cons <| JS_Assign hsto <| JE_ListM <| JEs_nil ⟨by simp, fun a ha => ⟨_, .tail (.tail .head), ?_⟩⟩
    refine JS_cons <| JS_While (fun n ρ M => ∃ r' rs fd, PathTo came r' rs ∧ rows = rs ++ fd.reverse ∧ n = rs.length ∧ ρ = [some (.dictI (dV coV came)), some (iV r'), some (.mut a)] ∧ M = [(a, .list (fd.map cV))]) (n := rows.length)
      ⟨r, rows, [], hp, by simp, rfl, rfl, rfl⟩ ?_
    rintro n _ _ ⟨r', rs, fd, hp', hrow, rfl, rfl, rfl⟩
    have hfd : fd.length ≤ 100 := by have := congrArg List.length hrow; rw [List.length_append, List.length_reverse] at this; omega
    cases hp' with
    | nil hg =>
      have hget : getI (dV coV came) (r' : Int) = some .none := by rw [getI_dV, hg]; rfl
      refine JB_Compare <| JE_Subscript <| JE_Name <| JE_Name <| JSub_dI (.fz _) rfl hget <| JE_none <| J_isNotNone_none ⟨_, rfl, (fun hc => nomatch hc), fun hc => ?_⟩
      refine JS_cons <| JS_Return <| JE_sliceRev <| JE_Name ⟨_, .mt .head, by rw [List.length_map]; omega, ?_⟩
      rw [← List.map_reverse, show fd.reverse = rows by rw [hrow]; rfl]
      exact ⟨[], by simp, h⟩
    | snoc hg hp2 =>
      rename_i c rs
      have hget : getI (dV coV came) (r' : Int) = some (cV c) := by rw [getI_dV, hg]; rfl
      refine JB_Compare <| JE_Subscript <| JE_Name <| JE_Name <| JSub_dI (.fz _) rfl hget <| JE_none <| J_isNotNone_ref (fun w B c r => by cases r; exact ⟨_, rfl⟩) ⟨_, rfl, fun hc => ?_, fun hc => nomatch hc⟩
      refine JS_cons <| JS_Expr <| JE_Method1 <| JE_Name <| JM_append .head <| JE_Subscript <| JE_Name <| JE_Name <| JSub_dI (.fz _) rfl hget ⟨_, _, .head, by rw [List.length_map]; omega, ?_⟩
      refine JS_cons <| JS_Assign hsto <| JE_Subscript <| JE_Subscript <| JE_Name <| JE_Name <| JSub_dI (.fz _) rfl hget <| JE_int <| JSub_tup (i := 0) rfl (by decide) ⟨_, .tail .head, ?_⟩
      refine JS_nil ⟨rs.length, by rw [List.length_append]; simp, c.1, rs, fd ++ [c], hp2, by rw [hrow]; simp, rfl, rfl, ?_⟩
      rw [List.map_append]; rfl

/-- rows of a way -/
inductive Rows (cs : List Con) (r : Nat) : List Con → Nat → Prop
  | nil : Rows cs r [] r
  | snoc {rows : List Con} {c : Con} : Rows cs r rows c.1 → c ∈ cs → Rows cs r (rows ++ [c]) c.2.1

abbrev fiV (l : List Nat) : V := .fset (l.map fun i : Nat => (i : Int))
/-- the state of the search -/
structure BInv (cs : List Con) (root : Nat) (came : Came) (left : List Nat) : Prop where
  nodup : (came.map (·.1)).Nodup
  lt : ∀ k ∈ came.map (·.1), k < 6
  has : root ∈ came.map (·.1)
  path : ∀ k ∈ came.map (·.1), ∃ rows, PathTo came k rows ∧ Rows cs root rows k ∧ rows.length < came.length
  left : ∀ k ∈ left, k ∈ came.map (·.1)
theorem mem_putI_keys {K α : Type} [DecidableEq K] {es : List (K × α)} {k x : K} {v : α} : x ∈ (putI es k v).map (·.1) ↔ x ∈ es.map (·.1) ∨ x = k := by
  constructor
  · exact keys_put_mem
  · intro h
    rw [keys_putI]
    split
    · rename_i hs
      rcases h with h | rfl
      · exact h
      · rw [getI_isSome] at hs
        obtain ⟨p, hp, he⟩ := List.any_eq_true.mp hs
        rw [decide_eq_true_eq] at he
        exact he ▸ List.mem_map.mpr ⟨p, hp, rfl⟩
    · rcases h with h | rfl
      · exact List.mem_append_left _ h
      · exact List.mem_append_right _ (.head _)
theorem BInv.put {cs : List Con} {root : Nat} {came : Came} {left : List Nat} (h : BInv cs root came left) {c : Con} (hc : c ∈ cs) (h1 : c.1 ∈ came.map (·.1)) (h2 : c.2.1 < 6) (hn : getI came c.2.1 = none) : BInv cs root (putI came c.2.1 (some c)) (left ++ [c.2.1]) := by
  have hlen : (putI came c.2.1 (some c)).length = came.length + 1 := by rw [putI_absent hn, List.length_append, List.length_singleton]
  refine ⟨nodup_putI h.nodup _ _, fun k hk => ?_, mem_putI_keys.mpr (.inl h.has), fun k hk => ?_, fun k hk => ?_⟩
  · rcases keys_put_mem hk with hk | rfl
    · exact h.lt k hk
    · exact h2
  · rcases keys_put_mem hk with hk | rfl
    · obtain ⟨rows, a, b, e⟩ := h.path k hk
      exact ⟨rows, a.put hn, b, by omega⟩
    · obtain ⟨rows, a, b, e⟩ := h.path c.1 h1
      refine ⟨rows ++ [c], .snoc (by rw [getI_putI, if_pos rfl]) (a.put hn), .snoc b hc, by rw [List.length_append, List.length_singleton]; omega⟩
  · rcases List.mem_append.mp hk with hk | hk
    · exact mem_putI_keys.mpr (.inl (h.left k hk))
    · rw [List.mem_singleton.mp hk]; exact mem_putI_keys.mpr (.inr rfl)
theorem BInv.small {cs : List Con} {root : Nat} {came : Came} {left : List Nat} (h : BInv cs root came left) : came.length ≤ 6 := by
  have := len_of_lt 6 h.nodup h.lt
  rwa [List.length_map] at this

theorem fs13 (P : Pg h₀ ad) {cs : List Con} (hc : CsOk cs) {root : Nat} (hr6 : root < 6) {e : Nat} {first : List (Nat × List Nat)} (hex : ∃ s, Rch cs root s ∧ e ∈ (getI first s).getD []) {Q : V → MS → Prop} {d : Nat}
    (h : ∀ rows here, Rows cs root rows here → e ∈ (getI first here).getD [] → rows.length ≤ 100 → Q (.list (rows.map cV)) []) :
    FS w h₀ (d + 2) (.ref (ad 13)) [csV cs, iV root, iV e, .dictI (dV fiV first)] [] Q := by
  refine FS_intro (xs := ["constraints", "region", "element", "first", "came", "left", "here", "constraint"]) (gs := [("frozenset", .type "frozenset"), ("chain", .ref (ad 14))]) ["constraints", "region", "element", "first"] P.f13 P.lim (.cons P.bFroz (.cons P.g14 .nil)) rfl rfl (by kernel_rfl) (fun _ _ _ vals hv => ?_) fun C hw hh hr hsto hk hgl => ?_
  · obtain ⟨a, b, c, e, rfl⟩ := len4 hv; rfl
  · simp only [ρ₀]
    refine JS_sub ?_
    refine JS_cons <| JS_AssignT2 (hsto _ (by decide)) (hsto _ (by decide)) (by decide) <| JE_Tuple <| JEs_cons <| JE_Dict1 <| JE_Name ⟨_, rfl, JE_none fun a ha => JEs_cons <| JE_ListM <| JEs_cons <| JE_Name <| JEs_nil ⟨by simp, fun b hb => JEs_nil ⟨by simp, _, _, _, _, rfl, .tail (.tail (.tail (.tail .head))), .tail (.tail (.tail (.tail (.tail .head)))), ?_⟩⟩⟩
    have b0 : BInv cs root [(root, none)] [root] := ⟨by simp, by simpa using hr6, by simp, fun k hk => ⟨[], by have := List.mem_singleton.mp hk; subst this; exact ⟨.nil (by rw [getI_cons, if_pos rfl]), .nil, by simp⟩⟩, by simp⟩
    refine JS_cons <| JS_While (fun n ρ M => ∃ came left, BInv cs root came left ∧ (∀ x ∈ came.map (·.1), x ∈ left ∨ (e ∉ (getI first x).getD [] ∧ ∀ c ∈ cs, c.1 = x → c.2.1 ∈ came.map (·.1))) ∧ n + came.length = 6 + left.length ∧ n ≤ 6 ∧ M = [(b, .list (natsV left)), (a, .dictI (dV coV came))] ∧
      ∃ o1 o2, ρ = [some (csV cs), some (iV root), some (iV e), some (.dictI (dV fiV first)), some (.mut a), some (.mut b), o1, o2]) (n := 6)
      ⟨[(root, none)], [root], b0, by simp, by simp, by omega, rfl, none, none, rfl⟩ ?_
    rintro n _ _ ⟨came, left, hB, hcl, hn, hn6, rfl, o1, o2, rfl⟩
    have hsm := hB.small
    refine JB_Compare <| JE_Name <| JE_List <| JEs_nil ⟨by simp, J_neL EqOk.int (by decide) (.mt .head) (.fz _) (isI_nats left) (by simp) fun t ht => ⟨_, rfl, fun htt => ?_, fun htt => ?_⟩⟩
    · match left, hB, hcl, hn, ht with
      | [], _, _, _, ht => exact absurd (ht.mp htt) (by simp)
      | here :: left, hB, hcl, hn, _ =>
      rw [List.length_cons] at hn
      rw [show natsV (here :: left) = iV here :: natsV left from rfl]
      refine JS_cons <| JS_Assign hsto <| JE_Method1 <| JE_Name <| JM_pop0 (l := []) (x := .none) .head <| JE_int ⟨rfl, _, _, _, .head, by rw [List.length_map]; omega, _, .tail (.tail (.tail (.tail (.tail (.tail .head))))), ?_⟩
      have hhere := hB.left here (.head _)
      have hget : (getI (dV fiV first) (here : Int)).getD (.fset []) = fiV ((getI first here).getD []) := by rw [getI_dV]; cases getI first here <;> rfl
      refine JS_cons <| JS_If <| JB_Compare <| JE_Name <| JE_Method2 <| JE_Name <| JM_getDI (.fz _) <| JE_Name ⟨rfl, (here : Int), rfl, JE_CallT0 <| Jn_froz0 ⟨rfl, ?_⟩⟩
      rw [hget]
      have hmem : ((e : Int) ∈ ((getI first here).getD []).map fun i : Nat => (i : Int)) ↔ e ∈ (getI first here).getD [] := by
        rw [List.mem_map]
        constructor
        · rintro ⟨i, hi, hie⟩
          have : i = e := by omega
          exact this ▸ hi
        · intro hi; exact ⟨e, hi, rfl⟩
      refine J_inF ⟨_, rfl, fun hin => ?_, fun hin => ?_⟩
      · rw [decide_eq_true_eq, hmem] at hin
        obtain ⟨rows, hp1, hp2, hp3⟩ := hB.path here hhere
        refine JS_cons <| JS_Return <| JE_CallFn hw hh P.f14.is hr <| JEs_cons <| JE_freeze <| JE_Name ⟨a, _, _, rfl, .tail .head, JEs_cons <| JE_Name <| JEs_nil ⟨[(b, _)], [], [], rfl, fs14 P hp1 (by omega) ⟨[], by simp, h rows here hp2 hin (by omega)⟩⟩⟩
      · rw [decide_eq_false_iff_not, hmem] at hin
        refine JS_nil <| JS_cons <| JS_For (fun i ρ M => i ≤ cs.length ∧ (∃ came left, BInv cs root came left ∧ here ∈ came.map (·.1) ∧ (∀ x ∈ came.map (·.1), x ∈ left ∨ (x = here ∧ ∀ c ∈ cs.take i, c.1 = x → c.2.1 ∈ came.map (·.1)) ∨ (e ∉ (getI first x).getD [] ∧ ∀ c ∈ cs, c.1 = x → c.2.1 ∈ came.map (·.1))) ∧ n + came.length = 7 + left.length ∧
            M = [(b, .list (natsV left)), (a, .dictI (dV coV came))]) ∧ ∃ o2, ρ = [some (csV cs), some (iV root), some (iV e), some (.dictI (dV fiV first)), some (.mut a), some (.mut b), some (iV here), o2]) cs.length
          (JI_of <| JE_Name ⟨_, Src_list, ⟨Nat.zero_le _, ⟨came, left, ⟨hB.nodup, hB.lt, hB.has, hB.path, fun k hk => hB.left k (.tail _ hk)⟩, hhere, fun x hx => ?_, by omega, rfl⟩, _, rfl⟩, ?_⟩)
        · rcases hcl x hx with h1 | h1
          · rcases List.mem_cons.mp h1 with rfl | h1
            · exact .inr (.inl ⟨rfl, by simp⟩)
            · exact .inl h1
          · exact .inr (.inr h1)
        clear hB hcl hsm hhere
        rintro i _ _ ⟨hi, ⟨came, left, hB, hhere, hcl, hn, rfl⟩, o2, rfl⟩
        have hsm := hB.small
        refine ⟨hi, _, rfl, ?_⟩
        cases hx : (cs.map cV)[i]? with
        | some x =>
          obtain ⟨c, hcx, rfl⟩ := getm hx
          have hcm : c ∈ cs := List.mem_of_getElem? hcx
          refine JA_Name (hsto _ (by decide)) ⟨_, .tail (.tail (.tail (.tail (.tail (.tail (.tail .head)))))), ?_⟩
          have same : (c.1 = here → c.2.1 ∈ came.map (·.1)) → ∀ x ∈ came.map (·.1), x ∈ left ∨ (x = here ∧ ∀ c ∈ cs.take (i + 1), c.1 = x → c.2.1 ∈ came.map (·.1)) ∨ (e ∉ (getI first x).getD [] ∧ ∀ c ∈ cs, c.1 = x → c.2.1 ∈ came.map (·.1)) := by
            intro hs x hxk
            rcases hcl x hxk with h1 | ⟨rfl, h1⟩ | h1
            · exact .inl h1
            · refine .inr (.inl ⟨rfl, fun c' hc' he => ?_⟩)
              rw [take_snoc hcx] at hc'
              rcases List.mem_append.mp hc' with hc' | hc'
              · exact h1 c' hc' he
              · rw [List.mem_singleton.mp hc'] at he ⊢; exact hs he
            · exact .inr (.inr h1)
          refine JS_cons <| JS_If <| JB_BoolOp <| JB_and_cons <| JB_Compare <| JE_Subscript <| JE_Name <| JE_int <| JSub_tup (i := 0) rfl (by decide) <| JE_Name <| J_eqI ⟨_, rfl, fun hf => ?_, fun hT => ?_⟩
          · rw [decide_eq_false_iff_not] at hf
            refine ⟨(fun h => nomatch h), fun _ => JS_nil <| JS_nil ⟨lt_of_get hcx, ⟨came, left, hB, hhere, same fun e' => absurd (by omega) hf, hn, rfl⟩, _, rfl⟩⟩
          · rw [decide_eq_true_eq] at hT
            have hch : c.1 = here := by omega
            have hsome : (getI (dV coV came) ((c.2.1 : Nat) : Int)).isSome = (getI came c.2.1).isSome := by rw [getI_dV, Option.isSome_map]
            refine JB_and_cons <| JB_Compare <| JE_Subscript <| JE_Name <| JE_int <| JSub_tup (i := 1) rfl (by decide) <| JE_Name <| J_notInDI rfl (.mt (.tail .head)) ⟨_, rfl, fun hf => ?_, fun hT2 => ?_⟩
            · rw [hsome] at hf
              have hin2 : c.2.1 ∈ came.map (·.1) := by
                have : ¬ getI came c.2.1 = none := fun e' => by rw [e'] at hf; cases hf
                rw [getI_none_iff] at this; exact Decidable.not_not.mp this
              refine ⟨(fun h => nomatch h), fun _ => JS_nil <| JS_nil ⟨lt_of_get hcx, ⟨came, left, hB, hhere, same fun _ => hin2, hn, rfl⟩, _, rfl⟩⟩
            · rw [hsome] at hT2
              have hno : getI came c.2.1 = none := by
                cases hg : getI came c.2.1 with
                | none => rfl
                | some x => rw [hg] at hT2; cases hT2
              refine JB_and_nil ⟨fun _ => ?_, fun h => nomatch h⟩
              have hB2 := hB.put hcm (hch ▸ hhere) (hc.lt c hcm).2 hno
              have hsm2 := hB2.small
              have hl2 : (putI came c.2.1 (some c)).length = came.length + 1 := by rw [putI_absent hno, List.length_append, List.length_singleton]
              refine JS_cons <| JS_AssignSub <| JE_Name <| JE_Name <| JE_Subscript <| JE_Name <| JE_int <| JSub_tup (i := 1) rfl (by decide) <| J3_dI (.tail .head) rfl (by rw [List.length_map]; omega) ?_
              have e2 : putI (dV coV came) ((c.2.1 : Nat) : Int) (cV c) = dV coV (putI came c.2.1 (some c)) := putI_dV coV c.2.1 (some c) came
              rw [e2]
              refine JS_cons <| JS_Expr <| JE_Method1 <| JE_Name <| JM_append .head <| JE_Subscript <| JE_Name <| JE_int <| JSub_tup (i := 1) rfl (by decide) ⟨_, _, .head, by rw [List.length_map]; omega, ?_⟩
              rw [← natsV_snoc]
              refine JS_nil <| JS_nil ⟨lt_of_get hcx, ⟨_, _, hB2, mem_putI_keys.mpr (.inl hhere), fun x hxk => ?_, by rw [List.length_append, List.length_singleton]; omega, rfl⟩, _, rfl⟩
              rcases keys_put_mem hxk with hxk | rfl
              · rcases hcl x hxk with h1 | ⟨rfl, h1⟩ | ⟨h0, h1⟩
                · exact .inl (List.mem_append_left _ h1)
                · refine .inr (.inl ⟨rfl, fun c' hc' he => ?_⟩)
                  rw [take_snoc hcx] at hc'
                  rcases List.mem_append.mp hc' with hc' | hc'
                  · exact mem_putI_keys.mpr (.inl (h1 c' hc' he))
                  · rw [List.mem_singleton.mp hc']; exact mem_putI_keys.mpr (.inr rfl)
                · exact .inr (.inr ⟨h0, fun c' hc' he => mem_putI_keys.mpr (.inl (h1 c' hc' he))⟩)
              · exact .inl (List.mem_append_right _ (.head _))
        | none =>
          have hend := getn hx
          rw [List.take_of_length_le hend] at hcl
          refine JS_nil ⟨n - 1, by have := hB.small; omega, came, left, hB, fun x hxk => ?_, by omega, by omega, rfl, _, _, rfl⟩
          rcases hcl x hxk with h1 | ⟨rfl, h1⟩ | h1
          · exact .inl h1
          · exact .inr ⟨hin, h1⟩
          · exact .inr h1
    · exfalso
      have hnil : left = [] := by
        by_cases e' : left = []
        · exact e'
        · have := ht.mpr fun e2 => e' (natsV_inj (b := []) e2)
          rw [htt] at this; cases this
      subst hnil
      obtain ⟨s, hs, hes⟩ := hex
      have hall : s ∈ came.map (·.1) := by
        clear hes
        induction hs with
        | refl => exact hB.has
        | step _ he ih =>
          obtain ⟨p, hp⟩ := he
          rcases hcl _ ih with h1 | ⟨_, h1⟩
          · cases h1
          · exact h1 _ hp rfl
      rcases hcl s hall with h1 | ⟨h1, _⟩
      · cases h1
      · exact h1 hes
end
end Mine

namespace Mine
open PySem PySem.W PySem.Calls PyProof.Rows

abbrev ppV (p : Str × Str) : V := .tup [.str p.1, .str p.2]
def lackOne (g : Nat → Nat → Bool) (kn : List (Str × Str)) (n : Str) (r : Nat) (o : Str) (j : Nat) : List (Str × Str) := if o ≠ n ∧ g r j = true ∧ (n, o) ∉ kn then [(n, o)] else []
def lackRow (g : Nat → Nat → Bool) (kn : List (Str × Str)) (u : List (Str × Nat)) (n : Str) (r : Nat) : List (Str × Str) := u.flatMap fun p => lackOne g kn n r p.1 p.2
def lackN (g : Nat → Nat → Bool) (kn : List (Str × Str)) (u : List (Str × Nat)) (v : List (Str × Nat)) : List (Str × Str) := v.flatMap fun p => if p.1 = nS then [] else lackRow g kn u p.1 p.2
theorem lackOne_len (g : Nat → Nat → Bool) (kn : List (Str × Str)) (n : Str) (r : Nat) (o : Str) (j : Nat) : (lackOne g kn n r o j).length ≤ 1 := by
  unfold lackOne; split <;> simp
theorem mem_elemsI {n x : Nat} : ((x : Int) ∈ elemsI n) ↔ x < 9 ∧ n.testBit x = true := by
  unfold elemsI elemsN
  rw [List.mem_map]
  constructor
  · rintro ⟨i, hi, he⟩
    have : i = x := by omega
    subst this
    rw [List.mem_filter, List.mem_range] at hi
    exact hi
  · rintro ⟨h1, h2⟩
    exact ⟨x, List.mem_filter.mpr ⟨List.mem_range.mpr h1, h2⟩, rfl⟩
theorem isT2_pp (l : List (Str × Str)) : ∀ x ∈ l.map ppV, IsT2 IsS IsS x := fun x hx => by obtain ⟨p, _, rfl⟩ := List.mem_map.mp hx; exact .mk _ _ (.mk _) (.mk _)
theorem mem_pp {l : List (Str × Str)} {p : Str × Str} : ppV p ∈ l.map ppV ↔ p ∈ l := by
  rw [List.mem_map]
  constructor
  · rintro ⟨q, hq, e⟩
    have : q = p := by
      injection e with e; injection e with e1 e2; injection e2 with e2 _
      injection e1 with e1; injection e2 with e2
      exact Prod.ext e1 e2
    exact this ▸ hq
  · intro h; exact ⟨p, h, rfl⟩
theorem Told.has {cs : List Con} {live : Live} {u : List (Str × Nat)} {many : Nat} {f : Vals} (h : Told cs live u many f) {r e : Nat} (he : e ∈ ownN live u many r) : ∃ n, getI f r = some n := by
  have := (h.bits r e).mpr ⟨r, .refl, he⟩
  cases hg : getI f r with
  | some n => exact ⟨n, rfl⟩
  | none => unfold val at this; rw [hg] at this; simp at this
theorem own_end {live : Live} {u : List (Str × Nat)} {many r : Nat} (h : r < u.length) : many + r ∈ ownN live u many r := by
  unfold ownN
  rw [if_pos h]
  refine List.mem_append_right _ ?_
  split
  · exact List.mem_map.mpr ⟨r, List.mem_range.mpr h, rfl⟩
  · exact .head _
theorem str_getter {u : List (Str × Nat)} {i : Nat} {n : Str} {r : Nat} (h : u[i]? = some (n, r)) : (u.map fun p => V.str p.1)[i]? = some (.str n) := by rw [List.getElem?_map, h]; rfl
theorem name_getter {u : List (Str × Nat)} {i : Nat} {n : Str} {r : Nat} (h : u[i]? = some (n, r)) : (u.map (·.1))[i]? = some n := by rw [List.getElem?_map, h]; rfl

section
variable {w : World} {h₀ : Heap} {ad : Nat → Addr}
theorem fs12 (P : Pg h₀ ad) {u : List (Str × Nat)} (hu : Uni u) {live : Live} {many : Nat} (hm : many ≤ 6) {cs : List Con} {f : Vals} (hT : Told cs live u many f) {kn : List (Str × Str)} {Q : V → MS → Prop} {d : Nat}
    (h : Q (.list ((lackN (fun r j => (val f r).testBit (many + j)) kn u u).map ppV)) []) :
    FS w h₀ (d + 3) (.ref (ad 12)) [.dictI (dV fsV f), uV u, iV many, .list (kn.map ppV)] [] Q := by
  obtain ⟨tk, hstat⟩ := P.stat
  refine FS_intro (xs := ["values", "universal", "many", "known", "names", "found", "name", "other", "end"]) (gs := [("ordered_names", .ref (ad 4)), ("end_of", .ref (ad 5)), ("STATIC", .str "'static" tk)]) ["values", "universal", "many", "known"] P.f12 P.lim (.cons P.g4 (.cons P.g5 (.cons hstat .nil))) rfl rfl (by kernel_rfl) (fun _ _ _ vals hv => ?_) fun C hw hh hr hsto hk hgl => ?_
  · obtain ⟨a, b, c, e, rfl⟩ := len4 hv; rfl
  · simp only [ρ₀]
    have hu3 := hu.len
    generalize hg : (fun r j => (val f r).testBit (many + j)) = g at h
    refine JS_cons <| JS_AssignT2 (hsto _ (by decide)) (hsto _ (by decide)) (by decide) <| JE_Tuple <| JEs_cons <| JE_CallFn hw hh P.f4.is (hr.le (by omega : 1 ≤ d + 2)) <| JEs_cons <| JE_Name <| JEs_nil ⟨[], [], [], rfl, fs4 (d := 0) P hu <| JEs_cons <| JE_ListM <| JEs_nil ⟨by simp, fun b hb => JEs_nil ⟨by simp, _, _, _, _, rfl, .tail (.tail (.tail (.tail .head))), .tail (.tail (.tail (.tail (.tail .head)))), ?_⟩⟩⟩
    refine JS_cons <| JS_For (fun i ρ M => i ≤ u.length ∧ M = [(b, .list ((lackN g kn u (u.take i)).map ppV))] ∧ (lackN g kn u (u.take i)).length ≤ 10 * i ∧
      ∃ o1 o2 o3, ρ = [some (.dictI (dV fsV f)), some (uV u), some (iV many), some (.list (kn.map ppV)), some (.list (u.map fun p => .str p.1)), some (.mut b), o1, o2, o3]) u.length
      (JI_of <| JE_Name ⟨_, Src_list, ⟨Nat.zero_le _, rfl, by simp [lackN], none, none, none, rfl⟩, ?_⟩)
    rintro i _ _ ⟨hi, rfl, hlen, o1, o2, o3, rfl⟩
    refine ⟨hi, _, rfl, ?_⟩
    cases hx : u[i]? with
    | some p =>
      obtain ⟨n, r⟩ := p
      have hri := hu.at hx
      subst hri
      have hgu := hu.get hx
      have hlt := lt_of_get hx
      rw [str_getter hx]
      refine JA_Name (hsto _ (by decide)) ⟨_, .tail (.tail (.tail (.tail (.tail (.tail .head))))), ?_⟩
      refine JS_cons <| JS_If <| JB_Compare <| JE_Name <| JE_GlobStr <| J_eqS ⟨_, rfl, fun hs => ?_, fun hs => ?_⟩
      · rw [decide_eq_true_eq] at hs
        have hs : n = nS := hs
        have e : lackN g kn u (u.take (r + 1)) = lackN g kn u (u.take r) := by
          rw [take_snoc hx]; unfold lackN
          rw [List.flatMap_append, List.flatMap_singleton, if_pos hs, List.append_nil]
        exact JS_cons <| JS_Continue ⟨hlt, by rw [e], by rw [e]; omega, some (.str n), o2, o3, rfl⟩
      · rw [decide_eq_false_iff_not] at hs
        have hs : ¬ n = nS := hs
        obtain ⟨x, hxf⟩ := hT.has (own_end (live := live) (many := many) hlt)
        have hget : getI (dV fsV f) (r : Int) = some (fsV x) := by rw [getI_dV, hxf]; rfl
        have hgx : ∀ j, g r j = x.testBit (many + j) := fun j => by rw [← hg]; show (val f r).testBit _ = _; unfold val; rw [hxf]; rfl
        refine JS_nil <| JS_cons <| JS_For (fun i' ρ M => i' ≤ u.length ∧ M = [(b, .list ((lackN g kn u (u.take r) ++ lackRow g kn (u.take i') n r).map ppV))] ∧ (lackN g kn u (u.take r) ++ lackRow g kn (u.take i') n r).length ≤ 10 * r + i' ∧
          ∃ o2 o3, ρ = [some (.dictI (dV fsV f)), some (uV u), some (iV many), some (.list (kn.map ppV)), some (.list (u.map fun p => .str p.1)), some (.mut b), some (.str n), o2, o3]) u.length
          (JI_of <| JE_Name ⟨_, Src_list, ⟨Nat.zero_le _, by simp [lackRow], by simpa [lackRow] using hlen, o2, o3, rfl⟩, ?_⟩)
        rintro i' _ _ ⟨hi', rfl, hlen', o2, o3, rfl⟩
        refine ⟨hi', _, rfl, ?_⟩
        cases hx' : u[i']? with
        | some p' =>
          obtain ⟨o, j⟩ := p'
          have hji := hu.at hx'
          subst hji
          have hlt' := lt_of_get hx'
          rw [str_getter hx']
          refine JA_Name (hsto _ (by decide)) ⟨_, .tail (.tail (.tail (.tail (.tail (.tail (.tail .head)))))), ?_⟩
          refine JS_cons <| JS_Assign hsto <| JE_CallFn hw hh P.f5.is hr <| JEs_cons <| JE_Name <| JEs_cons <| JE_Name <| JEs_cons <| JE_Name <| JEs_nil ⟨[(b, _)], [], [], rfl, fs5 P hu (j := j) (name_getter hx') ?_⟩
          refine ⟨_, .tail (.tail (.tail (.tail (.tail (.tail (.tail (.tail .head))))))), ?_⟩
          rw [show (many : Int) + (j : Int) = ((many + j : Nat) : Int) by omega]
          have erow : lackRow g kn (u.take (j + 1)) n r = lackRow g kn (u.take j) n r ++ lackOne g kn n r o j := by
            rw [take_snoc hx']; unfold lackRow
            rw [List.flatMap_append, List.flatMap_singleton]
          have hl1 := lackOne_len g kn n r o j
          refine JS_cons <| JS_If <| JB_mono (Q := fun t M1 => M1 = [(b, .list ((lackN g kn u (u.take r) ++ lackRow g kn (u.take j) n r).map ppV))] ∧ (t = true ↔ (o ≠ n ∧ g r j = true ∧ (n, o) ∉ kn)))
            (JB_BoolOp <| JB_and_cons <| JB_Compare <| JE_Name <| JE_Name <| J_neS ⟨_, rfl, fun hf => ?_, fun ht => ?_⟩) ?_
          · rw [decide_eq_false_iff_not] at hf
            exact ⟨rfl, (fun h => nomatch h), fun h => absurd h.1 hf⟩
          · rw [decide_eq_true_eq] at ht
            refine JB_and_cons <| JB_Compare <| JE_Name <| JE_Subscript <| JE_Name <| JE_Subscript <| JE_Name <| JE_Name <| JSub_dS (.fz _) rfl hgu <| JSub_dI (.fz _) rfl hget <| J_inF ⟨_, rfl, fun hf => ?_, fun ht2 => ?_⟩
            · rw [decide_eq_false_iff_not, mem_elemsI] at hf
              refine ⟨rfl, (fun h => nomatch h), fun h => absurd ⟨by omega, ?_⟩ hf⟩
              rw [← hgx]; exact h.2.1
            · rw [decide_eq_true_eq, mem_elemsI] at ht2
              refine JB_and_cons <| JB_Compare <| JE_Tuple <| JEs_cons <| JE_Name <| JEs_cons <| JE_Name <| JEs_nil ⟨by simp, JE_Name <| J_notInL (EqOk.str.tup2 EqOk.str) (by decide) (.fz _) (.mk _ _ (.mk _) (.mk _)) (isT2_pp kn) fun t ht3 => ⟨_, rfl, fun hf => ?_, fun ht4 => ?_⟩⟩
              · subst hf
                refine ⟨rfl, (fun h => nomatch h), fun h => ?_⟩
                have := ht3.mpr (fun hm => h.2.2 (mem_pp (p := (n, o)) |>.mp hm))
                cases this
              · subst ht4
                have := ht3.mp rfl
                exact JB_and_nil ⟨rfl, fun _ => ⟨ht, by rw [hgx]; exact ht2.2, fun hm => this (mem_pp (p := (n, o)) |>.mpr hm)⟩, fun _ => rfl⟩
          · rintro t _ ⟨rfl, ht⟩
            rw [List.length_append] at hlen'
            refine ⟨fun htt => ?_, fun htf => ?_⟩
            · have e1 : lackOne g kn n r o j = [(n, o)] := by unfold lackOne; rw [if_pos (ht.mp htt)]
              refine JS_cons <| JS_Expr <| JE_Method1 <| JE_Name <| JM_append .head <| JE_Tuple <| JEs_cons <| JE_Name <| JEs_cons <| JE_Name <| JEs_nil ⟨by simp, _, _, .head, by rw [List.length_map, List.length_append]; omega, JS_nil <| JS_nil ⟨hlt', ?_, ?_, some (.str o), some (iV (many + j)), rfl⟩⟩
              · simp [erow, e1]
              · rw [erow, List.length_append, List.length_append]; omega
            · have e1 : lackOne g kn n r o j = [] := by unfold lackOne; rw [if_neg (fun hc => by rw [htf] at ht; cases ht.mpr hc)]
              refine JS_nil <| JS_nil ⟨hlt', ?_, ?_, some (.str o), some (iV (many + j)), rfl⟩
              · rw [erow, e1, List.append_nil]
              · rw [erow, List.length_append, List.length_append]; omega
        | none =>
          have hend : u.length ≤ i' := by simpa using hx'
          rw [show (u.map fun p => V.str p.1)[i']? = none by rw [List.getElem?_map, hx']; rfl]
          rw [List.take_of_length_le hend] at hlen' ⊢
          have e : lackN g kn u (u.take (r + 1)) = lackN g kn u (u.take r) ++ lackRow g kn u n r := by
            rw [take_snoc hx]; unfold lackN
            rw [List.flatMap_append, List.flatMap_singleton, if_neg hs]
          refine JS_nil ⟨hlt, by rw [e], by rw [e]; omega, some (.str n), o2, o3, rfl⟩
    | none =>
      have hend : u.length ≤ i := by simpa using hx
      rw [show (u.map fun p => V.str p.1)[i]? = none by rw [List.getElem?_map, hx]; rfl]
      rw [List.take_of_length_le hend]
      exact JS_cons <| JS_Return <| JE_freeze <| JE_Name ⟨b, _, _, rfl, .head, h⟩
end
end Mine

namespace Mine
open PySem PySem.W PySem.Calls PyProof.Rows

section
variable {C : Cx} {xs : List Str} {gs : List (Str × Value)} {ρ : List (Option V)} {M : MS}
/-- l[i] = v -/
theorem J3_list {a : Addr} {v : V} {l : List V} {i : Nat} {M' : MS} (hu : MUpd M a (.list l) (.list (l.set i v)) M') (hi : i < l.length) (hs : i < 1000) {Q : MS → Prop} (h : Q M') :
    J3 C xs gs ρ M (.mut a) (.int i) v (fun a b c => setItem a b c) Q :=
  fun hC G X B s m S ca cb cc ra rb rc Qc E kk => by
    cases ra; cases rb
    obtain ⟨Ma, Mb, rfl, rfl⟩ := hu.split
    obtain ⟨Y, r⟩ := S.getM
    cases r with
    | list ho hr =>
      rename_i t vs n
      refine ki_setAt (items := vs.toArray) (n := n) ho (by omega) (by omega) (by simp [hr.length]; omega) ?_
      exact kk _ X B _ m (Le.refl _) (S.updList (vs' := vs.set i cc) ho (by simp) (hr.set i rc)) h
end

/-- a source of draws -/
abbrev srM (a : Addr) (x y : Int) : Addr × MO := (a, .list [.int x, .int y])
def SrcOk (y : Int) : Prop := 0 ≤ y ∧ y < 2147483647

section
variable {w : World} {h₀ : Heap} {ad : Nat → Addr}
theorem fs17 (P : Pg h₀ ad) {a : Addr} {x y : Int} (hy : SrcOk y) {top : Nat} (h0 : 0 < top) (h1 : top ≤ 1000) {Q : V → MS → Prop} {d : Nat}
    (h : ∀ (n : Nat) (x' y' : Int), n < top → SrcOk y' → Q (iV n) [srM a x' y']) :
    FS w h₀ (d + 1) (.ref (ad 17)) [.mut a, iV top] [srM a x y] Q := by
  refine FS_intro (xs := ["source", "top", "drawn"]) (gs := [("int", .type "int")]) ["source", "top"] P.f17 P.lim (.cons P.bInt .nil) rfl rfl (by kernel_rfl) (fun _ _ _ vals hv => ?_) fun C hw hh hr hsto hk hgl => ?_
  · obtain ⟨a, b, rfl⟩ := len2 hv; rfl
  · simp only [ρ₀]
    have ht : (0 : Int) < (top : Int) := by omega
    refine JS_cons <| JS_If <| JB_Compare <| JE_Subscript <| JE_Name <| JE_int <| JSub_list (i := 0) (.mt .head) rfl (by decide) <| JE_int <| J_gtI ⟨_, rfl, fun hc => ?_, fun hc => ?_⟩
    · refine JS_cons <| JS_Assign hsto <| JE_BinOp <| JE_CallT <| JEs_cons <| JE_Subscript <| JE_Name <| JE_int <| JSub_list (i := 0) (.mt .head) rfl (by decide) <| JEs_nil <| Jn_intI <| JE_Name <| J_mod ht ⟨_, .tail (.tail .head), ?_⟩
      refine JS_cons <| JS_AssignSub <| JE_BinOp <| JE_Subscript <| JE_Name <| JE_int <| JSub_list (i := 0) (.mt .head) rfl (by decide) <| JE_Name <| J_div ht (by omega) <| JE_Name <| JE_int <| J3_list (i := 0) .head (by simp) (by decide) ?_
      refine JS_cons <| JS_Return <| JE_Name ?_
      have e0 := Int.emod_nonneg x (show (top : Int) ≠ 0 by omega)
      have e1 := Int.emod_lt_of_pos x ht
      have := h (x % (top : Int)).toNat (x / (top : Int)) y (by omega) hy
      rw [show iV (x % (top : Int)).toNat = .int (x % (top : Int)) by show V.int _ = _; rw [Int.toNat_of_nonneg e0]] at this
      exact this
    · refine JS_nil <| JS_cons <| JS_AssignSub <| JE_BinOp <| JE_CallT <| JEs_cons <| JE_BinOp <| JE_BinOp <| JE_Subscript <| JE_Name <| JE_int <| JSub_list (i := 1) (.mt .head) rfl (by decide) <| JE_int <|
        J_mul (.of_right (intBits_le_64 (by decide) (by decide))) <| JE_int <| J_add <| JEs_nil <| Jn_intI <| JE_int <| J_mod (by decide) <| JE_Name <| JE_int <| J3_list (i := 1) .head (by simp) (by decide) ?_
      have e0 := Int.emod_nonneg (y * 39373 + 7) (show (2147483647 : Int) ≠ 0 by decide)
      have e1 := Int.emod_lt_of_pos (y * 39373 + 7) (show (0 : Int) < 2147483647 by decide)
      generalize (y * 39373 + 7) % 2147483647 = z at e0 e1 ⊢
      refine JS_cons <| JS_Return <| JE_BinOp <| JE_CallT <| JEs_cons <| JE_BinOp <| JE_BinOp <| JE_CallT <| JEs_cons <| JE_BinOp <| JE_Subscript <| JE_Name <| JE_int <| JSub_list (i := 1) (.mt .head) rfl (by decide) <|
        JE_Subscript <| JE_Name <| JE_int <| JSub_list (i := 1) (.mt .head) rfl (by decide) <| J_mul (.of_right (intBits_le_64 (by omega) (by omega))) <| JEs_nil <| Jn_intI <| JE_int <| J_mod (by decide) <| JE_int <| J_div (by decide) (by decide) <| JEs_nil <| Jn_intI <| JE_Name <| J_mod ht ?_
      generalize z * z % 2147483629 / 32 = v
      have f0 := Int.emod_nonneg v (show (top : Int) ≠ 0 by omega)
      have f1 := Int.emod_lt_of_pos v ht
      have := h (v % (top : Int)).toNat x z (by omega) ⟨e0, e1⟩
      rw [show iV (v % (top : Int)).toNat = .int (v % (top : Int)) by show V.int _ = _; rw [Int.toNat_of_nonneg f0]] at this
      exact this

theorem fs16 (P : Pg h₀ ad) {ns : List Int} (hn : ns.length ≤ 1000) {k : Nat} (hk6 : k ≤ 6) {Q : V → MS → Prop} {d : Nat}
    (h : ∀ (a : Addr) (x y : Int), SrcOk y → Q (.mut a) [srM a x y]) :
    FS w h₀ (d + 1) (.ref (ad 16)) [.list (ns.map .int), iV k] [] Q := by
  refine FS_intro (xs := ["script", "k", "cell", "big", "mixed"]) (gs := [("int", .type "int"), ("len", .builtin "len"), ("max", .builtin "max")]) ["script", "k"] P.f16 P.lim (.cons P.bInt (.cons P.bLen (.cons P.bMax .nil))) rfl rfl (by kernel_rfl) (fun _ _ _ vals hv => ?_) fun C hw hh hr hsto hk hgl => ?_
  · obtain ⟨a, b, rfl⟩ := len2 hv; rfl
  · simp only [ρ₀]
    refine JS_cons <| JS_Assign hsto <| JE_int ⟨_, .tail (.tail .head), ?_⟩
    refine JS_cons <| JS_mono (Q := fun f ρ' M' => f = .next ∧ M' = [] ∧ ∃ c : Int, ρ' = [some (.list (ns.map .int)), some (iV k), some (.int c), none, none])
      (JS_If <| JB_Compare <| JE_Name <| JE_CallB <| JEs_cons <| JE_Name <| JEs_nil <| Jn_len (l := ns.map V.int) (.fz _) (by rw [List.length_map]; exact hn) <| J_ltI ⟨_, rfl, fun hc => ?_, fun hc => ?_⟩) ?_
    · rw [decide_eq_true_eq, List.length_map] at hc
      refine JS_cons <| JS_Assign hsto <| JE_Subscript <| JE_Name <| JE_Name <| JSub_list (l := ns.map V.int) (i := k) (v := .int (ns[k]'(by omega))) (.fz _) (by rw [List.getElem?_map, List.getElem?_eq_getElem (by omega)]; rfl) (by omega) ⟨_, .tail (.tail .head), JS_nil ⟨rfl, rfl, _, rfl⟩⟩
    · exact JS_nil ⟨rfl, rfl, _, rfl⟩
    · rintro f _ _ ⟨rfl, rfl, c, rfl⟩
      refine JS_cons <| JS_Assign hsto <| JE_CallB <| JEs_cons <| JE_CallT <| JEs_cons <| JE_Name <| JEs_nil <| Jn_intI <| JEs_cons <| JE_CallT <| JEs_cons <| JE_BinOp <| JE_Neg <| JE_Name <| J_sub <| JEs_nil <| Jn_intI <| JEs_nil <| Jn_max ⟨_, .tail (.tail (.tail .head)), ?_⟩
      generalize max c (-1 - c) = big
      have hm0 := Int.emod_nonneg big (show (2147483629 : Int) ≠ 0 by decide)
      have hm1 := Int.emod_lt_of_pos big (show (0 : Int) < 2147483629 by decide)
      refine JS_cons <| JS_Assign hsto <| JE_BinOp <| JE_CallT <| JEs_cons <| JE_BinOp <| JE_BinOp <| JE_BinOp <| JE_BinOp <| JE_BinOp <| JE_CallT <| JEs_cons <| JE_Name <| JEs_nil <| Jn_intI <| JE_int <| J_mod (by decide) <|
        JE_BinOp <| JE_BinOp <| JE_int <| JE_Name <| J_mul (.of_left (intBits_le_64 (by decide) (by decide))) <| JE_Name <| J_mul (j := (k : Int)) (.of_right (intBits_le_64 (by omega) (by omega))) <| J_add <| JE_BinOp <| JE_int <| JE_Name <| J_mul (.of_left (intBits_le_64 (by decide) (by decide))) <| J_add <| JE_int <| J_add <| JE_int <|
        J_mul (.of_right (intBits_le_64 (by decide) (by decide))) <| JEs_nil <| Jn_intI <| JE_int <| J_mod (by decide) ⟨_, .tail (.tail (.tail (.tail .head))), ?_⟩
      generalize (big % 2147483629 + 7919 * (k : Int) * (k : Int) + 31 * (k : Int) + 17) * 48271 = z
      have e0 := Int.emod_nonneg z (show (2147483647 : Int) ≠ 0 by decide)
      have e1 := Int.emod_lt_of_pos z (show (0 : Int) < 2147483647 by decide)
      refine JS_cons <| JS_Return <| JE_ListM <| JEs_cons <| JE_BinOp <| JE_Name <| JE_CallT <| JEs_cons <| JE_Compare <| JE_Name <| JE_BinOp <| JE_int <| JE_int <| J_pow (a := 10) (n := 18) (by decide) (by decide) <| J_geI <| JEs_nil <| Jn_intB <| J_mul (.of_right (intBits_le_64 ?_ ?_)) <| JEs_cons <| JE_Name <| JEs_nil ⟨by simp, fun b hb => h b _ _ ⟨e0, e1⟩⟩
      · split <;> decide
      · split <;> decide
end
end Mine

namespace Mine
open PySem PySem.W PySem.Calls PyProof.Rows

structure SceneOk (cs : List Con) (live : Live) (u : List (Str × Nat)) (many : Nat) : Prop where
  m2 : 2 ≤ many
  m6 : many ≤ 6
  uni : Uni u
  u2 : 2 ≤ u.length
  lok : LiveOk live many
  rise : ∀ p ∈ live, p.2.Sublist (List.range many)
  cok : CsOk cs

theorem LiveOk.put {live : Live} {many i : Nat} (h : LiveOk live many) (hk : ∀ p ∈ live, p.1 < i) (hi : i < 6) {l : List Nat} (hl : ∀ e ∈ l, e < many) (hlen : live.length ≤ i) : LiveOk (putI live i l) many := by
  have hno : getI live i = none := getI_none_iff.mpr fun hm => by
    obtain ⟨p, hp, he⟩ := List.mem_map.mp hm
    have := hk p hp; omega
  refine ⟨nodup_putI h.nodup _ _, fun p hp => ?_, fun p hp => ?_, ?_⟩
  · rw [putI_absent hno] at hp
    rcases List.mem_append.mp hp with hp | hp
    · exact h.lt p hp
    · rw [List.mem_singleton.mp hp]; exact hi
  · rw [putI_absent hno] at hp
    rcases List.mem_append.mp hp with hp | hp
    · exact h.spots p hp
    · rw [List.mem_singleton.mp hp]; exact hl
  · rw [putI_absent hno, List.length_append, List.length_singleton]; omega

section
variable {w : World} {h₀ : Heap} {ad : Nat → Addr}
set_option maxHeartbeats 2000000 in
theorem fs19 (P : Pg h₀ ad) {s : Addr} {x y : Int} (hy : SrcOk y) {Q : V → MS → Prop} {d : Nat}
    (h : ∀ (cs : List Con) (live : Live) (u : List (Str × Nat)) (many : Nat) (x y : Int), SceneOk cs live u many → SrcOk y → Q (.list [csV cs, liveV live, uV u, iV many]) [srM s x y]) :
    FS w h₀ (d + 2) (.ref (ad 19)) [.mut s] [srM s x y] Q := by
  refine FS_intro (xs := ["source", "many", "live", "region", "universal", "drawn", "turn"]) (gs := [("_law_take", .ref (ad 17)), ("range", .type "range")]) ["source"] P.f19 P.lim (.cons P.g17 (.cons P.bRange .nil)) rfl rfl (by kernel_rfl) (fun _ _ _ vals hv => ?_) fun C hw hh hr hsto hk hgl => ?_
  · obtain ⟨a, rfl⟩ := len1 hv; rfl
  · simp only [ρ₀]
    have hr1 : Room C.A 1 := hr.le (by omega)
    refine JS_cons <| JS_Assign hsto <| JE_BinOp <| JE_int <| JE_CallFn hw hh P.f17.is hr1 <| JEs_S ⟨[], [_], [], rfl, fs17 (d := 0) P hy (top := 5) (by decide) (by decide) fun n x y hn hy => J_add ⟨_, .tail .head, ?_⟩⟩
    obtain ⟨many, hmany⟩ : ∃ many : Nat, many = 2 + n := ⟨_, rfl⟩
    have hme : (2 : Int) + (n : Int) = (many : Int) := by omega
    rw [hme]
    have hm2 : 2 ≤ many := by omega
    have hm6 : many ≤ 6 := by omega
    clear hmany hme hn n
    refine JS_cons <| JS_Assign hsto <| JE_DictIM fun a ha => ⟨_, .tail (.tail .head), ?_⟩
    refine JS_cons <| JS_For (fun i ρ M => i ≤ 6 ∧ (∃ (live : Live) (x y : Int), M = [(a, .dictI (dV lV live)), srM s x y] ∧ SrcOk y ∧ LiveOk live many ∧ (∀ p ∈ live, p.2.Sublist (List.range many)) ∧ (∀ p ∈ live, p.1 < i) ∧ live.length ≤ i) ∧ ∃ o, ρ = [some (.mut s), some (iV many), some (.mut a), o, none, none, none]) 6
      (JI_of <| JE_CallT <| JEs_S <| Jn_range (n := 6) ⟨_, Src_rng (by decide), ⟨Nat.zero_le _, ⟨[], x, y, rfl, hy, ⟨.nil, by simp, by simp, by simp⟩, by simp, by simp, by simp⟩, none, rfl⟩, ?_⟩)
    clear hy
    rintro i _ _ ⟨hi, ⟨live, x, y, rfl, hy, hl, hri, hki, hli⟩, o, rfl⟩
    refine ⟨hi, _, rfl, ?_⟩
    by_cases hi6 : i < 6
    · rw [if_pos hi6]
      refine JA_Name (hsto _ (by decide)) ⟨_, .tail (.tail (.tail .head)), ?_⟩
      refine JS_cons <| JS_If <| JB_Compare <| JE_CallFn hw hh P.f17.is hr1 <| JEs_S ⟨[(a, _)], [_], [], rfl, fs17 (d := 0) P hy (top := 2) (by decide) (by decide) fun n x y hn hy => JE_int <| J_eqI ⟨_, rfl, fun hc => ?_, fun hc => ?_⟩⟩
      · refine JS_cons <| JS_AssignSub <| JE_ListComp ["spot"] ["source"] (gs' := [("_law_take", .ref (ad 17))]) (fun k acc M => k ≤ many ∧ ∃ (l : List Nat) (x y : Int), acc = natsV l ∧ l.Sublist (List.range k) ∧ M = [(a, .dictI (dV lV live)), srM s x y] ∧ SrcOk y) many
          ⟨by kernel_rfl, .one .head ((hk _).trans (by kernel_rfl)), hgl, ⟨_, hh, .cons P.g17 .nil⟩⟩
          (JI_of <| JE_CallT <| JEs_S <| Jn_range (n := many) ⟨_, Src_rng (by omega), ⟨Nat.zero_le _, [], x, y, rfl, by simp, rfl, hy⟩, ?_⟩)
        rintro k _ _ ⟨hkm, l, x, y, rfl, hls, rfl, hy⟩
        have hll : l.length ≤ k := by have := hls.length_le; rwa [List.length_range] at this
        refine ⟨hkm, by rw [List.length_map]; omega, _, rfl, ?_⟩
        by_cases hk2 : k < many
        · rw [if_pos hk2]
          intro C' cw ch cA hsto'
          dsimp only [List.cons_append, List.nil_append]
          show JA C' ["spot", "source"] _ [none, some (.mut s)] [(a, .dictI (dV lV live)), srM s x y] (iV k) _ _
          refine JA_Name (hsto' _ (by decide)) ⟨_, .head, JT_one <| JB_Compare <| JE_CallFn (cw.trans hw) (ch.trans hh) P.f17.is (by rw [cA]; exact hr1) <| JEs_S ⟨[(a, _)], [_], [], rfl, fs17 (d := 0) P hy (top := 3) (by decide) (by decide) fun n x y hn hy => JE_int <| J_eqI ⟨_, rfl, fun hc => ?_, fun hc => JE_Name ?_⟩⟩⟩
          · exact ⟨hk2, l, x, y, rfl, hls.trans (by rw [List.range_succ]; exact List.sublist_append_left _ _), rfl, hy⟩
          · exact ⟨hk2, l ++ [k], x, y, (natsV_snoc l k).symm, by rw [List.range_succ]; exact hls.append (List.Sublist.refl _), rfl, hy⟩
        · rw [if_neg hk2]
          have hkk : k = many := by omega
          subst hkk
          refine JE_Name <| JE_Name <| J3_dI .head rfl (by rw [List.length_map]; omega) ?_
          have hl' : ∀ e ∈ l, e < k := fun e he => List.mem_range.mp (hls.subset he)
          have e1 : putI (dV lV live) (i : Int) (V.list (natsV l)) = dV lV (putI live i l) := putI_dV lV i l live
          rw [e1]
          have hno : getI live i = none := getI_none_iff.mpr fun hm => by
            obtain ⟨p, hp, he⟩ := List.mem_map.mp hm
            have := hki p hp; omega
          refine JS_nil <| JS_nil ⟨hi6, ⟨_, x, y, rfl, hy, hl.put hki hi6 hl' hli, fun p hp => ?_, fun p hp => ?_, ?_⟩, _, rfl⟩
          · rw [putI_absent hno] at hp
            rcases List.mem_append.mp hp with hp | hp
            · exact hri p hp
            · rw [List.mem_singleton.mp hp]; exact hls
          · rw [putI_absent hno] at hp
            rcases List.mem_append.mp hp with hp | hp
            · have := hki p hp; omega
            · rw [List.mem_singleton.mp hp]; show i < i + 1; omega
          · have := length_putI live i l; omega
      · exact JS_nil <| JS_nil ⟨hi6, ⟨live, x, y, rfl, hy, hl, hri, fun p hp => by have := hki p hp; omega, by omega⟩, _, rfl⟩
    · rw [if_neg hi6]
      clear hki hli
      refine JS_cons <| JS_Assign hsto <| JE_Dict2S <| JE_str ⟨_, rfl, JE_int <| JE_str ⟨_, rfl, by decide, JE_int fun b hb => ⟨_, .tail (.tail (.tail (.tail .head))), ?_⟩⟩⟩
      refine JS_cons <| JS_mono (Q := fun f ρ' M' => f = .next ∧ (∃ (u : List (Str × Nat)) (x y : Int), Uni u ∧ 2 ≤ u.length ∧ SrcOk y ∧ M' = [(b, .dictS (u.map fun p => (p.1, .int (p.2 : Int)))), (a, .dictI (dV lV live)), srM s x y]) ∧ ρ' = [some (.mut s), some (iV many), some (.mut a), o, some (.mut b), none, none])
        (JS_If <| JB_Compare <| JE_CallFn hw hh P.f17.is hr1 <| JEs_S ⟨[(b, _), (a, _)], [_], [], rfl, fs17 (d := 0) P hy (top := 2) (by decide) (by decide) fun n x y hn hy => JE_int <| J_eqI ⟨_, rfl, fun hc => ?_, fun hc => ?_⟩⟩) ?_
      · exact JS_cons <| JS_AssignSub <| JE_int <| JE_Name <| JE_str <| J3_dS .head rfl (by simp) <| JS_nil ⟨rfl, ⟨_, x, y, .three, by decide, hy, rfl⟩, rfl⟩
      · exact JS_nil ⟨rfl, ⟨_, x, y, .two, by decide, hy, rfl⟩, rfl⟩
      clear hy
      rintro f _ _ ⟨rfl, ⟨u, x, y, hu, hu2, hy, rfl⟩, rfl⟩
      refine JS_cons <| JS_Assign hsto <| JE_ListM <| JEs_nil ⟨by simp, fun c hc => ⟨_, .tail (.tail (.tail (.tail (.tail .head)))), ?_⟩⟩
      refine JS_cons <| JS_For (fun i ρ M => i ≤ 8 ∧ (∃ (cs : List Con) (x y : Int), M = [(c, .list (cs.map cV)), (b, .dictS (u.map fun p => (p.1, .int (p.2 : Int)))), (a, .dictI (dV lV live)), srM s x y] ∧ SrcOk y ∧ cs.length = i ∧ ∀ c ∈ cs, c.1 < 6 ∧ c.2.1 < 6) ∧ ∃ o o', ρ = [some (.mut s), some (iV many), some (.mut a), o, some (.mut b), some (.mut c), o']) 8
        (JI_of <| JE_CallT <| JEs_cons <| JE_BinOp <| JE_int <| JE_CallFn hw hh P.f17.is hr1 <| JEs_S ⟨[(c, _), (b, _), (a, _)], [_], [], rfl, fs17 (d := 0) P hy (top := 8) (by decide) (by decide) fun n x y hn hy => J_add <| JEs_nil ?_⟩)
      rw [show (1 : Int) + (n : Int) = ((1 + n : Nat) : Int) by omega]
      refine Jn_range ⟨_, Src_rng (by omega), ⟨Nat.zero_le _, ⟨[], x, y, rfl, hy, rfl, by simp⟩, o, none, rfl⟩, ?_⟩
      clear hy
      rintro i _ _ ⟨hi, ⟨cs, x, y, rfl, hy, hcl, hcs⟩, o, o', rfl⟩
      refine ⟨hi, _, rfl, ?_⟩
      by_cases hin : i < 1 + n
      · rw [if_pos hin]
        refine JA_Name (hsto _ (by decide)) ⟨_, .tail (.tail (.tail (.tail (.tail (.tail .head))))), ?_⟩
        refine JS_cons <| JS_Expr <| JE_Method1 <| JE_Name <| JM_append .head <| JE_Tuple <| JEs_cons <| JE_CallFn hw hh P.f17.is hr1 <| JEs_S ⟨[(c, _), (b, _), (a, _)], [_], [], rfl, fs17 (d := 0) P hy (top := 6) (by decide) (by decide) fun n1 x y hn1 hy => ?_⟩
        refine JEs_cons <| JE_CallFn hw hh P.f17.is hr1 <| JEs_S ⟨[(c, _), (b, _), (a, _)], [_], [], rfl, fs17 (d := 0) P hy (top := 6) (by decide) (by decide) fun n2 x y hn2 hy => ?_⟩
        refine JEs_cons <| JE_Tuple <| JEs_cons <| JE_int <| JEs_cons <| JE_CallFn hw hh P.f17.is hr1 <| JEs_S ⟨[(c, _), (b, _), (a, _)], [_], [], rfl, fs17 (d := 0) P hy (top := many) (by omega) (by omega) fun n3 x y hn3 hy => ?_⟩
        refine JEs_nil ⟨by simp, JEs_nil ⟨by simp, _, _, .head, by rw [List.length_map]; omega, JS_nil ⟨by omega, ⟨cs ++ [(n1, n2, n3)], x, y, ?_, hy, by rw [List.length_append, List.length_singleton, hcl], fun c hc => ?_⟩, _, _, rfl⟩⟩⟩
        · simp
        · rcases List.mem_append.mp hc with hc | hc
          · exact hcs c hc
          · rw [List.mem_singleton.mp hc]; exact ⟨hn1, hn2⟩
      · rw [if_neg hin]
        refine JS_cons <| JS_Return <| JE_List <| JEs_cons <| JE_freeze <| JE_Name ⟨c, _, _, rfl, .head, JEs_cons <| JE_freeze <| JE_Name ⟨a, _, _, rfl, .tail .head, JEs_cons <| JE_freeze <| JE_Name ⟨b, _, _, rfl, .head, JEs_cons <| JE_Name <| JEs_nil ⟨by simp, ?_⟩⟩⟩⟩
        exact h cs live u many x y ⟨hm2, hm6, hu, hu2, hl, hri, ⟨by omega, hcs⟩⟩ hy
end
end Mine

namespace Mine
open PySem PySem.W PySem.Calls PyProof.Rows

abbrev endsV (u : List (Str × Nat)) (many : Nat) : V := .dictS (u.map fun p => (p.1, iV (many + p.2)))

theorem isT3_cV (cs : List Con) : ∀ x ∈ cs.map cV, IsT3 IsI IsI (IsT2 IsI IsI) x := fun x hx => by
  obtain ⟨c, _, rfl⟩ := List.mem_map.mp hx
  exact .mk _ _ _ (.mk _) (.mk _) (.mk _ _ (.mk _) (.mk _))
theorem mem_nats {l : List Nat} {i : Nat} : iV i ∈ natsV l ↔ i ∈ l := by
  rw [List.mem_map]
  constructor
  · rintro ⟨j, hj, e⟩
    injection e with e
    have : j = i := by omega
    exact this ▸ hj
  · intro h; exact ⟨i, h, rfl⟩

section
variable {w : World} {h₀ : Heap} {ad : Nat → Addr}
theorem fs20 (P : Pg h₀ ad) {u : List (Str × Nat)} (hu : Uni u) {many : Nat} {Q : V → MS → Prop} {d : Nat} (h : Q (endsV u many) []) :
    FS w h₀ (d + 1) (.ref (ad 20)) [uV u, iV many] [] Q := by
  refine FS_intro (xs := ["universal", "many"]) (gs := [("dict", .type "dict"), ("enumerate", .type "enumerate"), ("sorted", .builtin "sorted")]) ["universal", "many"] P.f20 P.lim (.cons P.bDict (.cons P.bEnum (.cons P.bSorted .nil))) rfl rfl (by kernel_rfl) (fun _ _ _ vals hv => ?_) fun C hw hh hr hsto hk hgl => ?_
  · obtain ⟨a, b, rfl⟩ := len2 hv; rfl
  · simp only [ρ₀]
    have hu3 := hu.len
    refine JS_cons <| JS_Return <| JE_CallT <| JEs_cons <| JE_ListComp ["at", "name"] ["many"] (gs' := []) (fun i acc M => i ≤ u.length ∧ M = [] ∧ acc = (u.take i).map fun p => .tup [.str p.1, iV (many + p.2)]) u.length
      ⟨by kernel_rfl, .one (.tail .head) ((hk _).trans (by kernel_rfl)), hgl, ⟨_, hh, .nil⟩⟩
      (JI_enum <| JE_CallB <| JEs_cons <| JE_Name <| JEs_nil <| Jn_sortedDS (es := u.map fun p => (p.1, V.int (p.2 : Int))) (.fz _) (by rw [List.length_map]; omega) fun ns' hp hs => ?_)
    rw [List.map_map] at hp
    have := sorted_uni hu hp hs
    subst this
    refine ⟨_, rfl, ⟨Nat.zero_le _, rfl, rfl⟩, ?_⟩
    rintro i _ _ ⟨hi, rfl, rfl⟩
    refine ⟨hi, by rw [List.length_map, List.length_take]; omega, _, rfl, ?_⟩
    cases hx : u[i]? with
    | some p =>
      obtain ⟨n, r⟩ := p
      have hri := hu.at hx
      subst hri
      rw [show ((u.map (·.1)).map V.str)[r]? = some (.str n) by rw [List.getElem?_map, List.getElem?_map, hx]; rfl]
      intro C' cw ch cA hsto'
      dsimp only [List.cons_append, List.nil_append]
      show JA C' ["at", "name", "many"] _ [none, none, some (iV many)] [] (.tup [.int r, .str n]) _ _
      refine JA_Tuple (.tup _) (by simp) (JAs_cons <| JA_Name (hsto' _ (by decide)) ⟨_, .head, JAs_cons <| JA_Name (hsto' _ (by decide)) ⟨_, .tail .head, JAs_nil <| JT_nil ⟨(fun h => nomatch h), fun _ => JE_Tuple <| JEs_cons <| JE_Name <| JEs_cons <| JE_BinOp <| JE_Name <| JE_Name <| J_add <| JEs_nil ⟨by simp, lt_of_get hx, rfl, ?_⟩⟩⟩⟩) rfl rfl
      rw [take_snoc hx, List.map_append]
      rfl
    | none =>
      have hend : u.length ≤ i := by simpa using hx
      rw [show ((u.map (·.1)).map V.str)[i]? = none by rw [List.getElem?_map, List.getElem?_map, hx]; rfl]
      rw [List.take_of_length_le hend]
      refine JEs_nil ?_
      have e : (u.map fun p => V.tup [.str p.1, iV (many + p.2)]) = (u.map fun p => (p.1, iV (many + p.2))).map fun p => .tup [.str p.1, p.2] := by rw [List.map_map]; rfl
      show Jn _ _ _ _ _ [.list (u.map fun p => V.tup [.str p.1, iV (many + p.2)])] _ _
      rw [e]
      exact Jn_dictS (by rw [List.length_map]; omega) (by rw [List.map_map]; exact hu.nodup) h

/-- what is reached -/
structure RInv (cs : List Con) (r : Nat) (l : List Nat) : Prop where
  nodup : l.Nodup
  lt : ∀ k ∈ l, k < 6
  has : r ∈ l
  sound : ∀ k ∈ l, Rch cs r k
theorem RInv.small {cs : List Con} {r : Nat} {l : List Nat} (h : RInv cs r l) : l.length ≤ 6 := len_of_lt 6 h.nodup h.lt
theorem RInv.snoc {cs : List Con} (hc : CsOk cs) {r : Nat} {l : List Nat} (h : RInv cs r l) {c : Con} (hcm : c ∈ cs) (h1 : c.1 ∈ l) (h2 : c.2.1 ∉ l) : RInv cs r (l ++ [c.2.1]) where
  nodup := List.nodup_append.mpr ⟨h.nodup, by simp, fun a ha b hb e => by rw [List.mem_singleton.mp hb] at e; exact h2 (e ▸ ha)⟩
  lt := fun k hk => by
    rcases List.mem_append.mp hk with hk | hk
    · exact h.lt k hk
    · rw [List.mem_singleton.mp hk]; exact (hc.lt c hcm).2
  has := List.mem_append_left _ h.has
  sound := fun k hk => by
    rcases List.mem_append.mp hk with hk | hk
    · exact h.sound k hk
    · rw [List.mem_singleton.mp hk]; exact .step (h.sound _ h1) ⟨c.2.2, hcm⟩

theorem fs22 (P : Pg h₀ ad) {cs : List Con} (hc : CsOk cs) {r : Nat} (hr6 : r < 6) {Q : V → MS → Prop} {d : Nat}
    (h : ∀ l : List Nat, l.length ≤ 6 → (∀ k, k ∈ l ↔ Rch cs r k) → (∀ k ∈ l, k < 6) → Q (lV l) []) :
    FS w h₀ (d + 1) (.ref (ad 22)) [csV cs, iV r] [] Q := by
  refine FS_intro (xs := ["drawn", "region", "found", "here", "longer_here", "shorter", "point"]) (gs := []) ["drawn", "region"] P.f22 P.lim .nil rfl rfl (by kernel_rfl) (fun _ _ _ vals hv => ?_) fun C hw hh hr hsto hk hgl => ?_
  · obtain ⟨a, b, rfl⟩ := len2 hv; rfl
  · simp only [ρ₀]
    refine JS_cons <| JS_Assign hsto <| JE_ListM <| JEs_cons <| JE_Name <| JEs_nil ⟨by simp, fun a ha => ⟨_, .tail (.tail .head), ?_⟩⟩
    refine JS_cons <| JS_For (fun i ρ M => i ≤ 6 ∧ (∃ l : List Nat, RInv cs r l ∧ i ≤ l.length ∧ (∀ j k, j < i → l[j]? = some k → ∀ c ∈ cs, c.1 = k → c.2.1 ∈ l) ∧ M = [(a, .list (natsV l))]) ∧ ∃ o1 o2 o3 o4, ρ = [some (csV cs), some (iV r), some (.mut a), o1, o2, o3, o4]) 6
      (JI_of <| JE_Name ⟨_, Src_listM (l0 := natsV [r]) (M1 := []) (M2 := []), ⟨Nat.zero_le _, ⟨[r], ⟨by simp, by simpa using hr6, by simp, by simpa using Rch.refl⟩, by simp, fun j k hj => absurd hj (Nat.not_lt_zero _), rfl⟩, none, none, none, none, rfl⟩, ?_⟩)
    rintro i _ _ ⟨hi, ⟨l, hR, hil, hcl, rfl⟩, o1, o2, o3, o4, rfl⟩
    refine ⟨hi, (natsV l)[i]?, ⟨natsV l, [], [], rfl, rfl⟩, ?_⟩
    cases hx : (natsV l)[i]? with
    | some x =>
      obtain ⟨here, hhx, rfl⟩ := getm hx
      have hlt := lt_of_get hhx
      refine JA_Name (hsto _ (by decide)) ⟨_, .tail (.tail (.tail .head)), ?_⟩
      refine JS_cons <| JS_For (fun k ρ M => k ≤ cs.length ∧ (∃ l : List Nat, RInv cs r l ∧ l[i]? = some here ∧ (∀ j k, j < i → l[j]? = some k → ∀ c ∈ cs, c.1 = k → c.2.1 ∈ l) ∧ (∀ c ∈ cs.take k, c.1 = here → c.2.1 ∈ l) ∧ M = [(a, .list (natsV l))]) ∧ ∃ o2 o3 o4, ρ = [some (csV cs), some (iV r), some (.mut a), some (iV here), o2, o3, o4]) cs.length
        (JI_of <| JE_Name ⟨_, Src_list, ⟨Nat.zero_le _, ⟨l, hR, hhx, hcl, by simp, rfl⟩, o2, o3, o4, rfl⟩, ?_⟩)
      clear hR hil hcl hx hhx hlt
      rintro k _ _ ⟨hk, ⟨l, hR, hhx, hcl, hcl2, rfl⟩, o2, o3, o4, rfl⟩
      have hsm := hR.small
      refine ⟨hk, _, rfl, ?_⟩
      cases hx : (cs.map cV)[k]? with
      | some x =>
        obtain ⟨c, hcx, rfl⟩ := getm hx
        have hcm : c ∈ cs := List.mem_of_getElem? hcx
        refine JA_Tuple (.tup _) (by simp) (JAs_cons <| JA_Name (hsto _ (by decide)) ⟨_, .tail (.tail (.tail (.tail .head))), JAs_cons <| JA_Name (hsto _ (by decide)) ⟨_, .tail (.tail (.tail (.tail (.tail .head)))), JAs_cons <| JA_Name (hsto _ (by decide)) ⟨_, .tail (.tail (.tail (.tail (.tail (.tail .head))))), JAs_nil ?_⟩⟩⟩) rfl rfl
        have keep : (c.1 = here → c.2.1 ∈ l) → ∀ c' ∈ cs.take (k + 1), c'.1 = here → c'.2.1 ∈ l := fun hh c' hc' he => by
          rw [take_snoc hcx] at hc'
          rcases List.mem_append.mp hc' with hc' | hc'
          · exact hcl2 c' hc' he
          · rw [List.mem_singleton.mp hc'] at he ⊢; exact hh he
        refine JS_cons <| JS_If <| JB_BoolOp <| JB_and_cons <| JB_Compare <| JE_Name <| JE_Name <| J_eqI ⟨_, rfl, fun hf => ?_, fun ht => ?_⟩
        · rw [decide_eq_false_iff_not] at hf
          exact ⟨(fun h => nomatch h), fun _ => JS_nil <| JS_nil ⟨lt_of_get hcx, ⟨l, hR, hhx, hcl, keep fun e => absurd (by omega) hf, rfl⟩, _, _, _, rfl⟩⟩
        · rw [decide_eq_true_eq] at ht
          have hch : c.1 = here := by omega
          refine JB_and_cons <| JB_Compare <| JE_Name <| JE_Name <| J_notInL EqOk.int (by decide) (.mt .head) (.mk _) (isI_nats l) fun t ht2 => ⟨_, rfl, fun hf => ?_, fun htt => JB_and_nil ⟨fun _ => ?_, fun h => nomatch h⟩⟩
          · subst hf
            have hin : c.2.1 ∈ l := by
              by_cases hin : c.2.1 ∈ l
              · exact hin
              · have := ht2.mpr fun hm => hin (mem_nats.mp hm)
                cases this
            exact ⟨(fun h => nomatch h), fun _ => JS_nil <| JS_nil ⟨lt_of_get hcx, ⟨l, hR, hhx, hcl, keep fun _ => hin, rfl⟩, _, _, _, rfl⟩⟩
          · subst htt
            have hnin : c.2.1 ∉ l := fun hm => (ht2.mp rfl) (mem_nats.mpr hm)
            have hR2 := hR.snoc hc hcm (by rw [hch]; exact List.mem_of_getElem? hhx) hnin
            refine JS_cons <| JS_Expr <| JE_Method1 <| JE_Name <| JM_append .head <| JE_Name ⟨_, _, .head, by rw [List.length_map]; omega, ?_⟩
            rw [← natsV_snoc]
            refine JS_nil <| JS_nil ⟨lt_of_get hcx, ⟨_, hR2, ?_, fun j k' hj hjk c' hc' he => ?_, fun c' hc' he => ?_, rfl⟩, _, _, _, rfl⟩
            · rw [List.getElem?_append_left (lt_of_get hhx)]; exact hhx
            · rw [List.getElem?_append_left (by have := lt_of_get hhx; omega)] at hjk
              exact List.mem_append_left _ (hcl j k' hj hjk c' hc' he)
            · rw [take_snoc hcx] at hc'
              rcases List.mem_append.mp hc' with hc' | hc'
              · exact List.mem_append_left _ (hcl2 c' hc' he)
              · rw [List.mem_singleton.mp hc']; exact List.mem_append_right _ (.head _)
      | none =>
        have hend := getn hx
        rw [List.take_of_length_le hend] at hcl2
        have hlt := lt_of_get hhx
        refine JS_nil ⟨by omega, ⟨l, hR, hlt, fun j k' hj hjk => ?_, rfl⟩, _, _, _, _, rfl⟩
        by_cases hji : j = i
        · subst hji
          rw [hhx] at hjk; cases hjk
          exact hcl2
        · exact hcl j k' (by omega) hjk
    | none =>
      have hend := getn hx
      refine JS_cons <| JS_Return <| JE_freeze <| JE_Name ⟨a, _, _, rfl, .head, h l hR.small (fun k => ⟨hR.sound k, fun hk => ?_⟩) hR.lt⟩
      induction hk with
      | refl => exact hR.has
      | step _ he ih =>
        obtain ⟨p, hp⟩ := he
        obtain ⟨j, hj⟩ := List.mem_iff_getElem?.mp ih
        exact hcl j _ (by have := lt_of_get hj; omega) hj _ hp rfl
end
end Mine

namespace Mine
open PySem PySem.W PySem.Calls PyProof.Rows

abbrev rgL {α : Type} (k : Nat) (F : Nat → α) : List (Nat × α) := (List.range k).map fun r => (r, F r)
theorem getI_rg {α : Type} (F : Nat → α) (j : Nat) : ∀ k, getI (rgL k F) j = if j < k then some (F j) else none
  | 0 => by simp [rgL, getI_nil]
  | k + 1 => by
    show getI ((List.range (k + 1)).map _) j = _
    rw [List.range_succ, List.map_append, getI_append]
    have := getI_rg F j k
    rw [show getI ((List.range k).map fun r => (r, F r)) j = _ from this]
    by_cases h : j < k
    · rw [if_pos h, if_pos (by omega)]; rfl
    · rw [if_neg h]
      show getI [(k, F k)] j = _
      rw [getI_cons, getI_nil]
      by_cases h2 : k = j
      · subst h2; simp
      · rw [if_neg h2, if_neg (by omega)]
theorem put_rg {α : Type} (F : Nat → α) (v : α) {k j : Nat} (h : j < k) : putI (rgL k F) j v = rgL k fun r => if r = j then v else F r := by
  unfold putI
  have : (rgL k F).any (fun p => decide (p.1 = j)) = true := by
    rw [← getI_isSome, getI_rg, if_pos h]; rfl
  rw [if_pos this]
  show List.map _ (List.map _ _) = _
  rw [List.map_map]
  refine List.map_congr_left fun r _ => ?_
  simp only [Function.comp]
  by_cases h2 : r = j
  · simp [h2]
  · simp [h2]
theorem put_rg_new {α : Type} (F : Nat → α) (k : Nat) : putI (rgL k F) k (F k) = rgL (k + 1) F := by
  rw [putI_absent (by rw [getI_rg, if_neg (by omega)])]
  show _ = (List.range (k + 1)).map _
  rw [List.range_succ, List.map_append]; rfl
theorem rg_congr {α : Type} {F G : Nat → α} {k : Nat} (h : ∀ r, r < k → F r = G r) : rgL k F = rgL k G := List.map_congr_left fun r hr => by rw [h r (List.mem_range.mp hr)]
theorem rg_len {α : Type} (F : Nat → α) (k : Nat) : (rgL k F).length = k := by rw [List.length_map, List.length_range]

abbrev ownL (live : Live) (u : List (Str × Nat)) (many : Nat) : List (Nat × List Nat) := rgL 6 (ownN live u many)
theorem Uni.ends {u : List (Str × Nat)} (hu : Uni u) (many : Nat) {j : Nat} {n : Str} {r : Nat} (h : u[j]? = some (n, r)) : getI (u.map fun p => (p.1, iV (many + p.2))) n = some (iV (many + j)) := by
  have := hu.at h
  subst this
  refine getI_of_nodup (i := r) (by rw [List.map_map]; exact hu.nodup) ?_
  rw [List.getElem?_map, h]; rfl

section
variable {w : World} {h₀ : Heap} {ad : Nat → Addr}
theorem live_spots {live : Live} {many r : Nat} (hl : LiveOk live many) (hri : ∀ p ∈ live, p.2.Sublist (List.range many)) : ((getI live r).getD []).Sublist (List.range many) := by
  cases hg : getI live r with
  | none => simp
  | some l => exact hri _ (getI_mem hg)

set_option maxHeartbeats 2000000 in
theorem fs21 (P : Pg h₀ ad) {u : List (Str × Nat)} (hu : Uni u) {live : Live} {many : Nat} (hm : many ≤ 6) (hl : LiveOk live many) (hri : ∀ p ∈ live, p.2.Sublist (List.range many)) {Q : V → MS → Prop} {d : Nat} (h : Q (.dictI (dV lV (ownL live u many))) []) :
    FS w h₀ (d + 2) (.ref (ad 21)) [liveV live, uV u, iV many] [] Q := by
  refine FS_intro (xs := ["live", "universal", "many", "ends", "found", "region", "name"]) (gs := [("_law_ends", .ref (ad 20)), ("range", .type "range"), ("list", .type "list"), ("sorted", .builtin "sorted")]) ["live", "universal", "many"] P.f21 P.lim (.cons P.g20 (.cons P.bRange (.cons P.bList (.cons P.bSorted .nil)))) rfl rfl (by kernel_rfl) (fun _ _ _ vals hv => ?_) fun C hw hh hr hsto hk hgl => ?_
  · obtain ⟨a, b, c, rfl⟩ := len3 hv; rfl
  · simp only [ρ₀]
    have hu3 := hu.len
    refine JS_cons <| JS_AssignT2 (hsto _ (by decide)) (hsto _ (by decide)) (by decide) <| JE_Tuple <| JEs_cons <| JE_CallFn hw hh P.f20.is (hr.le (by omega : 1 ≤ d + 1)) <| JEs_cons <| JE_Name <| JEs_cons <| JE_Name <| JEs_nil ⟨[], [], [], rfl, fs20 (d := 0) P hu <| JEs_cons <| JE_DictIM fun a ha => JEs_nil ⟨by simp, _, _, _, _, rfl, .tail (.tail (.tail .head)), .tail (.tail (.tail (.tail .head))), ?_⟩⟩
    generalize hF : (fun r => (getI live r).getD []) = F
    refine JS_cons <| JS_For (fun i ρ M => i ≤ 6 ∧ M = [(a, .dictI (dV lV (rgL i F)))] ∧ ∃ o, ρ = [some (liveV live), some (uV u), some (iV many), some (endsV u many), some (.mut a), o, none]) 6
      (JI_of <| JE_CallT <| JEs_cons <| JE_int <| JEs_nil <| Jn_range (n := 6) ⟨_, Src_rng (by decide), ⟨Nat.zero_le _, rfl, none, rfl⟩, ?_⟩)
    rintro i _ _ ⟨hi, rfl, o, rfl⟩
    refine ⟨hi, _, rfl, ?_⟩
    by_cases hi6 : i < 6
    · rw [if_pos hi6]
      have hsp : (F i).Sublist (List.range many) := by rw [← hF]; exact live_spots hl hri
      have hsl : (F i).length ≤ 6 := by have := hsp.length_le; rw [List.length_range] at this; omega
      refine JA_Name (hsto _ (by decide)) ⟨_, .tail (.tail (.tail (.tail (.tail .head)))), ?_⟩
      have eget : (getI (dV lV live) (i : Int)).getD (.list []) = lV (F i) := by
        have hFi : F i = (getI live i).getD [] := by rw [← hF]
        rw [getI_dV, hFi]; cases getI live i <;> rfl
      refine JS_cons <| JS_AssignSub <| JE_ListComp ["spot"] [] (gs' := [("int", .type "int")]) (fun k acc M => k ≤ (F i).length ∧ acc = natsV ((F i).take k) ∧ M = [(a, .dictI (dV lV (rgL i F)))]) (F i).length
        ⟨by kernel_rfl, .nil, hgl, ⟨_, hh, .cons P.bInt .nil⟩⟩
        (JI_of <| JE_Method2 <| JE_Name <| JM_getDI (.fz _) <| JE_Name ⟨rfl, (i : Int), rfl, JE_List <| JEs_nil ⟨by simp, rfl, ?_⟩⟩)
      rw [eget]
      refine ⟨_, Src_list, ⟨Nat.zero_le _, rfl, rfl⟩, ?_⟩
      rintro k _ _ ⟨hk2, rfl, rfl⟩
      refine ⟨hk2, by rw [List.length_map, List.length_take]; omega, _, rfl, ?_⟩
      cases hx : (natsV (F i))[k]? with
      | some x =>
        obtain ⟨e, hex, rfl⟩ := getm hx
        intro C' cw ch cA hsto'
        dsimp only [List.cons_append, List.nil_append]
        show JA C' ["spot"] _ [none] [(a, .dictI (dV lV (rgL i F)))] (iV e) _ _
        refine JA_Name (hsto' _ (by decide)) ⟨_, .head, JT_nil ⟨(fun h => nomatch h), fun _ => JE_CallT <| JEs_cons <| JE_Name <| JEs_nil <| Jn_intI ⟨lt_of_get hex, ?_, rfl⟩⟩⟩
        rw [take_snoc hex, natsV_snoc]
      | none =>
        have hend := getn hx
        rw [List.take_of_length_le hend]
        refine JE_Name <| JE_Name <| J3_dI .head rfl (by rw [List.length_map, rg_len]; omega) ?_
        have e1 : putI (dV lV (rgL i F)) (i : Int) (V.list (natsV (F i))) = dV lV (putI (rgL i F) i (F i)) := putI_dV lV i (F i) (rgL i F)
        rw [e1, put_rg_new]
        exact JS_nil ⟨hi6, rfl, _, rfl⟩
    · rw [if_neg hi6]
      have hi' : i = 6 := by omega
      subst hi'
      refine JS_cons <| JS_For (fun i ρ M => i ≤ u.length ∧ M = [(a, .dictI (dV lV (rgL 6 fun r => if r < i then List.range many ++ [many + r] else F r)))] ∧ ∃ o1 o2, ρ = [some (liveV live), some (uV u), some (iV many), some (endsV u many), some (.mut a), o1, o2]) u.length
        (JI_of <| JE_Name ⟨_, Src_dictS, ⟨Nat.zero_le _, ?_, o, none, rfl⟩, ?_⟩)
      · rw [show rgL 6 (fun r => if r < 0 then List.range many ++ [many + r] else F r) = rgL 6 F from rg_congr fun r _ => if_neg (Nat.not_lt_zero _)]
      rintro i _ _ ⟨hi, rfl, o1, o2, rfl⟩
      refine ⟨hi, _, rfl, ?_⟩
      have es : ((u.map fun p => (p.1, V.int (p.2 : Int)))[i]?).map (fun p => V.str p.1) = (u[i]?).map fun p => V.str p.1 := by rw [List.getElem?_map, Option.map_map]; rfl
      rw [es]
      cases hx : u[i]? with
      | some p =>
        obtain ⟨n, r⟩ := p
        have hri' := hu.at hx
        subst hri'
        have hlt := lt_of_get hx
        refine JA_Name (hsto _ (by decide)) ⟨_, .tail (.tail (.tail (.tail (.tail (.tail .head))))), ?_⟩
        refine JS_cons <| JS_AssignSub <| JE_BinOp <| JE_CallT <| JEs_cons <| JE_CallT <| JEs_cons <| JE_Name <| JEs_nil <| Jn_range (n := many) <| JEs_nil <| Jn_listRange (by omega) <| JE_List <| JEs_cons <| JE_Subscript <| JE_Name <| JE_Name <| JSub_dS (.fz _) rfl (hu.ends many hx) <| JEs_nil ⟨by simp, ?_⟩
        refine J_addL (.fz _) (.fz _) (by rw [List.length_map, List.length_range]; simp; omega) ?_
        refine JE_Name <| JE_Subscript <| JE_Name <| JE_Name <| JSub_dS (.fz _) rfl (hu.get hx) <| J3_dI .head rfl (by rw [List.length_map, rg_len]; omega) ?_
        have e1 : ((List.range many).map (fun i : Nat => V.int (i : Int)) ++ [iV (many + r)]) = natsV (List.range many ++ [many + r]) := (natsV_snoc _ _).symm
        rw [e1]
        have e2 := putI_dV lV r (List.range many ++ [many + r]) (rgL 6 fun r' => if r' < r then List.range many ++ [many + r'] else F r')
        rw [show V.list (natsV (List.range many ++ [many + r])) = lV (List.range many ++ [many + r]) from rfl, e2, put_rg _ _ (by omega)]
        refine JS_nil ⟨hlt, ?_, _, _, rfl⟩
        rw [rg_congr (G := fun r' => if r' < r + 1 then List.range many ++ [many + r'] else F r') fun r' _ => ?_]
        by_cases h1 : r' = r
        · subst h1; simp
        · simp only [h1, if_false]
          by_cases h2 : r' < r
          · rw [if_pos h2, if_pos (by omega)]
          · rw [if_neg h2, if_neg (by omega)]
      | none =>
        have hend : u.length = i := by have : u.length ≤ i := by simpa using hx
                                       omega
        subst hend
        refine JS_cons <| JS_mono (Q := fun f ρ' M' => f = .next ∧ M' = [(a, .dictI (dV lV (ownL live u many)))] ∧ ρ' = [some (liveV live), some (uV u), some (iV many), some (endsV u many), some (.mut a), o1, o2])
          (JS_If <| JB_Compare <| JE_str <| JE_Name <| J_inDS rfl (.fz _) ⟨_, rfl, fun hc => ?_, fun hc => ?_⟩) ?_
        · rw [hu.stat, decide_eq_true_eq] at hc
          have hends : ∀ i n r, u[i]? = some (n, r) → getI (u.map fun p => (p.1, iV (many + p.2))) n = some (iV (many + i)) := fun i n r hx => hu.ends many hx
          refine JS_cons <| JS_AssignSub <| JE_BinOp <| JE_CallT <| JEs_cons <| JE_CallT <| JEs_cons <| JE_Name <| JEs_nil <| Jn_range (n := many) <| JEs_nil <| Jn_listRange (by omega) <|
            JE_ListComp ["name"] ["ends"] (gs' := []) (fun k acc M => k ≤ u.length ∧ acc = natsV ((List.range k).map (many + ·)) ∧ M = [(a, .dictI (dV lV (rgL 6 fun r => if r < u.length then List.range many ++ [many + r] else F r)))]) u.length
            ⟨by kernel_rfl, .one (.tail (.tail (.tail .head))) ((hk _).trans (by kernel_rfl)), hgl, ⟨_, hh, .nil⟩⟩
            (JI_of <| JE_CallB <| JEs_cons <| JE_Name <| JEs_nil <| Jn_sortedDS (es := u.map fun p => (p.1, V.int (p.2 : Int))) (.fz _) (by rw [List.length_map]; omega) fun ns' hp hs => ?_)
          rw [List.map_map] at hp
          have := sorted_uni hu hp hs
          subst this
          refine ⟨_, Src_list, ⟨Nat.zero_le _, rfl, rfl⟩, ?_⟩
          rintro k _ _ ⟨hk2, rfl, rfl⟩
          refine ⟨hk2, by rw [List.length_map, List.length_map, List.length_range]; omega, _, rfl, ?_⟩
          cases hx' : u[k]? with
          | some p =>
            obtain ⟨n, r⟩ := p
            rw [show ((u.map (·.1)).map V.str)[k]? = some (.str n) by rw [List.getElem?_map, List.getElem?_map, hx']; rfl]
            intro C' cw ch cA hsto'
            dsimp only [List.cons_append, List.nil_append]
            show JA C' ["name", "ends"] _ [none, some (endsV u many)] [(a, .dictI (dV lV (rgL 6 fun r => if r < u.length then List.range many ++ [many + r] else F r)))] (.str n) _ _
            refine JA_Name (hsto' _ (by decide)) ⟨_, .head, JT_nil ⟨(fun h => nomatch h), fun _ => JE_Subscript <| JE_Name <| JE_Name <| JSub_dS (.fz _) rfl (hends k n r hx') ⟨lt_of_get hx', ?_, rfl⟩⟩⟩
            rw [List.range_succ, List.map_append, ← natsV_snoc]; rfl
          | none =>
            have hend : u.length ≤ k := by simpa using hx'
            have hku : k = u.length := by omega
            subst hku
            rw [show ((u.map (·.1)).map V.str)[u.length]? = none by rw [List.getElem?_map, List.getElem?_map, hx']; rfl]
            refine J_addL (.fz _) (.fz _) (by rw [List.length_map, List.length_map, List.length_map, List.length_range, List.length_range]; omega) ?_
            refine JE_Name <| JE_Subscript <| JE_Name <| JE_str <| JSub_dS (.fz _) rfl (hu.getS hc) <| J3_dI .head rfl (by rw [List.length_map, rg_len]; omega) ?_
            have e1 : ((List.range many).map (fun i : Nat => V.int (i : Int)) ++ natsV ((List.range u.length).map (many + ·))) = natsV (List.range many ++ (List.range u.length).map (many + ·)) := List.map_append.symm
            rw [e1]
            have e2 := putI_dV lV 2 (List.range many ++ (List.range u.length).map (many + ·)) (rgL 6 fun r' => if r' < u.length then List.range many ++ [many + r'] else F r')
            rw [show V.list (natsV (List.range many ++ (List.range u.length).map (many + ·))) = lV (List.range many ++ (List.range u.length).map (many + ·)) from rfl, e2, put_rg _ _ (by omega)]
            refine JS_nil ⟨rfl, ?_, rfl⟩
            rw [rg_congr (G := ownN live u many) fun r _ => ?_]
            unfold ownN
            by_cases h1 : r = 2
            · subst h1; rw [if_pos rfl, if_pos (by omega), if_pos rfl]
            · rw [if_neg h1]
              by_cases h2 : r < u.length
              · rw [if_pos h2, if_pos h2, if_neg h1]
              · rw [if_neg h2, if_neg h2, ← hF]
        · rw [hu.stat, decide_eq_false_iff_not] at hc
          refine JS_nil ⟨rfl, ?_, rfl⟩
          rw [rg_congr (G := ownN live u many) fun r _ => ?_]
          unfold ownN
          by_cases h1 : r < u.length
          · rw [if_pos h1, if_pos h1, if_neg (by omega)]
          · rw [if_neg h1, if_neg h1, ← hF]
        · rintro f _ _ ⟨rfl, rfl, rfl⟩
          exact JS_cons <| JS_Return <| JE_freeze <| JE_Name ⟨a, _, _, rfl, .head, h⟩
end
end Mine

namespace Mine
open PySem PySem.W PySem.Calls PyProof.Rows

theorem EqOk.up {n : Nat} {P : V → Prop} (h : EqOk n P) : EqOk (n + 1) P := ⟨fun a b ha hb w B A s ca cb kB hu ra rb => h.eq a b ha hb w B A s ca cb kB (by omega) ra rb, h.same⟩
theorem range_split {a b : Nat} (h : a ≤ b) : List.range b = List.range a ++ (List.range (b - a)).map (a + ·) := by
  obtain ⟨k, rfl⟩ : ∃ k, b = a + k := ⟨b - a, by omega⟩
  rw [List.range_add, Nat.add_sub_cancel_left]
theorem own_sub {live : Live} {u : List (Str × Nat)} {many : Nat} (hm : many ≤ 6) (hu : u.length ≤ 3) (hl : LiveOk live many) (hri : ∀ p ∈ live, p.2.Sublist (List.range many)) (r : Nat) : (ownN live u many r).Sublist (List.range 9) := by
  unfold ownN
  rw [range_split (show many ≤ 9 by omega)]
  by_cases h1 : r < u.length
  · rw [if_pos h1]
    refine (List.Sublist.refl _).append ?_
    by_cases h2 : r = 2
    · rw [if_pos h2]
      refine List.Sublist.map _ ?_
      rw [range_split (show u.length ≤ 9 - many by omega)]
      exact List.sublist_append_left _ _
    · rw [if_neg h2]
      exact List.singleton_sublist.mpr (List.mem_map.mpr ⟨r, List.mem_range.mpr (by omega), rfl⟩)
  · rw [if_neg h1]
    exact (live_spots hl hri).trans (List.sublist_append_left _ _)
theorem Rows.fn {cs : List Con} {r : Nat} {rows : List Con} {a b : Nat} (h1 : Rows cs r rows a) (h2 : Rows cs r rows b) : a = b := by
  cases h1 with
  | nil =>
    generalize hx : ([] : List Con) = x at h2
    cases h2 with
    | nil => rfl
    | snoc => exact absurd hx (by simp)
  | snoc h hc =>
    rename_i rows c
    generalize hx : rows ++ [c] = x at h2
    cases h2 with
    | nil => exact absurd hx (by simp)
    | snoc h' hc' =>
      rename_i rows' c'
      have := List.append_inj_right' hx (by simp)
      injection this with e _
      rw [e]
theorem Rows.at {cs : List Con} {r : Nat} {rows : List Con} {t : Nat} (h : Rows cs r rows t) : ∀ {i : Nat} {c : Con}, rows[i]? = some c → c ∈ cs ∧ Rows cs r (rows.take i) c.1 := by
  induction h with
  | nil => intro i c h; simp at h
  | snoc h hc ih =>
    rename_i rows c'
    intro i c hi
    by_cases hlt : i < rows.length
    · rw [List.getElem?_append_left hlt] at hi
      rw [List.take_append_of_le_length (Nat.le_of_lt hlt)]
      exact ih hi
    · have : i = rows.length := by have := lt_of_get hi; rw [List.length_append, List.length_singleton] at this; omega
      subst this
      rw [List.getElem?_append_right (Nat.le_refl _), Nat.sub_self] at hi
      simp at hi; subst hi
      rw [List.take_append_of_le_length (Nat.le_refl _), List.take_length]
      exact ⟨hc, h⟩
theorem Rch.lt {cs : List Con} (hc : CsOk cs) {r s : Nat} (hr : r < 6) (h : Rch cs r s) : s < 6 := by
  cases h with
  | refl => exact hr
  | step _ he => obtain ⟨p, hp⟩ := he; exact (hc.lt _ hp).2
theorem Rows.lt {cs : List Con} (hc : CsOk cs) {r s : Nat} {rows : List Con} (hr : r < 6) (h : Rows cs r rows s) : s < 6 := by
  cases h with
  | nil => exact hr
  | snoc _ he => exact (hc.lt _ he).2
theorem cV_inj {a b : Con} (h : cV a = cV b) : a = b := by
  injection h with h; injection h with h1 h; injection h with h2 h; injection h with h3 _
  injection h1 with h1; injection h2 with h2; injection h3 with h3; injection h3 with _ h3; injection h3 with h3 _; injection h3 with h3
  exact Prod.ext (by omega) (Prod.ext (by omega) (by omega))
theorem mem_cV {cs : List Con} {c : Con} : cV c ∈ cs.map cV ↔ c ∈ cs := by
  rw [List.mem_map]
  exact ⟨fun ⟨d, hd, e⟩ => cV_inj e ▸ hd, fun h => ⟨c, h, rfl⟩⟩

section
variable {w : World} {h₀ : Heap} {ad : Nat → Addr}
theorem fs23 (P : Pg h₀ ad) {cs : List Con} {live : Live} {u : List (Str × Nat)} {many : Nat} (hS : SceneOk cs live u many) {r e : Nat} (hr6 : r < 6) (hex : ∃ s, Rch cs r s ∧ e ∈ ownN live u many s) {Q : V → MS → Prop} {d : Nat} (h : Q (.bool true) []) :
    FS w h₀ (d + 3) (.ref (ad 23)) [csV cs, iV r, iV e, .dictI (dV lV (ownL live u many))] [] Q := by
  have hm6 := hS.m6
  have hu3 := hS.uni.len
  refine FS_intro (xs := ["drawn", "region", "element", "own", "rows", "here", "row"]) (gs := [("why", .ref (ad 13)), ("dict", .type "dict")]) ["drawn", "region", "element", "own"] P.f23 P.lim (.cons P.g13 (.cons P.bDict .nil)) rfl rfl (by kernel_rfl) (fun _ _ _ vals hv => ?_) fun C hw hh hr hsto hk hgl => ?_
  · obtain ⟨a, b, c, e, rfl⟩ := len4 hv; rfl
  · simp only [ρ₀]
    refine JS_cons <| JS_Assign hsto <| JE_CallFn hw hh P.f13.is hr <| JEs_cons <| JE_Name <| JEs_cons <| JE_Name <| JEs_cons <| JE_Name <| JEs_cons <| JE_CallT <| JEs_cons <|
      JE_ListComp ["one"] ["own"] (gs' := [("frozenset", .type "frozenset")]) (fun i acc M => i ≤ 6 ∧ M = [] ∧ acc = (List.range i).map fun x => V.tup [iV x, fiV (ownN live u many x)]) 6
        ⟨by kernel_rfl, .one (.tail (.tail (.tail .head))) ((hk _).trans (by kernel_rfl)), hgl, ⟨_, hh, .cons P.bFroz .nil⟩⟩
        (JI_of <| JE_Name ⟨_, Src_dictI, ⟨Nat.zero_le _, rfl, rfl⟩, ?_⟩)
    rintro i _ _ ⟨hi, rfl, rfl⟩
    refine ⟨hi, by rw [List.length_map, List.length_range]; omega, _, rfl, ?_⟩
    have es : ((dV lV (ownL live u many))[i]?).map (fun p => V.int p.1) = if i < 6 then some (iV i) else none := by
      rw [List.getElem?_map, List.getElem?_map]
      by_cases h6 : i < 6
      · rw [if_pos h6, List.getElem?_range h6]; rfl
      · rw [if_neg h6, List.getElem?_eq_none (by rw [List.length_range]; omega)]; rfl
    rw [es]
    by_cases h6 : i < 6
    · rw [if_pos h6]
      have hget : getI (dV lV (ownL live u many)) (i : Int) = some (lV (ownN live u many i)) := by rw [getI_dV, getI_rg, if_pos h6]; rfl
      intro C' cw ch cA hsto'
      dsimp only [List.cons_append, List.nil_append]
      show JA C' ["one", "own"] _ [none, some (.dictI (dV lV (ownL live u many)))] [] (iV i) _ _
      have e1 : ∀ l : List Nat, natsV l = (l.map fun i : Nat => (i : Int)).map V.int := fun l => by rw [List.map_map]; rfl
      refine JA_Name (hsto' _ (by decide)) ⟨_, .head, JT_nil ⟨(fun h => nomatch h), fun _ => JE_Tuple <| JEs_cons <| JE_Name <| JEs_cons <| JE_CallT <| JEs_cons <| JE_Subscript <| JE_Name <| JE_Name <| JSub_dI (.fz _) rfl hget <| JEs_nil ?_⟩⟩
      refine Jn_froz (ns := (ownN live u many i).map fun i : Nat => (i : Int)) (by rw [← e1]; exact .fz _) ((own_sub hm6 hu3 hS.lok hS.rise i).map _) <| JEs_nil ⟨by simp, h6, rfl, ?_⟩
      rw [List.range_succ, List.map_append]; rfl
    · rw [if_neg h6]
      have hi' : i = 6 := by omega
      subst hi'
      refine JEs_nil ?_
      have e2 : (List.range 6).map (fun x => V.tup [iV x, fiV (ownN live u many x)]) = (dV fiV (ownL live u many)).map fun p => .tup [.int p.1, p.2] := by
        show _ = List.map _ (List.map _ (List.map _ _))
        rw [List.map_map, List.map_map]; rfl
      rw [e2]
      refine Jn_dictI (by rw [List.length_map, rg_len]; omega) (by rw [List.map_map, List.map_map]; show ((List.range 6).map fun r : Nat => (r : Int)).Nodup; decide) <| JEs_nil ⟨[], [], [], rfl, ?_⟩
      have gown : ∀ s, s < 6 → getI (ownL live u many) s = some (ownN live u many s) := fun s hs => by rw [getI_rg, if_pos hs]
      refine fs13 P hS.cok hr6 (e := e) (first := ownL live u many) ?_ fun rows t hrows ht hlen => ?_
      · obtain ⟨s, h1, h2⟩ := hex
        exact ⟨s, h1, by rw [gown s (h1.lt hS.cok hr6)]; exact h2⟩
      rw [gown t (hrows.lt hS.cok hr6)] at ht
      refine ⟨_, .tail (.tail (.tail (.tail .head))), ?_⟩
      refine JS_cons <| JS_Assign hsto <| JE_Name ⟨_, .tail (.tail (.tail (.tail (.tail .head)))), ?_⟩
      refine JS_cons <| JS_For (fun i ρ M => i ≤ rows.length ∧ M = [] ∧ ∃ t' o, Rows cs r (rows.take i) t' ∧ ρ = [some (csV cs), some (iV r), some (iV e), some (.dictI (dV lV (ownL live u many))), some (.list (rows.map cV)), some (iV t'), o]) rows.length
        (JI_of <| JE_Name ⟨_, Src_list, ⟨Nat.zero_le _, rfl, r, none, .nil, rfl⟩, ?_⟩)
      rintro i _ _ ⟨hi, rfl, t', o, hr', rfl⟩
      refine ⟨hi, _, rfl, ?_⟩
      cases hx : (rows.map cV)[i]? with
      | some x =>
        obtain ⟨c, hcx, rfl⟩ := getm hx
        obtain ⟨hcm, hrc⟩ := hrows.at hcx
        have htc := hr'.fn hrc
        subst htc
        refine JA_Name (hsto _ (by decide)) ⟨_, .tail (.tail (.tail (.tail (.tail (.tail .head))))), ?_⟩
        refine JS_cons <| JS_If <| JB_BoolOp <| JB_or_cons <| JB_Compare <| JE_Name <| JE_Name <| J_notInL (EqOk.tup3 EqOk.int.up EqOk.int.up (EqOk.tup2 EqOk.int EqOk.int)) (by decide) (.fz _) (.mk _ _ _ (.mk _) (.mk _) (.mk _ _ (.mk _) (.mk _))) (isT3_cV cs) fun t ht => ⟨_, rfl, fun htt => ?_, fun htf => ?_⟩
        · subst htt
          exact absurd (mem_cV.mpr hcm) (ht.mp rfl)
        · refine JB_or_cons <| JB_Compare <| JE_Subscript <| JE_Name <| JE_int <| JSub_tup (i := 0) rfl (by decide) <| JE_Name <| J_neI ⟨_, rfl, fun h2 => ?_, fun _ => JB_or_nil ⟨(fun h => nomatch h), fun _ => ?_⟩⟩
          · simp at h2
          · refine JS_nil <| JS_cons <| JS_Assign hsto <| JE_Subscript <| JE_Name <| JE_int <| JSub_tup (i := 1) rfl (by decide) ⟨_, .tail (.tail (.tail (.tail (.tail .head)))), JS_nil ⟨lt_of_get hcx, rfl, c.2.1, some (cV c), ?_, rfl⟩⟩
            rw [take_snoc hcx]
            exact .snoc hrc hcm
      | none =>
        have hend := getn hx
        rw [List.take_of_length_le hend] at hr'
        have htt := hr'.fn hrows
        subst htt
        have hget : getI (dV lV (ownL live u many)) (t' : Int) = some (lV (ownN live u many t')) := by rw [getI_dV, gown t' (hrows.lt hS.cok hr6)]; rfl
        refine JS_cons <| JS_Return <| JE_Compare <| JE_Name <| JE_Subscript <| JE_Name <| JE_Name <| JSub_dI (.fz _) rfl hget <| J_inL EqOk.int (by decide) (.fz _) (.mk _) (isI_nats _) fun t ht2 => ?_
        rw [show t = true from ht2.mpr (mem_nats.mpr ht)]
        exact h
end
end Mine

namespace Mine
open PySem PySem.W PySem.Calls PyProof.Rows

section
variable {w : World} {h₀ : Heap} {ad : Nat → Addr}
theorem fs24 (P : Pg h₀ ad) {u : List (Str × Nat)} (hu : Uni u) {live : Live} {many : Nat} (hm : many ≤ 6) {cs : List Con} {f : Vals} (hT : Told cs live u many f) {kn : List (Str × Str)} {Q : V → MS → Prop} {d : Nat}
    (h : Q (.list ((lackN (fun r j => (val f r).testBit (many + j)) kn u u).map ppV)) []) :
    FS w h₀ (d + 1) (.ref (ad 24)) [uV u, .dictI (dV fsV f), endsV u many, .list (kn.map ppV)] [] Q := by
  refine FS_intro (xs := ["universal", "told", "ends", "known", "found", "name", "other"]) (gs := [("sorted", .builtin "sorted")]) ["universal", "told", "ends", "known"] P.f24 P.lim (.cons P.bSorted .nil) rfl rfl (by kernel_rfl) (fun _ _ _ vals hv => ?_) fun C hw hh hr hsto hk hgl => ?_
  · obtain ⟨a, b, c, e, rfl⟩ := len4 hv; rfl
  · simp only [ρ₀]
    have hu3 := hu.len
    generalize hg : (fun r j => (val f r).testBit (many + j)) = g at h
    refine JS_cons <| JS_Assign hsto <| JE_ListM <| JEs_nil ⟨by simp, fun b hb => ⟨_, .tail (.tail (.tail (.tail .head))), ?_⟩⟩
    refine JS_cons <| JS_For (fun i ρ M => i ≤ u.length ∧ M = [(b, .list ((lackN g kn u (u.take i)).map ppV))] ∧ (lackN g kn u (u.take i)).length ≤ 10 * i ∧
      ∃ o1 o2, ρ = [some (uV u), some (.dictI (dV fsV f)), some (endsV u many), some (.list (kn.map ppV)), some (.mut b), o1, o2]) u.length
      (JI_of <| JE_CallB <| JEs_cons <| JE_Name <| JEs_nil <| Jn_sortedDS (es := u.map fun p => (p.1, V.int (p.2 : Int))) (.fz _) (by rw [List.length_map]; omega) fun ns' hp hs => ?_)
    rw [List.map_map] at hp
    have := sorted_uni hu hp hs
    subst this
    refine ⟨_, Src_list, ⟨Nat.zero_le _, rfl, by simp [lackN], none, none, rfl⟩, ?_⟩
    clear hp hs
    rintro i _ _ ⟨hi, rfl, hlen, o1, o2, rfl⟩
    refine ⟨hi, _, rfl, ?_⟩
    cases hx : u[i]? with
    | some p =>
      obtain ⟨n, r⟩ := p
      have hri := hu.at hx
      subst hri
      have hgu := hu.get hx
      have hlt := lt_of_get hx
      rw [show ((u.map (·.1)).map V.str)[r]? = some (.str n) by rw [List.getElem?_map, List.getElem?_map, hx]; rfl]
      refine JA_Name (hsto _ (by decide)) ⟨_, .tail (.tail (.tail (.tail (.tail .head)))), ?_⟩
      obtain ⟨x, hxf⟩ := hT.has (own_end (live := live) (many := many) hlt)
      have hget : getI (dV fsV f) (r : Int) = some (fsV x) := by rw [getI_dV, hxf]; rfl
      have hgx : ∀ j, g r j = x.testBit (many + j) := fun j => by rw [← hg]; show (val f r).testBit _ = _; unfold val; rw [hxf]; rfl
      generalize hrow : (fun i' => if n = nS then [] else lackRow g kn (u.take i') n r) = row
      have row0 : row 0 = [] := by rw [← hrow]; show (if n = nS then [] else lackRow g kn (u.take 0) n r) = []; split <;> rfl
      refine JS_cons <| JS_For (fun i' ρ M => i' ≤ u.length ∧ M = [(b, .list ((lackN g kn u (u.take r) ++ row i').map ppV))] ∧ (lackN g kn u (u.take r) ++ row i').length ≤ 10 * r + i' ∧
          ∃ o2, ρ = [some (uV u), some (.dictI (dV fsV f)), some (endsV u many), some (.list (kn.map ppV)), some (.mut b), some (.str n), o2]) u.length
          (JI_of <| JE_CallB <| JEs_cons <| JE_Name <| JEs_nil <| Jn_sortedDS (es := u.map fun p => (p.1, V.int (p.2 : Int))) (.fz _) (by rw [List.length_map]; omega) fun ns' hp hs => ?_)
      rw [List.map_map] at hp
      have := sorted_uni hu hp hs
      subst this
      refine ⟨_, Src_list, ⟨Nat.zero_le _, by rw [row0, List.append_nil], by rw [row0, List.append_nil]; exact hlen, o2, rfl⟩, ?_⟩
      clear hp hs
      rintro i' _ _ ⟨hi', rfl, hlen', o2, rfl⟩
      refine ⟨hi', _, rfl, ?_⟩
      cases hx' : u[i']? with
      | some p' =>
        obtain ⟨o, j⟩ := p'
        have hji := hu.at hx'
        subst hji
        have hlt' := lt_of_get hx'
        rw [show ((u.map (·.1)).map V.str)[j]? = some (.str o) by rw [List.getElem?_map, List.getElem?_map, hx']; rfl]
        refine JA_Name (hsto _ (by decide)) ⟨_, .tail (.tail (.tail (.tail (.tail (.tail .head))))), ?_⟩
        generalize hone : (if n = nS then [] else lackOne g kn n r o j) = one
        have erow : row (j + 1) = row j ++ one := by
          rw [← hrow, ← hone]
          show (if n = nS then [] else lackRow g kn (u.take (j + 1)) n r) = (if n = nS then [] else lackRow g kn (u.take j) n r) ++ _
          by_cases hs : n = nS
          · simp only [hs, if_true, List.append_nil]
          · simp only [hs, if_false]
            rw [take_snoc hx']; unfold lackRow
            rw [List.flatMap_append, List.flatMap_singleton]
        refine JS_cons <| JS_If <| JB_mono (Q := fun t M1 => M1 = [(b, .list ((lackN g kn u (u.take r) ++ row j).map ppV))] ∧ one = if t then [(n, o)] else [])
          (JB_BoolOp <| JB_and_cons <| JB_Compare <| JE_Name <| JE_List <| JEs_cons <| JE_str <| JEs_cons <| JE_Name <| JEs_nil ⟨by simp, J_notInL EqOk.str (by decide) (.fz _) (.mk _) (fun y hy => ?_) fun t ht => ⟨_, rfl, fun hf => ?_, fun htt => ?_⟩⟩) ?_
        · rcases List.mem_cons.mp hy with rfl | hy
          · exact .mk _
          · rw [List.mem_singleton.mp hy]; exact .mk _
        · subst hf
          refine ⟨rfl, ?_⟩
          have hin : n = nS ∨ n = o := by
            have h1 : ¬ (V.str n ∉ [V.str "'static", V.str o]) := fun h1 => by have := ht.mpr h1; cases this
            have h2 : V.str n ∈ [V.str "'static", V.str o] := Classical.byContradiction h1
            rcases List.mem_cons.mp h2 with h2 | h2
            · injection h2 with h2; exact .inl h2
            · have := List.mem_singleton.mp h2
              injection this with h2; exact .inr h2
          rw [← hone]
          rcases hin with h1 | h1
          · rw [if_pos h1]; rfl
          · unfold lackOne
            rw [if_neg (c := o ≠ n ∧ _) (fun h2 => h2.1 h1.symm)]
            split <;> rfl
        · subst htt
          have hni := ht.mp rfl
          have hns : ¬ n = nS := fun e => hni (by rw [e]; exact .head _)
          have hno : o ≠ n := fun e => hni (by rw [e]; exact .tail _ (.head _))
          rw [if_neg hns] at hone
          refine JB_and_cons <| JB_Compare <| JE_Subscript <| JE_Name <| JE_Name <| JSub_dS (.fz _) rfl (hu.ends many hx') <| JE_Subscript <| JE_Name <| JE_Subscript <| JE_Name <| JE_Name <| JSub_dS (.fz _) rfl hgu <| JSub_dI (.fz _) rfl hget <| J_inF ⟨_, rfl, fun hf => ?_, fun ht2 => ?_⟩
          · rw [decide_eq_false_iff_not, mem_elemsI] at hf
            refine ⟨rfl, ?_⟩
            rw [← hone]; unfold lackOne
            rw [if_neg (fun h2 => hf ⟨by omega, by rw [← hgx]; exact h2.2.1⟩)]; rfl
          · rw [decide_eq_true_eq, mem_elemsI] at ht2
            refine JB_and_cons <| JB_Compare <| JE_Tuple <| JEs_cons <| JE_Name <| JEs_cons <| JE_Name <| JEs_nil ⟨by simp, JE_Name <| J_notInL (EqOk.str.tup2 EqOk.str) (by decide) (.fz _) (.mk _ _ (.mk _) (.mk _)) (isT2_pp kn) fun t ht3 => ⟨_, rfl, fun hf => ?_, fun ht4 => ?_⟩⟩
            · subst hf
              refine ⟨rfl, ?_⟩
              rw [← hone]; unfold lackOne
              rw [if_neg (fun h2 => by have := ht3.mpr (fun hm => h2.2.2 (mem_pp (p := (n, o)) |>.mp hm)); cases this)]; rfl
            · subst ht4
              have := ht3.mp rfl
              refine JB_and_nil ⟨rfl, ?_⟩
              rw [← hone]; unfold lackOne
              rw [if_pos ⟨hno, by rw [hgx]; exact ht2.2, fun hm => this (mem_pp (p := (n, o)) |>.mpr hm)⟩]; rfl
        · rintro t _ ⟨rfl, ht⟩
          rw [List.length_append] at hlen'
          refine ⟨fun htt => ?_, fun htf => ?_⟩
          · subst htt
            have e1 : one = [(n, o)] := ht
            refine JS_cons <| JS_Expr <| JE_Method1 <| JE_Name <| JM_append .head <| JE_Tuple <| JEs_cons <| JE_Name <| JEs_cons <| JE_Name <| JEs_nil ⟨by simp, _, _, .head, by rw [List.length_map, List.length_append]; omega, JS_nil <| JS_nil ⟨hlt', ?_, ?_, some (.str o), rfl⟩⟩
            · simp [erow, e1]
            · rw [erow, e1, List.length_append, List.length_append, List.length_singleton]; omega
          · subst htf
            have e1 : one = [] := ht
            refine JS_nil <| JS_nil ⟨hlt', ?_, ?_, some (.str o), rfl⟩
            · rw [erow, e1, List.append_nil]
            · rw [erow, e1, List.append_nil, List.length_append]; omega
      | none =>
        have hend : u.length ≤ i' := by simpa using hx'
        rw [show ((u.map (·.1)).map V.str)[i']? = none by rw [List.getElem?_map, List.getElem?_map, hx']; rfl]
        have e : lackN g kn u (u.take (r + 1)) = lackN g kn u (u.take r) ++ row i' := by
          rw [take_snoc hx, ← hrow]; unfold lackN
          rw [List.flatMap_append, List.flatMap_singleton]
          show _ ++ (if n = nS then [] else lackRow g kn u n r) = _ ++ (if n = nS then [] else lackRow g kn (u.take i') n r)
          rw [List.take_of_length_le hend]
        refine JS_nil ⟨hlt, by rw [e], by rw [e]; omega, some (.str n), o2, rfl⟩
    | none =>
      have hend : u.length ≤ i := by simpa using hx
      rw [show ((u.map (·.1)).map V.str)[i]? = none by rw [List.getElem?_map, List.getElem?_map, hx]; rfl]
      rw [List.take_of_length_le hend]
      exact JS_cons <| JS_Return <| JE_freeze <| JE_Name ⟨b, _, _, rfl, .head, h⟩
end
end Mine

namespace Mine
open PySem PySem.W PySem.Calls PyProof.Rows

theorem eq_of_lt : ∀ {a b : List Int}, a.Pairwise (· < ·) → b.Pairwise (· < ·) → (∀ x, x ∈ a ↔ x ∈ b) → a = b
  | [], [], _, _, _ => rfl
  | [], y :: b, _, _, h => by have := (h y).mpr (.head _); cases this
  | x :: a, [], _, _, h => by have := (h x).mp (.head _); cases this
  | x :: a, y :: b, ha, hb, h => by
    obtain ⟨a1, a2⟩ := List.pairwise_cons.mp ha
    obtain ⟨b1, b2⟩ := List.pairwise_cons.mp hb
    have hxy : x = y := by
      rcases List.mem_cons.mp ((h x).mp (.head _)) with e | hx
      · exact e
      · rcases List.mem_cons.mp ((h y).mpr (.head _)) with e | hy
        · exact e.symm
        · have := a1 y hy; have := b1 x hx; omega
    subst hxy
    rw [eq_of_lt a2 b2 fun z => ?_]
    have hz := h z
    rw [List.mem_cons, List.mem_cons] at hz
    constructor
    · intro hm
      rcases hz.mp (.inr hm) with e | e
      · have := a1 z hm; omega
      · exact e
    · intro hm
      rcases hz.mpr (.inr hm) with e | e
      · have := b1 z hm; omega
      · exact e
theorem lt_of_le_nodup : ∀ {a : List Int}, a.Pairwise (· ≤ ·) → a.Nodup → a.Pairwise (· < ·)
  | [], _, _ => .nil
  | x :: a, h, hn => by
    obtain ⟨a1, a2⟩ := List.pairwise_cons.mp h
    obtain ⟨n1, n2⟩ := List.nodup_cons.mp hn
    refine List.pairwise_cons.mpr ⟨fun y hy => ?_, lt_of_le_nodup a2 n2⟩
    have := a1 y hy
    have : x ≠ y := fun e => n1 (e ▸ hy)
    omega
theorem elemsI_lt (n : Nat) : (elemsI n).Pairwise (· < ·) := List.Pairwise.sublist (elemsI_sub n) (by decide)
theorem elemsI_len (n : Nat) : (elemsI n).length ≤ 9 := (elemsI_sub n).length_le
theorem nats_elems (n : Nat) : natsV (elemsN n) = (elemsI n).map V.int := by unfold elemsI; rw [List.map_map]; rfl

section
variable {C : Cx} {xs : List Str} {gs : List (Str × Value)} {ρ : List (Option V)} {M : MS}
/-- sorted(told.get(r, [])) -/
theorem Jn_sortedTold {f : Vals} {r : Nat} {Q : V → MS → Prop} (h : Q (lV (elemsN (val f r))) M) : Jn C xs gs ρ M [(getI (dV fsV f) (r : Int)).getD (.list [])] (fun cl => call (.builtin "sorted") cl) Q := by
  have key : ∀ {n : Nat} {ns' : List Int}, ns'.Perm (elemsI n) → ns'.Pairwise (· ≤ ·) → ns' = elemsI n := fun {n ns'} hp hs =>
    eq_of_lt (lt_of_le_nodup hs (hp.nodup_iff.mpr ((elemsI_sub n).nodup (by decide)))) (elemsI_lt n) fun x => hp.mem_iff
  rw [getI_dV]
  unfold val at h
  cases hg : getI f r with
  | some n =>
    rw [hg] at h
    refine Jn_sortedF (by have := elemsI_len n; omega) fun ns' hp hs => ?_
    rw [key hp hs, ← nats_elems]
    exact h
  | none =>
    rw [hg] at h
    refine Jn_sortedL (ns := []) (.fz _) (by simp) fun ns' hp hs => ?_
    have : ns' = [] := by simpa using hp
    subst this
    exact h
end

section
variable {C : Cx} {xs : List Str} {gs : List (Str × Value)} {ρ : List (Option V)} {M : MS}
theorem tail_slice {w : World} {A : Around} {E : Post} {s : Shared} {value slice : Expr} {o i : Value} {T id : String} {Q : Post} (hT : s.TypeIs o T) (hl : typeLookup (.type T) "__getitem__" = pure (some (.builtin id)))
    (hs : subscripted slice false o i = operate [i, o] (getItem o i)) (h : wpAny (model PG w) A (getItem o i) Q E s) : wpAny (model PG w) A (subscriptTail value slice o i) Q E s := by
  unfold subscriptTail
  refine wpAny_bind ?_
  rw [getitemInPython_of_ne hT.not_modules]
  refine wpAny_bind (wpAny_specialOf hT hl ?_)
  refine wpAny_pure ?_
  rw [hs]
  exact wpAny_bind (wpAny_operating (wpAny_mono h (fun r s₃ h₃ => wpAny_bind (wpAny_letTemporaryGo (wpAny_pure h₃))) fun _ _ x => x))
/-- e[:1], whatever e is -/
theorem JE_slice1A {e : Expr} {k : Nat} {cp sp pos : Pos} {Q : V → MS → Prop}
    (h : JE C xs gs ρ M (eval e C.env) fun v M1 => ∃ l, LVal M1 v l ∧ l.length ≤ 1000 ∧ Q (.list (l.take 1)) M1) :
    JE C xs gs ρ M (eval (.Subscript e (.Slice none (some (.Constant (.int 1) k cp)) none sp) pos) C.env) Q :=
  fun hC G X B s m S Qc E kf => Subscript_ (h hC G X B s m S _ _ fun v M1 X1 B1 s1 m1 cv l1 S1 rv q1 => by
    obtain ⟨l, hv, hl, hq⟩ := q1
    obtain ⟨a, vs, n, rfl, ha, hr⟩ := S1.lval hv rv
    refine wpAny_Slice (wpAny_of_eq (evalPart_none _) (show wpAny _ _ (eval (.Constant (.int 1) k cp) C.env) _ _ _ from wpAny_Constant_int (wpAny_of_eq (evalPart_none _) ?_)))
    refine tail_slice (T := "list") ⟨_, Heap.get?_push_of_some _ ha, rfl⟩ slot_list_getitem.lookup rfl (wpAny_getItem_list_slice (isList_of (Heap.get?_push_of_some _ ha)) (Heap.IsSliceOf.new ..) .none (.int _ _) .none (by decide) ?_ (by rw [List.size_toArray, hr.length, sizeLine_eq]; omega))
    obtain ⟨B2, l2, S2, r2⟩ := S1.sliced (o1 := { cls := .type "slice", data := .fields #[.none, .int 1 s1.toks, .none] }) (s1.toks + 1) (hr.take 1)
    rw [pick_upto1]
    exact kf _ M1 X1 B2 _ m1 _ (l1.trans l2) S2 r2 hq)
/-- e[-1:], whatever e is -/
theorem JE_sliceLastA {e : Expr} {k : Nat} {cp up sp pos : Pos} {Q : V → MS → Prop}
    (h : JE C xs gs ρ M (eval e C.env) fun v M1 => ∃ l, LVal M1 v l ∧ l.length ≤ 1000 ∧ Q (.list (l.drop (l.length - 1))) M1) :
    JE C xs gs ρ M (eval (.Subscript e (.Slice (some (.UnaryOp .USub (.Constant (.int 1) k cp) up)) none none sp) pos) C.env) Q :=
  fun hC G X B s m S Qc E kf => Subscript_ (h hC G X B s m S _ _ fun v M1 X1 B1 s1 m1 cv l1 S1 rv q1 => by
    obtain ⟨l, hv, hl, hq⟩ := q1
    obtain ⟨a, vs, n, rfl, ha, hr⟩ := S1.lval hv rv
    refine wpAny_Slice (show wpAny _ _ (eval (.UnaryOp .USub (.Constant (.int 1) k cp) up) C.env) _ _ _ from wpAny_UnaryOp (wpAny_Constant_int (neg_int (wpAny_of_eq (evalPart_none _) (wpAny_of_eq (evalPart_none _) ?_)))))
    refine tail_slice (T := "list") ⟨_, Heap.get?_push_of_some _ ha, rfl⟩ slot_list_getitem.lookup rfl (wpAny_getItem_list_slice (isList_of (Heap.get?_push_of_some _ ha)) (Heap.IsSliceOf.new ..) (.int _ _) .none .none (by decide) ?_ (by rw [List.size_toArray, hr.length, sizeLine_eq]; omega))
    obtain ⟨B2, l2, S2, r2⟩ := S1.sliced (o1 := { cls := .type "slice", data := .fields #[.int (-1) (s1.toks + 1), .none, .none] }) (s1.toks + 1 + 1) (hr.drop (l.length - 1))
    have e : slicePick vs.toArray (some (-1)) none none = (vs.drop (l.length - 1)).toArray := by rw [pick_last1, hr.length]
    rw [e]
    exact kf _ M1 X1 B2 _ m1 _ (l1.trans l2) S2 r2 hq)
end

theorem Told.elems {cs : List Con} {live : Live} {u : List (Str × Nat)} {many : Nat} (hm : many ≤ 6) (hu : u.length ≤ 3) (hl : LiveOk live many) {f : Vals} (h : Told cs live u many f) (r : Nat) (x : Int) : x ∈ elemsI (val f r) ↔ ∃ e : Nat, x = (e : Int) ∧ ∃ s, Rch cs r s ∧ e ∈ ownN live u many s := by
  constructor
  · intro hx
    obtain ⟨e, he, rfl⟩ := List.mem_map.mp hx
    refine ⟨e, rfl, (h.bits r e).mp ?_⟩
    exact (mem_elemsI.mp hx).2
  · rintro ⟨e, rfl, s, h1, h2⟩
    exact mem_elemsI.mpr ⟨own_lt hm hu hl h2, (h.bits r e).mpr ⟨s, h1, h2⟩⟩

/-- the first case of the law -/
theorem live3 : LiveOk [(3, [1])] 2 := ⟨by simp, by simp, by simp, by simp⟩
theorem first_case {f : Vals} (h : Told [(5, 4, 0), (4, 3, 1)] [(3, [1])] [] 2 f) {r : Nat} (hr : r = 3 ∨ r = 4 ∨ r = 5) : elemsN (val f r) = [1] := by
  have hb : ∀ e, (val f r).testBit e = decide (e = 1) := fun e => by
    rw [Bool.eq_iff_iff, h.bits, decide_eq_true_eq]
    have ho : ∀ s, e ∈ ownN [(3, [1])] [] 2 s ↔ s = 3 ∧ e = 1 := fun s => by
      unfold ownN
      rw [if_neg (by simp), getI_cons, getI_nil]
      by_cases hs : 3 = s
      · subst hs; simp
      · rw [if_neg hs]
        simp only [Option.getD_none, List.not_mem_nil, false_iff]
        exact fun hh => hs hh.1.symm
    constructor
    · rintro ⟨s, _, h2⟩; exact ((ho s).mp h2).2
    · rintro rfl
      refine ⟨3, ?_, (ho 3).mpr ⟨rfl, rfl⟩⟩
      have h43 : Leads [(5, 4, 0), (4, 3, 1)] 4 3 := ⟨1, by simp⟩
      have h54 : Leads [(5, 4, 0), (4, 3, 1)] 5 4 := ⟨0, by simp⟩
      rcases hr with rfl | rfl | rfl
      · exact .refl
      · exact .step .refl h43
      · exact .step (.step .refl h54) h43
  unfold elemsN
  rw [show (fun i => (val f r).testBit i) = fun i => decide (i = 1) from funext hb]
  decide
end Mine

namespace Mine
open PySem PySem.W PySem.Calls PyProof.Rows

abbrev xsLaw : List Str := ["script", "chain_here", "k", "source", "drawn", "live", "universal", "many", "own", "ends", "told", "region", "due", "one", "element", "known"]
abbrev gsLaw (ad : Nat → Addr) : List (Str × Value) := [("solve", .ref (ad 11)), ("sorted", .builtin "sorted"), ("range", .type "range"), ("max", .builtin "max"), ("min", .builtin "min"), ("len", .builtin "len"), ("_law_pool", .ref (ad 16)), ("_law_scene", .ref (ad 19)), ("_law_own", .ref (ad 21)), ("_law_ends", .ref (ad 20)),
  ("_law_reached", .ref (ad 22)), ("int", .type "int"), ("_law_why_right", .ref (ad 23)), ("_law_take", .ref (ad 17)), ("lacking", .ref (ad 12)), ("_law_lacking", .ref (ad 24))]

/-- what is due -/
structure DInv (D : List (Nat × Bool)) (P : Nat → Prop) : Prop where
  nodup : (D.map (·.1)).Nodup
  lt : ∀ k ∈ D.map (·.1), k < 9
  mem : ∀ e, e ∈ D.map (·.1) ↔ P e
theorem DInv.small {D : List (Nat × Bool)} {P : Nat → Prop} (h : DInv D P) : D.length ≤ 9 := by
  have := len_of_lt 9 h.nodup h.lt
  rwa [List.length_map] at this
theorem DInv.put {D : List (Nat × Bool)} {P R : Nat → Prop} (h : DInv D P) {e : Nat} (he : e < 9) (hR : ∀ x, R x ↔ P x ∨ x = e) : DInv (putI D e true) R where
  nodup := nodup_putI h.nodup _ _
  lt := fun k hk => by
    rcases keys_put_mem hk with hk | rfl
    · exact h.lt k hk
    · exact he
  mem := fun x => by rw [mem_putI_keys, h.mem, hR]
theorem DInv.congr {D : List (Nat × Bool)} {P R : Nat → Prop} (h : DInv D P) (hR : ∀ x, R x ↔ P x) : DInv D R := ⟨h.nodup, h.lt, fun e => (h.mem e).trans (hR e).symm⟩

def forBody : Stmt → List Stmt
  | .For _ _ b _ _ => b
  | _ => []
def turnS (j : Nat) : Stmt := (forBody ((fnBody (fnS 25)).getD 2 (.Pass default))).getD j (.Pass default)

section
variable {w : World} {h₀ : Heap} {ad : Nat → Addr} {C : Cx}
abbrev ρLaw (ns : List Int) (ch kk : V) (s : Addr) (cs : List Con) (live : Live) (u : List (Str × Nat)) (many : Nat) (f : Vals) (o1 o2 o3 o4 o5 : Option V) : List (Option V) :=
  [some (.list (ns.map .int)), some ch, some kk, some (.mut s), some (csV cs), some (liveV live), some (uV u), some (iV many), some (.dictI (dV lV (ownL live u many))), some (endsV u many), some (.dictI (dV fsV f)), o1, o2, o3, o4, o5]

theorem int_keys (D : List (Nat × Bool)) : (dV V.bool D).map (·.1) = (D.map (·.1)).map fun i : Nat => (i : Int) := by
  show List.map _ (List.map _ D) = _
  rw [List.map_map, List.map_map]; rfl
theorem DInv.sorted {D : List (Nat × Bool)} {cs : List Con} {live : Live} {u : List (Str × Nat)} {many : Nat} (hS : SceneOk cs live u many) {f : Vals} (hT : Told cs live u many f) {r : Nat} (h : DInv D fun e => ∃ s, Rch cs r s ∧ e ∈ ownN live u many s)
    {ns' : List Int} (hp : ns'.Perm ((dV V.bool D).map (·.1))) (hs : ns'.Pairwise (· ≤ ·)) : ns' = elemsI (val f r) := by
  rw [int_keys] at hp
  have hnd : ((D.map (·.1)).map fun i : Nat => (i : Int)).Nodup := List.Pairwise.map _ (fun a b hab e => hab (by omega)) h.nodup
  refine eq_of_lt (lt_of_le_nodup hs (hp.nodup_iff.mpr hnd)) (elemsI_lt _) fun x => ?_
  rw [hp.mem_iff, hT.elems hS.m6 hS.uni.len hS.lok, List.mem_map]
  constructor
  · rintro ⟨e, he, rfl⟩; exact ⟨e, rfl, (h.mem e).mp he⟩
  · rintro ⟨e, rfl, he⟩; exact ⟨e, (h.mem e).mpr he, rfl⟩

set_option maxHeartbeats 2000000 in
theorem law_regions (P : Pg h₀ ad) (hw : C.w = w) (hh : C.h₀ = h₀) (hr : Room C.A 10) (hsto : Sto C xsLaw) {cs : List Con} {live : Live} {u : List (Str × Nat)} {many : Nat} (hS : SceneOk cs live u many) {f : Vals} (hT : Told cs live u many f)
    {ns : List Int} {ch kk : V} {s : Addr} {x y : Int} {o1 o2 o3 o4 o5 : Option V} :
    JS C xsLaw (gsLaw ad) (ρLaw ns ch kk s cs live u many f o1 o2 o3 o4 o5) [srM s x y] (exec (turnS 4) C.env) fun fl ρ' M' => fl = .next ∧ M' = [srM s x y] ∧ ∃ o1 o2 o3 o4 o5, ρ' = ρLaw ns ch kk s cs live u many f o1 o2 o3 o4 o5 := by
  have hm6 := hS.m6
  have hu3 := hS.uni.len
  refine JS_For (fun i ρ M => i ≤ 6 ∧ M = [srM s x y] ∧ ∃ o1 o2 o3 o4 o5, ρ = ρLaw ns ch kk s cs live u many f o1 o2 o3 o4 o5) 6
    (JI_of <| JE_CallT <| JEs_cons <| JE_int <| JEs_nil <| Jn_range (n := 6) ⟨_, Src_rng (by decide), ⟨Nat.zero_le _, rfl, o1, o2, o3, o4, o5, rfl⟩, ?_⟩)
  clear o1 o2 o3 o4 o5
  rintro r _ _ ⟨hi, rfl, o1, o2, o3, o4, o5, rfl⟩
  refine ⟨hi, _, rfl, ?_⟩
  by_cases hr6 : r < 6
  · rw [if_pos hr6]
    refine JA_Name (hsto _ (by decide)) ⟨_, .tail (.tail (.tail (.tail (.tail (.tail (.tail (.tail (.tail (.tail (.tail .head)))))))))), ?_⟩
    refine JS_sub ?_
    refine JS_cons <| JS_Assign hsto <| JE_DictIM fun b hb => ⟨_, .tail (.tail (.tail (.tail (.tail (.tail (.tail (.tail (.tail (.tail (.tail (.tail .head))))))))))), ?_⟩
    refine JS_cons <| JS_mono (Q := fun fl ρ' M' => fl = .next ∧ ∃ D, DInv D (fun e => ∃ s, Rch cs r s ∧ e ∈ ownN live u many s) ∧ M' = [(b, .dictI (dV V.bool D)), srM s x y] ∧ ∃ o3 o4, ρ' = ρLaw ns ch kk s cs live u many f (some (iV r)) (some (.mut b)) o3 o4 o5)
      (JS_ForD 6 (JI_of <| JE_CallFn hw hh P.f22.is (hr.le (by decide : 1 ≤ 10)) <| JEs_cons <| JE_Name <| JEs_cons <| JE_Name <| JEs_nil ⟨[(b, _)] ++ [srM s x y], [], [], rfl, fs22 (d := 0) P hS.cok hr6 fun l hl6 hlm hllt => ⟨_, Src_list, fun k ρ M => k ≤ 6 ∧ ∃ D, DInv D (fun e => ∃ s ∈ l.take k, e ∈ ownN live u many s) ∧ M = [(b, .dictI (dV V.bool D)), srM s x y] ∧ ∃ o3 o4, ρ = ρLaw ns ch kk s cs live u many f (some (iV r)) (some (.mut b)) o3 o4 o5,
        ⟨Nat.zero_le _, [], ⟨.nil, by simp, by simp⟩, rfl, o3, o4, rfl⟩, ?_⟩⟩)) ?_
    · rintro k _ _ ⟨hk6, D, hD, rfl, o3, o4, rfl⟩
      refine ⟨hk6, _, rfl, ?_⟩
      cases hx : (natsV l)[k]? with
      | some v =>
        obtain ⟨one, hone, rfl⟩ := getm hx
        have h16 : one < 6 := hllt one (List.mem_of_getElem? hone)
        have hget : getI (dV lV (ownL live u many)) (one : Int) = some (lV (ownN live u many one)) := by rw [getI_dV, getI_rg, if_pos h16]; rfl
        refine JA_Name (hsto _ (by decide)) ⟨_, .tail (.tail (.tail (.tail (.tail (.tail (.tail (.tail (.tail (.tail (.tail (.tail (.tail .head)))))))))))), ?_⟩
        refine JS_cons <| JS_For (fun j ρ M => j ≤ (ownN live u many one).length ∧ ∃ D, DInv D (fun e => (∃ s ∈ l.take k, e ∈ ownN live u many s) ∨ e ∈ (ownN live u many one).take j) ∧ M = [(b, .dictI (dV V.bool D)), srM s x y] ∧ ∃ o4, ρ = ρLaw ns ch kk s cs live u many f (some (iV r)) (some (.mut b)) (some (iV one)) o4 o5) (ownN live u many one).length
          (JI_of <| JE_Subscript <| JE_Name <| JE_Name <| JSub_dI (.fz _) rfl hget ⟨_, Src_list, ⟨Nat.zero_le _, D, hD.congr (by simp), rfl, o4, rfl⟩, ?_⟩)
        clear hD
        rintro j _ _ ⟨hj, D, hD, rfl, o4, rfl⟩
        refine ⟨hj, _, rfl, ?_⟩
        cases hx2 : (natsV (ownN live u many one))[j]? with
        | some v =>
          obtain ⟨e, he, rfl⟩ := getm hx2
          have he9 : e < 9 := own_lt hm6 hu3 hS.lok (List.mem_of_getElem? he)
          refine JA_Name (hsto _ (by decide)) ⟨_, .tail (.tail (.tail (.tail (.tail (.tail (.tail (.tail (.tail (.tail (.tail (.tail (.tail (.tail .head))))))))))))), ?_⟩
          refine JS_cons <| JS_AssignSub <| JE_bool <| JE_Name <| JE_CallT <| JEs_cons <| JE_Name <| JEs_nil <| Jn_intI <| J3_dI .head rfl (by rw [List.length_map]; have := hD.small; omega) ?_
          rw [putI_dV V.bool e true D]
          refine JS_nil ⟨lt_of_get he, _, hD.put he9 (fun x => ?_), rfl, _, rfl⟩
          rw [take_snoc he, List.mem_append, List.mem_singleton, or_assoc]
        | none =>
          have hend := getn hx2
          rw [List.take_of_length_le hend] at hD
          refine JS_nil ⟨by have := lt_of_get hone; omega, D, hD.congr (fun x => ?_), rfl, _, _, rfl⟩
          rw [take_snoc hone]
          constructor
          · rintro ⟨s', hs', h2⟩
            rcases List.mem_append.mp hs' with hs' | hs'
            · exact .inl ⟨s', hs', h2⟩
            · rw [List.mem_singleton.mp hs'] at h2; exact .inr h2
          · rintro (⟨s', hs', h2⟩ | h2)
            · exact ⟨s', List.mem_append_left _ hs', h2⟩
            · exact ⟨one, List.mem_append_right _ (.head _), h2⟩
      | none =>
        have hend := getn hx
        rw [List.take_of_length_le hend] at hD
        exact ⟨rfl, D, hD.congr (fun x => by simp only [hlm]), rfl, o3, o4, rfl⟩
    · clear o3 o4
      rintro fl _ _ ⟨rfl, D, hD, rfl, o3, o4, rfl⟩
      have hDs := hD.small
      have hDl : (dV V.bool D).length < 64 := by rw [List.length_map]; omega
      have hEl := elemsI_len (val f r)
      have getold : (getI (dV fsV f) (r : Int)).getD (.list []) = (getI (dV fsV f) (r : Int)).getD (.list []) := rfl
      refine JS_cons <| JS_If <| JB_Compare <| JE_CallB <| JEs_cons <| JE_Method2 <| JE_Name <| JM_getDI (.fz _) <| JE_Name ⟨rfl, (r : Int), rfl, JE_List <| JEs_nil ⟨by simp, rfl, JEs_nil <| Jn_sortedTold <| JE_CallB <| JEs_cons <| JE_Name <| JEs_nil <| Jn_sortedDI (.mt .head) hDl fun ns' hp hs => ?_⟩⟩
      have hns := hD.sorted hS hT hp hs
      subst hns
      refine J_neL EqOk.int (by decide) (.fz _) (.fz _) (isI_nats _) (fun x hx => by obtain ⟨i, _, rfl⟩ := List.mem_map.mp hx; exact .mk _) fun t ht => ⟨_, rfl, fun htt => ?_, fun _ => JS_nil ?_⟩
      · exact absurd (nats_elems _) (ht.mp htt)
      clear hp hs
      refine JS_cons <| JS_For (fun i ρ M => i ≤ 2 ∧ M = [(b, .dictI (dV V.bool D)), srM s x y] ∧ ∃ o4, ρ = ρLaw ns ch kk s cs live u many f (some (iV r)) (some (.mut b)) o3 o4 o5) 2
        (JI_of <| JE_BinOp <| JE_slice1A <| JE_CallB <| JEs_cons <| JE_Name <| JEs_nil <| Jn_sortedDI (.mt .head) hDl fun ns' hp hs => ?_)
      have hns := hD.sorted hS hT hp hs
      subst hns
      clear hp hs
      refine ⟨_, .fz _, by rw [List.length_map]; omega, JE_sliceLastA <| JE_CallB <| JEs_cons <| JE_Name <| JEs_nil <| Jn_sortedDI (.mt .head) hDl fun ns' hp hs => ?_⟩
      have hns := hD.sorted hS hT hp hs
      subst hns
      clear hp hs
      refine ⟨_, .fz _, by rw [List.length_map]; omega, J_addL (.fz _) (.fz _) ?_ ⟨_, Src_list, ⟨Nat.zero_le _, rfl, o4, rfl⟩, ?_⟩⟩
      · rw [List.length_take, List.length_drop, List.length_map]; omega
      rw [← nats_elems]
      generalize hL : (natsV (elemsN (val f r))).take 1 ++ (natsV (elemsN (val f r))).drop ((natsV (elemsN (val f r))).length - 1) = L
      have hL2 : L.length ≤ 2 := by rw [← hL, List.length_append, List.length_take, List.length_drop]; omega
      have hLm : ∀ v ∈ L, ∃ e, e ∈ elemsN (val f r) ∧ v = iV e := fun v hv => by
        rw [← hL] at hv
        have : v ∈ natsV (elemsN (val f r)) := by
          rcases List.mem_append.mp hv with hv | hv
          · exact List.mem_of_mem_take hv
          · exact List.mem_of_mem_drop hv
        obtain ⟨e, he, rfl⟩ := List.mem_map.mp this
        exact ⟨e, he, rfl⟩
      clear o4
      rintro i _ _ ⟨hi2, rfl, o4, rfl⟩
      refine ⟨hi2, _, rfl, ?_⟩
      cases hx : L[i]? with
      | some v =>
        obtain ⟨e, he, rfl⟩ := hLm v (List.mem_of_getElem? hx)
        have hex : ∃ s, Rch cs r s ∧ e ∈ ownN live u many s := (hT.bits r e).mp (by
          unfold elemsN at he
          exact (List.mem_filter.mp he).2)
        refine JA_Name (hsto _ (by decide)) ⟨_, .tail (.tail (.tail (.tail (.tail (.tail (.tail (.tail (.tail (.tail (.tail (.tail (.tail (.tail .head))))))))))))), ?_⟩
        refine JS_cons <| JS_If <| JB_Not <| JB_call <| JE_CallFn hw hh P.f23.is (hr.le (by decide : 3 ≤ 10)) <| JEs_cons <| JE_Name <| JEs_cons <| JE_Name <| JEs_cons <| JE_Name <| JEs_cons <| JE_Name <| JEs_nil ⟨[(b, _)] ++ [srM s x y], [], [], rfl, fs23 (d := 0) P hS hr6 hex ⟨true, rfl, (fun h => nomatch h), fun _ => JS_nil <| JS_nil ?_⟩⟩
        exact ⟨by have := lt_of_get hx; omega, rfl, some (iV e), rfl⟩
      | none =>
        exact JS_nil ⟨[srM s x y], by simp, hr6, rfl, _, _, _, _, _, rfl⟩
  · rw [if_neg hr6]
    exact ⟨rfl, rfl, o1, o2, o3, o4, o5, rfl⟩
end
end Mine

namespace Mine
open PySem PySem.W PySem.Calls PyProof.Rows

section
variable {w : World} {h₀ : Heap} {ad : Nat → Addr}
set_option maxHeartbeats 4000000 in
theorem law_turn {C : Cx} (P : Pg h₀ ad) (hw : C.w = w) (hh : C.h₀ = h₀) (hr : Room C.A 10) (hsto : Sto C xsLaw) {ns : List Int} (hn : ns.length ≤ 63) {ch : V} {k : Nat} (hk2 : k ≤ 2) {p2 p3 p4 p5 p6 p7 p8 p9 p10 o1 o2 o3 o4 o5 : Option V} :
    JS C xsLaw (gsLaw ad) [some (.list (ns.map .int)), some ch, some (iV k), p2, p3, p4, p5, p6, p7, p8, p9, o1, o2, o3, o4, o5] [] (execs (forBody ((fnBody (fnS 25)).getD 2 (.Pass default))) C.env)
      fun fl ρ' M' => fl = .next ∧ ∃ k p2 p3 p4 p5 p6 p7 p8 p9 o1 o2 o3 o4 o5, ρ' = [some (.list (ns.map .int)), some ch, k, p2, p3, p4, p5, p6, p7, p8, p9, o1, o2, o3, o4, o5] := by
  refine JS_cons <| JS_Assign hsto <| JE_CallFn hw hh P.f16.is (hr.le (by decide : 1 ≤ 10)) <| JEs_cons <| JE_Name <| JEs_cons <| JE_Name <| JEs_nil ⟨[], [], [], rfl, fs16 (d := 0) (ns := ns) (k := k) P (by omega) (by omega) fun s x y hy => ⟨_, .tail (.tail (.tail .head)), ?_⟩⟩
  refine JS_cons <| JS_AssignT <| JE_CallFn hw hh P.f19.is (hr.le (by decide : 2 ≤ 10)) <| JEs_cons <| JE_Name <| JEs_nil ⟨[], [srM s x y], [], rfl, fs19 (d := 0) P hy fun cs live u many x y hS hy => ?_⟩
  refine JA_Tuple (.list _) (by simp) (JAs_cons <| JA_Name (hsto _ (by decide)) ⟨_, .tail (.tail (.tail (.tail .head))), JAs_cons <| JA_Name (hsto _ (by decide)) ⟨_, .tail (.tail (.tail (.tail (.tail .head)))), JAs_cons <| JA_Name (hsto _ (by decide)) ⟨_, .tail (.tail (.tail (.tail (.tail (.tail .head))))), JAs_cons <| JA_Name (hsto _ (by decide)) ⟨_, .tail (.tail (.tail (.tail (.tail (.tail (.tail .head)))))), JAs_nil ?_⟩⟩⟩⟩) rfl rfl
  refine JS_cons <| JS_AssignT2 (hsto _ (by decide)) (hsto _ (by decide)) (by decide) <| JE_Tuple <| JEs_cons <| JE_CallFn hw hh P.f21.is (hr.le (by decide : 2 ≤ 10)) <| JEs_cons <| JE_Name <| JEs_cons <| JE_Name <| JEs_cons <| JE_Name <| JEs_nil ⟨[srM s x y], [], [], rfl, fs21 (d := 0) P hS.uni hS.m6 hS.lok hS.rise <|
    JEs_cons <| JE_CallFn hw hh P.f20.is (hr.le (by decide : 1 ≤ 10)) <| JEs_cons <| JE_Name <| JEs_cons <| JE_Name <| JEs_nil ⟨[srM s x y], [], [], rfl, fs20 (d := 0) P hS.uni <| JEs_nil ⟨by simp, _, _, _, _, rfl, .tail (.tail (.tail (.tail (.tail (.tail (.tail (.tail .head))))))), .tail (.tail (.tail (.tail (.tail (.tail (.tail (.tail (.tail .head)))))))), ?_⟩⟩⟩
  refine JS_cons <| JS_Assign hsto <| JE_CallFn hw hh P.f11.is (hr.le (by decide : 4 ≤ 10)) <| JEs_cons <| JE_Name <| JEs_cons <| JE_Name <| JEs_cons <| JE_Name <| JEs_cons <| JE_Name <| JEs_nil ⟨[srM s x y], [], [], rfl, fs11 (d := 0) P hS.uni hS.m6 hS.lok hS.cok fun f hT => ⟨_, .tail (.tail (.tail (.tail (.tail (.tail (.tail (.tail (.tail (.tail .head))))))))), ?_⟩⟩
  refine JS_cons <| JS_mono (law_regions P hw hh hr hsto hS hT) ?_
  rintro fl _ _ ⟨rfl, rfl, o1, o2, o3, o4, o5, rfl⟩
  refine JS_cons <| JS_Assign hsto <| JE_mono (Q := fun v M1 => ∃ (kn : List (Str × Str)) (x y : Int), v = .list (kn.map ppV) ∧ M1 = [srM s x y]) (JE_IfExp <| JB_Compare <| JE_CallFn hw hh P.f17.is (hr.le (by decide : 1 ≤ 10)) <| JEs_cons <| JE_Name <| JEs_cons <| JE_int <| JEs_nil ⟨[], [srM s x y], [], rfl, fs17 (d := 0) P hy (top := 2) (by decide) (by decide) fun n x y hn hy => JE_int <| J_eqI ⟨_, rfl, fun hc => ?_, fun hc => ?_⟩⟩) ?_
  · exact JE_List <| JEs_cons <| JE_Tuple <| JEs_cons <| JE_str <| JEs_cons <| JE_str <| JEs_nil ⟨by simp, JEs_nil ⟨by simp, [(nA, nB)], x, y, rfl, rfl⟩⟩
  · exact JE_List <| JEs_nil ⟨by simp, [], x, y, rfl, rfl⟩
  rintro v _ ⟨kn, x, y, rfl, rfl⟩
  refine ⟨_, .tail (.tail (.tail (.tail (.tail (.tail (.tail (.tail (.tail (.tail (.tail (.tail (.tail (.tail (.tail .head)))))))))))))), ?_⟩
  refine JS_cons <| JS_If <| JB_Compare <| JE_CallFn hw hh P.f12.is (hr.le (by decide : 3 ≤ 10)) <| JEs_cons <| JE_Name <| JEs_cons <| JE_Name <| JEs_cons <| JE_Name <| JEs_cons <| JE_Name <| JEs_nil ⟨[srM s x y], [], [], rfl, fs12 (d := 0) P hS.uni hS.m6 hT <|
    JE_CallFn hw hh P.f24.is (hr.le (by decide : 1 ≤ 10)) <| JEs_cons <| JE_Name <| JEs_cons <| JE_Name <| JEs_cons <| JE_Name <| JEs_cons <| JE_Name <| JEs_nil ⟨[srM s x y], [], [], rfl, fs24 (d := 0) P hS.uni hS.m6 hT <|
      J_neL (EqOk.str.tup2 EqOk.str) (by decide) (.fz _) (.fz _) (isT2_pp _) (isT2_pp _) fun t ht => ⟨_, rfl, fun htt => absurd rfl (ht.mp htt), fun _ => JS_nil <| JS_nil ⟨rfl, _, _, _, _, _, _, _, _, _, _, _, _, _, _, rfl⟩⟩⟩⟩

end
end Mine

namespace Mine
open PySem PySem.W PySem.Calls PyProof.Rows

section
variable {w : World} {h₀ : Heap} {ad : Nat → Addr}
set_option maxHeartbeats 2000000 in
theorem fs25 (P : Pg h₀ ad) {fa : Addr} (hf : FnAt h₀ fa 25) {ns : List Int} (hn : ns.length ≤ 63) : FS w h₀ 11 (.ref fa) [.list (ns.map .int)] [] fun v M' => v = .bool true := by
  refine FS_intro (xs := xsLaw) (gs := gsLaw ad) ["script"] hf P.lim
    (.cons P.g11 <| .cons P.bSorted <| .cons P.bRange <| .cons P.bMax <| .cons P.bMin <| .cons P.bLen <| .cons P.g16 <| .cons P.g19 <| .cons P.g21 <| .cons P.g20 <| .cons P.g22 <| .cons P.bInt <| .cons P.g23 <| .cons P.g17 <| .cons P.g12 <| .cons P.g24 .nil) rfl rfl (by kernel_rfl) (fun _ _ _ vals hv => ?_) fun C hw hh hr hsto hk hgl => ?_
  · obtain ⟨a, rfl⟩ := len1 hv; rfl
  · simp only [ρ₀]
    show JS C xsLaw (gsLaw ad) [some (.list (ns.map .int)), none, none, none, none, none, none, none, none, none, none, none, none, none, none, none] [] (execs (fnBody (fnS 25)) C.env) _
    refine JS_cons <| JS_Assign hsto <| JE_CallFn hw hh P.f11.is (hr.le (by decide : 4 ≤ 10)) ?_
    refine JEs_cons ?_
    refine JE_List ?_
    refine JEs_cons ?_
    refine JE_Tuple ?_
    refine JEs_cons <| JE_int ?_
    refine JEs_cons <| JE_int ?_
    refine JEs_cons <| JE_Tuple ?_
    refine JEs_cons <| JE_int ?_
    refine JEs_cons <| JE_int ?_
    refine JEs_nil ⟨by simp, ?_⟩
    refine JEs_nil ⟨by simp, ?_⟩
    refine JEs_cons <| JE_Tuple ?_
    refine JEs_cons <| JE_int ?_
    refine JEs_cons <| JE_int ?_
    refine JEs_cons <| JE_Tuple ?_
    refine JEs_cons <| JE_int ?_
    refine JEs_cons <| JE_int ?_
    refine JEs_nil ⟨by simp, ?_⟩
    refine JEs_nil ⟨by simp, ?_⟩
    refine JEs_nil ⟨by simp, ?_⟩
    refine JEs_cons <| JE_freeze <| JE_Dict1 ?_
    refine JE_int ⟨_, rfl, ?_⟩
    refine JE_List ?_
    refine JEs_cons <| JE_int ?_
    refine JEs_nil ⟨by simp, fun a ha => ⟨a, _, _, rfl, .head, ?_⟩⟩
    refine JEs_cons <| JE_freeze <| JE_DictSM fun b hb => ⟨b, _, _, rfl, .head, ?_⟩
    refine JEs_cons <| JE_int ?_
    refine JEs_nil ⟨[], [], [], rfl, ?_⟩
    refine fs11 (d := 0) P .zero (many := 2) (by decide) live3 (cs := [(5, 4, 0), (4, 3, 1)]) ⟨by simp, by simp⟩ fun f hT => ⟨_, .tail .head, ?_⟩
    have e345 : [lV (elemsN (val f 3)), lV (elemsN (val f 4)), lV (elemsN (val f 5))] = [.list [.int 1], .list [.int 1], .list [.int 1]] := by
      rw [first_case hT (.inl rfl), first_case hT (.inr (.inl rfl)), first_case hT (.inr (.inr rfl))]; rfl
    refine JS_cons <| JS_If <| JB_Compare <| JE_ListComp ["region"] ["chain_here"] (gs' := [("sorted", .builtin "sorted")]) (fun i acc M => i ≤ 3 ∧ M = [] ∧ acc = (([3, 4, 5] : List Nat).take i).map fun r => lV (elemsN (val f r))) 3
      ⟨by kernel_rfl, .one (.tail .head) ((hk _).trans (by kernel_rfl)), hgl, ⟨_, hh, .cons P.bSorted .nil⟩⟩
      (JI_of <| JE_List <| JEs_cons <| JE_int <| JEs_cons <| JE_int <| JEs_cons <| JE_int <| JEs_nil ⟨by simp, _, Src_list, ⟨Nat.zero_le _, rfl, rfl⟩, ?_⟩)
    rintro i _ _ ⟨hi, rfl, rfl⟩
    refine ⟨hi, by rw [List.length_map, List.length_take]; simp; omega, (natsV [3, 4, 5])[i]?, rfl, ?_⟩
    cases hx : (natsV [3, 4, 5])[i]? with
    | some x =>
      obtain ⟨r, hrx, rfl⟩ := getm hx
      intro C' cw ch cA hsto'
      dsimp only [List.cons_append, List.nil_append]
      show JA C' ["region", "chain_here"] _ [none, some (.dictI (dV fsV f))] [] (iV r) _ _
      refine JA_Name (hsto' _ (by decide)) ⟨_, .head, JT_nil ⟨(fun h => nomatch h), fun _ => JE_CallB <| JEs_cons <| JE_Method2 <| JE_Name <| JM_getDI (.fz _) <| JE_Name ⟨rfl, (r : Int), rfl, JE_List <| JEs_nil ⟨by simp, rfl, JEs_nil <| Jn_sortedTold ⟨lt_of_get hrx, rfl, ?_⟩⟩⟩⟩⟩
      rw [take_snoc hrx, List.map_append]; rfl
    | none =>
      have hend : 3 ≤ i := getn hx
      have hi3 : i = 3 := by omega
      subst hi3
      refine JE_List <| JEs_cons <| JE_List <| JEs_cons <| JE_int <| JEs_nil ⟨by simp, JEs_cons <| JE_List <| JEs_cons <| JE_int <| JEs_nil ⟨by simp, JEs_cons <| JE_List <| JEs_cons <| JE_int <| JEs_nil ⟨by simp, JEs_nil ⟨by simp, ?_⟩⟩⟩⟩
      have isl : ∀ x ∈ [V.list [.int 1], V.list [.int 1], V.list [.int 1]], IsL IsI x := fun x hx => by
        simp only [List.mem_cons, List.not_mem_nil, or_false, or_self] at hx
        subst hx
        exact .mk _ fun y hy => by rw [List.mem_singleton.mp hy]; exact .mk _
      show J2 _ _ _ _ _ (.list [lV (elemsN (val f 3)), lV (elemsN (val f 4)), lV (elemsN (val f 5))]) _ _ _
      rw [e345]
      refine J_neL EqOk.int.list (by decide) (.fz _) (.fz _) isl isl fun t ht => ⟨_, rfl, fun htt => absurd rfl (ht.mp htt), fun _ => JS_nil ?_⟩
      obtain ⟨N, hN, hN2⟩ : ∃ N : Nat, max 1 (min 2 (((ns.map V.int).length : Nat) : Int)) = (N : Int) ∧ N ≤ 2 := ⟨(max 1 (min 2 (((ns.map V.int).length : Nat) : Int))).toNat, by omega, by omega⟩
      refine JS_cons <| JS_For (fun i ρ M => i ≤ 2 ∧ M = [] ∧ ∃ k p2 p3 p4 p5 p6 p7 p8 p9 o1 o2 o3 o4 o5, ρ = [some (.list (ns.map .int)), some (.dictI (dV fsV f)), k, p2, p3, p4, p5, p6, p7, p8, p9, o1, o2, o3, o4, o5]) 2
        (JI_of <| JE_CallT <| JEs_cons <| JE_CallB <| JEs_cons <| JE_int <| JEs_cons <| JE_CallB <| JEs_cons <| JE_int <| JEs_cons <| JE_CallB <| JEs_cons <| JE_Name <| JEs_nil <| Jn_len (l := ns.map V.int) (.fz _) (by rw [List.length_map]; omega) <| JEs_nil <| Jn_min <| JEs_nil <| Jn_max <| JEs_nil ?_)
      rw [hN]
      refine Jn_range ⟨_, Src_rng (by omega), ⟨Nat.zero_le _, rfl, none, none, none, none, none, none, none, none, none, none, none, none, none, none, rfl⟩, ?_⟩
      rintro i _ _ ⟨hi, rfl, k, p2, p3, p4, p5, p6, p7, p8, p9, o1, o2, o3, o4, o5, rfl⟩
      refine ⟨hi, _, rfl, ?_⟩
      by_cases hiN : i < N
      · rw [if_pos hiN]
        refine JA_Name (hsto _ (by decide)) ⟨_, .tail (.tail .head), ?_⟩
        refine JS_sub <| JS_mono (law_turn P hw hh hr hsto hn hi (p10 := none)) ?_
        rintro fl _ M' ⟨rfl, k, p2, p3, p4, p5, p6, p7, p8, p9, o1, o2, o3, o4, o5, rfl⟩
        exact ⟨[], List.nil_sublist _, by omega, rfl, _, _, _, _, _, _, _, _, _, _, _, _, _, _, rfl⟩
      · rw [if_neg hiN]
        exact JS_cons <| JS_Return <| JE_bool rfl
end
end Mine

namespace Mine
open PySem PySem.W PySem.Calls PyProof.Rows

def fnPos : Stmt → Pos
  | .FunctionDef _ _ _ _ _ _ _ _ _ p => p
  | _ => default
def recN (i : Nat) : DefRec := ⟨fnName (fnS i), fnParams (fnS i), fnBody (fnS i), fnScope (fnS i), fnPos (fnS i)⟩
def blNames : List Str := ["sorted", "frozenset", "max", "min", "int", "len", "range", "list", "dict", "enumerate"]

theorem boot_sorted : bootBuiltins "sorted" = some (.builtin "sorted") := by kernel_rfl
theorem boot_max : bootBuiltins "max" = some (.builtin "max") := by kernel_rfl
theorem boot_min : bootBuiltins "min" = some (.builtin "min") := by kernel_rfl
theorem boot_len : bootBuiltins "len" = some (.builtin "len") := by kernel_rfl
theorem boot_froz : bootBuiltins "frozenset" = some (.type "frozenset") := by kernel_rfl
theorem boot_int : bootBuiltins "int" = some (.type "int") := by kernel_rfl
theorem boot_range : bootBuiltins "range" = some (.type "range") := by kernel_rfl
theorem boot_list : bootBuiltins "list" = some (.type "list") := by kernel_rfl
theorem boot_dict : bootBuiltins "dict" = some (.type "dict") := by kernel_rfl
theorem boot_enum : bootBuiltins "enumerate" = some (.type "enumerate") := by kernel_rfl

/-- what the proof asks of the top's view -/
structure ViewOk (q : Program) (loose : List Str) : Prop where
  recs : recsOf q = fnIdx.map recN
  stat : valOf q "STATIC" = some (.str "'static")
  free : (blNames.all fun x => !startupNames.contains x && !loose.contains x && !((recsOf q).map (·.name)).contains x && !((litsOf q).map (·.1)).contains x && !((clssOf q loose).map (·.name)).contains x) = true

theorem pg_of_top {q : Program} {loose : List Str} {mean : ExcName → Option Value} {mg mb : Str → Option Value} {h : Heap} (T : Top q loose mean mg mb h) (V : ViewOk q loose) :
    ∃ ad, Pg h ad ∧ FnAt h (ad 25) 25 ∧ mg "law" = some (.ref (ad 25)) := by
  have hfn : ∀ i, ∃ a, i ∈ fnIdx → FnAt h a i ∧ mg (fnName (fnS i)) = some (.ref a) := fun i => by
    by_cases hi : i ∈ fnIdx
    · have hm : recN i ∈ recsOf q := by rw [V.recs]; exact List.mem_map.mpr ⟨i, hi, rfl⟩
      obtain ⟨a, o, pm, code, doc, h1, h2, h3, h4⟩ := T.fn _ hm
      exact ⟨a, fun _ => ⟨⟨o, pm, code, doc, h2, h3, h4⟩, h1⟩⟩
    · exact ⟨0, fun h => absurd h hi⟩
  obtain ⟨ad, had⟩ := Classical.axiomOfChoice hfn
  have F : ∀ i, i ∈ fnIdx → FnAt h (ad i) i := fun i hi => (had i hi).1
  have Gl : ∀ i x, i ∈ fnIdx → fnName (fnS i) = x → GlobAt h x (.ref (ad i)) := fun i x hi hx => by
    subst hx; exact .inl ⟨mg, T.g, (had i hi).2⟩
  have Bl : ∀ x v, x ∈ blNames → x ≠ ("__name__" : Str) → bootBuiltins x = some v → GlobAt h x v := fun x v hx hn hb => by
    have hf := List.all_eq_true.mp V.free x hx
    simp only [Bool.and_eq_true, Bool.not_eq_true', List.contains_eq_mem, decide_eq_false_iff_not] at hf
    obtain ⟨⟨⟨⟨f1, f2⟩, f3⟩, f4⟩, f5⟩ := hf
    exact .inr ⟨mg, mb, T.g, T.free x f1 f2 f3 f4 f5, T.b, (T.builtins x hn).trans hb⟩
  refine ⟨ad, ?_, F 25 (by decide), (had 25 (by decide)).2⟩
  constructor
  · exact T.nolimit
  · exact F 4 (by decide)
  · exact F 5 (by decide)
  · exact F 6 (by decide)
  · exact F 7 (by decide)
  · exact F 8 (by decide)
  · exact F 9 (by decide)
  · exact F 10 (by decide)
  · exact F 11 (by decide)
  · exact F 12 (by decide)
  · exact F 13 (by decide)
  · exact F 14 (by decide)
  · exact F 16 (by decide)
  · exact F 17 (by decide)
  · exact F 19 (by decide)
  · exact F 20 (by decide)
  · exact F 21 (by decide)
  · exact F 22 (by decide)
  · exact F 23 (by decide)
  · exact F 24 (by decide)
  · exact Gl 4 _ (by decide) rfl
  · exact Gl 5 _ (by decide) rfl
  · exact Gl 6 _ (by decide) rfl
  · exact Gl 7 _ (by decide) rfl
  · exact Gl 8 _ (by decide) rfl
  · exact Gl 9 _ (by decide) rfl
  · exact Gl 10 _ (by decide) rfl
  · exact Gl 11 _ (by decide) rfl
  · exact Gl 12 _ (by decide) rfl
  · exact Gl 13 _ (by decide) rfl
  · exact Gl 14 _ (by decide) rfl
  · exact Gl 16 _ (by decide) rfl
  · exact Gl 17 _ (by decide) rfl
  · exact Gl 19 _ (by decide) rfl
  · exact Gl 20 _ (by decide) rfl
  · exact Gl 21 _ (by decide) rfl
  · exact Gl 22 _ (by decide) rfl
  · exact Gl 23 _ (by decide) rfl
  · exact Gl 24 _ (by decide) rfl
  · exact Bl _ _ (by decide) (by decide) boot_sorted
  · exact Bl _ _ (by decide) (by decide) boot_froz
  · exact Bl _ _ (by decide) (by decide) boot_max
  · exact Bl _ _ (by decide) (by decide) boot_min
  · exact Bl _ _ (by decide) (by decide) boot_int
  · exact Bl _ _ (by decide) (by decide) boot_len
  · exact Bl _ _ (by decide) (by decide) boot_range
  · exact Bl _ _ (by decide) (by decide) boot_list
  · exact Bl _ _ (by decide) (by decide) boot_dict
  · exact Bl _ _ (by decide) (by decide) boot_enum
  · obtain ⟨v, hv, hr⟩ := T.const _ _ V.stat
    have := hr h
    cases this with
    | str _ t => exact ⟨t, .inl ⟨mg, T.g, hv⟩⟩

/-- the whole call -/
theorem law_call {q : Program} {loose : List Str} {mean : ExcName → Option Value} {mg mb : Str → Option Value} {s : Shared} {w : World} (T : Top q loose mean mg mb s.heap) (V : ViewOk q loose) {fa l : Addr} (hf : mg "law" = some (.ref fa))
    {ns : List Int} (hn : ns.length ≤ 63) {P : Params} (hW : Well P s.heap (.ref l) (ofPy (.list (ns.map .int)))) {Q E : Value → Shared → Prop} (hq : ∀ h' tk, (∀ b o, s.heap.get? b = some o → h'.get? b = some o) → Q (.bool true) { s with heap := h', toks := tk }) :
    wpAny (model PG w) callerA (call (.ref fa) [.ref l]) Q E s := by
  obtain ⟨ad, Pp, hF, hl⟩ := pg_of_top T V
  rw [hf] at hl
  cases hl
  have hrep : Rep w (fun a => s.heap.get? a) (.list (ns.map .int)) (.ref l) := by
    cases hW with
    | list ho hall =>
      refine .list ho ?_
      have key : ∀ {ns : List Int} {vs : List Value}, WellAll P s.heap vs (ofPys (ns.map .int)) → Reps w (fun a => s.heap.get? a) (ns.map .int) vs := by
        intro ns
        induction ns with
        | nil => intro vs h; cases h; exact .nil
        | cons n ns ih =>
          intro vs h
          cases h with
          | cons h1 h2 =>
            cases h1 with
            | int _ t => exact .cons (.int n t) (ih h2)
      exact key hall
  refine fs25 Pp hF hn callerA s (fun a => s.heap.get? a) (fun a => s.heap.get? a) [.ref l] [] ⟨rfl, by decide, by decide⟩ (fun _ _ e => e) (fun _ _ e => e) (fun _ _ e => e) (.cons hrep .nil) .nil .nil (fun _ h => nomatch h) Q E ?_
  intro v M' X' B' s' cv hs _ _ kZ rv _ _ _ _ hv
  obtain ⟨h', tk, rfl⟩ := hs
  subst hv
  cases rv
  exact hq h' tk kZ
end Mine

namespace Mine
open PySem PySem.W PySem.Calls PyProof.Rows

theorem view_ok : ViewOk vw (looseW vw ["LendError"]) := ⟨by kernel_rfl, by kernel_rfl, by decide +kernel⟩
end Mine

open PySem PySem.W PyProof.Rows
set_option maxHeartbeats 4000000 in
theorem PySem.Challenge.cw_nu0376_01_holds : PySem.Challenge.rw_nu0376_01.Holds := by
  w_on
  refine holds_law Mine.law_said fun said => ?_
  refine holds_open (q := Mine.vw) (loose := ["LendError"]) (Xt := fun s => xlAt Mine.vw [] s && recOk (RowW.records Mine.lawRow) s) (XP := XL Mine.vw []) (Yf := Hook.obs Hook.none) (Ya := Hook.val Hook.none) (YP := Hook.says Hook.none) (N := 1960)
    Mine.left_whole (Hook.of Hook.none) (Hook.keeps Hook.none) (fun s e => xl_of s (Bool.and_eq_true_iff.mp e).1) XL.keeps (by rfl) (by rfl) (by rfl) (fun s e => recFacts_of (Bool.and_eq_true_iff.mp e).2) (by rfl) (by assumption) (by decide +kernel) ⟨rfl, rfl, rfl, rfl, rfl, by decide +kernel⟩ ?hw ?hc
  (case hw => w_witness2)
  intro w s₀ s₁ mg mb G Y fa o pm cd doc dV kV ho hd hcd hD hmg hg args vals as hpre hlay hrd hwl hlo
  have T := G.T
  wrow_args hpre hlay hrd hwl hlo
  rename_i ns hs1 hl1 hl2 hr1 hl3 as1 as2 l vs as3 hL ra hW r0 hI hr2 hc hc2
  have hn : ns.length ≤ 63 := by omega
  refine Mine.law_call T Mine.view_ok hmg hn hW ?_
  intro h' tk hk
  refine GoodW.toG ⟨.inl ⟨_, .bool true, [], rfl, raisesW_false ?_, ReadsW.bool _, ?_, unshared_nil⟩, hk, rfl, hg⟩
  · wrow_none_raised
  · wrow_post
