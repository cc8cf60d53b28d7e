import PyProof.Rows.All
import Wide.All
import OpenK.AllK
import Wide.FinOn
import Lean
import PySem.Challenge.RW_xm0942_01
section
set_option compiler.extract_closed false
open PySem
set_option Elab.async false
set_option maxRecDepth 100000
set_option tactic.hygienic false
set_option linter.all false
namespace Mine

theorem none_k {α : Type _} {P : Prop} {a : α} (h : none = some a) : P := nomatch h
theorem some_k {α : Type _} {P : Prop} {a : α} (h : some a = none) : P := nomatch h
theorem false_k {P : Prop} (h : false = true) : P := nomatch h
theorem true_k {P : Prop} (h : true = false) : P := nomatch h
inductive AV where
  | none
  | bool (b : Bool)
  | int (i : Int)
  | str (l : List Nat)
  | tup (l : List AV)
  | lst (l : List AV)
  | ref (i : Nat)
  | inst (C i : Nat)
deriving Inhabited

inductive AO where
  | list (vs : List AV)
  | flds (es : List (Nat × AV))
  | dict (es : List (List Nat × AV))
deriving Inhabited

noncomputable abbrev St := List AO
noncomputable abbrev Loc := List (Option AV)

inductive BOp where | add | sub | mul | pow | div | mod
deriving DecidableEq
inductive COp where | eq | ne | lt | gt | is | isn | isin | nin
deriving DecidableEq

inductive ME where
  | bad
  | c (v : AV)
  | ng (k : Nat)
  | x (i : Nat)
  | g (n : Nat)
  | at (e : ME) (f : Nat)
  | tp (es : List ME)
  | ls (es : List ME)
  | dc
  | ix (e i : ME)
  | sl (e : ME) (lo hi : Option ME)
  | sr (e : ME)
  | bo (op : BOp) (a b : ME)
  | cm (op : COp) (a b : ME)
  | nt (e : ME)
  | an (es : List ME)
  | or (es : List ME)
  | ie (t a b : ME)
  | cf (f : Nat) (es : List ME)
  | nw (C : Nat) (es : List ME)
  | mc (e : ME) (m : Nat) (es : List ME)
  | bm (e : ME) (m : Nat) (es : List ME)
  | ii (e : ME) (c : Nat)
  | bf (f : Nat) (e : ME)
  | lc (n : Nat) (fv : List (Nat × Nat)) (g : List Nat) (gt : Bool) (it : ME) (cond : Option ME) (e : ME)
deriving Inhabited

inductive Tg where
  | x (i : Nat)
  | tup (gs : List Tg)
  | at (e : ME) (f : Nat)
  | ix (e i : ME)
deriving Inhabited

inductive MS where
  | bad
  | as (g : Tg) (e : ME)
  | asw (xs : List Nat) (e : ME)
  | asl (x : Nat) (e : ME)
  | au (e : ME) (f : Nat) (v : ME)
  | ex (e : ME)
  | rt (e : ME)
  | iff (t : ME) (a b : List MS)
  | wh (t : ME) (b : List MS)
  | fr (g : Tg) (it : ME) (b : List MS)
  | br
  | ct
deriving Inhabited

inductive Src where
  | lst (i k : Nat)
  | rng (x : Int) (n : Nat)
  | chs (l : List Nat)

noncomputable def Src.next (σ : St) : Src → Option (Option (AV × Src))
  | .lst i k => match σ[i]? with
    | some (.list vs) => match vs[k]? with
      | some v => some (some (v, .lst i (k + 1)))
      | none => some none
    | _ => none
  | .rng _ 0 => some none
  | .rng x (n + 1) => some (some (.int x, .rng (x + 1) n))
  | .chs [] => some none
  | .chs (c :: l) => some (some (.str [c], .chs l))

inductive Fl where | next | brk | cont | ret (v : AV)

noncomputable def onInt {α : Type} (v : AV) (f : Int → Option α) : Option α := match v with
  | .int i => f i
  | _ => none
noncomputable def onStr {α : Type} (v : AV) (f : List Nat → Option α) : Option α := match v with
  | .str i => f i
  | _ => none
noncomputable def onBool {α : Type} (v : AV) (f : Bool → Option α) : Option α := match v with
  | .bool i => f i
  | _ => none
noncomputable def onTup {α : Type} (v : AV) (f : List AV → Option α) : Option α := match v with
  | .tup i => f i
  | _ => none
noncomputable def onNone {α : Type} (v : AV) (r : Option α) : Option α := match v with
  | .none => r
  | _ => none
noncomputable def onRef {α : Type} (v : AV) (f : Nat → Option α) : Option α := match v with
  | .ref i => f i
  | _ => none
noncomputable def onL {α : Type} (o : Option AO) (f : List AV → Option α) : Option α := match o with
  | some (.list vs) => f vs
  | _ => none
noncomputable def onD {α : Type} (o : Option AO) (f : List (List Nat × AV) → Option α) : Option α := match o with
  | some (.dict vs) => f vs
  | _ => none
noncomputable def on0 {α : Type} (l : List AV) (r : Option α) : Option α := match l with
  | [] => r
  | _ => none
noncomputable def on1 {α : Type} (l : List AV) (f : AV → Option α) : Option α := match l with
  | [x] => f x
  | _ => none
noncomputable def on2 {α : Type} (l : List AV) (f : AV → AV → Option α) : Option α := match l with
  | [x, y] => f x y
  | _ => none
noncomputable def on3 {α : Type} (l : List AV) (f : AV → AV → AV → Option α) : Option α := match l with
  | [x, y, z] => f x y z
  | _ => none
noncomputable def onList {α : Type} (σ : St) (v : AV) (f : Nat → List AV → Option α) : Option α := onRef v fun i => onL σ[i]? (f i)
noncomputable def onDict {α : Type} (σ : St) (v : AV) (f : Nat → List (List Nat × AV) → Option α) : Option α := onRef v fun i => onD σ[i]? (f i)

noncomputable def binV (op : BOp) (x y : AV) : Option AV := match op with
  | .add => (onInt x fun a => onInt y fun b => some (.int (a + b))) <|> (onStr x fun a => onStr y fun b => if a.length + b.length ≤ 1000 then some (.str (a ++ b)) else none)
  | .sub => onInt x fun a => onInt y fun b => some (.int (a - b))
  | .mul => (onInt x fun a => onInt y fun b => if 0 ≤ a ∧ a < 1000 ∧ 0 ≤ b ∧ b < 1000 then some (.int (a * b)) else none) <|> (onStr x fun a => onInt y fun b => if 0 ≤ b ∧ b < 100 ∧ a.length ≤ 10 then some (.str (List.replicate b.toNat a).flatten) else none)
  | .pow => onInt x fun a => onInt y fun b => if 0 ≤ a ∧ a < 10 ∧ 0 ≤ b ∧ b < 10 then some (.int (a ^ b.toNat)) else none
  | .div => onInt x fun a => onInt y fun b => if 0 < b ∧ b < 1000 then some (.int (Int.fdiv a b)) else none
  | .mod => onInt x fun a => onInt y fun b => if 0 < b ∧ b < 1000 then some (.int (Int.fmod a b)) else none

noncomputable def strsOf : List AV → Option (List (List Nat))
  | [] => some []
  | .str l :: r => (strsOf r).map (l :: ·)
  | _ :: _ => none

noncomputable def isNone : AV → Bool
  | .none => true
  | _ => false

noncomputable def cmpV (op : COp) (x y : AV) : Option Bool := match op with
  | .eq => (onInt x fun a => onInt y fun b => some (a == b)) <|> (onStr x fun a => onStr y fun b => some (a == b)) <|> (onBool x fun a => onBool y fun b => some (a == b)) <|> (onTup x fun q0 => onStr y fun q0 => some false)
  | .ne => onStr x fun a => onStr y fun b => some (a != b)
  | .lt => onInt x fun a => onInt y fun b => some (decide (a < b))
  | .gt => onInt x fun a => onInt y fun b => some (decide (a > b))
  | .is => onNone y (some (isNone x))
  | .isn => onNone y (some (!isNone x))
  | .isin => onStr x fun a => onTup y fun vs => (strsOf vs).map (·.contains a)
  | .nin => onStr x fun a => onTup y fun vs => (strsOf vs).map (!·.contains a)

noncomputable def okS (l : List (List Nat)) : Bool := l.all fun x => x.all fun c => c < 1000
noncomputable def cmpL (σ : St) (op : COp) (x y : AV) : Option Bool := match op with
  | .eq => onList σ x fun q0 a => onList σ y fun q0 b => (strsOf a).bind fun a => (strsOf b).bind fun b => if okS a && okS b then some (a == b) else none
  | .isin => onStr x fun q0 => onList σ y fun q0 vs => on0 vs (some false)
  | .ne => onTup x fun l => on3 l fun x1 x2 x3 => onInt x1 fun a => onInt x2 fun b => onList σ x3 fun q0 u => on0 u (onTup y fun l => on3 l fun y1 y2 y3 => onInt y1 fun c => onInt y2 fun d => onList σ y3 fun q0 w => on0 w (some (a != c || b != d)))
  | _ => none

noncomputable def cmpR (σ : St) (op : COp) (a b : AV) : Option Bool := cmpV op a b <|> cmpL σ op a b

noncomputable def itemR (σ : St) (o k : AV) : Option AV :=
  (onInt k fun k => (onTup o fun vs => if 0 ≤ k ∧ k < 1000000 then vs[k.toNat]? else none) <|> (onStr o fun l => if 0 ≤ k ∧ k < 1000000 then (l[k.toNat]?).map fun c => .str [c] else none) <|> (onList σ o fun q0 vs => if 0 ≤ k ∧ k < 1000000 then vs[k.toNat]? else none)) <|>
  (onStr k fun n => onDict σ o fun q0 es => es.lookup n)

noncomputable def putS {α : Type} [BEq α] (k : α) (v : AV) : List (α × AV) → List (α × AV)
  | [] => [(k, v)]
  | e :: r => if e.1 == k then (k, v) :: r else e :: putS k v r

noncomputable def storeR (σ : St) (o k v : AV) : Option St :=
  (onInt k fun k => onList σ o fun i vs => if 0 ≤ k ∧ k < 1000000 ∧ k.toNat < vs.length then some (σ.set i (.list (vs.set k.toNat v))) else none) <|>
  (onStr k fun n => onDict σ o fun i es => if es.length < 100000 then some (σ.set i (.dict (putS n v es))) else none)

noncomputable def getF (σ : St) (o : AV) (f : Nat) : Option AV := match o with
  | .inst _ i => match σ[i]? with
    | some (.flds es) => es.lookup f
    | _ => none
  | _ => none
noncomputable def setF (σ : St) (o : AV) (f : Nat) (v : AV) : Option St := match o with
  | .inst _ i => match σ[i]? with
    | some (.flds es) => if es.length < 100 then some (σ.set i (.flds (putS f v es))) else none
    | _ => none
  | _ => none

noncomputable def intOr (d : Int) : Option AV → Option Int
  | none => some d
  | some (.int k) => if 0 ≤ k ∧ k < 1000000 then some k else none
  | _ => none
noncomputable def hiR : Option AV → Option (Option Nat)
  | none => some none
  | some (.int k) => if 0 ≤ k ∧ k < 1000000 then some (some k.toNat) else none
  | _ => none
noncomputable def cut {α : Type} (lo hi : Nat) (l : List α) : List α := (l.take hi).drop lo

noncomputable def sliceR0 (σ : St) (o : AV) (lo hi : Option AV) : Option (AV ⊕ List AV) :=
  match intOr 0 lo, hiR hi with
  | some lo, some hi => match o with
    | .str l => some (.inl (.str (cut lo.toNat (hi.getD l.length) l)))
    | .lst l => some (.inr (cut lo.toNat (hi.getD l.length) l))
    | .ref i => match σ[i]? with
      | some (.list vs) => some (.inr (cut lo.toNat (hi.getD vs.length) vs))
      | _ => none
    | _ => none
  | _, _ => none
noncomputable def revR0 (σ : St) (o : AV) : Option (AV ⊕ List AV) := match o with
  | .str l => some (.inl (.str l.reverse))
  | .ref i => match σ[i]? with
    | some (.list vs) => some (.inr vs.reverse)
    | _ => none
  | _ => none

noncomputable def okLen (σ : St) : AV → Bool
  | .str l => decide (l.length ≤ 100000)
  | .lst l => decide (l.length ≤ 100000)
  | .ref i => match σ[i]? with
    | some (.list vs) => decide (vs.length ≤ 100000)
    | _ => false
  | _ => false
noncomputable def sliceR (σ : St) (o : AV) (lo hi : Option AV) : Option (AV ⊕ List AV) := if okLen σ o then sliceR0 σ o lo hi else none
noncomputable def revR (σ : St) (o : AV) : Option (AV ⊕ List AV) := if okLen σ o then revR0 σ o else none
noncomputable def binL (σ : St) (op : BOp) (x y : AV) : Option (List AV) := match op with
  | .add => onList σ x fun q0 a => onList σ y fun q0 b => if a.length + b.length ≤ 100000 then some (a ++ b) else none
  | .mul => onList σ x fun q0 a => onInt y fun n => if 0 ≤ n ∧ n < 1000 ∧ a.length ≤ 1 then some (List.replicate n.toNat a).flatten else none
  | _ => none

noncomputable def isIn (c : Nat) : AV → Option Bool
  | .str _ => if c = 0 then some true else if c = 1 then some false else if 15 ≤ c then some false else none
  | .tup _ => if c = 0 then some false else if c = 1 then some true else none
  | .int _ => if c = 0 then some false else if c = 1 then some false else none
  | _ => none

noncomputable def bfR (σ : St) (f : Nat) (v : AV) : Option AV := match f with
  | 0 => (onTup v fun l => if l.length < 1000000 then some (.int l.length) else none) <|> (onStr v fun l => if l.length < 1000000 then some (.int l.length) else none) <|> (onList σ v fun q0 l => if l.length < 1000000 then some (.int l.length) else none)
  | 1 => onInt v fun i => some (.int i.natAbs)
  | 2 => onInt v fun i => some (.int i)
  | _ => none

noncomputable def joinS : List (List Nat) → List Nat := List.flatten

noncomputable def bmR (σ : St) (m : Nat) (o : AV) (args : List AV) : Option (AV × St) := match m with
  | 0 => onList σ o fun i vs => on1 args fun v => if vs.length < 100000 then some (.none, σ.set i (.list (vs ++ [v]))) else none
  | 1 => onList σ o fun i vs => on0 args (vs.getLast?.bind fun v => if vs.length ≤ 1000000 then some (v, σ.set i (.list vs.dropLast)) else none)
  | 2 => onList σ o fun i a => on1 args fun x => onList σ x fun j b => if i ≠ j ∧ a.length + b.length < 100000 then some (.none, σ.set i (.list (a ++ b))) else none
  | 3 => onList σ o fun q0 vs => on0 args (on0 vs (some (.none, σ)))
  | 4 => onDict σ o fun q0 es => on2 args fun n d => onStr n fun n => some ((es.lookup n).getD d, σ)
  | 5 => onStr o fun t => on1 args fun x => onList σ x fun q0 vs => (strsOf vs).bind fun l => if t = [] ∧ l.length ≤ 1000 ∧ (joinS l).length ≤ 1000 then some (.str (joinS l), σ) else none
  | 6 => onStr o fun t => on1 args fun x => onStr x fun c => if t = [88, 89, 90] then (if c = [88] then some (.int 0, σ) else if c = [89] then some (.int 1, σ) else if c = [90] then some (.int 2, σ) else none) else none
  | _ => none

noncomputable def isStrV : AV → Bool
  | .str _ => true
  | _ => false
noncomputable def isLstV (σ : St) (o : AV) : Bool := match o with
  | .ref i => match σ[i]? with
    | some (.list _) => true
    | _ => false
  | _ => false
noncomputable def isDctV (σ : St) (o : AV) : Bool := match o with
  | .ref i => match σ[i]? with
    | some (.dict _) => true
    | _ => false
  | _ => false
noncomputable def bmK (σ : St) (m : Nat) (o : AV) : Bool := match m with
  | 4 => isDctV σ o
  | 5 => isStrV o
  | 6 => isStrV o
  | m => decide (m ≤ 3) && isLstV σ o

noncomputable def isFl (σ : St) (i : Nat) : Bool := match σ[i]? with
  | some (.flds _) => true
  | _ => false

structure FnDef where
  np : Nat
  nl : Nat
  body : List MS
structure Prog where
  fn : Nat → Option FnDef
  meth : Nat → Nat → Option Nat
  init : Nat → Option Nat
  glob : Nat → Option AV

noncomputable def initLoc (fd : FnDef) (args : List AV) : Loc := args.map some ++ List.replicate (fd.nl - fd.np) none

noncomputable def plainT : ME → Bool
  | .bad | .nt _ | .an _ | .or _ | .ie .. | .cm .. => false
  | _ => true

noncomputable def freshLoc (ρ : Loc) (n : Nat) (fv : List (Nat × Nat)) : Loc := (List.range n).map fun i => match fv.lookup i with
  | some j => (ρ[j]?).join
  | none => none

noncomputable def flOf : Fl → AV
  | .ret v => v
  | _ => .none

noncomputable def setL : Loc → List Nat → List AV → Loc
  | ρ, i :: is, v :: vs => setL (ρ.set i (some v)) is vs
  | ρ, _, _ => ρ
noncomputable def notBad : ME → Bool
  | .bad => false
  | _ => true

section
set_option compiler.extract_closed false
variable {α β : Type} {r : α} {v : AV} {σ : St}
theorem onInt_i {f : Int → Option α} (h : onInt v f = some r) : ∃ i, v = .int i ∧ f i = some r := by
  cases v <;> first | exact ⟨_, rfl, h⟩ | first | exact none_k h | exact false_k h | exact some_k h | exact true_k h | cases h
theorem onStr_i {f : List Nat → Option α} (h : onStr v f = some r) : ∃ i, v = .str i ∧ f i = some r := by
  cases v <;> first | exact ⟨_, rfl, h⟩ | first | exact none_k h | exact false_k h | exact some_k h | exact true_k h | cases h
theorem onBool_i {f : Bool → Option α} (h : onBool v f = some r) : ∃ i, v = .bool i ∧ f i = some r := by
  cases v <;> first | exact ⟨_, rfl, h⟩ | first | exact none_k h | exact false_k h | exact some_k h | exact true_k h | cases h
theorem onTup_i {f : List AV → Option α} (h : onTup v f = some r) : ∃ i, v = .tup i ∧ f i = some r := by
  cases v <;> first | exact ⟨_, rfl, h⟩ | first | exact none_k h | exact false_k h | exact some_k h | exact true_k h | cases h
theorem onRef_i {f : Nat → Option α} (h : onRef v f = some r) : ∃ i, v = .ref i ∧ f i = some r := by
  cases v <;> first | exact ⟨_, rfl, h⟩ | first | exact none_k h | exact false_k h | exact some_k h | exact true_k h | cases h
theorem onNone_i {q : Option α} (h : onNone v q = some r) : v = .none ∧ q = some r := by
  cases v <;> first | exact ⟨rfl, h⟩ | first | exact none_k h | exact false_k h | exact some_k h | exact true_k h | cases h
theorem onL_i {o : Option AO} {f : List AV → Option α} (h : onL o f = some r) : ∃ vs, o = some (.list vs) ∧ f vs = some r := by
  cases o with
  | none => first | exact none_k h | exact false_k h | exact some_k h | exact true_k h | cases h
  | some o => cases o <;> first | exact ⟨_, rfl, h⟩ | first | exact none_k h | exact false_k h | exact some_k h | exact true_k h | cases h
theorem onD_i {o : Option AO} {f : List (List Nat × AV) → Option α} (h : onD o f = some r) : ∃ vs, o = some (.dict vs) ∧ f vs = some r := by
  cases o with
  | none => first | exact none_k h | exact false_k h | exact some_k h | exact true_k h | cases h
  | some o => cases o <;> first | exact ⟨_, rfl, h⟩ | first | exact none_k h | exact false_k h | exact some_k h | exact true_k h | cases h
theorem onList_i {f : Nat → List AV → Option α} (h : onList σ v f = some r) : ∃ i vs, v = .ref i ∧ σ[i]? = some (.list vs) ∧ f i vs = some r := by
  obtain ⟨i, e, h⟩ := onRef_i h
  obtain ⟨vs, e2, h⟩ := onL_i h
  exact ⟨i, vs, e, e2, h⟩
theorem onDict_i {f : Nat → List (List Nat × AV) → Option α} (h : onDict σ v f = some r) : ∃ i vs, v = .ref i ∧ σ[i]? = some (.dict vs) ∧ f i vs = some r := by
  obtain ⟨i, e, h⟩ := onRef_i h
  obtain ⟨vs, e2, h⟩ := onD_i h
  exact ⟨i, vs, e, e2, h⟩
theorem onList_e {i : Nat} {vs : List AV} {f : Nat → List AV → Option α} (h : σ[i]? = some (.list vs)) : onList σ (.ref i) f = f i vs := by
  show onL σ[i]? (f i) = f i vs
  rw [h]; rfl
theorem onDict_e {i : Nat} {vs : List (List Nat × AV)} {f : Nat → List (List Nat × AV) → Option α} (h : σ[i]? = some (.dict vs)) : onDict σ (.ref i) f = f i vs := by
  show onD σ[i]? (f i) = f i vs
  rw [h]; rfl
theorem on0_i {l : List AV} {q : Option α} (h : on0 l q = some r) : l = [] ∧ q = some r := by
  cases l with
  | nil => exact ⟨rfl, h⟩
  | cons => first | exact none_k h | exact false_k h | exact some_k h | exact true_k h | cases h
theorem on1_i {l : List AV} {f : AV → Option α} (h : on1 l f = some r) : ∃ x, l = [x] ∧ f x = some r := by
  match l, h with
  | [x], h => exact ⟨x, rfl, h⟩
theorem on2_i {l : List AV} {f : AV → AV → Option α} (h : on2 l f = some r) : ∃ x y, l = [x, y] ∧ f x y = some r := by
  match l, h with
  | [x, y], h => exact ⟨x, y, rfl, h⟩
theorem on3_i {l : List AV} {f : AV → AV → AV → Option α} (h : on3 l f = some r) : ∃ x y z, l = [x, y, z] ∧ f x y z = some r := by
  match l, h with
  | [x, y, z], h => exact ⟨x, y, z, rfl, h⟩
theorem or_i {a b : Option α} (h : (a <|> b) = some r) : a = some r ∨ b = some r := by
  cases a with
  | none => exact .inr h
  | some a => exact .inl h
theorem bind_i {o : Option β} {f : β → Option α} (h : o.bind f = some r) : ∃ a, o = some a ∧ f a = some r := by
  cases o with
  | none => first | exact none_k h | exact false_k h | exact some_k h | exact true_k h | cases h
  | some a => exact ⟨a, rfl, h⟩
theorem if_i {p : Prop} [Decidable p] {a : Option α} (h : (if p then a else none) = some r) : p ∧ a = some r := by
  by_cases q : p
  · rw [if_pos q] at h; exact ⟨q, h⟩
  · rw [if_neg q] at h; first | exact none_k h | exact false_k h | exact some_k h | exact true_k h | cases h
@[elab_as_elim] theorem onInt_c {P : AV → Prop} {f : Int → Option α} (h : onInt v f = some r) (k : ∀ i, f i = some r → P (.int i)) : P v := let ⟨i, e, h⟩ := onInt_i h; e ▸ k i h
@[elab_as_elim] theorem onStr_c {P : AV → Prop} {f : List Nat → Option α} (h : onStr v f = some r) (k : ∀ i, f i = some r → P (.str i)) : P v := let ⟨i, e, h⟩ := onStr_i h; e ▸ k i h
@[elab_as_elim] theorem onBool_c {P : AV → Prop} {f : Bool → Option α} (h : onBool v f = some r) (k : ∀ i, f i = some r → P (.bool i)) : P v := let ⟨i, e, h⟩ := onBool_i h; e ▸ k i h
@[elab_as_elim] theorem onTup_c {P : AV → Prop} {f : List AV → Option α} (h : onTup v f = some r) (k : ∀ i, f i = some r → P (.tup i)) : P v := let ⟨i, e, h⟩ := onTup_i h; e ▸ k i h
@[elab_as_elim] theorem onNone_c {P : AV → Prop} {q : Option α} (h : onNone v q = some r) (k : q = some r → P .none) : P v := let ⟨e, h⟩ := onNone_i h; e ▸ k h
@[elab_as_elim] theorem onList_c {P : AV → Prop} {f : Nat → List AV → Option α} (h : onList σ v f = some r) (k : ∀ i vs, σ[i]? = some (.list vs) → f i vs = some r → P (.ref i)) : P v := let ⟨i, vs, e, e2, h⟩ := onList_i h; e ▸ k i vs e2 h
@[elab_as_elim] theorem onDict_c {P : AV → Prop} {f : Nat → List (List Nat × AV) → Option α} (h : onDict σ v f = some r) (k : ∀ i vs, σ[i]? = some (.dict vs) → f i vs = some r → P (.ref i)) : P v := let ⟨i, vs, e, e2, h⟩ := onDict_i h; e ▸ k i vs e2 h
@[elab_as_elim] theorem on0_c {P : List AV → Prop} {l : List AV} {q : Option α} (h : on0 l q = some r) (k : q = some r → P []) : P l := let ⟨e, h⟩ := on0_i h; e ▸ k h
@[elab_as_elim] theorem on1_c {P : List AV → Prop} {l : List AV} {f : AV → Option α} (h : on1 l f = some r) (k : ∀ x, f x = some r → P [x]) : P l := let ⟨x, e, h⟩ := on1_i h; e ▸ k x h
@[elab_as_elim] theorem on2_c {P : List AV → Prop} {l : List AV} {f : AV → AV → Option α} (h : on2 l f = some r) (k : ∀ x y, f x y = some r → P [x, y]) : P l := let ⟨x, y, e, h⟩ := on2_i h; e ▸ k x y h
@[elab_as_elim] theorem on3_c {P : List AV → Prop} {l : List AV} {f : AV → AV → AV → Option α} (h : on3 l f = some r) (k : ∀ x y z, f x y z = some r → P [x, y, z]) : P l := let ⟨x, y, z, e, h⟩ := on3_i h; e ▸ k x y z h
theorem or_c {P : Prop} {a b : Option α} (h : (a <|> b) = some r) (k : a = some r → P) (k2 : b = some r → P) : P := (or_i h).elim k k2
theorem bind_c {P : Prop} {o : Option β} {f : β → Option α} (h : o.bind f = some r) (k : ∀ a, o = some a → f a = some r → P) : P := let ⟨a, e, h⟩ := bind_i h; k a e h
theorem if_c {P : Prop} {p : Prop} [Decidable p] {a : Option α} (h : (if p then a else none) = some r) (k : p → a = some r → P) : P := let ⟨e, h⟩ := if_i h; k e h
@[elab_as_elim] theorem some_c {P : α → Prop} {a : α} (h : some a = some r) (k : P a) : P r := Option.some.inj h ▸ k
theorem cmp_c {P : COp → AV → AV → Bool → Prop} {op : COp} {x y : AV} {r : Bool} (h : cmpR σ op x y = some r)
    (ii : ∀ a b, P .eq (.int a) (.int b) (a == b)) (ss : ∀ a b, P .eq (.str a) (.str b) (a == b)) (bb : ∀ a b, P .eq (.bool a) (.bool b) (a == b)) (ts : ∀ a b, P .eq (.tup a) (.str b) false)
    (ll : ∀ i a j b u w, σ[i]? = some (.list a) → σ[j]? = some (.list b) → strsOf a = some u → strsOf b = some w → (okS u && okS w) = true → P .eq (.ref i) (.ref j) (u == w))
    (ns : ∀ a b, P .ne (.str a) (.str b) (a != b)) (nt : ∀ a b i c d j, σ[i]? = some (.list []) → σ[j]? = some (.list []) → P .ne (.tup [.int a, .int b, .ref i]) (.tup [.int c, .int d, .ref j]) (a != c || b != d))
    (lt : ∀ a b : Int, P .lt (.int a) (.int b) (decide (a < b))) (gt : ∀ a b : Int, P .gt (.int a) (.int b) (decide (a > b))) (is : ∀ x, P .is x .none (isNone x)) (isn : ∀ x, P .isn x .none (!isNone x))
    (st : ∀ a vs l, strsOf vs = some l → P .isin (.str a) (.tup vs) (l.contains a)) (sl : ∀ a i, σ[i]? = some (.list []) → P .isin (.str a) (.ref i) false) (nst : ∀ a vs l, strsOf vs = some l → P .nin (.str a) (.tup vs) (!l.contains a)) : P op x y r := by
  cases op with
  | eq => exact or_c h (fun h => or_c h (fun h => onInt_c h fun a h => onInt_c h fun b h => some_c h (ii a b)) fun h => or_c h (fun h => onStr_c h fun a h => onStr_c h fun b h => some_c h (ss a b)) fun h => or_c h (fun h => onBool_c h fun a h => onBool_c h fun b h => some_c h (bb a b)) fun h => onTup_c h fun a h => onStr_c h fun b h => some_c h (ts a b)) fun h => onList_c h fun i a e1 h => onList_c h fun j b e2 h => bind_c h fun u f1 h => bind_c h fun w f2 h => if_c h fun g h => some_c h (ll i a j b u w e1 e2 f1 f2 g)
  | ne => exact or_c h (fun h => onStr_c h fun a h => onStr_c h fun b h => some_c h (ns a b)) fun h => onTup_c h fun l h => on3_c h fun x1 x2 x3 h => onInt_c h fun a h => onInt_c h fun b h => onList_c h fun i l e1 h => on0_c (P := fun l => σ[i]? = some (.list l) → P .ne (.tup [.int a, .int b, .ref i]) y r) h (fun h e1 => onTup_c h fun l h => on3_c h fun y1 y2 y3 h => onInt_c h fun c h => onInt_c h fun d h => onList_c h fun j l e2 h => on0_c (P := fun l => σ[j]? = some (.list l) → P .ne (.tup [.int a, .int b, .ref i]) (.tup [.int c, .int d, .ref j]) r) h (fun h e2 => some_c h (nt a b i c d j e1 e2)) e2) e1
  | lt => exact or_c h (fun h => onInt_c h fun a h => onInt_c h fun b h => some_c h (lt a b)) none_k
  | gt => exact or_c h (fun h => onInt_c h fun a h => onInt_c h fun b h => some_c h (gt a b)) none_k
  | is => exact or_c h (fun h => onNone_c h fun h => some_c h (is x)) none_k
  | isn => exact or_c h (fun h => onNone_c h fun h => some_c h (isn x)) none_k
  | isin => exact or_c h (fun h => onStr_c h fun a h => onTup_c h fun vs h => let ⟨l, h1, e⟩ := Option.map_eq_some_iff.mp h; e ▸ st a vs l h1) fun h => onStr_c h fun a h => onList_c h fun i l e1 h => on0_c (P := fun l => σ[i]? = some (.list l) → P .isin (.str a) (.ref i) r) h (fun h e1 => some_c h (sl a i e1)) e1
  | nin => exact or_c h (fun h => onStr_c h fun a h => onTup_c h fun vs h => let ⟨l, h1, e⟩ := Option.map_eq_some_iff.mp h; e ▸ nst a vs l h1) none_k
theorem bin_c {P : BOp → AV → AV → AV → Prop} {op : BOp} {x y r : AV} (h : binV op x y = some r)
    (ai : ∀ a b, P .add (.int a) (.int b) (.int (a + b))) (as : ∀ a b, a.length + b.length ≤ 1000 → P .add (.str a) (.str b) (.str (a ++ b))) (si : ∀ a b, P .sub (.int a) (.int b) (.int (a - b)))
    (mi : ∀ a b : Int, 0 ≤ a ∧ a < 1000 ∧ 0 ≤ b ∧ b < 1000 → P .mul (.int a) (.int b) (.int (a * b))) (ms : ∀ (a : List Nat) (b : Int), 0 ≤ b ∧ b < 100 ∧ a.length ≤ 10 → P .mul (.str a) (.int b) (.str (List.replicate b.toNat a).flatten))
    (po : ∀ a b : Int, 0 ≤ a ∧ a < 10 ∧ 0 ≤ b ∧ b < 10 → P .pow (.int a) (.int b) (.int (a ^ b.toNat))) (di : ∀ a b : Int, 0 < b ∧ b < 1000 → P .div (.int a) (.int b) (.int (Int.fdiv a b))) (mo : ∀ a b : Int, 0 < b ∧ b < 1000 → P .mod (.int a) (.int b) (.int (Int.fmod a b))) : P op x y r := by
  cases op with
  | add => exact or_c h (fun h => onInt_c h fun a h => onInt_c h fun b h => some_c h (ai a b)) fun h => onStr_c h fun a h => onStr_c h fun b h => if_c h fun q h => some_c h (as a b q)
  | sub => exact onInt_c h fun a h => onInt_c h fun b h => some_c h (si a b)
  | mul => exact or_c h (fun h => onInt_c h fun a h => onInt_c h fun b h => if_c h fun q h => some_c h (mi a b q)) fun h => onStr_c h fun a h => onInt_c h fun b h => if_c h fun q h => some_c h (ms a b q)
  | pow => exact onInt_c h fun a h => onInt_c h fun b h => if_c h fun q h => some_c h (po a b q)
  | div => exact onInt_c h fun a h => onInt_c h fun b h => if_c h fun q h => some_c h (di a b q)
  | mod => exact onInt_c h fun a h => onInt_c h fun b h => if_c h fun q h => some_c h (mo a b q)
theorem bm_c {P : Nat → AV → List AV → AV → St → Prop} {m : Nat} {o x : AV} {args : List AV} {σ' : St} (h : bmR σ m o args = some (x, σ'))
    (app : ∀ i vs v, σ[i]? = some (.list vs) → vs.length < 100000 → P 0 (.ref i) [v] .none (σ.set i (.list (vs ++ [v])))) (pop : ∀ i vs v, σ[i]? = some (.list vs) → vs.getLast? = some v → vs.length ≤ 1000000 → P 1 (.ref i) [] v (σ.set i (.list vs.dropLast)))
    (ext : ∀ i a j b, σ[i]? = some (.list a) → σ[j]? = some (.list b) → i ≠ j ∧ a.length + b.length < 100000 → P 2 (.ref i) [.ref j] .none (σ.set i (.list (a ++ b)))) (rev : ∀ i, σ[i]? = some (.list []) → P 3 (.ref i) [] .none σ)
    (get : ∀ i es n d, σ[i]? = some (.dict es) → P 4 (.ref i) [.str n, d] ((es.lookup n).getD d) σ) (join : ∀ i vs l, σ[i]? = some (.list vs) → strsOf vs = some l → l.length ≤ 1000 ∧ (joinS l).length ≤ 1000 → P 5 (.str []) [.ref i] (.str (joinS l)) σ)
    (ix0 : P 6 (.str [88, 89, 90]) [.str [88]] (.int 0) σ) (ix1 : P 6 (.str [88, 89, 90]) [.str [89]] (.int 1) σ) (ix2 : P 6 (.str [88, 89, 90]) [.str [90]] (.int 2) σ) : P m o args x σ' := by
  match m, h with
  | 0, h => exact onList_c h fun i vs e h => on1_c h fun v h => if_c h fun q h => some_c (P := fun z : AV × St => P 0 (.ref i) [v] z.1 z.2) h (app i vs v e q)
  | 1, h => exact onList_c h fun i vs e h => on0_c h fun h => bind_c h fun v q h => if_c h fun z h => some_c (P := fun z : AV × St => P 1 (.ref i) [] z.1 z.2) h (pop i vs v e q z)
  | 2, h => exact onList_c h fun i a e h => on1_c h fun v h => onList_c (P := fun v => P 2 (.ref i) [v] x σ') h fun j b e2 h => if_c h fun q h => some_c (P := fun z : AV × St => P 2 (.ref i) [.ref j] z.1 z.2) h (ext i a j b e e2 q)
  | 3, h => exact onList_c h fun i vs e h => on0_c h fun h => on0_c (P := fun vs => σ[i]? = some (.list vs) → P 3 (.ref i) [] x σ') h (fun h e => some_c (P := fun z : AV × St => P 3 (.ref i) [] z.1 z.2) h (rev i e)) e
  | 4, h => exact onDict_c h fun i es e h => on2_c h fun n d h => onStr_c (P := fun n => P 4 (.ref i) [n, d] x σ') h fun n h => some_c (P := fun z : AV × St => P 4 (.ref i) [.str n, d] z.1 z.2) h (get i es n d e)
  | 5, h => exact onStr_c h fun t h => on1_c h fun v h => onList_c (P := fun v => P 5 (.str t) [v] x σ') h fun i vs e h => bind_c h fun l q h => if_c h fun z h => some_c (P := fun z : AV × St => P 5 (.str t) [.ref i] z.1 z.2) h (z.1 ▸ join i vs l e q z.2)
  | 6, h =>
    refine onStr_c h fun t h => on1_c h fun v h => onStr_c (P := fun v => P 6 (.str t) [v] x σ') h fun c h => if_c h fun z h7 => ?_
    clear h
    subst z
    by_cases q : c = [88]
    · rw [if_pos q] at h7; subst q; exact some_c (P := fun z : AV × St => P 6 _ _ z.1 z.2) h7 ix0
    rw [if_neg q] at h7
    by_cases q2 : c = [89]
    · rw [if_pos q2] at h7; subst q2; exact some_c (P := fun z : AV × St => P 6 _ _ z.1 z.2) h7 ix1
    rw [if_neg q2] at h7
    refine if_c h7 fun q3 h8 => ?_
    subst q3
    exact some_c (P := fun z : AV × St => P 6 _ _ z.1 z.2) h8 ix2
  | m + 7, h => exact none_k h
end
end Mine
end

section
set_option compiler.extract_closed false
open PySem
set_option Elab.async false
set_option maxRecDepth 100000
set_option tactic.hygienic false
namespace Mine

noncomputable def fieldNames : List Str := (["orders", "kind", "owner", "key", "pc", "at", "named", "marks", "calls", "subject", "host", "history", "values", "limit", "refused", "width", "steps", "log"] : List String).map Str.ofString
noncomputable def methNames : List Str := (["emit", "put", "begun", "choice", "repeat", "bound", "copied", "run", "way_back", "done", "met_once", "ended", "other", "met_often", "asked", "value_of", "assign", "step"] : List String).map Str.ofString
noncomputable def classNames : List Str := (["PatternCode", "Way", "Match", "PlainHost", "NameRef", "Failure", "Pattern", "Delayed"] : List String).map Str.ofString
noncomputable def globNames : List Str := (["ONE", "WAYS", "SPLIT", "JUMP", "MARK", "NAME", "SET", "GAIN", "PLACE", "ASK", "FENCE", "FAIL", "ABORT", "SUCCEED", "DONE", "PUT", "EMIT", "OPEN", "SHUT", "MEET", "SINGLE", "ALONE", "COUNTED", "SIGNED", "MET", "FAILED", "OVER", "LOST"] : List String).map Str.ofString
noncomputable def bmNames : List Str := (["append", "pop", "extend", "reverse", "get", "join", "index"] : List String).map Str.ofString
noncomputable def globVals : List AV := [(AV.str [111, 110, 101]), (AV.str [119, 97, 121, 115]), (AV.str [115, 112, 108, 105, 116]), (AV.str [106, 117, 109, 112]), (AV.str [109, 97, 114, 107]), (AV.str [110, 97, 109, 101]), (AV.str [115, 101, 116]), (AV.str [103, 97, 105, 110]), (AV.str [112, 108, 97, 99, 101]), (AV.str [97, 115, 107]), (AV.str [102, 101, 110, 99, 101]), (AV.str [102, 97, 105, 108]), (AV.str [97, 98, 111, 114, 116]), (AV.str [115, 117, 99, 99, 101, 101, 100]), (AV.str [100, 111, 110, 101]), (AV.str [112, 117, 116]), (AV.str [101, 109, 105, 116]), (AV.str [111, 112, 101, 110]), (AV.str [115, 104, 117, 116]), (AV.str [109, 101, 101, 116]), (AV.tup [(AV.str [99, 104, 97, 114, 115]), (AV.str [108, 101, 110]), (AV.str [112, 111, 115]), (AV.str [114, 112, 111, 115]), (AV.str [116, 97, 98]), (AV.str [114, 116, 97, 98]), (AV.str [97, 110, 121]), (AV.str [110, 111, 116, 97, 110, 121]), (AV.str [115, 112, 97, 110]), (AV.str [98, 114, 101, 97, 107]), (AV.str [114, 101, 109])]), (AV.tup [(AV.str [102, 101, 110, 99, 101]), (AV.str [102, 97, 105, 108]), (AV.str [97, 98, 111, 114, 116]), (AV.str [115, 117, 99, 99, 101, 101, 100])]), (AV.tup [(AV.str [108, 101, 110]), (AV.str [112, 111, 115]), (AV.str [114, 112, 111, 115]), (AV.str [116, 97, 98]), (AV.str [114, 116, 97, 98])]), (AV.tup [(AV.str [97, 110, 121]), (AV.str [110, 111, 116, 97, 110, 121]), (AV.str [115, 112, 97, 110]), (AV.str [98, 114, 101, 97, 107])]), (AV.int 0), (AV.int 1), (AV.int 2), (AV.str [108, 111, 115, 116])]
noncomputable abbrev b0 : List MS := [(.as (.at (.x 0) 0) (.ls []))]
noncomputable abbrev b1 : List MS := [(.ex (.bm (.at (.x 0) 0) 0 [(.x 1)])), (.rt (.bo .sub (.bf 0 (.at (.x 0) 0)) (.c (AV.int 1))))]
noncomputable abbrev b2 : List MS := [(.as (.x 2) (.ls [(.tp [(.g 15), (.x 1)])])), (.wh (.cm .gt (.bf 0 (.x 2)) (.c (AV.int 0))) [(.as (.tup [(.x 3), (.x 4)]) (.bm (.x 2) 1 [])), (.iff (.cm .eq (.x 3) (.g 15)) [(.ex (.bm (.x 2) 2 [(.sr (.mc (.x 0) 2 [(.x 4)]))]))] [(.iff (.cm .eq (.x 3) (.g 16)) [(.ex (.mc (.x 0) 0 [(.x 4)]))] [(.ex (.mc (.x 0) 5 [(.x 3), (.x 4)]))])])])]
noncomputable abbrev b3 : List MS := [(.as (.x 2) (.ix (.x 1) (.c (AV.int 0)))), (.iff (.cm .eq (.x 2) (.c (AV.str [99, 97, 116]))) [(.rt (.lc 1 [] [0] false (.cf 25 [(.cf 23 [(.x 1), (.c (AV.str [99, 97, 116]))])]) none (.tp [(.g 15), (.x 0)])))] []), (.iff (.cm .eq (.x 2) (.c (AV.str [97, 108, 116]))) [(.rt (.mc (.x 0) 3 [(.cf 23 [(.x 1), (.c (AV.str [97, 108, 116]))])]))] []), (.iff (.cm .eq (.x 2) (.c (AV.str [97, 114, 98, 110, 111]))) [(.rt (.mc (.x 0) 4 [(.ix (.x 1) (.c (AV.int 1)))]))] []), (.iff (.or [(.cm .eq (.x 2) (.c (AV.str [108, 97, 116, 101, 114]))), (.cm .eq (.x 2) (.c (AV.str [110, 111, 119])))]) [(.ex (.mc (.x 0) 0 [(.tp [(.g 4)])])), (.rt (.ls [(.tp [(.g 15), (.ix (.x 1) (.c (AV.int 1)))]), (.tp [(.g 16), (.tp [(.ie (.cm .eq (.x 2) (.c (AV.str [108, 97, 116, 101, 114]))) (.g 5) (.g 6)), (.ix (.x 1) (.c (AV.int 2)))])])]))] []), (.iff (.cm .isin (.x 2) (.g 20)) [(.ex (.mc (.x 0) 0 [(.tp [(.g 0), (.x 2), (.ie (.cm .gt (.bf 0 (.x 1)) (.c (AV.int 1))) (.ix (.x 1) (.c (AV.int 1))) (.c AV.none))])]))] [(.iff (.or [(.cm .eq (.x 2) (.c (AV.str [97, 114, 98]))), (.cm .eq (.x 2) (.c (AV.str [98, 97, 108])))]) [(.ex (.mc (.x 0) 0 [(.tp [(.g 1), (.x 2)])]))] [(.ex (.mc (.x 0) 0 [(.ie (.cm .isin (.x 2) (.g 21)) (.tp [(.x 2)]) (.tp [(.ie (.cm .eq (.x 2) (.c (AV.str [99, 117, 114, 115, 111, 114]))) (.g 8) (.g 9)), (.ix (.x 1) (.c (AV.int 1)))]))]))])]), (.rt (.ls []))]
noncomputable abbrev b4 : List MS := [(.asw [2, 3] (.tp [(.ls []), (.ls [(.ng 1), (.ls [])])])), (.fr (.x 4) (.sl (.x 1) none (some (.bo .sub (.bf 0 (.x 1)) (.c (AV.int 1))))) [(.ex (.bm (.x 2) 2 [(.ls [(.tp [(.g 17), (.x 3)]), (.tp [(.g 15), (.x 4)]), (.tp [(.g 18), (.x 3)])])]))]), (.rt (.bo .add (.x 2) (.ls [(.tp [(.g 15), (.ix (.x 1) (.bo .sub (.bf 0 (.x 1)) (.c (AV.int 1))))]), (.tp [(.g 19), (.x 3)])])))]
noncomputable abbrev b5 : List MS := [(.as (.x 2) (.mc (.x 0) 0 [(.c AV.none)])), (.as (.x 3) (.mc (.x 0) 0 [(.c AV.none)])), (.as (.ix (.at (.x 0) 0) (.x 2)) (.tp [(.g 2), (.bf 0 (.at (.x 0) 0))])), (.ex (.mc (.x 0) 0 [(.tp [(.g 4)])])), (.rt (.ls [(.tp [(.g 15), (.x 1)]), (.tp [(.g 16), (.tp [(.g 7)])]), (.tp [(.g 16), (.tp [(.g 3), (.x 2)])]), (.tp [(.g 19), (.ls [(.x 2), (.ls [(.x 3)])])])]))]
noncomputable abbrev b6 : List MS := [(.iff (.cm .eq (.x 1) (.g 17)) [(.as (.ix (.x 2) (.c (AV.int 0))) (.mc (.x 0) 0 [(.c AV.none)]))] [(.iff (.cm .eq (.x 1) (.g 18)) [(.ex (.bm (.ix (.x 2) (.c (AV.int 1))) 0 [(.mc (.x 0) 0 [(.c AV.none)])])), (.as (.ix (.at (.x 0) 0) (.ix (.x 2) (.c (AV.int 0)))) (.tp [(.g 2), (.bf 0 (.at (.x 0) 0))]))] [(.fr (.x 3) (.ix (.x 2) (.c (AV.int 1))) [(.as (.ix (.at (.x 0) 0) (.x 3)) (.tp [(.g 3), (.bf 0 (.at (.x 0) 0))]))])])])]
noncomputable abbrev b7 : List MS := [(.as (.at (.x 0) 1) (.x 1)), (.as (.at (.x 0) 2) (.x 2)), (.as (.at (.x 0) 3) (.x 3))]
noncomputable abbrev b8 : List MS := [(.as (.at (.x 0) 0) (.x 1)), (.as (.at (.x 0) 4) (.x 2)), (.as (.at (.x 0) 5) (.x 3)), (.as (.at (.x 0) 6) (.x 4)), (.as (.at (.x 0) 7) (.x 5)), (.as (.at (.x 0) 8) (.x 6))]
noncomputable abbrev b9 : List MS := [(.rt (.nw 1 [(.at (.x 0) 0), (.x 1), (.at (.x 0) 5), (.at (.x 0) 6), (.at (.x 0) 7), (.at (.x 0) 8)]))]
noncomputable abbrev b10 : List MS := [(.as (.at (.x 0) 9) (.x 1)), (.as (.at (.x 0) 10) (.x 2)), (.as (.at (.x 0) 11) (.ls []))]
noncomputable abbrev b11 : List MS := [(.as (.x 3) (.nw 1 [(.x 1), (.c (AV.int 0)), (.x 2), (.c AV.none), (.c AV.none), (.c AV.none)])), (.wh (.cm .isn (.x 3) (.c AV.none)) [(.ex (.mc (.at (.x 0) 10) 17 [])), (.as (.x 4) (.ix (.at (.x 3) 0) (.at (.x 3) 4))), (.iff (.an [(.cm .eq (.ix (.x 4) (.c (AV.int 0))) (.g 14)), (.cm .is (.at (.x 3) 8) (.c AV.none))]) [(.rt (.tp [(.g 24), (.x 3)]))] []), (.iff (.cm .eq (.ix (.x 4) (.c (AV.int 0))) (.g 12)) [(.rt (.tp [(.g 26), (.c AV.none)]))] []), (.iff (.nt (.mc (.x 0) 9 [(.x 4), (.x 3)])) [(.as (.x 3) (.mc (.x 0) 8 [])), (.iff (.an [(.cm .isn (.x 3) (.c AV.none)), (.cm .is (.at (.x 3) 0) (.c AV.none))]) [(.rt (.tp [(.g 26), (.c AV.none)]))] [])] [])]), (.rt (.tp [(.g 25), (.c AV.none)]))]
noncomputable abbrev b12 : List MS := [(.rt (.ie (.cm .gt (.bf 0 (.at (.x 0) 11)) (.c (AV.int 0))) (.bm (.at (.x 0) 11) 1 []) (.c AV.none)))]
noncomputable abbrev b13 : List MS := [(.as (.x 3) (.ix (.x 1) (.c (AV.int 0)))), (.iff (.cm .eq (.x 3) (.g 0)) [(.rt (.mc (.x 0) 10 [(.x 1), (.x 2)]))] []), (.iff (.cm .eq (.x 3) (.g 2)) [(.ex (.bm (.at (.x 0) 11) 0 [(.mc (.x 2) 6 [(.ix (.x 1) (.c (AV.int 1)))])]))] [(.iff (.cm .eq (.x 3) (.g 3)) [(.as (.at (.x 2) 4) (.ix (.x 1) (.c (AV.int 1)))), (.rt (.c (AV.bool true)))] [(.iff (.cm .eq (.x 3) (.g 4)) [(.as (.at (.x 2) 7) (.tp [(.at (.x 2) 7), (.at (.x 2) 5)]))] [(.iff (.cm .isin (.x 3) (.tp [(.g 5), (.g 6), (.g 7)])) [(.iff (.nt (.mc (.x 0) 11 [(.x 1), (.x 2)])) [(.rt (.c (AV.bool false)))] [])] [(.iff (.cm .eq (.x 3) (.g 8)) [(.iff (.nt (.mc (.at (.x 0) 10) 16 [(.ix (.x 1) (.c (AV.int 1))), (.at (.x 2) 5)])) [(.rt (.c (AV.bool false)))] [])] [(.rt (.mc (.x 0) 12 [(.x 1), (.x 2)]))])])])])]), (.au (.x 2) 4 (.c (AV.int 1))), (.rt (.c (AV.bool true)))]
noncomputable abbrev b14 : List MS := [(.as (.x 3) (.ix (.x 1) (.c (AV.int 2)))), (.iff (.ii (.x 3) 1) [(.as (.x 4) (.cf 32 [(.tp [(.ix (.x 1) (.c (AV.int 1))), (.x 3)]), (.at (.x 0) 10)])), (.iff (.cm .is (.x 4) (.c AV.none)) [(.rt (.c (AV.bool false)))] []), (.as (.x 3) (.ix (.x 4) (.c (AV.int 1))))] []), (.as (.x 5) (.cf 36 [(.tp [(.ix (.x 1) (.c (AV.int 1))), (.x 3)]), (.at (.x 0) 9), (.at (.x 2) 5)])), (.iff (.cm .is (.x 5) (.c AV.none)) [(.rt (.c (AV.bool false)))] []), (.as (.at (.x 2) 5) (.x 5)), (.au (.x 2) 4 (.c (AV.int 1))), (.rt (.c (AV.bool true)))]
noncomputable abbrev b15 : List MS := [(.as (.tup [(.x 3), (.x 4)]) (.at (.x 2) 7)), (.as (.at (.x 2) 7) (.x 3)), (.as (.x 5) (.sl (.at (.x 0) 9) (some (.x 4)) (some (.at (.x 2) 5)))), (.iff (.cm .eq (.ix (.x 1) (.c (AV.int 0))) (.g 7)) [(.rt (.cm .gt (.at (.x 2) 5) (.x 4)))] []), (.iff (.cm .eq (.ix (.x 1) (.c (AV.int 0))) (.g 6)) [(.rt (.mc (.at (.x 0) 10) 16 [(.ix (.x 1) (.c (AV.int 1))), (.x 5)]))] []), (.as (.at (.x 2) 6) (.tp [(.at (.x 2) 6), (.tp [(.ix (.x 1) (.c (AV.int 1))), (.x 5)])])), (.rt (.c (AV.bool true)))]
noncomputable abbrev b16 : List MS := [(.as (.x 3) (.ix (.x 1) (.c (AV.int 0)))), (.iff (.cm .eq (.x 3) (.g 11)) [(.rt (.c (AV.bool false)))] []), (.iff (.cm .eq (.x 3) (.g 1)) [MS.bad] []), (.iff (.cm .eq (.x 3) (.g 9)) [(.rt (.mc (.x 0) 14 [(.ix (.x 1) (.c (AV.int 1))), (.x 2)]))] []), (.iff (.cm .eq (.x 3) (.g 14)) [(.as (.tup [(.at (.x 2) 8), (.tup [(.at (.x 2) 0), (.at (.x 2) 4)])]) (.at (.x 2) 8)), (.rt (.c (AV.bool true)))] []), (.iff (.cm .eq (.x 3) (.g 10)) [(.ex (.bm (.at (.x 0) 11) 0 [(.nw 1 [(.c AV.none), (.c (AV.int 0)), (.c (AV.int 0)), (.c AV.none), (.c AV.none), (.c AV.none)])]))] [(.iff (.cm .eq (.x 3) (.g 13)) [(.ex (.bm (.at (.x 0) 11) 0 [(.mc (.x 2) 6 [(.at (.x 2) 4)])]))] [])]), (.au (.x 2) 4 (.c (AV.int 1))), (.rt (.c (AV.bool true)))]
noncomputable abbrev b17 : List MS := [(.iff (.cm .eq (.bf 0 (.x 2)) (.c (AV.int 0))) [(.rt (.c (AV.bool false)))] []), (.au (.x 1) 4 (.c (AV.int 1))), MS.bad, (.as (.at (.x 1) 5) (.ix (.x 2) (.c (AV.int 0)))), (.rt (.c (AV.bool true)))]
noncomputable abbrev b18 : List MS := [(.as (.x 3) (.mc (.at (.x 0) 10) 15 [(.x 1)])), (.iff (.cf 28 [(.x 3)]) [(.rt (.c (AV.bool false)))] []), (.as (.at (.x 2) 8) (.tp [(.at (.x 2) 8), (.tp [(.at (.x 2) 0), (.bo .add (.at (.x 2) 4) (.c (AV.int 1)))])])), (.as (.tup [(.at (.x 2) 0), (.at (.x 2) 4)]) (.tp [(.cf 27 [(.cf 30 [(.x 3)])]), (.c (AV.int 0))])), (.rt (.c (AV.bool true)))]
noncomputable abbrev b19 : List MS := [(.as (.at (.x 0) 12) (.x 1)), (.as (.at (.x 0) 13) (.x 2)), (.as (.at (.x 0) 14) (.x 3)), (.as (.at (.x 0) 15) (.c (AV.int 64))), (.as (.at (.x 0) 16) (.c (AV.int 0))), (.as (.at (.x 0) 17) (.ls []))]
noncomputable abbrev b20 : List MS := [(.iff (.cm .eq (.ix (.x 1) (.c (AV.int 0))) (.c (AV.str [110, 97, 109, 101]))) [(.rt (.bm (.at (.x 0) 12) 4 [(.ix (.x 1) (.c (AV.int 1))), (.c (AV.str []))]))] []), (.rt (.ie (.cm .eq (.ix (.x 1) (.c (AV.int 0))) (.c (AV.str [102, 97, 105, 108, 115]))) ME.bad (.ix (.x 1) (.c (AV.int 1)))))]
noncomputable abbrev b21 : List MS := [(.iff (.cm .isin (.at (.x 1) 3) (.at (.x 0) 14)) [(.rt (.c (AV.bool false)))] []), (.as (.ix (.at (.x 0) 12) (.at (.x 1) 3)) (.x 2)), (.ex (.bm (.at (.x 0) 17) 0 [(.tp [(.at (.x 1) 3), (.x 2)])])), (.rt (.c (AV.bool true)))]
noncomputable abbrev b22 : List MS := [(.au (.x 0) 16 (.c (AV.int 1))), (.iff (.cm .gt (.at (.x 0) 16) (.at (.x 0) 13)) [MS.bad] [])]
noncomputable abbrev b23 : List MS := [(.asw [2, 3] (.tp [(.ls []), (.ls [(.x 0)])])), (.wh (.cm .gt (.bf 0 (.x 3)) (.c (AV.int 0))) [(.as (.x 4) (.bm (.x 3) 1 [])), (.iff (.cm .eq (.ix (.x 4) (.c (AV.int 0))) (.x 1)) [(.ex (.bm (.x 3) 2 [(.ls [(.ix (.x 4) (.c (AV.int 2))), (.ix (.x 4) (.c (AV.int 1)))])]))] [(.ex (.bm (.x 2) 0 [(.x 4)]))])]), (.rt (.x 2))]
noncomputable abbrev b24 : List MS := [(.rt (.an [(.cm .eq (.ix (.x 0) (.c (AV.int 0))) (.c (AV.str [99, 104, 97, 114, 115]))), (.ii (.ix (.x 0) (.c (AV.int 1))) 0)]))]
noncomputable abbrev b25 : List MS := [(.as (.x 1) (.ls [])), (.fr (.x 2) (.x 0) [(.iff (.cf 24 [(.x 2)]) [(.iff (.cm .eq (.ix (.x 2) (.c (AV.int 1))) (.c (AV.str []))) [.ct] []), (.iff (.an [(.cm .gt (.bf 0 (.x 1)) (.c (AV.int 0))), (.cf 24 [(.ix (.x 1) (.bo .sub (.bf 0 (.x 1)) (.c (AV.int 1))))])]) [(.as (.x 2) (.tp [(.c (AV.str [99, 104, 97, 114, 115])), (.bo .add (.ix (.bm (.x 1) 1 []) (.c (AV.int 1))) (.ix (.x 2) (.c (AV.int 1))))]))] [])] []), (.ex (.bm (.x 1) 0 [(.x 2)]))]), (.rt (.x 1))]
noncomputable abbrev b26 : List MS := [(.as (.x 1) (.ls [])), (.fr (.x 2) (.x 0) [(.iff (.cm .isin (.ix (.x 2) (.c (AV.int 0))) (.tp [(.g 3), (.g 2)])) [(.as (.x 3) (.ix (.x 2) (.c (AV.int 1)))), (.wh (.cm .eq (.ix (.ix (.x 0) (.x 3)) (.c (AV.int 0))) (.g 3)) [(.as (.x 3) (.ix (.ix (.x 0) (.x 3)) (.c (AV.int 1))))]), (.as (.x 2) (.tp [(.ix (.x 2) (.c (AV.int 0))), (.x 3)]))] []), (.ex (.bm (.x 1) 0 [(.x 2)]))]), (.rt (.x 1))]
noncomputable abbrev b27 : List MS := [(.as (.x 1) (.nw 0 [])), (.ex (.mc (.x 1) 1 [(.x 0)])), (.ex (.mc (.x 1) 0 [(.tp [(.g 14)])])), (.rt (.cf 26 [(.at (.x 1) 0)]))]
noncomputable abbrev b28 : List MS := [(.rt (.ii (.x 0) 15))]
noncomputable abbrev b29 : List MS := [(.iff (.ii (.x 0) 0) [(.rt (.x 0))] []), (.rt (.ie (.ii (.x 0) 2) ME.bad (.c AV.none)))]
noncomputable abbrev b30 : List MS := [(.iff (.ii (.x 0) 16) [MS.bad] []), (.iff (.ii (.x 0) 17) [MS.bad] []), (.as (.x 1) (.cf 29 [(.x 0)])), (.iff (.cm .is (.x 1) (.c AV.none)) [MS.bad] []), (.rt (.tp [(.c (AV.str [99, 104, 97, 114, 115])), (.x 1)]))]
noncomputable abbrev b31 : List MS := [(.rt (.ii (.x 0) 1))]
noncomputable abbrev b32 : List MS := [(.iff (.or [(.an [(.cm .nin (.ix (.x 0) (.c (AV.int 0))) (.g 22)), (.cm .nin (.ix (.x 0) (.c (AV.int 0))) (.g 23))]), (.nt (.cf 31 [(.ix (.x 0) (.c (AV.int 1)))]))]) [(.rt (.x 0))] []), (.as (.x 2) (.mc (.x 1) 15 [(.ix (.ix (.x 0) (.c (AV.int 1))) (.c (AV.int 1)))])), (.iff (.cf 28 [(.x 2)]) [(.rt (.c AV.none))] []), (.iff (.cm .isin (.ix (.x 0) (.c (AV.int 0))) (.g 22)) [MS.bad] []), MS.bad]
noncomputable abbrev b33 : List MS := [(.as (.x 3) (.bo .add (.x 1) (.bf 0 (.x 2)))), (.rt (.ie (.cm .eq (.sl (.x 0) (some (.x 1)) (some (.x 3))) (.x 2)) (.x 3) (.c AV.none)))]
noncomputable abbrev b34 : List MS := [(.rt (.ie (.cm .eq (.bo .sub (.bf 0 (.x 0)) (.x 1)) (.x 2)) (.x 1) (.c AV.none)))]
noncomputable abbrev b35 : List MS := [(.iff (.cm .eq (.x 0) (.c (AV.str [99, 104, 97, 114, 115]))) [(.rt (.cf 33 [(.x 1), (.x 2), (.x 3)]))] []), (.iff (.cm .eq (.x 0) (.c (AV.str [108, 101, 110]))) [MS.bad] []), (.iff (.cm .eq (.x 0) (.c (AV.str [112, 111, 115]))) [MS.bad] []), (.iff (.cm .eq (.x 0) (.c (AV.str [114, 112, 111, 115]))) [(.rt (.cf 34 [(.x 1), (.x 2), (.x 3)]))] []), (.iff (.cm .eq (.x 0) (.c (AV.str [116, 97, 98]))) [MS.bad] []), (.iff (.cm .eq (.x 0) (.c (AV.str [114, 116, 97, 98]))) [MS.bad] []), (.iff (.cm .eq (.x 0) (.c (AV.str [97, 110, 121]))) [MS.bad] []), (.iff (.cm .eq (.x 0) (.c (AV.str [110, 111, 116, 97, 110, 121]))) [MS.bad] []), (.iff (.cm .eq (.x 0) (.c (AV.str [115, 112, 97, 110]))) [MS.bad] []), MS.bad]
noncomputable abbrev b36 : List MS := [(.rt (.ie (.cm .eq (.ix (.x 0) (.c (AV.int 0))) (.c (AV.str [114, 101, 109]))) ME.bad (.cf 35 [(.ix (.x 0) (.c (AV.int 0))), (.x 1), (.x 2), (.ix (.x 0) (.c (AV.int 1)))])))]
noncomputable abbrev b37 : List MS := [(.as (.x 1) (.ls [])), (.wh (.cm .isn (.x 0) (.c AV.none)) [(.as (.tup [(.x 0), (.x 2)]) (.x 0)), (.ex (.bm (.x 1) 0 [(.x 2)]))]), (.ex (.bm (.x 1) 3 [])), (.rt (.x 1))]
noncomputable abbrev b38 : List MS := [(.fr (.x 4) (.bf 9 (.ie (.x 2) (.c (AV.int 1)) (.bo .add (.bf 0 (.x 1)) (.c (AV.int 1))))) [(.as (.tup [(.x 5), (.x 6)]) (.mc (.nw 2 [(.x 1), (.x 3)]) 7 [(.x 0), (.x 4)])), (.iff (.cm .eq (.x 5) (.g 24)) [(.rt (.tp [(.x 4), (.at (.x 6) 5), (.cf 37 [(.at (.x 6) 6)])]))] []), (.iff (.cm .eq (.x 5) (.g 26)) [(.rt (.c AV.none))] [])]), (.rt (.c AV.none))]
noncomputable abbrev b39 : List MS := [(.rt (.cf 38 [(.cf 27 [(.x 0)]), (.x 1), (.x 2), (.x 3)]))]
noncomputable abbrev b40 : List MS := [(.fr (.x 4) (.bf 9 (.ie (.x 2) (.c (AV.int 1)) (.bo .add (.bf 0 (.x 1)) (.c (AV.int 1))))) [(.as (.x 5) (.cf 41 [(.x 0), (.x 1), (.x 4), (.x 3)])), (.iff (.cm .isn (.x 5) (.c AV.none)) [(.rt (.ie (.cm .eq (.x 5) (.g 27)) (.c AV.none) (.x 5)))] [])]), (.rt (.c AV.none))]
noncomputable abbrev b41 : List MS := [(.as (.x 4) (.cf 42 [(.x 0), (.x 1), (.x 2), (.x 3)])), (.rt (.ie (.or [(.cm .is (.x 4) (.c AV.none)), (.cm .eq (.x 4) (.g 27))]) (.x 4) (.tp [(.x 2), (.ix (.x 4) (.c (AV.int 0))), (.ix (.x 4) (.c (AV.int 1)))])))]
noncomputable abbrev b42 : List MS := [(.as (.x 4) (.ls [(.tp [(.tp [(.x 0), (.c AV.none)]), (.x 2), (.tp [])])])), (.wh (.cm .gt (.bf 0 (.x 4)) (.c (AV.int 0))) [(.as (.x 5) (.bm (.x 4) 1 [])), (.iff (.cm .is (.x 5) (.c AV.none)) [(.rt (.g 27))] []), (.as (.tup [(.x 6), (.x 7), (.x 8)]) (.x 5)), (.wh (.cm .isn (.x 6) (.c AV.none)) [(.ex (.mc (.x 3) 17 [])), (.as (.x 5) (.cf 43 [(.x 6), (.x 7), (.x 8), (.x 1), (.x 4), (.x 3)])), (.iff (.cm .is (.x 5) (.c AV.none)) [.br] []), (.iff (.cm .eq (.x 5) (.g 27)) [(.rt (.g 27))] []), (.as (.tup [(.x 6), (.x 7), (.x 8)]) (.x 5))]), (.iff (.cm .is (.x 6) (.c AV.none)) [MS.bad] [])]), (.rt (.c AV.none))]
noncomputable abbrev b43 : List MS := [(.as (.tup [(.x 6), (.x 7)]) (.x 0)), (.as (.x 8) (.ix (.x 6) (.c (AV.int 0)))), (.iff (.cm .isin (.x 8) (.tp [(.c (AV.str [99, 97, 116])), (.c (AV.str [97, 108, 116])), (.c (AV.str [97, 114, 98, 110, 111])), (.c (AV.str [108, 97, 116, 101, 114])), (.c (AV.str [110, 111, 119]))])) [(.rt (.cf 44 [(.x 6), (.x 7), (.x 1), (.x 2), (.x 4)]))] []), (.iff (.cm .eq (.sl (.x 8) none (some (.c (AV.int 4)))) (.c (AV.str [101, 110, 100, 32]))) [(.rt (.cf 45 [(.x 6), (.x 7), (.x 1), (.x 2), (.x 3), (.x 4), (.x 5)]))] []), (.iff (.cm .eq (.x 8) (.c (AV.str [99, 117, 114, 115, 111, 114]))) [(.rt (.ie (.mc (.x 5) 16 [(.ix (.x 6) (.c (AV.int 1))), (.x 1)]) (.tp [(.x 7), (.x 1), (.x 2)]) (.c AV.none)))] []), (.iff (.cm .eq (.x 8) (.c (AV.str [100, 101, 108, 97, 121]))) [(.as (.x 9) (.mc (.x 5) 15 [(.ix (.x 6) (.c (AV.int 1)))])), (.rt (.ie (.cf 28 [(.x 9)]) (.c AV.none) (.tp [(.tp [(.cf 30 [(.x 9)]), (.x 7)]), (.x 1), (.x 2)])))] []), (.iff (.cm .isin (.x 8) (.tp [(.c (AV.str [102, 101, 110, 99, 101])), (.c (AV.str [97, 98, 111, 114, 116])), (.c (AV.str [102, 97, 105, 108])), (.c (AV.str [115, 117, 99, 99, 101, 101, 100]))])) [(.rt (.cf 46 [(.x 0), (.x 1), (.x 2), (.x 4)]))] []), (.rt (.cf 47 [(.x 6), (.x 7), (.x 1), (.x 2), (.x 3), (.x 4), (.x 5)]))]
noncomputable abbrev b44 : List MS := [(.as (.x 5) (.ix (.x 0) (.c (AV.int 0)))), (.iff (.cm .eq (.x 5) (.c (AV.str [99, 97, 116]))) [(.rt (.tp [(.tp [(.ix (.x 0) (.c (AV.int 1))), (.tp [(.ix (.x 0) (.c (AV.int 2))), (.x 1)])]), (.x 2), (.x 3)]))] []), (.iff (.cm .eq (.x 5) (.c (AV.str [97, 108, 116]))) [(.ex (.bm (.x 4) 0 [(.tp [(.tp [(.ix (.x 0) (.c (AV.int 2))), (.x 1)]), (.x 2), (.x 3)])])), (.rt (.tp [(.tp [(.ix (.x 0) (.c (AV.int 1))), (.x 1)]), (.x 2), (.x 3)]))] []), (.iff (.cm .eq (.x 5) (.c (AV.str [97, 114, 98, 110, 111]))) [(.ex (.bm (.x 4) 0 [(.tp [(.tp [(.ix (.x 0) (.c (AV.int 1))), (.tp [(.tp [(.c (AV.str [101, 110, 100, 32, 114, 111, 117, 110, 100])), (.x 0), (.x 2)]), (.x 1)])]), (.x 2), (.x 3)])])), (.rt (.tp [(.x 1), (.x 2), (.x 3)]))] []), (.rt (.tp [(.tp [(.ix (.x 0) (.c (AV.int 1))), (.tp [(.tp [(.bo .add (.c (AV.str [101, 110, 100, 32])) (.x 5)), (.ix (.x 0) (.c (AV.int 2))), (.x 2)]), (.x 1)])]), (.x 2), (.x 3)]))]
noncomputable abbrev b45 : List MS := [(.as (.tup [(.x 7), (.x 8), (.x 9)]) (.x 0)), (.iff (.cm .eq (.x 7) (.c (AV.str [101, 110, 100, 32, 108, 97, 116, 101, 114]))) [(.rt (.tp [(.x 1), (.x 2), (.bo .add (.x 3) (.tp [(.tp [(.x 8), (.sl (.x 4) (some (.x 9)) (some (.x 2)))])]))]))] []), (.iff (.cm .eq (.x 7) (.c (AV.str [101, 110, 100, 32, 110, 111, 119]))) [(.rt (.ie (.mc (.x 6) 16 [(.x 8), (.sl (.x 4) (some (.x 9)) (some (.x 2)))]) (.tp [(.x 1), (.x 2), (.x 3)]) (.c AV.none)))] []), (.rt (.ie (.cm .eq (.x 2) (.x 9)) (.c AV.none) (.tp [(.tp [(.x 8), (.x 1)]), (.x 2), (.x 3)])))]
noncomputable abbrev b46 : List MS := [(.asw [4, 5] (.tp [(.ix (.ix (.x 0) (.c (AV.int 0))) (.c (AV.int 0))), (.ix (.x 0) (.c (AV.int 1)))])), (.iff (.cm .eq (.x 4) (.c (AV.str [97, 98, 111, 114, 116]))) [(.rt (.g 27))] []), (.iff (.cm .eq (.x 4) (.c (AV.str [102, 97, 105, 108]))) [(.rt (.c AV.none))] []), (.ex (.bm (.x 3) 0 [(.ie (.cm .eq (.x 4) (.c (AV.str [102, 101, 110, 99, 101]))) (.c AV.none) (.tp [(.x 0), (.x 1), (.x 2)]))])), (.rt (.tp [(.x 5), (.x 1), (.x 2)]))]
noncomputable abbrev b47 : List MS := [(.as (.x 7) (.ix (.x 0) (.c (AV.int 0)))), (.iff (.cm .eq (.x 7) (.c (AV.str [97, 114, 98]))) [(.iff (.cm .lt (.x 2) (.bf 0 (.x 4))) [(.ex (.bm (.x 5) 0 [(.tp [(.tp [(.x 0), (.x 1)]), (.bo .add (.x 2) (.c (AV.int 1))), (.x 3)])]))] []), (.rt (.tp [(.x 1), (.x 2), (.x 3)]))] []), (.iff (.cm .eq (.x 7) (.c (AV.str [98, 97, 108]))) [MS.bad, MS.bad, (.rt (.ie (.cm .gt (.bf 0 (.x 8)) (.c (AV.int 0))) (.tp [(.x 1), (.ix (.x 8) (.c (AV.int 0))), (.x 3)]) (.c AV.none)))] []), (.as (.x 10) (.cf 32 [(.x 0), (.x 6)])), (.iff (.cm .is (.x 10) (.c AV.none)) [(.rt (.c AV.none))] []), (.as (.x 9) (.cf 36 [(.x 10), (.x 4), (.x 2)])), (.rt (.ie (.cm .is (.x 9) (.c AV.none)) (.c AV.none) (.tp [(.x 1), (.x 9), (.x 3)])))]
noncomputable abbrev b48 : List MS := [(.as (.x 3) (.x 2)), (.fr (.x 4) (.sr (.x 1)) [(.as (.x 5) (.ls [])), (.fr (.tup [(.x 6), (.x 7)]) (.x 4) [(.as (.x 8) (.tp [(.c (AV.str [100, 101, 108, 97, 121])), (.tp [(.c (AV.str [110, 97, 109, 101])), (.ix (.c (AV.str [88, 89, 90])) (.x 6))])])), (.ex (.bm (.x 5) 0 [(.ie (.x 7) (.tp [(.c (AV.str [99, 97, 116])), (.x 8), (.tp [(.c (AV.str [99, 104, 97, 114, 115])), (.c (AV.str [102]))])]) (.tp [(.c (AV.str [99, 97, 116])), (.tp [(.c (AV.str [99, 104, 97, 114, 115])), (.c (AV.str [116]))]), (.x 8)]))]))]), (.as (.x 9) (.ix (.x 5) (.c (AV.int 0)))), (.fr (.x 10) (.sl (.x 5) (some (.c (AV.int 1))) none) [(.as (.x 9) (.tp [(.c (AV.str [97, 108, 116])), (.x 9), (.x 10)]))]), (.as (.x 3) (.tp [(.c (AV.str [99, 97, 116])), (.x 9), (.x 3)]))]), (.fr (.x 11) (.sr (.sl (.c (AV.str [88, 89, 90])) none (some (.x 0)))) [(.as (.x 12) (.nw 4 [(.c (AV.str [118, 97, 114])), (.c AV.none), (.x 11)])), (.as (.x 13) (.tp [(.c (AV.str [99, 97, 116])), (.tp [(.c (AV.str [110, 111, 119])), (.tp [(.c (AV.str [99, 104, 97, 114, 115])), (.c (AV.str [116]))]), (.x 12)]), (.tp [(.c (AV.str [99, 104, 97, 114, 115])), (.c (AV.str [102]))])])), (.as (.x 3) (.tp [(.c (AV.str [99, 97, 116])), (.tp [(.c (AV.str [97, 108, 116])), (.x 13), (.tp [(.c (AV.str [99, 97, 116])), (.tp [(.c (AV.str [99, 104, 97, 114, 115])), (.c (AV.str [116]))]), (.tp [(.c (AV.str [110, 111, 119])), (.tp [(.c (AV.str [99, 104, 97, 114, 115])), (.c (AV.str [102]))]), (.x 12)])])]), (.x 3)]))]), (.rt (.x 3))]
noncomputable abbrev b49 : List MS := [(.as (.x 2) (.ls [])), (.fr (.x 3) (.bf 9 (.bo .pow (.c (AV.int 2)) (.x 0))) [(.as (.x 4) (.bm (.c (AV.str [])) 5 [(.lc 3 [(1, 0), (2, 3)] [0] false (.bf 9 (.x 0)) none (.ix (.c (AV.str [116, 102])) (.bo .mod (.bo .div (.x 2) (.bo .pow (.c (AV.int 2)) (.bo .sub (.bo .sub (.x 1) (.c (AV.int 1))) (.x 0)))) (.c (AV.int 2)))))])), (.as (.x 5) (.c (AV.int 1))), (.fr (.x 6) (.x 1) [(.as (.x 5) (.bo .mul (.x 5) (.bf 0 (.lc 3 [(2, 4)] [0, 1] true (.x 6) (some (.cm .eq (.cm .eq (.ix (.x 2) (.x 0)) (.c (AV.str [116]))) (.x 1))) (.x 0)))))]), (.as (.x 2) (.bo .add (.x 2) (.bo .mul (.ls [(.x 4)]) (.x 5))))]), (.rt (.x 2))]
noncomputable abbrev b50 : List MS := [(.as (.x 1) (.ls [(.c (AV.int 1)), (.c (AV.int 0)), (.c (AV.int 6))])), (.as (.x 2) (.bo .add (.lc 1 [] [0] false (.sl (.x 0) none (some (.c (AV.int 5)))) none (.bf 1 (.bf 2 (.x 0)))) (.sl (.x 1) (some (.bf 0 (.sl (.x 0) none (some (.c (AV.int 5)))))) none))), (.as (.tup [(.x 3), (.x 4)]) (.tp [(.bo .add (.c (AV.int 1)) (.bo .mod (.ix (.x 2) (.c (AV.int 0))) (.c (AV.int 3)))), (.ls [])])), (.fr (.x 5) (.sl (.x 2) (some (.c (AV.int 2))) (some (.bo .add (.c (AV.int 3)) (.bo .mod (.ix (.x 2) (.c (AV.int 1))) (.c (AV.int 3)))))) [(.asl 6 (.lc 2 [(1, 5)] [0] false (.bf 9 (.bo .add (.c (AV.int 1)) (.bo .mod (.x 5) (.c (AV.int 2))))) none (.bo .div (.bo .div (.x 1) (.c (AV.int 2))) (.bo .pow (.c (AV.int 6)) (.x 0))))), (.ex (.bm (.x 4) 0 [(.lc 2 [(1, 3)] [0] false (.x 6) none (.tp [(.bo .mod (.bo .div (.x 0) (.c (AV.int 2))) (.x 1)), (.cm .eq (.bo .mod (.x 0) (.c (AV.int 2))) (.c (AV.int 0)))]))]))]), (.as (.x 7) (.bo .mul (.c (AV.str [116, 102])) (.bo .add (.x 3) (.bf 0 (.x 4))))), (.as (.x 8) (.cf 49 [(.x 3), (.x 4)])), (.as (.x 9) (.nw 3 [.dc, (.c (AV.int 9999)), (.ls [])])), (.as (.x 10) (.cf 39 [(.cf 48 [(.x 3), (.x 4), (.tp [(.c (AV.str [114, 112, 111, 115])), (.c (AV.int 0))])]), (.x 7), (.c (AV.bool true)), (.x 9)])), (.iff (.cm .eq (.x 8) (.ls [])) [(.iff (.cm .isn (.x 10) (.c AV.none)) [(.rt (.c (AV.bool false)))] [])] [(.iff (.or [(.cm .ne (.x 10) (.tp [(.c (AV.int 0)), (.bf 0 (.x 7)), (.ls [])])), (.cm .ne (.bm (.c (AV.str [])) 5 [(.lc 2 [(1, 9)] [0] false (.sl (.c (AV.str [88, 89, 90])) none (some (.x 3))) none (.ix (.at (.x 1) 12) (.x 0)))]) (.ix (.x 8) (.c (AV.int 0))))]) [(.rt (.c (AV.bool false)))] [])]), (.as (.x 9) (.nw 3 [.dc, (.c (AV.int 9999)), (.ls [])])), (.as (.x 11) (.tp [(.c (AV.str [99, 97, 116])), (.tp [(.c (AV.str [99, 117, 114, 115, 111, 114])), (.nw 4 [(.c (AV.str [118, 97, 114])), (.c AV.none), (.c (AV.str [69]))])]), (.tp [(.c (AV.str [102, 97, 105, 108]))])])), (.iff (.cm .isn (.cf 40 [(.cf 48 [(.x 3), (.x 4), (.x 11)]), (.x 7), (.c (AV.bool true)), (.x 9)]) (.c AV.none)) [(.rt (.c (AV.bool false)))] []), (.asw [12, 13] (.tp [(.bo .mul (.ls [(.c (AV.str [116]))]) (.x 3)), (.ls [])])), (.fr (.tup [(.x 14), (.x 5)]) (.at (.x 9) 17) [(.iff (.cm .ne (.x 14) (.c (AV.str [69]))) [(.as (.ix (.x 12) (.bm (.c (AV.str [88, 89, 90])) 6 [(.x 14)])) (.x 5))] [(.iff (.cm .eq (.x 5) (.bf 0 (.x 7))) [(.ex (.bm (.x 13) 0 [(.bm (.c (AV.str [])) 5 [(.x 12)])]))] [(.rt (.c (AV.bool false)))])])]), (.rt (.cm .eq (.x 13) (.x 8)))]
noncomputable def fnNames : List Str := (["__init__", "emit", "put", "begun", "choice", "repeat", "bound", "__init__", "__init__", "copied", "__init__", "run", "way_back", "done", "met_once", "ended", "other", "met_often", "asked", "__init__", "value_of", "assign", "step", "row_of", "is_plain_text", "with_texts_joined", "straightened", "compile_pattern", "is_fail", "to_text", "pattern_of", "is_delayed", "settled", "chars_end", "rpos_end", "one_end", "plain_end", "named_rows", "match_orders", "match_compiled", "match_plain", "match_at", "tried", "advanced", "led_in", "led_out", "steered", "taken", "_law_node", "_law_rows", "law"] : List String).map Str.ofString
noncomputable def fnQuals : List Str := (["PatternCode.__init__", "PatternCode.emit", "PatternCode.put", "PatternCode.begun", "PatternCode.choice", "PatternCode.repeat", "PatternCode.bound", "NameRef.__init__", "Way.__init__", "Way.copied", "Match.__init__", "Match.run", "Match.way_back", "Match.done", "Match.met_once", "Match.ended", "Match.other", "Match.met_often", "Match.asked", "PlainHost.__init__", "PlainHost.value_of", "PlainHost.assign", "PlainHost.step", "row_of", "is_plain_text", "with_texts_joined", "straightened", "compile_pattern", "is_fail", "to_text", "pattern_of", "is_delayed", "settled", "chars_end", "rpos_end", "one_end", "plain_end", "named_rows", "match_orders", "match_compiled", "match_plain", "match_at", "tried", "advanced", "led_in", "led_out", "steered", "taken", "_law_node", "_law_rows", "law"] : List String).map Str.ofString
noncomputable def fnLocs : List (List Str) := ([["self"], ["self", "order"], ["self", "node", "waiting", "word", "told"], ["self", "node", "kind"], ["self", "parts", "found", "ends", "part"], ["self", "node", "split", "leave"], ["self", "word", "ends", "at"], ["self", "kind", "owner", "key"], ["self", "orders", "pc", "at", "named", "marks", "calls"], ["self", "pc"], ["self", "subject", "host"], ["self", "orders", "begin", "way", "order"], ["self"], ["self", "order", "way", "word"], ["self", "order", "way", "told", "node", "end"], ["self", "order", "way", "marks", "begin", "text"], ["self", "order", "way", "word"], ["self", "way", "ends", "end", "other"], ["self", "tree", "way", "value"], ["self", "values", "limit", "refused"], ["self", "tree"], ["self", "ref", "value"], ["self"], ["node", "kind", "found", "waiting", "part"], ["node"], ["parts", "found", "part"], ["orders", "found", "order", "goal"], ["node", "code"], ["value"], ["value"], ["value", "text"], ["told"], ["node", "host", "value"], ["subject", "at", "text", "end"], ["subject", "at", "place"], ["kind", "subject", "at", "told"], ["node", "subject", "at"], ["named", "found", "last"], ["orders", "subject", "is_anchored", "host", "begin", "how", "way"], ["node", "subject", "is_anchored", "host"], ["node", "subject", "is_anchored", "host", "begin", "found"], ["node", "subject", "begin", "host", "found"], ["node", "subject", "begin", "host", "pile", "way", "chain", "at", "named"], ["chain", "at", "named", "subject", "pile", "host", "here", "rest", "kind", "value"], ["here", "rest", "at", "named", "pile", "kind"], ["here", "rest", "at", "named", "subject", "pile", "host", "kind", "told", "begin"], ["chain", "at", "named", "pile", "kind", "rest"], ["here", "rest", "at", "named", "subject", "pile", "host", "kind", "ends", "end", "plain"], ["many", "clauses", "last", "node", "clause", "parts", "at", "is_self", "asked", "choice", "part", "name", "ref", "one"], ["many", "clauses", "found", "turn", "row", "times", "clause"], ["script", "usual", "cells", "many", "clauses", "told", "parts", "subject", "due", "host", "found", "last", "values", "rows", "name"]] : List (List String)).map (·.map Str.ofString)
noncomputable def fnDefs : List FnDef := [⟨1, 1, b0⟩, ⟨2, 2, b1⟩, ⟨2, 5, b2⟩, ⟨2, 3, b3⟩, ⟨2, 5, b4⟩, ⟨2, 4, b5⟩, ⟨3, 4, b6⟩, ⟨4, 4, b7⟩, ⟨7, 7, b8⟩, ⟨2, 2, b9⟩, ⟨3, 3, b10⟩, ⟨3, 5, b11⟩, ⟨1, 1, b12⟩, ⟨3, 4, b13⟩, ⟨3, 6, b14⟩, ⟨3, 6, b15⟩, ⟨3, 4, b16⟩, ⟨3, 5, b17⟩, ⟨3, 4, b18⟩, ⟨4, 4, b19⟩, ⟨2, 2, b20⟩, ⟨3, 3, b21⟩, ⟨1, 1, b22⟩, ⟨2, 5, b23⟩, ⟨1, 1, b24⟩, ⟨1, 3, b25⟩, ⟨1, 4, b26⟩, ⟨1, 2, b27⟩, ⟨1, 1, b28⟩, ⟨1, 1, b29⟩, ⟨1, 2, b30⟩, ⟨1, 1, b31⟩, ⟨2, 3, b32⟩, ⟨3, 4, b33⟩, ⟨3, 3, b34⟩, ⟨4, 4, b35⟩, ⟨3, 3, b36⟩, ⟨1, 3, b37⟩, ⟨4, 7, b38⟩, ⟨4, 4, b39⟩, ⟨4, 6, b40⟩, ⟨4, 5, b41⟩, ⟨4, 9, b42⟩, ⟨6, 10, b43⟩, ⟨5, 6, b44⟩, ⟨7, 10, b45⟩, ⟨4, 6, b46⟩, ⟨7, 11, b47⟩, ⟨3, 14, b48⟩, ⟨2, 7, b49⟩, ⟨1, 15, b50⟩]
noncomputable def methTab : List (Nat × Nat × Nat) := [(0, 0, 1), (0, 1, 2), (0, 2, 3), (0, 3, 4), (0, 4, 5), (0, 5, 6), (1, 6, 9), (2, 7, 11), (2, 8, 12), (2, 9, 13), (2, 10, 14), (2, 11, 15), (2, 12, 16), (2, 13, 17), (2, 14, 18), (3, 15, 20), (3, 16, 21), (3, 17, 22)]
noncomputable def initTab : List (Nat × Nat) := [(0, 0), (1, 8), (2, 10), (3, 19), (4, 7)]
noncomputable def prog : Prog where
  fn f := fnDefs[f]?
  meth C m := (methTab.find? fun x => x.1 == C && x.2.1 == m).map fun x => x.2.2
  init C := initTab.lookup C
  glob n := globVals[n]?
end Mine
end

section
set_option compiler.extract_closed false
open PySem
set_option Elab.async false
set_option maxRecDepth 100000
set_option tactic.hygienic false
set_option linter.all false
namespace Mine

structure Sg where
  nm : List Str
  sc : Scope

noncomputable def isC : AV → Const → Bool
  | .none, .none => true
  | .bool a, .bool b => a == b
  | .int a, .int b => a == b
  | .str l, .str s => s.cps.toList == l
  | _, _ => false
noncomputable def Sg.gl (sg : Sg) (n : Str) : Bool := sg.sc.names.lookup n == some .globalImplicit && !(n == ("__debug__" : Str))
noncomputable def noSuper (e : Expr) : Bool := if h : e.ctorIdx = 16 then Expr.Call.elim (motive_1 := fun _ => Bool) e h fun f l k _ => !(f.ctorIdx == 23 && l.isEmpty && k.isEmpty) else true
noncomputable def isStar (e : Expr) : Bool := e.ctorIdx == 22
noncomputable def isSlice (e : Expr) : Bool := e.ctorIdx == 26
noncomputable def isComp (e : Expr) : Bool := e.ctorIdx == 8 || e.ctorIdx == 9 || e.ctorIdx == 10
noncomputable def opB : BOp → Operator
  | .add => .Add | .sub => .Sub | .mul => .Mult | .pow => .Pow | .div => .FloorDiv | .mod => .Mod
noncomputable def opC : COp → CmpOp
  | .eq => .Eq | .ne => .NotEq | .lt => .Lt | .gt => .Gt | .is => .Is | .isn => .IsNot | .isin => .In | .nin => .NotIn
noncomputable def bfName : Nat → Str
  | 0 => "len" | 1 => "abs" | 2 => "int" | 9 => "range" | _ => ""
noncomputable def clsName (c : Nat) : Option Str := match c with
  | 0 => some "str" | 1 => some "tuple" | 2 => some "int" | c => classNames[c - 10]?
noncomputable def relabelS (scope sc : Scope) : Scope :=
  { scope with names := scope.names.map fun (n, k) => if (k == .free && sc.kind == .function && sc.names.lookup n == some .cell) then (n, .cell) else (n, k) }
noncomputable def compNames (sc : Scope) : List Str := (sc.names.filter fun (n, k) => (k == .local || k == .free) && !(n == (".0" : Str))).map (·.1)
noncomputable def compScope (sg : Sg) (sc : Scope) (n : Nat) (fv : List (Nat × Nat)) (g : List Nat) : Bool :=
  let nm := compNames sc
  nm.length == n && decide nm.Nodup && decide ((sc.names.map (·.1)).Nodup) && (sc.kind == .function) && sc.names.all (fun x => x.2 != .cell) &&
  (List.range n).all (fun i => match nm[i]? with
    | some x => (match fv.lookup i with
      | some j => sc.names.lookup x == some .free && sg.nm[j]? == some x && sg.sc.names.lookup x == some .cell
      | none => sc.names.lookup x == some .local)
    | none => false) &&
  sc.names.all (fun x => x.2 != .free || nm.contains x.1) && g.all (fun i => i < n && (fv.lookup i).isNone)

noncomputable def vConst (e : Expr) : Option { k : Const // ∃ n p, e = .Constant k n p } :=
  if he : e.ctorIdx = 19 then Expr.Constant.elim e he fun k n p => some ⟨k, n, p, rfl⟩ else none
noncomputable def vNeg (e : Expr) : Option { k : Int // ∃ n p q, e = .UnaryOp .USub (.Constant (.int k) n p) q } :=
  if he : e.ctorIdx = 3 then Expr.UnaryOp.elim e he fun op x q => if hx : x.ctorIdx = 19 then Expr.Constant.elim x hx fun c n p => match op, c with
    | .USub, .int k => some ⟨k, n, p, q, rfl⟩
    | _, _ => none else none else none
noncomputable def vName (e : Expr) : Option { k : Str // ∃ p, e = .Name k p } :=
  if he : e.ctorIdx = 23 then Expr.Name.elim e he fun k p => some ⟨k, p, rfl⟩ else none
noncomputable def vAttr (e : Expr) : Option { k : Expr × Str // ∃ p, e = .Attribute k.1 k.2 p } :=
  if he : e.ctorIdx = 20 then Expr.Attribute.elim e he fun o a p => some ⟨(o, a), p, rfl⟩ else none
noncomputable def vTuple (e : Expr) : Option { k : List Expr // ∃ n p, e = .Tuple k n p } :=
  if he : e.ctorIdx = 25 then Expr.Tuple.elim e he fun k n p => some ⟨k, n, p, rfl⟩ else none
noncomputable def vList (e : Expr) : Option { k : List Expr // ∃ p, e = .List k p } :=
  if he : e.ctorIdx = 24 then Expr.List.elim e he fun k p => some ⟨k, p, rfl⟩ else none
noncomputable def vDict (e : Expr) : Option { k : Unit // ∃ p, e = .Dict [] [] p } :=
  if he : e.ctorIdx = 6 then Expr.Dict.elim e he fun k v p => match k, v with
    | [], [] => some ⟨(), p, rfl⟩
    | _, _ => none else none
noncomputable def vSub (e : Expr) : Option { k : Expr × Expr // ∃ p, e = .Subscript k.1 k.2 p } :=
  if he : e.ctorIdx = 21 then Expr.Subscript.elim e he fun a b p => some ⟨(a, b), p, rfl⟩ else none
noncomputable def vSl (e : Expr) : Option { k : Expr × Option Expr × Option Expr // ∃ q p, e = .Subscript k.1 (.Slice k.2.1 k.2.2 none q) p } :=
  if he : e.ctorIdx = 21 then Expr.Subscript.elim e he fun a s p => if hs : s.ctorIdx = 26 then Expr.Slice.elim s hs fun b c d q => match d with
    | none => some ⟨(a, b, c), q, p, rfl⟩
    | _ => none else none else none
noncomputable def vSr (e : Expr) : Option { k : Expr // ∃ n p1 p2 p3 p, e = .Subscript k (.Slice none none (some (.UnaryOp .USub (.Constant (.int 1) n p1) p2)) p3) p } :=
  if he : e.ctorIdx = 21 then Expr.Subscript.elim e he fun k s p => if hs : s.ctorIdx = 26 then Expr.Slice.elim s hs fun a b c p3 => match a, b, c with
    | none, none, some u => if hu : u.ctorIdx = 3 then Expr.UnaryOp.elim u hu fun op x p2 => if hx : x.ctorIdx = 19 then Expr.Constant.elim x hx fun v n p1 => match op, v with
      | .USub, .int 1 => some ⟨k, n, p1, p2, p3, p, rfl⟩
      | _, _ => none else none else none
    | _, _, _ => none else none else none
noncomputable def vBin (e : Expr) : Option { k : Expr × Operator × Expr // ∃ p, e = .BinOp k.1 k.2.1 k.2.2 p } :=
  if he : e.ctorIdx = 2 then Expr.BinOp.elim e he fun a o b p => some ⟨(a, o, b), p, rfl⟩ else none
noncomputable def vCmp (e : Expr) : Option { k : Expr × CmpOp × Expr // ∃ p, e = .Compare k.1 [k.2.1] [k.2.2] p } :=
  if he : e.ctorIdx = 15 then Expr.Compare.elim e he fun a os bs p => match os, bs with
    | [o], [b] => some ⟨(a, o, b), p, rfl⟩
    | _, _ => none else none
noncomputable def vNot (e : Expr) : Option { k : Expr // ∃ p, e = .UnaryOp .Not k p } :=
  if he : e.ctorIdx = 3 then Expr.UnaryOp.elim e he fun op k p => match op with
    | .Not => some ⟨k, p, rfl⟩
    | _ => none else none
noncomputable def vAnd (e : Expr) : Option { k : List Expr // ∃ p, e = .BoolOp .And k p } :=
  if he : e.ctorIdx = 0 then Expr.BoolOp.elim e he fun op k p => match op with
    | .And => some ⟨k, p, rfl⟩
    | _ => none else none
noncomputable def vOr (e : Expr) : Option { k : List Expr // ∃ p, e = .BoolOp .Or k p } :=
  if he : e.ctorIdx = 0 then Expr.BoolOp.elim e he fun op k p => match op with
    | .Or => some ⟨k, p, rfl⟩
    | _ => none else none
noncomputable def vIf (e : Expr) : Option { k : Expr × Expr × Expr // ∃ p, e = .IfExp k.1 k.2.1 k.2.2 p } :=
  if he : e.ctorIdx = 5 then Expr.IfExp.elim e he fun a b c p => some ⟨(a, b, c), p, rfl⟩ else none
noncomputable def vCallN (e : Expr) : Option { k : Str × List Expr // ∃ np p, e = .Call (.Name k.1 np) k.2 [] p } :=
  if he : e.ctorIdx = 16 then Expr.Call.elim e he fun f l kw p => if hf : f.ctorIdx = 23 then Expr.Name.elim f hf fun n np => match kw with
    | [] => some ⟨(n, l), np, p, rfl⟩
    | _ => none else none else none
noncomputable def vCallA (e : Expr) : Option { k : Expr × Str × Pos × List Expr × Pos // e = .Call (.Attribute k.1 k.2.1 k.2.2.1) k.2.2.2.1 [] k.2.2.2.2 } :=
  if he : e.ctorIdx = 16 then Expr.Call.elim e he fun f l kw p => if hf : f.ctorIdx = 20 then Expr.Attribute.elim f hf fun o n ap => match kw with
    | [] => some ⟨(o, n, ap, l, p), rfl⟩
    | _ => none else none else none
noncomputable def vIsi (e : Expr) : Option { k : Str × Expr × Str // ∃ np cp p, e = .Call (.Name k.1 np) [k.2.1, .Name k.2.2 cp] [] p } :=
  if he : e.ctorIdx = 16 then Expr.Call.elim e he fun f l kw p => if hf : f.ctorIdx = 23 then Expr.Name.elim f hf fun n np => match l, kw with
    | [x, y], [] => if hy : y.ctorIdx = 23 then Expr.Name.elim y hy fun cn cp => some ⟨(n, x, cn), np, cp, p, rfl⟩ else none
    | _, _ => none else none else none
noncomputable def vCall1 (e : Expr) : Option { k : Str × Expr // ∃ np p, e = .Call (.Name k.1 np) [k.2] [] p } :=
  if he : e.ctorIdx = 16 then Expr.Call.elim e he fun f l kw p => if hf : f.ctorIdx = 23 then Expr.Name.elim f hf fun n np => match l, kw with
    | [x], [] => some ⟨(n, x), np, p, rfl⟩
    | _, _ => none else none else none
noncomputable def vLC (e : Expr) : Option { k : Expr × Expr × Expr × List Expr × Scope // ∃ p, e = .ListComp k.1 [⟨k.2.1, k.2.2.1, k.2.2.2.1, 0⟩] k.2.2.2.2 p } :=
  if he : e.ctorIdx = 8 then Expr.ListComp.elim e he fun elt gens sc p => match gens with
    | [⟨tg, it, ifs, 0⟩] => some ⟨(elt, tg, it, ifs, sc), p, rfl⟩
    | _ => none else none
noncomputable def vCons {α : Type} (l : List α) : Option { k : α × List α // l = k.1 :: k.2 } := match l with
  | a :: r => some ⟨(a, r), rfl⟩
  | [] => none
noncomputable def isNm (e : Expr) (nm : List Str) (g : List Nat) : Bool := match g with
  | [i] => (vName e).any fun n => nm[i]? == some n.1
  | _ => false
noncomputable def areNm : List Expr → List Str → List Nat → Bool
  | [], _, [] => true
  | e :: r, nm, i :: is => (vName e).any (fun n => nm[i]? == some n.1) && areNm r nm is
  | _, _, _ => false
noncomputable def compTg (t : Expr) (nm : List Str) (g : List Nat) (gt : Bool) : Bool := if gt then (vTuple t).any fun es => areNm es.1 nm g else isNm t nm g
theorem anyS {α : Type} {o : Option α} {p : α → Bool} (h : o.any p = true) : ∃ a, p a = true := by
  cases o with
  | none => first | exact none_k h | exact false_k h | exact some_k h | exact true_k h | cases h
  | some a => exact ⟨a, h⟩
theorem bAnd2 {a b : Bool} (h : (a && b) = true) : a = true ∧ b = true := by
  cases a with
  | false => first | exact none_k h | exact false_k h | exact some_k h | exact true_k h | cases h
  | true => exact ⟨rfl, h⟩
mutual
noncomputable def matchE : Sg → ME → Expr → Bool
  | _, .bad, e => !isStar e
  | _, .c v, e => (vConst e).any fun k => isC v k.1
  | _, .ng n, e => (vNeg e).any fun k => k.1 == (n : Int)
  | sg, .x i, e => (vName e).any fun n => sg.nm[i]? == some n.1 && !(n.1 == ("__debug__" : Str))
  | sg, .g k, e => (vName e).any fun n => globNames[k]? == some n.1 && sg.gl n.1
  | sg, .at e f, x => (vAttr x).any fun k => fieldNames[f]? == some k.1.2 && (noSuper k.1.1 && matchE sg e k.1.1)
  | sg, .tp es, e => (vTuple e).any fun l => matchEs sg es l.1 && decide (l.1.length ≤ 100)
  | sg, .ls es, e => (vList e).any fun l => matchEs sg es l.1 && decide (l.1.length ≤ 100)
  | _, .dc, e => (vDict e).any fun q0 => true
  | sg, .ix e i, x => (vSub x).any fun k => matchE sg e k.1.1 && (!isSlice k.1.2 && matchE sg i k.1.2)
  | sg, .sl e lo hi, x => (vSl x).any fun k => matchE sg e k.1.1 && (matchO sg lo k.1.2.1 && matchO sg hi k.1.2.2)
  | sg, .sr e, x => (vSr x).any fun k => matchE sg e k.1
  | sg, .bo op a b, x => (vBin x).any fun k => matchE sg a k.1.1 && ((k.1.2.1 == opB op) && matchE sg b k.1.2.2)
  | sg, .cm op a b, x => (vCmp x).any fun k => matchE sg a k.1.1 && ((k.1.2.1 == opC op) && (matchE sg b k.1.2.2 && !behindInMarks k.1.2.1 k.1.2.2))
  | sg, .nt e, x => (vNot x).any fun k => matchE sg e k.1
  | sg, .an es, x => (vAnd x).any fun k => matchEs sg es k.1
  | sg, .or es, x => (vOr x).any fun k => matchEs sg es k.1
  | sg, .ie t a b, x => (vIf x).any fun k => matchE sg t k.1.1 && (matchE sg a k.1.2.1 && matchE sg b k.1.2.2)
  | sg, .cf f es, x => (vCallN x).any fun k => fnNames[f]? == some k.1.1 && (sg.gl k.1.1 && (matchEs sg es k.1.2 && (decide (k.1.2.length ≤ 20) && decide (23 ≤ f))))
  | sg, .nw C es, x => (vCallN x).any fun k => classNames[C]? == some k.1.1 && (sg.gl k.1.1 && (matchEs sg es k.1.2 && decide (k.1.2.length ≤ 20)))
  | sg, .mc e m es, x => (vCallA x).any fun k => methNames[m]? == some k.1.2.1 && (noSuper k.1.1 && (matchE sg e k.1.1 && (matchEs sg es k.1.2.2.2.1 && (decide (k.1.2.2.2.1.length ≤ 20) && (k.1.2.2.1.endLine == k.1.2.2.2.2.line)))))
  | sg, .bm e m es, x => (vCallA x).any fun k => bmNames[m]? == some k.1.2.1 && (noSuper k.1.1 && (matchE sg e k.1.1 && (matchEs sg es k.1.2.2.2.1 && (decide (k.1.2.2.2.1.length ≤ 2) && (k.1.2.2.1.endLine == k.1.2.2.2.2.line)))))
  | sg, .ii e c, x => (vIsi x).any fun k => k.1.1 == ("isinstance" : Str) && (sg.gl k.1.1 && (clsName c == some k.1.2.2 && (sg.gl k.1.2.2 && matchE sg e k.1.2.1)))
  | sg, .bf f e, x => (vCall1 x).any fun k => k.1.1 == bfName f && (sg.gl k.1.1 && matchE sg e k.1.2)
  | sg, .lc n fv g gt it cond e, x => (vLC x).any fun k => compScope sg k.1.2.2.2.2 n fv g && (compTg k.1.2.1 (compNames k.1.2.2.2.2) g gt && (matchE sg it k.1.2.2.1 && (matchC ⟨compNames k.1.2.2.2.2, relabelS k.1.2.2.2.2 sg.sc⟩ cond k.1.2.2.2.1 && matchE ⟨compNames k.1.2.2.2.2, relabelS k.1.2.2.2.2 sg.sc⟩ e k.1.1)))
noncomputable def matchEs : Sg → List ME → List Expr → Bool
  | _, [], l => l.isEmpty
  | sg, e :: r, l => (vCons l).any fun k => matchE sg e k.1.1 && matchEs sg r k.1.2
noncomputable def matchO : Sg → Option ME → Option Expr → Bool
  | _, none, l => l.isNone
  | sg, some e, l => l.any fun x => matchE sg e x
noncomputable def matchC : Sg → Option ME → List Expr → Bool
  | _, none, l => l.isEmpty
  | sg, some e, l => (vCons l).any fun k => matchE sg e k.1.1 && k.1.2.isEmpty
end

mutual
noncomputable def matchT : Sg → Tg → Expr → Bool
  | sg, .x i, e => (vName e).any fun n => sg.nm[i]? == some n.1
  | sg, .tup gs, e => (vTuple e).any fun l => matchTs sg gs l.1
  | sg, .at e f, x => (vAttr x).any fun k => fieldNames[f]? == some k.1.2 && (noSuper k.1.1 && matchE sg e k.1.1)
  | sg, .ix e i, x => (vSub x).any fun k => matchE sg e k.1.1 && (!isSlice k.1.2 && matchE sg i k.1.2)
noncomputable def matchTs : Sg → List Tg → List Expr → Bool
  | _, [], l => l.isEmpty
  | sg, e :: r, l => (vCons l).any fun k => matchT sg e k.1.1 && matchTs sg r k.1.2
end

noncomputable def swapNames (sg : Sg) (ts : List Expr) : List Str :=
  let line := (ts.head?.map (·.pos.line)).getD 0
  ts.filterMap fun
    | .Name id pos => if sg.sc.names.lookup id == some .local && pos.line == line then some id else none
    | _ => none
noncomputable def swapNone (sg : Sg) (t v : Expr) : Bool := if h : t.ctorIdx = 25 then Expr.Tuple.elim (motive_1 := fun _ => Bool) t h fun ts _ _ => (v.ctorIdx != 25) || (swapNames sg ts).length != ts.length else t.ctorIdx != 24
noncomputable def swapSome (sg : Sg) (ts vs : List Expr) (xs : List Nat) : Bool :=
  (ts.length == 2 || ts.length == 3) && vs.length == ts.length && !(vs.any isStar) && (swapNames sg ts).length == ts.length && (swapNames sg ts).eraseDups.length == (swapNames sg ts).length &&
  !(vs.all (foldedForSure 8)) && !(vs.all (constantsAlone 8)) && (xs.map fun i => sg.nm[i]?) == (swapNames sg ts).map some

noncomputable def wAs (e : Stmt) : Option { k : Expr × Expr // ∃ p, e = .Assign [k.1] k.2 p } :=
  if he : e.ctorIdx = 5 then Stmt.Assign.elim e he fun l v p => match l with
    | [t] => some ⟨(t, v), p, rfl⟩
    | _ => none else none
noncomputable def wAsw (e : Stmt) : Option { k : List Expr × List Expr × Nat × Pos // ∃ n p r, e = .Assign [.Tuple k.1 n p] (.Tuple k.2.1 k.2.2.1 k.2.2.2) r } :=
  if he : e.ctorIdx = 5 then Stmt.Assign.elim e he fun l v r => match l with
    | [t] => if ht : t.ctorIdx = 25 then Expr.Tuple.elim t ht fun ts n p => if hv : v.ctorIdx = 25 then Expr.Tuple.elim v hv fun vs m q => some ⟨(ts, vs, m, q), n, p, r, rfl⟩ else none else none
    | _ => none else none
noncomputable def wAsl (e : Stmt) : Option { k : Str × Pos × Expr × List Comprehension × Scope × Pos // ∃ r, e = .Assign [.Name k.1 k.2.1] (.ListComp k.2.2.1 k.2.2.2.1 k.2.2.2.2.1 k.2.2.2.2.2) r } :=
  if he : e.ctorIdx = 5 then Stmt.Assign.elim e he fun l v r => match l with
    | [t] => if ht : t.ctorIdx = 23 then Expr.Name.elim t ht fun n p => if hv : v.ctorIdx = 8 then Expr.ListComp.elim v hv fun elt gens sc q => some ⟨(n, p, elt, gens, sc, q), r, rfl⟩ else none else none
    | _ => none else none
noncomputable def wAu (e : Stmt) : Option { k : Expr × Str × Expr // ∃ ap p, e = .AugAssign (.Attribute k.1 k.2.1 ap) .Add k.2.2 p } :=
  if he : e.ctorIdx = 7 then Stmt.AugAssign.elim e he fun t op v p => if ht : t.ctorIdx = 20 then Expr.Attribute.elim t ht fun o a ap => match op with
    | .Add => some ⟨(o, a, v), ap, p, rfl⟩
    | _ => none else none else none
noncomputable def wEx (e : Stmt) : Option { k : Expr // ∃ p, e = .Expr k p } :=
  if he : e.ctorIdx = 24 then Stmt.Expr.elim e he fun k p => some ⟨k, p, rfl⟩ else none
noncomputable def wRt (e : Stmt) : Option { k : Expr // ∃ p, e = .Return (some k) p } :=
  if he : e.ctorIdx = 3 then Stmt.Return.elim e he fun k p => match k with
    | some k => some ⟨k, p, rfl⟩
    | _ => none else none
noncomputable def wIf (e : Stmt) : Option { k : Expr × List Stmt × List Stmt // ∃ p, e = .If k.1 k.2.1 k.2.2 p } :=
  if he : e.ctorIdx = 12 then Stmt.If.elim e he fun a b c p => some ⟨(a, b, c), p, rfl⟩ else none
noncomputable def wWh (e : Stmt) : Option { k : Expr × List Stmt // ∃ p, e = .While k.1 k.2 [] p } :=
  if he : e.ctorIdx = 11 then Stmt.While.elim e he fun a b c p => match c with
    | [] => some ⟨(a, b), p, rfl⟩
    | _ => none else none
noncomputable def wFr (e : Stmt) : Option { k : Expr × Expr × List Stmt // ∃ p, e = .For k.1 k.2.1 k.2.2 [] p } :=
  if he : e.ctorIdx = 9 then Stmt.For.elim e he fun a b c d p => match d with
    | [] => some ⟨(a, b, c), p, rfl⟩
    | _ => none else none
noncomputable def wBr (e : Stmt) : Option { k : Unit // ∃ p, e = .Break p } :=
  if he : e.ctorIdx = 26 then Stmt.Break.elim e he fun p => some ⟨(), p, rfl⟩ else none
noncomputable def wCt (e : Stmt) : Option { k : Unit // ∃ p, e = .Continue p } :=
  if he : e.ctorIdx = 27 then Stmt.Continue.elim e he fun p => some ⟨(), p, rfl⟩ else none
mutual
noncomputable def matchS : Sg → MS → Stmt → Bool
  | _, .bad, _ => true
  | sg, .as g e, x => (wAs x).any fun k => matchT sg g k.1.1 && (matchE sg e k.1.2 && (!isComp k.1.2 && swapNone sg k.1.1 k.1.2))
  | sg, .asw xs e, x => (wAsw x).any fun k => matchE sg e (.Tuple k.1.2.1 k.1.2.2.1 k.1.2.2.2) && swapSome sg k.1.1 k.1.2.1 xs
  | sg, .asl x e, st => (wAsl st).any fun k => sg.nm[x]? == some k.1.1 && (sg.sc.names.lookup k.1.1 == some .local && (matchE sg e (.ListComp k.1.2.2.1 k.1.2.2.2.1 k.1.2.2.2.2.1 k.1.2.2.2.2.2) && ((k.1.2.1.line == k.1.2.2.2.2.2.line) && !(k.1.2.2.2.2.1.names.any fun (m, c) => m == k.1.1 && (c == .local || c == .cell)))))
  | sg, .au e f v, x => (wAu x).any fun k => fieldNames[f]? == some k.1.2.1 && (matchE sg e k.1.1 && matchE sg v k.1.2.2)
  | sg, .ex e, x => (wEx x).any fun k => matchE sg e k.1 && !isComp k.1
  | sg, .rt e, x => (wRt x).any fun k => matchE sg e k.1
  | sg, .iff t a b, x => (wIf x).any fun k => matchE sg t k.1.1 && (matchB sg a k.1.2.1 && matchB sg b k.1.2.2)
  | sg, .wh t b, x => (wWh x).any fun k => matchE sg t k.1.1 && matchB sg b k.1.2
  | sg, .fr g it b, x => (wFr x).any fun k => matchT sg g k.1.1 && (matchE sg it k.1.2.1 && matchB sg b k.1.2.2)
  | _, .br, x => (wBr x).any fun q0 => true
  | _, .ct, x => (wCt x).any fun q0 => true
noncomputable def matchB : Sg → List MS → List Stmt → Bool
  | _, [], l => l.isEmpty
  | sg, e :: r, l => (vCons l).any fun k => matchS sg e k.1.1 && matchB sg r k.1.2
end

noncomputable def matchF (fd : FnDef) (locs : List Str) (params : Arguments) (body : List Stmt) (sc : Scope) : Bool :=
  params.posonlyargs.isEmpty && params.vararg.isNone && params.kwonlyargs.isEmpty && params.kwarg.isNone && params.defaults.isEmpty && params.kw_defaults.isEmpty &&
  (params.args.map (·.arg) == locs.take fd.np) && locs.length == fd.nl && decide (fd.np ≤ fd.nl) && decide locs.Nodup && (sc.kind == .function) && !sc.isGenerator && !sc.isCoroutine &&
  locs.all (fun n => sc.names.lookup n == some .local || sc.names.lookup n == some .cell) && decide ((sc.names.map (·.1)).Nodup) && sc.names.all (fun x => x.2 != .free && (x.2 != .cell || locs.contains x.1)) &&
  matchB ⟨locs, sc⟩ fd.body body
end Mine
end

section
set_option compiler.extract_closed false
open PySem PySem.W PyProof.Rows PySem.Calls
set_option Elab.async false
set_option maxRecDepth 100000
set_option tactic.hygienic false
set_option linter.all false
namespace Mine

structure Cx where
  p : Program
  w : World
  K : Frag
  h₀ : Heap
  mg : Str → Option Value
  mb : Str → Option Value
  fa : Nat → Addr
  ca : Nat → Addr
  os : OsState

noncomputable abbrev Part := Addr → Option Obj

mutual
inductive IsV (ca : Nat → Addr) (B : Part) (loc : List Addr) : Value → AV → Prop
  | none : IsV ca B loc .none .none
  | bool {b} : IsV ca B loc (.bool b) (.bool b)
  | int {i t} : IsV ca B loc (.int i t) (.int i)
  | str {l t} : IsV ca B loc (.str ⟨l.toArray⟩ t) (.str l)
  | tup {a o n vals avs} : B a = some o → o.cls = .type "tuple" → o.data = .seq vals.toArray n → IsVs ca B loc vals avs → IsV ca B loc (.ref a) (.tup avs)
  | lst {a n vals avs} : B a = some (listOf vals.toArray n) → IsVs ca B loc vals avs → IsV ca B loc (.ref a) (.lst avs)
  | ref {a i} : loc[i]? = some a → IsV ca B loc (.ref a) (.ref i)
  | inst {x C i dx} : B x = some (instObj (ca C) dx) → loc[i]? = some dx → (prog.init C).isSome = true → IsV ca B loc (.ref x) (.inst C i)
inductive IsVs (ca : Nat → Addr) (B : Part) (loc : List Addr) : List Value → List AV → Prop
  | nil : IsVs ca B loc [] []
  | cons {v a vs as} : IsV ca B loc v a → IsVs ca B loc vs as → IsVs ca B loc (v :: vs) (a :: as)
end

noncomputable def Ext (B B' : Part) : Prop := ∀ a o, B a = some o → B' a = some o
noncomputable def Pre (loc loc' : List Addr) : Prop := ∀ (i : Nat) (a : Addr), loc[i]? = some a → loc'[i]? = some a
theorem Ext.refl (B : Part) : Ext B B := fun q0 q0 e => e
theorem Ext.trans {B B' B'' : Part} (x : Ext B B') (y : Ext B' B'') : Ext B B'' := fun a o e => y a o (x a o e)
theorem Pre.refl (l : List Addr) : Pre l l := fun q0 q0 e => e
theorem Pre.trans {l l' l'' : List Addr} (x : Pre l l') (y : Pre l' l'') : Pre l l'' := fun i a e => y i a (x i a e)
theorem Pre.app (l m : List Addr) : Pre l (l ++ m) := fun i a e => by
  have hi : i < l.length := (List.getElem?_eq_some_iff.mp e).1
  rw [List.getElem?_append_left hi]; exact e

section
set_option compiler.extract_closed false
variable {ca : Nat → Addr} {B B' : Part} {loc loc' : List Addr}
theorem IsVs.ind {P : List Value → List AV → Prop} {v : List Value} {a : List AV} (h : IsVs ca B loc v a) (nil : P [] []) (cons : ∀ {v a vs as}, IsV ca B loc v a → IsVs ca B loc vs as → P vs as → P (v :: vs) (a :: as)) : P v a :=
  @IsVs.rec ca B loc (fun _ _ _ => True) (fun v a _ => P v a) trivial trivial trivial trivial (fun _ _ _ _ _ => trivial) (fun _ _ _ => trivial) (fun _ => trivial) (fun _ _ _ => trivial) nil (fun h r _ ih => cons h r ih) v a h
theorem IsV.mono (hB : Ext B B') (hl : Pre loc loc') {v : Value} {a : AV} (h : IsV ca B loc v a) : IsV ca B' loc' v a :=
  @IsV.rec ca B loc (fun v a _ => IsV ca B' loc' v a) (fun v a _ => IsVs ca B' loc' v a) .none .bool .int .str (fun h c d _ r => .tup (hB _ _ h) c d r) (fun h _ r => .lst (hB _ _ h) r) (fun h => .ref (hl _ _ h)) (fun h k c => .inst (hB _ _ h) (hl _ _ k) c) .nil (fun _ _ a b => .cons a b) v a h
theorem IsVs.mono (hB : Ext B B') (hl : Pre loc loc') {v : List Value} {a : List AV} (h : IsVs ca B loc v a) : IsVs ca B' loc' v a := h.ind .nil fun h _ r => .cons (h.mono hB hl) r
theorem IsVs.length {v : List Value} {a : List AV} (h : IsVs ca B loc v a) : v.length = a.length := h.ind (P := fun v a => v.length = a.length) rfl fun _ _ e => congrArg (· + 1) e
theorem IsVs.get {v : List Value} {a : List AV} (h : IsVs ca B loc v a) : ∀ {k : Nat} {x : AV}, a[k]? = some x → ∃ y, v[k]? = some y ∧ IsV ca B loc y x :=
  fun {k x} e => h.ind (P := fun v a => ∀ (k : Nat) (x : AV), a[k]? = some x → ∃ y, v[k]? = some y ∧ IsV ca B loc y x) (fun _ _ e => none_k e) (fun h _ ih k x e => by
    cases k with
    | zero => injection e with e; exact ⟨_, rfl, e ▸ h⟩
    | succ k => exact ih k x e) k x e
theorem IsVs.app {v v' : List Value} {a a' : List AV} (h : IsVs ca B loc v a) (h' : IsVs ca B loc v' a') : IsVs ca B loc (v ++ v') (a ++ a') := h.ind (P := fun v a => IsVs ca B loc (v ++ v') (a ++ a')) h' fun h _ r => .cons h r
theorem IsVs.take {v : List Value} {a : List AV} (h : IsVs ca B loc v a) : ∀ k, IsVs ca B loc (v.take k) (a.take k) :=
  h.ind (P := fun v a => ∀ k, IsVs ca B loc (v.take k) (a.take k)) (fun k => by cases k <;> exact .nil) fun h _ ih k => by
    cases k with
    | zero => exact .nil
    | succ k => exact .cons h (ih k)
theorem IsVs.drop {v : List Value} {a : List AV} (h : IsVs ca B loc v a) : ∀ k, IsVs ca B loc (v.drop k) (a.drop k) :=
  h.ind (P := fun v a => ∀ k, IsVs ca B loc (v.drop k) (a.drop k)) (fun k => by cases k <;> exact .nil) fun h r ih k => by
    cases k with
    | zero => exact .cons h r
    | succ k => exact ih k
theorem IsVs.rev {v : List Value} {a : List AV} (h : IsVs ca B loc v a) : IsVs ca B loc v.reverse a.reverse :=
  h.ind (P := fun v a => IsVs ca B loc v.reverse a.reverse) .nil fun h _ ih => by rw [List.reverse_cons, List.reverse_cons]; exact ih.app (.cons h .nil)
theorem IsVs.set {v : List Value} {a : List AV} (h : IsVs ca B loc v a) : ∀ (k : Nat) {y : Value} {x : AV}, IsV ca B loc y x → IsVs ca B loc (v.set k y) (a.set k x) :=
  h.ind (P := fun v a => ∀ (k : Nat) {y : Value} {x : AV}, IsV ca B loc y x → IsVs ca B loc (v.set k y) (a.set k x)) (fun _ _ _ _ => .nil) fun h r ih k _ _ h' => by
    cases k with
    | zero => exact .cons h' r
    | succ k => exact .cons h (ih k h')
theorem IsVs.rep {v : List Value} {a : List AV} (h : IsVs ca B loc v a) (n : Nat) : IsVs ca B loc (List.replicate n v).flatten (List.replicate n a).flatten := by
  induction n with
  | zero => exact .nil
  | succ n ih => exact h.app ih
noncomputable def IsV.To (ca : Nat → Addr) (B : Part) (loc : List Addr) (v : Value) : AV → Prop
  | .none => v = .none
  | .bool b => v = .bool b
  | .int i => ∃ t, v = .int i t
  | .str l => ∃ t, v = .str ⟨l.toArray⟩ t
  | .tup avs => ∃ a o n vals, v = .ref a ∧ B a = some o ∧ o.cls = .type "tuple" ∧ o.data = .seq vals.toArray n ∧ IsVs ca B loc vals avs
  | .lst avs => ∃ a n vals, v = .ref a ∧ B a = some (listOf vals.toArray n) ∧ IsVs ca B loc vals avs
  | .ref i => ∃ a, v = .ref a ∧ loc[i]? = some a
  | .inst C i => ∃ x dx, v = .ref x ∧ B x = some (instObj (ca C) dx) ∧ loc[i]? = some dx ∧ (prog.init C).isSome = true
theorem IsV.to {v : Value} {a : AV} (h : IsV ca B loc v a) : IsV.To ca B loc v a :=
  @IsV.rec ca B loc (fun v a _ => IsV.To ca B loc v a) (fun _ _ _ => True) rfl rfl ⟨_, rfl⟩ ⟨_, rfl⟩ (fun h c d r _ => ⟨_, _, _, _, rfl, h, c, d, r⟩) (fun h r _ => ⟨_, _, _, rfl, h, r⟩) (fun h => ⟨_, rfl, h⟩) (fun h k c => ⟨_, _, rfl, h, k, c⟩) trivial (fun _ _ _ _ => trivial) v a h
noncomputable def IsVs.To (ca : Nat → Addr) (B : Part) (loc : List Addr) (v : List Value) : List AV → Prop
  | [] => v = []
  | a :: as => ∃ x xs, v = x :: xs ∧ IsV ca B loc x a ∧ IsVs ca B loc xs as
theorem IsVs.to {v : List Value} {a : List AV} (h : IsVs ca B loc v a) : IsVs.To ca B loc v a := h.ind (P := fun v a => IsVs.To ca B loc v a) rfl fun h r _ => ⟨_, _, rfl, h, r⟩
theorem IsVs.none {vals : List Value} (h : IsVs ca B loc vals []) : vals = [] := h.to
theorem IsVs.one {vals : List Value} {x : AV} (h : IsVs ca B loc vals [x]) : ∃ v, vals = [v] ∧ IsV ca B loc v x :=
  let ⟨v, _, e, a, b⟩ := h.to
  ⟨v, e.trans (congrArg _ b.to), a⟩
theorem IsVs.two {vals : List Value} {x y : AV} (h : IsVs ca B loc vals [x, y]) : ∃ v w, vals = [v, w] ∧ IsV ca B loc v x ∧ IsV ca B loc w y :=
  let ⟨v, _, e, a, b⟩ := h.to
  let ⟨w, f, b⟩ := b.one
  ⟨v, w, e.trans (congrArg _ f), a, b⟩
theorem IsVs.split {vals : List Value} {ws : List AV} {x : AV} (h : IsVs ca B loc vals (ws ++ [x])) : ∃ vl v, vals = vl ++ [v] ∧ IsVs ca B loc vl ws ∧ IsV ca B loc v x := by
  induction ws generalizing vals with
  | nil => exact let ⟨v, e, q⟩ := IsVs.one h; ⟨[], v, e, .nil, q⟩
  | cons w r ih => exact let ⟨y, ys, e, a, b⟩ := h.to; let ⟨vl, v, f, q1, q2⟩ := ih b; ⟨y :: vl, v, e.trans (congrArg _ f), .cons a q1, q2⟩
end

noncomputable def fieldNm (f : Nat) : Str := fieldNames.getD f ""
theorem fieldNm_of {f : Nat} {n : Str} (h : fieldNames[f]? = some n) : fieldNm f = n ∧ f < fieldNames.length := by
  have := (List.getElem?_eq_some_iff.mp h).1
  exact ⟨by unfold fieldNm; rw [List.getD_eq_getElem?_getD, h]; rfl, this⟩
theorem field_inj0 : ∀ f : Fin 18, ∀ g : Fin 18, fieldNm f.1 = fieldNm g.1 → f.1 = g.1 := by decide +kernel
theorem field_len : fieldNames.length = 18 := by decide +kernel
theorem fieldNm_inj {f g : Nat} (hf : f < fieldNames.length) (hg : g < fieldNames.length) (e : fieldNm f = fieldNm g) : f = g :=
  field_inj0 ⟨f, field_len ▸ hf⟩ ⟨g, field_len ▸ hg⟩ e

inductive FldsR (ca : Nat → Addr) (B : Part) (loc : List Addr) : List DictEntry → List (Nat × AV) → Prop
  | nil : FldsR ca B loc [] []
  | cons {e t f v r es} : e.key = .str (fieldNm f) t → f < fieldNames.length → IsV ca B loc e.val v → FldsR ca B loc r es → FldsR ca B loc (e :: r) ((f, v) :: es)

inductive DictR (ca : Nat → Addr) (B : Part) (loc : List Addr) : List (Str × Value) → List (List Nat × AV) → Prop
  | nil : DictR ca B loc [] []
  | cons {k x v r es} : IsV ca B loc x v → DictR ca B loc r es → DictR ca B loc ((⟨k.toArray⟩, x) :: r) ((k, v) :: es)

inductive ObjAt (X : Cx) (B : Part) (loc : List Addr) (h : Heap) (a : Addr) : AO → Prop
  | list {vals n vs} : h.get? a = some (listOf vals.toArray n) → IsVs X.ca B loc vals vs → ObjAt X B loc h a (.list vs)
  | flds {des n es} : h.get? a = some (dictOf des n) → FldsR X.ca B loc des es → ObjAt X B loc h a (.flds es)
  | dict {kvs es} : h.DictOf (strKind X.p X.w) a kvs → DictR X.ca B loc kvs es → ObjAt X B loc h a (.dict es)

theorem DictR.ind {ca : Nat → Addr} {B : Part} {loc : List Addr} {P : List (Str × Value) → List (List Nat × AV) → Prop} {d : List (Str × Value)} {es : List (List Nat × AV)} (h : DictR ca B loc d es) (nil : P [] []) (cons : ∀ {k x v r es}, IsV ca B loc x v → DictR ca B loc r es → P r es → P ((⟨k.toArray⟩, x) :: r) ((k, v) :: es)) : P d es :=
  @DictR.rec ca B loc (fun d es _ => P d es) nil (fun h r ih => cons h r ih) d es h
theorem FldsR.ind {ca : Nat → Addr} {B : Part} {loc : List Addr} {P : List DictEntry → List (Nat × AV) → Prop} {d : List DictEntry} {es : List (Nat × AV)} (h : FldsR ca B loc d es) (nil : P [] []) (cons : ∀ {e t f v r es}, e.key = .str (fieldNm f) t → f < fieldNames.length → IsV ca B loc e.val v → FldsR ca B loc r es → P r es → P (e :: r) ((f, v) :: es)) : P d es :=
  @FldsR.rec ca B loc (fun d es _ => P d es) nil (fun k f v r ih => cons k f v r ih) d es h
theorem DictR.mono {ca : Nat → Addr} {B B' : Part} {loc loc' : List Addr} (hB : Ext B B') (hl : Pre loc loc') {d : List (Str × Value)} {es : List (List Nat × AV)} (h : DictR ca B loc d es) : DictR ca B' loc' d es := h.ind .nil fun v _ r => .cons (v.mono hB hl) r
theorem FldsR.mono {ca : Nat → Addr} {B B' : Part} {loc loc' : List Addr} (hB : Ext B B') (hl : Pre loc loc') {d : List DictEntry} {es : List (Nat × AV)} (h : FldsR ca B loc d es) : FldsR ca B' loc' d es := h.ind .nil fun k f v _ r => .cons k f (v.mono hB hl) r
theorem ObjAt.mono {X : Cx} {B B' : Part} {loc loc' : List Addr} {h h' : Heap} {a : Addr} {ao : AO} (hB : Ext B B') (hl : Pre loc loc') (hh : h'.get? a = h.get? a) (x : ObjAt X B loc h a ao) : ObjAt X B' loc' h' a ao := by
  cases x with
  | list h1 h2 => exact .list (hh.trans h1) (h2.mono hB hl)
  | flds h1 h2 => exact .flds (hh.trans h1) (h2.mono hB hl)
  | dict h1 h2 => exact .dict (let ⟨o, es, ep, ho, r⟩ := h1; ⟨o, es, ep, hh.trans ho, r⟩) (h2.mono hB hl)
theorem ObjAt.live {X : Cx} {B : Part} {loc : List Addr} {h : Heap} {a : Addr} {ao : AO} (x : ObjAt X B loc h a ao) : ∃ o, h.get? a = some o ∧ o.cls ≠ .type "tuple" ∧ ∀ C, o.cls ≠ .ref C := by
  cases x with
  | list h1 h2 => exact ⟨_, h1, by simp, by simp⟩
  | flds h1 h2 => exact ⟨_, h1, by simp, by simp⟩
  | dict h1 h2 => obtain ⟨o, es, ep, ho, c, _⟩ := h1; exact ⟨o, ho, by rw [c.1]; decide, by rw [c.1]; intro C e; first | exact none_k e | exact false_k e | exact some_k e | exact true_k e | cases e⟩

structure Inv (X : Cx) (B : Part) (loc : List Addr) (σ : St) (s : Shared) : Prop where
  sub : ∀ a o, B a = some o → s.heap.get? a = some o
  base : ∀ a o, X.h₀.get? a = some o → B a = some o
  len : loc.length = σ.length
  obj : ∀ (i : Nat) (a : Addr) (ao : AO), loc[i]? = some a → σ[i]? = some ao → ObjAt X B loc s.heap a ao
  free : ∀ a ∈ loc, B a = none
  nodup : loc.Nodup
  gens : s.gens = #[]
  os : s.os = X.os
  two : ∃ o, X.h₀.get? 2 = some o
  low : ∀ a ∈ loc, 2 ≤ a

structure Fm where
  sg : Sg
  own : Bool
  env : Env

structure Fm.Ok (F : Fm) : Prop where
  sc : F.env.scope = F.sg.sc
  kind : F.sg.sc.kind = .function
  glob : F.env.globals = mainGlobals
  bi : F.env.builtins = builtinsNs
  nd : F.sg.nm.Nodup
  loc : ∀ (i : Nat) (n : Str), F.sg.nm[i]? = some n → F.sg.sc.names.lookup n = some .local ∨ (F.sg.sc.names.lookup n = some .cell ∧ ∃ c, F.env.cells.lookup n = some c)
  cellsNm : ∀ (n : Str) (c : Addr), F.env.cells.lookup n = some c → ∃ i : Nat, F.sg.nm[i]? = some n ∧ F.sg.sc.names.lookup n = some .cell
  inj : ∀ (n n' : Str) (c : Addr), F.env.cells.lookup n = some c → F.env.cells.lookup n' = some c → n = n'

structure FrOK (X : Cx) (F : Fm) (ρ : Loc) (B : Part) (loc : List Addr) (h : Heap) : Prop where
  len : ρ.length = F.sg.nm.length
  ns : ∃ m, h.Ns F.env.locals m ∧ ∀ (i : Nat) (n : Str) (av : AV), F.sg.nm[i]? = some n → F.sg.sc.names.lookup n = some .local → ρ[i]? = some (some av) → ∃ v, m n = some v ∧ IsV X.ca B loc v av
  LB : B F.env.locals = none
  Ll : F.env.locals ∉ loc
  cl : ∀ (i : Nat) (n : Str) (c : Addr), F.sg.nm[i]? = some n → F.sg.sc.names.lookup n = some .cell → F.env.cells.lookup n = some c → ∃ ov, h.IsCell c ov ∧ ∀ av, ρ[i]? = some (some av) → ∃ v, ov = some v ∧ IsV X.ca B loc v av
  cown : F.own = true → ∀ (n : Str) (c : Addr), F.env.cells.lookup n = some c → B c = none ∧ c ∉ loc ∧ c ≠ F.env.locals
  cfrz : F.own = false → ∀ (n : Str) (c : Addr), F.env.cells.lookup n = some c → ∃ o, B c = some o

structure Grow (B : Part) (loc : List Addr) (B' : Part) (loc' : List Addr) : Prop where
  ext : Ext B B'
  pre : Pre loc loc'
theorem Grow.refl (B : Part) (loc : List Addr) : Grow B loc B loc := ⟨.refl B, .refl loc⟩
theorem Grow.trans {B B' B'' : Part} {loc loc' loc'' : List Addr} (x : Grow B loc B' loc') (y : Grow B' loc' B'' loc'') : Grow B loc B'' loc'' := ⟨x.ext.trans y.ext, x.pre.trans y.pre⟩
theorem IsV.grow {ca : Nat → Addr} {B B' : Part} {loc loc' : List Addr} {v : Value} {a : AV} (x : IsV ca B loc v a) (g : Grow B loc B' loc') : IsV ca B' loc' v a := x.mono g.ext g.pre
theorem IsVs.grow {ca : Nat → Addr} {B B' : Part} {loc loc' : List Addr} {v : List Value} {a : List AV} (x : IsVs ca B loc v a) (g : Grow B loc B' loc') : IsVs ca B' loc' v a := x.mono g.ext g.pre

structure AOk (d : Nat) (A : Around) : Prop where
  h : A.handled = none
  dep : A.depth + 4 * d + 10 < recursionLimit
  un : A.units + 20 * d + 50 < cLine

noncomputable def Aft (X : Cx) (F : Fm) (ρ : Loc) (B : Part) (loc : List Addr) (σ : St) (R : Part → List Addr → Prop) (s : Shared) : Prop :=
  ∃ B' loc', Grow B loc B' loc' ∧ Inv X B' loc' σ s ∧ FrOK X F ρ B' loc' s.heap ∧ R B' loc'

noncomputable def Keep (h h' : Heap) : Prop := ∀ a o, h.get? a = some o → h'.get? a = some o
theorem Keep.refl (h : Heap) : Keep h h := fun q0 q0 e => e
theorem Keep.trans {h h' h'' : Heap} (x : Keep h h') (y : Keep h' h'') : Keep h h'' := fun a o e => y a o (x a o e)
theorem Keep.push (h : Heap) (o : Obj) : Keep h (h.push o) := fun q0 q0 e => Heap.get?_push_of_some _ e
theorem Keep.ext {h h' : Heap} (x : Heap.ExtBut h.objs.size h h') : Keep h h' := fun a o e => x a o (Nat.ne_of_lt (Heap.lt_size e)) e

section
set_option compiler.extract_closed false
variable {X : Cx} {F : Fm} {ρ : Loc} {B : Part} {loc : List Addr} {σ : St} {s s' : Shared}
theorem Inv.someAt (I : Inv X B loc σ s) {a : Addr} (h : a ∈ loc) : ∃ o, s.heap.get? a = some o := by
  obtain ⟨i, hi, rfl⟩ := List.mem_iff_getElem.mp h
  have : σ[i]? = some (σ[i]'(I.len ▸ hi)) := List.getElem?_eq_getElem _
  exact let ⟨o, ho, _⟩ := (I.obj i _ _ (List.getElem?_eq_getElem hi) this).live; ⟨o, ho⟩
theorem Inv.keep (I : Inv X B loc σ s) (k : Keep s.heap s'.heap) (hg : s'.gens = s.gens) (ho : s'.os = s.os) : Inv X B loc σ s' where
  sub a o e := k a o (I.sub a o e)
  base := I.base
  len := I.len
  obj i a ao h1 h2 := by
    have x := I.obj i a ao h1 h2
    obtain ⟨o, ho, _⟩ := x.live
    exact x.mono (.refl B) (.refl loc) ((k a o ho).trans ho.symm)
  free := I.free
  nodup := I.nodup
  gens := hg.trans I.gens
  os := ho.trans I.os
  two := I.two
  low := I.low
theorem FrOK.keep {h h' : Heap} (R : FrOK X F ρ B loc h) (k : Keep h h') : FrOK X F ρ B loc h' where
  len := R.len
  ns := let ⟨m, hm, x⟩ := R.ns; ⟨m, hm.keeps k, x⟩
  LB := R.LB
  Ll := R.Ll
  cl i n c a b e := let ⟨ov, hc, x⟩ := R.cl i n c a b e; ⟨ov, hc.keeps k, x⟩
  cown := R.cown
  cfrz := R.cfrz
theorem FrOK.grow {B' : Part} {loc' : List Addr} {h h' : Heap} (R : FrOK X F ρ B loc h) (g : Grow B loc B' loc') (hL : h'.get? F.env.locals = h.get? F.env.locals)
    (hc : ∀ n c, F.env.cells.lookup n = some c → h'.get? c = h.get? c) (h1 : B' F.env.locals = none) (h2 : F.env.locals ∉ loc')
    (h3 : F.own = true → ∀ n c, F.env.cells.lookup n = some c → B' c = none ∧ c ∉ loc') : FrOK X F ρ B' loc' h' where
  len := R.len
  ns := by
    obtain ⟨m, ⟨o, es, ep, ho, r⟩, x⟩ := R.ns
    exact ⟨m, ⟨o, es, ep, hL.trans ho, r⟩, fun i n av a b c => let ⟨v, e1, e2⟩ := x i n av a b c; ⟨v, e1, e2.grow g⟩⟩
  LB := h1
  Ll := h2
  cl i n c a b e := by
    obtain ⟨ov, ⟨o, ho, r⟩, x⟩ := R.cl i n c a b e
    exact ⟨ov, ⟨o, (hc n c e).trans ho, r⟩, fun av q => let ⟨v, e1, e2⟩ := x av q; ⟨v, e1, e2.grow g⟩⟩
  cown ho n c e := ⟨(h3 ho n c e).1, (h3 ho n c e).2, (R.cown ho n c e).2.2⟩
  cfrz ho n c e := let ⟨o, x⟩ := R.cfrz ho n c e; ⟨o, g.ext _ _ x⟩
theorem FrOK.Lat {h : Heap} (R : FrOK X F ρ B loc h) : ∃ o, h.get? F.env.locals = some o ∧ o.data ≠ .plain ∧ ∀ es ep, o.data = .dict es ep → StrKeys es := by
  obtain ⟨m, ⟨o, es, ep, ho, hd, hk, _⟩, _⟩ := R.ns
  exact ⟨o, ho, by rw [hd]; simp, fun es' ep' e => by rw [hd] at e; first | exact none_k e | exact false_k e | exact some_k e | exact true_k e | cases e; exact hk⟩
end
end Mine
end

section
set_option compiler.extract_closed false
open PySem PySem.W PyProof.Rows PySem.Calls
set_option Elab.async false
set_option maxRecDepth 100000
set_option tactic.hygienic false
namespace Mine
section
set_option compiler.extract_closed false
variable {X : Cx} {F : Fm} {ρ : Loc} {B : Part} {loc : List Addr} {σ : St} {s s' : Shared}

theorem Inv.fresh (I : Inv X B loc σ s) : B s.heap.objs.size = none ∧ s.heap.objs.size ∉ loc := by
  refine ⟨?_, fun h => ?_⟩
  · cases e : B s.heap.objs.size with
    | none => rfl
    | some o => exact absurd (Heap.lt_size (I.sub _ _ e)) (Nat.lt_irrefl _)
  · obtain ⟨o, ho⟩ := I.someAt h
    exact absurd (Heap.lt_size ho) (Nat.lt_irrefl _)
theorem FrOK.ltL {h : Heap} (R : FrOK X F ρ B loc h) : F.env.locals < h.objs.size := let ⟨_, hm, _⟩ := R.ns; hm.lt
theorem FrOK.ltC {h : Heap} (K : F.Ok) (R : FrOK X F ρ B loc h) {n : Str} {c : Addr} (e : F.env.cells.lookup n = some c) : c < h.objs.size := by
  obtain ⟨i, h1, h2⟩ := K.cellsNm n c e
  obtain ⟨ov, hc, _⟩ := R.cl i n c h1 h2 e
  exact hc.lt

noncomputable def addB (B : Part) (a : Addr) (o : Obj) : Part := fun b => if b = a then some o else B b
theorem addB_self (B : Part) (a : Addr) (o : Obj) : addB B a o a = some o := by simp [addB]
theorem addB_other (B : Part) {a b : Addr} (o : Obj) (h : b ≠ a) : addB B a o b = B b := by simp [addB, h]
theorem Ext.add {B : Part} {a : Addr} (o : Obj) (h : B a = none) : Ext B (addB B a o) := fun b x e => by
  by_cases hb : b = a
  · subst hb; rw [h] at e; first | exact none_k e | exact false_k e | exact some_k e | exact true_k e | cases e
  · rw [addB_other _ _ hb]; exact e

theorem Inv.newImm (I : Inv X B loc σ s) (K : F.Ok) (R : FrOK X F ρ B loc s.heap) {o : Obj} (hf : o.isFreed = false) {tk : Nat} :
    Grow B loc (addB B s.heap.objs.size o) loc ∧ Inv X (addB B s.heap.objs.size o) loc σ { s with heap := s.heap.push o, toks := tk } ∧ FrOK X F ρ (addB B s.heap.objs.size o) loc (s.heap.push o) := by
  obtain ⟨f1, f2⟩ := I.fresh
  have g : Grow B loc (addB B s.heap.objs.size o) loc := ⟨.add o f1, .refl _⟩
  refine ⟨g, ?_, ?_⟩
  · refine ⟨fun a x e => ?_, fun a x e => g.ext _ _ (I.base a x e), I.len, fun i a ao h1 h2 => ?_, fun a h => ?_, I.nodup, I.gens, I.os, I.two, I.low⟩
    · by_cases ha : a = s.heap.objs.size
      · subst ha; rw [addB_self] at e; first | exact none_k e | exact false_k e | exact some_k e | exact true_k e | cases e; exact Heap.get?_push_size _ hf
      · rw [addB_other _ _ ha] at e; exact Heap.get?_push_of_some _ (I.sub _ _ e)
    · have x := I.obj i a ao h1 h2
      obtain ⟨y, hy, _⟩ := x.live
      exact x.mono g.ext g.pre ((Heap.get?_push_of_some _ hy).trans hy.symm)
    · rw [addB_other _ _ (fun e => f2 (by rw [← e]; exact h))]; exact I.free a h
  · refine R.grow g ?_ (fun n c e => ?_) ?_ R.Ll (fun ho n c e => ?_)
    · obtain ⟨y, hy, _⟩ := R.Lat; exact (Heap.get?_push_of_some _ hy).trans hy.symm
    · obtain ⟨i, h1, h2⟩ := K.cellsNm n c e
      obtain ⟨ov, ⟨y, hy, _⟩, _⟩ := R.cl i n c h1 h2 e
      exact (Heap.get?_push_of_some _ hy).trans hy.symm
    · rw [addB_other _ _ (Nat.ne_of_lt R.ltL)]; exact R.LB
    · rw [addB_other _ _ (Nat.ne_of_lt (R.ltC K e))]; exact ⟨(R.cown ho n c e).1, (R.cown ho n c e).2.1⟩

theorem Inv.newMut (I : Inv X B loc σ s) (K : F.Ok) (R : FrOK X F ρ B loc s.heap) {o : Obj} {ao : AO} (hf : o.isFreed = false) {tk : Nat}
    (ho : ObjAt X B (loc ++ [s.heap.objs.size]) (s.heap.push o) s.heap.objs.size ao) :
    Grow B loc B (loc ++ [s.heap.objs.size]) ∧ Inv X B (loc ++ [s.heap.objs.size]) (σ ++ [ao]) { s with heap := s.heap.push o, toks := tk } ∧ FrOK X F ρ B (loc ++ [s.heap.objs.size]) (s.heap.push o) ∧
    (loc ++ [s.heap.objs.size])[σ.length]? = some s.heap.objs.size := by
  obtain ⟨f1, f2⟩ := I.fresh
  have g : Grow B loc B (loc ++ [s.heap.objs.size]) := ⟨.refl _, .app _ _⟩
  refine ⟨g, ?_, ?_, ?_⟩
  · refine ⟨fun a x e => Heap.get?_push_of_some _ (I.sub _ _ e), I.base, by simp [I.len], fun i a y h1 h2 => ?_, fun a h => ?_, ?_, I.gens, I.os, I.two, fun a h => ?_⟩
    · by_cases hi : i < loc.length
      · rw [List.getElem?_append_left hi] at h1
        rw [List.getElem?_append_left (I.len ▸ hi)] at h2
        have x := I.obj i a y h1 h2
        obtain ⟨z, hz, _⟩ := x.live
        exact x.mono g.ext g.pre ((Heap.get?_push_of_some _ hz).trans hz.symm)
      · have hi' : i = loc.length := by
          have := (List.getElem?_eq_some_iff.mp h1).1
          simp at this; lia
        subst hi'
        rw [List.getElem?_append_right (Nat.le_refl _)] at h1
        rw [I.len, List.getElem?_append_right (Nat.le_refl _)] at h2
        simp at h1 h2
        subst h1 h2
        exact ho
    · rcases List.mem_append.mp h with h | h
      · exact I.free a h
      · rw [List.mem_singleton.mp h]; exact f1
    · exact List.nodup_append.mpr ⟨I.nodup, by simp, fun a ha b hb e => by rw [List.mem_singleton.mp hb] at e; exact f2 (e ▸ ha)⟩
    · rcases List.mem_append.mp h with h | h
      · exact I.low a h
      · rw [List.mem_singleton.mp h]
        obtain ⟨o, h2⟩ := I.two
        exact Nat.le_of_lt (Heap.lt_size (I.sub _ _ (I.base _ _ h2)))
  · refine R.grow g ?_ (fun n c e => ?_) R.LB ?_ (fun ho n c e => ⟨(R.cown ho n c e).1, ?_⟩)
    · obtain ⟨y, hy, _⟩ := R.Lat; exact (Heap.get?_push_of_some _ hy).trans hy.symm
    · obtain ⟨i, h1, h2⟩ := K.cellsNm n c e
      obtain ⟨ov, ⟨y, hy, _⟩, _⟩ := R.cl i n c h1 h2 e
      exact (Heap.get?_push_of_some _ hy).trans hy.symm
    · intro h
      rcases List.mem_append.mp h with h | h
      · exact R.Ll h
      · exact absurd (List.mem_singleton.mp h) (Nat.ne_of_lt R.ltL)
    · intro h
      rcases List.mem_append.mp h with h | h
      · exact (R.cown ho n c e).2.1 h
      · exact absurd (List.mem_singleton.mp h) (Nat.ne_of_lt (R.ltC K e))
  · rw [← I.len, List.getElem?_append_right (Nat.le_refl _)]; simp

theorem Inv.mut (I : Inv X B loc σ s) (K : F.Ok) (R : FrOK X F ρ B loc s.heap) {i : Nat} {a : Addr} {ao : AO} {h' : Heap} {tk : Nat} (hi : loc[i]? = some a) (hs : Heap.SameBut a s.heap h') (ho : ObjAt X B loc h' a ao) :
    Inv X B loc (σ.set i ao) { s with heap := h', toks := tk } ∧ FrOK X F ρ B loc h' := by
  have ha : a ∈ loc := List.mem_of_getElem? hi
  refine ⟨⟨fun b x e => ?_, I.base, by simp [I.len], fun j b y h1 h2 => ?_, I.free, I.nodup, I.gens, I.os, I.two, I.low⟩, ?_⟩
  · have : b ≠ a := fun q => by rw [q, I.free a ha] at e; first | exact none_k e | exact false_k e | exact some_k e | exact true_k e | cases e
    exact (hs.2 b this).trans (I.sub b x e)
  · by_cases hj : j = i
    · subst hj
      rw [hi] at h1; first | exact none_k h1 | exact false_k h1 | exact some_k h1 | exact true_k h1 | cases h1
      have hlt : j < σ.length := I.len ▸ (List.getElem?_eq_some_iff.mp hi).1
      rw [List.getElem?_set_self hlt] at h2; first | exact none_k h2 | exact false_k h2 | exact some_k h2 | exact true_k h2 | cases h2
      exact ho
    · rw [List.getElem?_set_ne (Ne.symm hj)] at h2
      have hb : b ≠ a := fun q => hj (by
        subst q
        have e1 := List.getElem?_eq_some_iff.mp h1
        have e2 := List.getElem?_eq_some_iff.mp hi
        obtain ⟨l1, e1⟩ := e1
        obtain ⟨l2, e2⟩ := e2
        exact (List.getElem_inj I.nodup).mp (e1.trans e2.symm))
      exact (I.obj j b y h1 h2).mono (.refl B) (.refl loc) (hs.2 b hb)
  · refine R.grow (.refl B loc) (hs.2 _ fun e => R.Ll (e ▸ ha)) (fun n c e => hs.2 _ fun q => ?_) R.LB R.Ll (fun ho n c e => ⟨(R.cown ho n c e).1, (R.cown ho n c e).2.1⟩)
    subst q
    cases hown : F.own with
    | true => exact (R.cown hown n c e).2.1 ha
    | false =>
      obtain ⟨o, x⟩ := R.cfrz hown n c e
      rw [I.free c ha] at x; first | exact none_k x | exact false_k x | exact some_k x | exact true_k x | cases x

theorem FrOK.setLocal (I : Inv X B loc σ s) (K : F.Ok) (R : FrOK X F ρ B loc s.heap) {i : Nat} {n : Str} {v : Value} {av : AV} {h' : Heap} {tk : Nat} (hn : F.sg.nm[i]? = some n) (hk : F.sg.sc.names.lookup n = some .local)
    (hv : IsV X.ca B loc v av) {m : Str → Option Value} (hm : s.heap.Ns F.env.locals m) (h : h'.Ns F.env.locals (fun x => if x = n then some v else m x)) (hs : Heap.SameBut F.env.locals s.heap h')
    (hmR : ∀ (j : Nat) (y : Str) (av : AV), F.sg.nm[j]? = some y → F.sg.sc.names.lookup y = some .local → ρ[j]? = some (some av) → ∃ v, m y = some v ∧ IsV X.ca B loc v av) :
    Inv X B loc σ { s with heap := h', toks := tk } ∧ FrOK X F (ρ.set i (some av)) B loc h' := by
  have hlt : i < ρ.length := R.len ▸ (List.getElem?_eq_some_iff.mp hn).1
  refine ⟨⟨fun b x e => ?_, I.base, I.len, fun j b y h1 h2 => ?_, I.free, I.nodup, I.gens, I.os, I.two, I.low⟩, ?_⟩
  · have : b ≠ F.env.locals := fun q => by rw [q, R.LB] at e; first | exact none_k e | exact false_k e | exact some_k e | exact true_k e | cases e
    exact (hs.2 b this).trans (I.sub b x e)
  · have : b ≠ F.env.locals := fun q => R.Ll (q ▸ List.mem_of_getElem? h1)
    exact (I.obj j b y h1 h2).mono (.refl B) (.refl loc) (hs.2 b this)
  · refine ⟨by simp [R.len], ⟨_, h, fun j y av' h1 h2 h3 => ?_⟩, R.LB, R.Ll, fun j y c h1 h2 h3 => ?_, R.cown, R.cfrz⟩
    · by_cases hj : j = i
      · subst hj
        rw [hn] at h1; first | exact none_k h1 | exact false_k h1 | exact some_k h1 | exact true_k h1 | cases h1
        rw [List.getElem?_set_self hlt] at h3; first | exact none_k h3 | exact false_k h3 | exact some_k h3 | exact true_k h3 | cases h3
        exact ⟨v, by simp, hv⟩
      · rw [List.getElem?_set_ne (Ne.symm hj)] at h3
        obtain ⟨v', e1, e2⟩ := hmR j y av' h1 h2 h3
        have hy : y ≠ n := fun q => hj (by
          subst q
          obtain ⟨l1, e1⟩ := List.getElem?_eq_some_iff.mp h1
          obtain ⟨l2, e2⟩ := List.getElem?_eq_some_iff.mp hn
          exact (List.getElem_inj K.nd).mp (e1.trans e2.symm))
        exact ⟨v', by simp [hy, e1], e2⟩
    · obtain ⟨ov, hc, x⟩ := R.cl j y c h1 h2 h3
      have hy : j ≠ i := fun q => by subst q; rw [hn] at h1; first | exact none_k h1 | exact false_k h1 | exact some_k h1 | exact true_k h1 | cases h1; rw [hk] at h2; first | exact none_k h2 | exact false_k h2 | exact some_k h2 | exact true_k h2 | cases h2
      have hcL : c ≠ F.env.locals := by
        cases hown : F.own with
        | true => exact (R.cown hown y c h3).2.2
        | false =>
          obtain ⟨o, q⟩ := R.cfrz hown y c h3
          exact fun e => by rw [e, R.LB] at q; first | exact none_k q | exact false_k q | exact some_k q | exact true_k q | cases q
      exact ⟨ov, hc.sameBut hs hcL, fun av' e => x av' (by rwa [List.getElem?_set_ne (Ne.symm hy)] at e)⟩

theorem FrOK.setCell (I : Inv X B loc σ s) (K : F.Ok) (R : FrOK X F ρ B loc s.heap) (hown : F.own = true) {i : Nat} {n : Str} {c : Addr} {v : Value} {av : AV} {h' : Heap} {tk : Nat} (hn : F.sg.nm[i]? = some n) (hk : F.sg.sc.names.lookup n = some .cell)
    (hc : F.env.cells.lookup n = some c) (hv : IsV X.ca B loc v av) (h : h'.IsCell c (some v)) (hs : Heap.SameBut c s.heap h') :
    Inv X B loc σ { s with heap := h', toks := tk } ∧ FrOK X F (ρ.set i (some av)) B loc h' := by
  have hlt : i < ρ.length := R.len ▸ (List.getElem?_eq_some_iff.mp hn).1
  obtain ⟨c1, c2, c3⟩ := R.cown hown n c hc
  refine ⟨⟨fun b x e => ?_, I.base, I.len, fun j b y h1 h2 => ?_, I.free, I.nodup, I.gens, I.os, I.two, I.low⟩, ?_⟩
  · have : b ≠ c := fun q => by rw [q, c1] at e; first | exact none_k e | exact false_k e | exact some_k e | exact true_k e | cases e
    exact (hs.2 b this).trans (I.sub b x e)
  · have : b ≠ c := fun q => c2 (q ▸ List.mem_of_getElem? h1)
    exact (I.obj j b y h1 h2).mono (.refl B) (.refl loc) (hs.2 b this)
  · refine ⟨by simp [R.len], ?_, R.LB, R.Ll, fun j y c' h1 h2 h3 => ?_, R.cown, R.cfrz⟩
    · obtain ⟨m, hm, x⟩ := R.ns
      refine ⟨m, hm.sameBut hs (Ne.symm c3), fun j y av' h1 h2 h3 => ?_⟩
      have hj : j ≠ i := fun q => by subst q; rw [hn] at h1; first | exact none_k h1 | exact false_k h1 | exact some_k h1 | exact true_k h1 | cases h1; rw [hk] at h2; first | exact none_k h2 | exact false_k h2 | exact some_k h2 | exact true_k h2 | cases h2
      exact x j y av' h1 h2 (by rwa [List.getElem?_set_ne (Ne.symm hj)] at h3)
    · by_cases hj : j = i
      · subst hj
        rw [hn] at h1; first | exact none_k h1 | exact false_k h1 | exact some_k h1 | exact true_k h1 | cases h1
        rw [hc] at h3; first | exact none_k h3 | exact false_k h3 | exact some_k h3 | exact true_k h3 | cases h3
        exact ⟨_, h, fun av' e => by rw [List.getElem?_set_self hlt] at e; first | exact none_k e | exact false_k e | exact some_k e | exact true_k e | cases e; exact ⟨v, rfl, hv⟩⟩
      · obtain ⟨ov, hcl, x⟩ := R.cl j y c' h1 h2 h3
        have hcc : c' ≠ c := fun q => hj (by
          subst q
          have := K.inj _ _ _ h3 hc
          subst this
          obtain ⟨l1, e1⟩ := List.getElem?_eq_some_iff.mp h1
          obtain ⟨l2, e2⟩ := List.getElem?_eq_some_iff.mp hn
          exact (List.getElem_inj K.nd).mp (e1.trans e2.symm))
        exact ⟨ov, hcl.sameBut hs hcc, fun av' e => x av' (by rwa [List.getElem?_set_ne (Ne.symm hj)] at e)⟩
end

noncomputable def Dull (o : Obj) : Prop := (∀ xs n, o.data ≠ .seq xs n) ∧ o.data ≠ .plain

open Classical in
noncomputable def frz (Z : Addr → Prop) (h : Heap) (B : Part) : Part := fun a => if Z a then h.get? a else B a
open Classical in
noncomputable def thw (Z : Addr → Prop) (B : Part) : Part := fun a => if Z a then none else B a

section
set_option compiler.extract_closed false
variable {X : Cx} {F : Fm} {ρ : Loc} {B B' : Part} {loc loc' : List Addr} {σ : St} {s s' : Shared} {Z : Addr → Prop}
theorem frz_in {h : Heap} {a : Addr} (hz : Z a) : frz Z h B a = h.get? a := by unfold frz; rw [if_pos hz]
theorem frz_out {h : Heap} {a : Addr} (hz : ¬ Z a) : frz Z h B a = B a := by unfold frz; rw [if_neg hz]
theorem thw_in {a : Addr} (hz : Z a) : thw Z B a = none := by unfold thw; rw [if_pos hz]
theorem thw_out {a : Addr} (hz : ¬ Z a) : thw Z B a = B a := by unfold thw; rw [if_neg hz]
theorem Inv.frz_ext (I : Inv X B loc σ s) : Ext B (frz Z s.heap B) := fun a o e => by
  by_cases hz : Z a
  · rw [frz_in hz]; exact I.sub a o e
  · rw [frz_out hz]; exact e
theorem Inv.freeze (I : Inv X B loc σ s) (hz : ∀ a, Z a → a ∉ loc) : Inv X (frz Z s.heap B) loc σ s where
  sub a o e := by
    by_cases h : Z a
    · rwa [frz_in h] at e
    · rw [frz_out h] at e; exact I.sub a o e
  base a o e := I.frz_ext a o (I.base a o e)
  len := I.len
  obj i a ao h1 h2 := (I.obj i a ao h1 h2).mono I.frz_ext (.refl _) rfl
  free a h := by rw [frz_out fun z => hz a z h]; exact I.free a h
  nodup := I.nodup
  gens := I.gens
  os := I.os
  two := I.two
  low := I.low

section
set_option compiler.extract_closed false
variable {ca : Nat → Addr}
theorem IsV.thaw (hd : ∀ a o, Z a → B a = some o → Dull o) {v : Value} {x : AV} (h : IsV ca B loc v x) : IsV ca (thw Z B) loc v x :=
  @IsV.rec ca B loc (fun v a _ => IsV ca (thw Z B) loc v a) (fun v a _ => IsVs ca (thw Z B) loc v a) .none .bool .int .str (fun h c d _ r => .tup ((thw_out fun z => (hd _ _ z h).1 _ _ d).trans h) c d r) (fun h _ r => .lst ((thw_out fun z => (hd _ _ z h).1 _ _ rfl).trans h) r) (fun h => .ref h) (fun h k c => .inst ((thw_out fun z => (hd _ _ z h).2 rfl).trans h) k c) .nil (fun _ _ a b => .cons a b) v x h
theorem IsVs.thaw (hd : ∀ a o, Z a → B a = some o → Dull o) {v : List Value} {x : List AV} (h : IsVs ca B loc v x) : IsVs ca (thw Z B) loc v x := h.ind .nil fun h _ r => .cons (h.thaw hd) r
theorem DictR.thaw (hd : ∀ a o, Z a → B a = some o → Dull o) {d : List (Str × Value)} {es : List (List Nat × AV)} (h : DictR ca B loc d es) : DictR ca (thw Z B) loc d es := h.ind .nil fun v _ r => .cons (v.thaw hd) r
theorem FldsR.thaw (hd : ∀ a o, Z a → B a = some o → Dull o) {d : List DictEntry} {es : List (Nat × AV)} (h : FldsR ca B loc d es) : FldsR ca (thw Z B) loc d es := h.ind .nil fun k f v _ r => .cons k f (v.thaw hd) r
end
theorem ObjAt.thaw {h : Heap} {a : Addr} {ao : AO} (hd : ∀ a o, Z a → B a = some o → Dull o) (x : ObjAt X B loc h a ao) : ObjAt X (thw Z B) loc h a ao := by
  cases x with
  | list h1 h2 => exact .list h1 (h2.thaw hd)
  | flds h1 h2 => exact .flds h1 (h2.thaw hd)
  | dict h1 h2 => exact .dict h1 (h2.thaw hd)
theorem Inv.thaw (I : Inv X B loc σ s) (hd : ∀ a o, Z a → B a = some o → Dull o) (hb : ∀ a, Z a → X.h₀.get? a = none) : Inv X (thw Z B) loc σ s where
  sub a o e := by
    by_cases h : Z a
    · rw [thw_in h] at e; first | exact none_k e | exact false_k e | exact some_k e | exact true_k e | cases e
    · rw [thw_out h] at e; exact I.sub a o e
  base a o e := by rw [thw_out fun z => by rw [hb a z] at e; cases e]; exact I.base a o e
  len := I.len
  obj i a ao h1 h2 := (I.obj i a ao h1 h2).thaw hd
  free a h := by
    by_cases z : Z a
    · exact thw_in z
    · rw [thw_out z]; exact I.free a h
  nodup := I.nodup
  gens := I.gens
  os := I.os
  two := I.two
  low := I.low
theorem Grow.back (hz : ∀ a, Z a → B a = none) (g : Grow (frz Z s.heap B) loc B' loc') : Grow B loc (thw Z B') loc' := by
  refine ⟨fun a o e => ?_, g.pre⟩
  have z : ¬ Z a := fun z => by rw [hz a z] at e; first | exact none_k e | exact false_k e | exact some_k e | exact true_k e | cases e
  rw [thw_out z]
  exact g.ext a o (by rw [frz_out z]; exact e)
theorem Inv.still (I' : Inv X B' loc' σ s') (g : Grow (frz Z s.heap B) loc B' loc') {a : Addr} {o : Obj} (z : Z a) (ho : s.heap.get? a = some o) : s'.heap.get? a = some o :=
  I'.sub a o (g.ext a o (by rw [frz_in z]; exact ho))
theorem Inv.dull (g : Grow (frz Z s.heap B) loc B' loc') (hd : ∀ a, Z a → ∃ o, s.heap.get? a = some o ∧ Dull o) : ∀ a o, Z a → B' a = some o → Dull o := fun a o z e => by
  obtain ⟨o', h1, h2⟩ := hd a z
  have := g.ext a o' (by rw [frz_in z]; exact h1)
  rw [this] at e; first | exact none_k e | exact false_k e | exact some_k e | exact true_k e | cases e; exact h2

noncomputable def Fm.mem (F : Fm) (a : Addr) : Prop := a = F.env.locals ∨ (F.own = true ∧ ∃ n, F.env.cells.lookup n = some a)
end
end Mine
end

section
set_option compiler.extract_closed false
open PySem PySem.W PyProof.Rows PySem.Calls
set_option Elab.async false
set_option maxRecDepth 100000
set_option tactic.hygienic false
set_option linter.all false
namespace Mine

noncomputable def Soft (s s' : Shared) : Prop := Keep s.heap s'.heap ∧ s'.gens = s.gens ∧ s'.os = s.os
theorem Soft.tk (s : Shared) (t : Nat) : Soft s { s with toks := t } := ⟨.refl _, rfl, rfl⟩
theorem Soft.refl (s : Shared) : Soft s s := ⟨.refl _, rfl, rfl⟩
theorem Soft.trans {s s' s'' : Shared} (x : Soft s s') (y : Soft s' s'') : Soft s s'' := ⟨x.1.trans y.1, y.2.1.trans x.2.1, y.2.2.trans x.2.2⟩
theorem Soft.push (s : Shared) (o : Obj) (t : Nat) : Soft s { s with heap := s.heap.push o, toks := t } := ⟨.push _ _, rfl, rfl⟩

section
set_option compiler.extract_closed false
variable {X : Cx} {F : Fm} {ρ : Loc} {B : Part} {loc : List Addr} {σ : St} {s s' : Shared} {A : Around} {E : Value → Shared → Prop} {d : Nat}
theorem Inv.soft (I : Inv X B loc σ s) (h : Soft s s') : Inv X B loc σ s' := I.keep h.1 h.2.1 h.2.2

theorem Inv.list (I : Inv X B loc σ s) {a : Addr} {i : Nat} {vs : List AV} (ha : loc[i]? = some a) (hi : σ[i]? = some (.list vs)) :
    ∃ vals n, s.heap.get? a = some (listOf vals.toArray n) ∧ IsVs X.ca B loc vals vs := by
  cases I.obj i a _ ha hi with
  | list h1 h2 => exact ⟨_, _, h1, h2⟩
theorem Inv.flds (I : Inv X B loc σ s) {a : Addr} {i : Nat} {es : List (Nat × AV)} (ha : loc[i]? = some a) (hi : σ[i]? = some (.flds es)) :
    ∃ des n, s.heap.get? a = some (dictOf des n) ∧ FldsR X.ca B loc des es := by
  cases I.obj i a _ ha hi with
  | flds h1 h2 => exact ⟨_, _, h1, h2⟩
theorem isList_of {h : Heap} {a : Addr} {vs : Array Value} {n : Nat} (e : h.get? a = some (listOf vs n)) : h.IsList a vs := ⟨_, e, rfl, n, rfl⟩

theorem fmul {l : List Nat} : ∀ n : Nat, List.foldl (fun (x1 x2 : Array Nat) => x1 ++ x2) #[] (List.replicate n l.toArray) = (List.replicate n l).flatten.toArray := by
  have key : ∀ (n : Nat) (acc : List Nat), List.foldl (fun (x1 x2 : Array Nat) => x1 ++ x2) acc.toArray (List.replicate n l.toArray) = (acc ++ (List.replicate n l).flatten).toArray := by
    intro n
    induction n with
    | zero => intro acc; simp
    | succ n ih => intro acc; rw [List.replicate_succ, List.foldl_cons, List.append_toArray, ih]; simp [List.replicate_succ]
  intro n
  have := key n []
  simpa using this

theorem IsV.int_i {ca : Nat → Addr} {a : Value} {i : Int} (h : IsV ca B loc a (.int i)) : ∃ t, a = .int i t := h.to
theorem IsV.str_i {ca : Nat → Addr} {a : Value} {l : List Nat} (h : IsV ca B loc a (.str l)) : ∃ t, a = .str ⟨l.toArray⟩ t := h.to
theorem IsV.bool_i {ca : Nat → Addr} {a : Value} {b : Bool} (h : IsV ca B loc a (.bool b)) : a = .bool b := h.to
theorem IsV.none_i {ca : Nat → Addr} {a : Value} (h : IsV ca B loc a .none) : a = .none := h.to
theorem IsV.ref_i {ca : Nat → Addr} {a : Value} {i : Nat} (h : IsV ca B loc a (.ref i)) : ∃ x, a = .ref x ∧ loc[i]? = some x := h.to
theorem IsV.tup_i {ca : Nat → Addr} {a : Value} {l : List AV} (h : IsV ca B loc a (.tup l)) : ∃ x o n vals, a = .ref x ∧ B x = some o ∧ o.cls = .type "tuple" ∧ o.data = .seq (List.toArray vals) n ∧ IsVs ca B loc vals l := h.to
@[elab_as_elim] theorem IsV.int_c {ca : Nat → Addr} {P : Value → Prop} {a : Value} {i : Int} (h : IsV ca B loc a (.int i)) (k : ∀ t, P (.int i t)) : P a := let ⟨t, e⟩ := h.int_i; e ▸ k t
@[elab_as_elim] theorem IsV.str_c {ca : Nat → Addr} {P : Value → Prop} {a : Value} {l : List Nat} (h : IsV ca B loc a (.str l)) (k : ∀ t, P (.str ⟨l.toArray⟩ t)) : P a := let ⟨t, e⟩ := h.str_i; e ▸ k t
@[elab_as_elim] theorem IsV.bool_c {ca : Nat → Addr} {P : Value → Prop} {a : Value} {b : Bool} (h : IsV ca B loc a (.bool b)) (k : P (.bool b)) : P a := h.bool_i ▸ k
@[elab_as_elim] theorem IsV.none_c {ca : Nat → Addr} {P : Value → Prop} {a : Value} (h : IsV ca B loc a .none) (k : P .none) : P a := h.none_i ▸ k
@[elab_as_elim] theorem IsV.ref_c {ca : Nat → Addr} {P : Value → Prop} {a : Value} {i : Nat} (h : IsV ca B loc a (.ref i)) (k : ∀ x, loc[i]? = some x → P (.ref x)) : P a := let ⟨x, e, q⟩ := h.ref_i; e ▸ k x q
@[elab_as_elim] theorem IsV.tup_c {ca : Nat → Addr} {P : Value → Prop} {a : Value} {l : List AV} (h : IsV ca B loc a (.tup l)) (k : ∀ x o n vals, B x = some o → o.cls = .type "tuple" → o.data = .seq (List.toArray vals) n → IsVs ca B loc vals l → P (.ref x)) : P a := let ⟨x, o, n, vals, e, q1, q2, q3, q4⟩ := h.tup_i; e ▸ k x o n vals q1 q2 q3 q4
theorem mul_meets {l : List Nat} {n : Int} {t u : Tok} (q : 0 ≤ n ∧ n < 100 ∧ l.length ≤ 10) : wpAny (model X.p X.w) A (binaryOp .Mult (.str ⟨l.toArray⟩ t) (.int n u)) (fun r s' => Soft s s' ∧ IsV X.ca B loc r (.str (List.replicate n.toNat l).flatten)) E s := by
  have ok : MulOk ⟨l.toArray⟩ n := by
    refine ⟨by simp; lia, fun h1 h2 => ?_, fun h1 h2 => ?_⟩
    · have : ((⟨l.toArray⟩ : Str).length : Int) ≤ 10 := by simp [Str.length]; lia
      have h3 : (2 ^ 63 - 1 : Int) / 100 ≤ (2 ^ 63 - 1) / n := by
        apply Int.le_ediv_of_mul_le (by lia)
        have : (2 ^ 63 - 1 : Int) / 100 * n ≤ (2 ^ 63 - 1) / 100 * 100 := Int.mul_le_mul_of_nonneg_left (by lia) (by decide)
        have h4 : (2 ^ 63 - 1 : Int) / 100 * 100 ≤ 2 ^ 63 - 1 := by decide
        lia
      have h5 : (10 : Int) ≤ (2 ^ 63 - 1 : Int) / 100 := by decide
      lia
    · have : (⟨l.toArray⟩ : Str).length * n.toNat ≤ 10 * 100 := Nat.mul_le_mul (by simp [Str.length]; lia) (by lia)
      simp [Builtin.Str.tooLong]
      rw [sizeLine_eq]
      lia
  refine SB.mul ok fun t' k => ⟨.tk _ _, ?_⟩
  have e : Txt.mul ⟨l.toArray⟩ n = ⟨(List.replicate n.toNat l).flatten.toArray⟩ := by
    unfold Txt.mul
    by_cases h1 : n < 1
    · have : n.toNat = 0 := by lia
      rw [if_pos h1, this]; rfl
    · rw [if_neg h1]
      by_cases h2 : (n == 1 || (⟨l.toArray⟩ : Str).length == 0) = true
      · rw [if_pos h2]
        simp [Str.length] at h2
        rcases h2 with h2 | h2
        · subst h2; simp
        · subst h2; simp
      · rw [if_neg h2]
        congr 1
        exact fmul _
  rw [e]
  exact .str
theorem add_meets {l1 l2 : List Nat} {t1 t2 : Tok} (q : l1.length + l2.length ≤ 1000) : wpAny (model X.p X.w) A (binaryOp .Add (.str ⟨l1.toArray⟩ t1) (.str ⟨l2.toArray⟩ t2)) (fun r s' => Soft s s' ∧ IsV X.ca B loc r (.str (l1 ++ l2))) E s := by
  refine add_str (fun t' tk => ⟨.tk _ _, ?_⟩) (by simp only [Str.length]; simp; rw [sizeLine_eq]; lia)
  have : ((⟨l1.toArray⟩ : Str) ++ (⟨l2.toArray⟩ : Str)) = ⟨(l1 ++ l2).toArray⟩ := by
    apply Str.ext'
    rw [Str.cps_append]
    simp
  rw [this]
  exact .str
theorem bin_ok {op : BOp} {x y v : AV} {a b : Value} (h : binV op x y = some v) (ha : IsV X.ca B loc a x) (hb : IsV X.ca B loc b y) (hA : A.handled = none) :
    wpAny (model X.p X.w) A (binaryOp (opB op) a b) (fun r s' => Soft s s' ∧ IsV X.ca B loc r v) E s := by
  revert ha hb
  refine bin_c (P := fun op x y v => IsV X.ca B loc a x → IsV X.ca B loc b y → wpAny (model X.p X.w) A (binaryOp (opB op) a b) (fun r s' => Soft s s' ∧ IsV X.ca B loc r v) E s) h
    (fun _ _ ha hb => ha.int_c fun _ => hb.int_c fun _ => add_int ⟨.tk _ _, .int⟩) (fun _ _ q ha hb => ha.str_c fun _ => hb.str_c fun _ => add_meets q) (fun _ _ ha hb => ha.int_c fun _ => hb.int_c fun _ => sub_int ⟨.tk _ _, .int⟩)
    (fun a b q ha hb => ha.int_c fun _ => hb.int_c fun _ => ?_) (fun _ _ q ha hb => ha.str_c fun _ => hb.int_c fun _ => mul_meets q) (fun _ _ q ha hb => ha.int_c fun _ => hb.int_c fun _ => pow_int_small q.2.2.1 (by lia) (by lia) ⟨.tk _ _, .int⟩)
    (fun a b q ha hb => ha.int_c fun _ => hb.int_c fun _ => ?_) (fun _ _ q ha hb => ha.int_c fun _ => hb.int_c fun _ => mod_int' (by lia) ⟨.tk _ _, .int⟩)
  · refine mul_int ⟨.tk _ _, .int⟩ ?_
    unfold IntMulOk
    have : Builtin.Int.intBits a ≤ 64 := intBits_le_64 (by lia) (by lia)
    simp [shortFactorBits]; lia
  · refine floordiv_int_or hA (fun e => by lia) (fun q0 => ⟨.tk _ _, .int⟩) (fun q0 => .inl ?_)
    unfold Builtin.divisionGoesByPylong
    have : b.natAbs.log2 ≤ 10 := by
      have h1 : b.natAbs < 2 ^ 10 := by lia
      have h2 : b.natAbs.log2 < 10 := (Nat.log2_lt (by lia)).mpr h1
      lia
    simp only [Bool.and_eq_false_iff, decide_eq_false_iff_not]
    left
    split <;> lia
end
end Mine
end

section
set_option compiler.extract_closed false
open PySem PySem.W PyProof.Rows PySem.Calls
set_option Elab.async false
set_option maxRecDepth 100000
set_option tactic.hygienic false
set_option linter.all false
namespace Mine
section
set_option compiler.extract_closed false
variable {X : Cx} {F : Fm} {ρ : Loc} {B : Part} {loc : List Addr} {σ : St} {s s' : Shared} {A : Around} {E : Value → Shared → Prop} {d : Nat}

theorem beq_mk (a b : List Nat) : ((⟨a.toArray⟩ : Str) == ⟨b.toArray⟩) = (a == b) := by
  rw [Bool.eq_iff_iff, beq_iff_eq, beq_iff_eq]
  exact ⟨fun h => by simpa using h, fun h => by rw [h]⟩
theorem bne_mk (a b : List Nat) : ((⟨a.toArray⟩ : Str) != ⟨b.toArray⟩) = (a != b) := by
  simp only [bne, beq_mk]
theorem strsAre_of {ca : Nat → Addr} : ∀ {vals : List Value} {vs : List AV} {l : List (List Nat)}, IsVs ca B loc vals vs → strsOf vs = some l → StrsAre vals (l.map fun x => (⟨x.toArray⟩ : Str))
  | _, _, _, .nil, h => by first | exact none_k h | exact false_k h | exact some_k h | exact true_k h | cases h; exact .nil
  | _, _, _, .cons (a := .str x) hv r, h => by
    simp only [strsOf, Option.map_eq_some_iff] at h
    obtain ⟨l', h1, rfl⟩ := h
    first | exact none_k hv | exact false_k hv | exact some_k hv | exact true_k hv | cases hv
    exact .cons _ _ (strsAre_of r h1)
  | _, _, _, .cons (a := .none) hv r, h => by simp [strsOf] at h
  | _, _, _, .cons (a := .bool _) hv r, h => by simp [strsOf] at h
  | _, _, _, .cons (a := .int _) hv r, h => by simp [strsOf] at h
  | _, _, _, .cons (a := .tup _) hv r, h => by simp [strsOf] at h
  | _, _, _, .cons (a := .ref _) hv r, h => by simp [strsOf] at h
  | _, _, _, .cons (a := .inst _ _) hv r, h => by simp [strsOf] at h
theorem any_mk (l : List (List Nat)) (a : List Nat) : ((l.map fun x => (⟨x.toArray⟩ : Str)).any fun x => x == ⟨a.toArray⟩) = l.contains a := by
  induction l with
  | nil => rfl
  | cons x r ih => simp only [List.map_cons, List.any_cons, ih, beq_mk, List.contains_cons]; rw [BEq.comm]
theorem readsStrs {ca : Nat → Addr} {h : Heap} : ∀ {vals : List Value} {vs : List AV} {l : List (List Nat)}, IsVs ca B loc vals vs → strsOf vs = some l →
    ReadsAll h vals (l.map fun x => PyData.str ⟨x.toArray⟩) [] := by
  intro vals vs l hv hl
  have := strsAre_of hv hl
  clear hv hl
  generalize hq : (l.map fun x => (⟨x.toArray⟩ : Str)) = q at this
  have e : (l.map fun x => PyData.str ⟨x.toArray⟩) = q.map PyData.str := by rw [← hq]; simp
  rw [e]
  clear hq e
  induction this with
  | nil => exact .nil
  | cons y t h ih => exact ReadsAll.cons (as := []) (bs := []) (.str y t) ih
theorem isNone_ok {ca : Nat → Addr} {v : Value} {a : AV} (h : IsV ca B loc v a) : (v == .none) = isNone a := by
  cases h <;> rfl

theorem eqvStrs : ∀ a b : List (List Nat), PyData.eqvAll (a.map fun x => PyData.str ⟨x.toArray⟩) (b.map fun x => PyData.str ⟨x.toArray⟩) = (a == b)
  | [], [] => rfl
  | [], _ :: _ => rfl
  | _ :: _, [] => rfl
  | x :: a, y :: b => by
    have := eqvStrs a b
    simp only [List.map_cons, PyData.eqvAll, PyData.eqv, this, beq_mk]
    rfl
theorem canLayStrs : ∀ a : List (List Nat), okS a = true → PyData.canLayAll0 (a.map fun x => PyData.str ⟨x.toArray⟩) = true
  | [], _ => rfl
  | x :: a, h => by
    simp only [okS, List.all_cons, Bool.and_eq_true] at h
    have := canLayStrs a h.2
    simp only [List.map_cons, PyData.canLayAll0, PyData.canLay0, this, Bool.and_true, PyData.strOk]
    simp only [List.all_toArray] at *
    refine List.all_eq_true.mpr fun c hc => ?_
    have := List.all_eq_true.mp h.1 c hc
    simp at this ⊢
    lia
theorem depthStrs : ∀ a : List (List Nat), PyData.depthAll (a.map fun x => PyData.str ⟨x.toArray⟩) = 0
  | [] => rfl
  | x :: a => by
    have := depthStrs a
    simp only [List.map_cons, PyData.depthAll, PyData.depth, this]
    rfl
theorem isTuple_of {ca : Nat → Addr} {a : Addr} {vs : List AV} (hs : ∀ a o, B a = some o → s.heap.get? a = some o) (h : IsV ca B loc (.ref a) (.tup vs)) :
    ∃ vals : List Value, s.heap.IsTuple a vals.toArray ∧ IsVs ca B loc vals vs := by
  cases h with
  | tup h c dd r => exact ⟨_, ⟨_, hs _ _ h, c, _, dd⟩, r⟩

theorem ne_tups {e0 : Nat} {a b c d : Int} {i j : Nat} {v w : Value} (I : Inv X B loc σ s) (e1 : σ[i]? = some (.list [])) (e2 : σ[j]? = some (.list [])) (hA : AOk e0 A) (ha : IsV X.ca B loc v (.tup [.int a, .int b, .ref i])) (hb : IsV X.ca B loc w (.tup [.int c, .int d, .ref j])) :
    wpAny (model X.p X.w) A (compareOp (opC .ne) v w) (fun r s' => Soft s s' ∧ r = .bool (a != c || b != d)) E s :=
  ha.tup_c fun x o n vals h hc hd r => hb.tup_c fun x' o' n' vals' h' hc' hd' r' => by
    obtain ⟨p1, r1, rfl, k1, r⟩ := r.to
    obtain ⟨p2, p3, rfl, k2, k3⟩ := r.two
    obtain ⟨p1', r1', rfl, k1', r'⟩ := r'.to
    obtain ⟨p2', p3', rfl, k2', k3'⟩ := r'.two
    obtain ⟨_, rfl, q1⟩ := k3.ref_i
    obtain ⟨_, rfl, q2⟩ := k3'.ref_i
    obtain ⟨_, rfl⟩ := k1.int_i
    obtain ⟨_, rfl⟩ := k2.int_i
    obtain ⟨_, rfl⟩ := k1'.int_i
    obtain ⟨_, rfl⟩ := k2'.int_i
    obtain ⟨v1, n1, g1, r1⟩ := I.list q1 e1
    obtain ⟨v2, n2, g2, r2⟩ := I.list q2 e2
    obtain rfl := r1.none
    obtain rfl := r2.none
    refine SeqAt.compareNe_reads (.tuple (I.sub _ _ h) hc hd (.cons (.int _ _) (.cons (.int _ _) (.cons (.list g1 rfl rfl .nil) .nil)))) (.tuple (I.sub _ _ h') hc' hd' (.cons (.int _ _) (.cons (.int _ _) (.cons (.list g2 rfl rfl .nil) .nil)))) ?_ ?_ ?_ ⟨.refl _, ?_⟩
    · rfl
    · rfl
    · simp [PyData.depth, PyData.depthAll]; have := hA.un; lia
    · simp [PyData.eqv, PyData.eqvAll, bne]
theorem cmp_ok {op : COp} {x y : AV} {a b : Value} {r : Bool} (h : cmpR σ op x y = some r) (I : Inv X B loc σ s) (ha : IsV X.ca B loc a x) (hb : IsV X.ca B loc b y) (hA : AOk d A) :
    wpAny (model X.p X.w) A (compareOp (opC op) a b) (fun c s' => Soft s s' ∧ c = .bool r) E s := by
  have hu : A.units < cLine := by have := hA.un; lia
  revert ha hb
  refine cmp_c (P := fun op x y r => IsV X.ca B loc a x → IsV X.ca B loc b y → wpAny (model X.p X.w) A (compareOp (opC op) a b) (fun c s' => Soft s s' ∧ c = .bool r) E s) h
    (fun _ _ ha hb => ha.int_c fun _ => hb.int_c fun _ => eq_int ⟨.refl _, rfl⟩) (fun _ _ ha hb => ha.str_c fun _ => hb.str_c fun _ => eq_str ⟨.refl _, by rw [beq_mk]⟩) (fun _ _ ha hb => ha.bool_c (hb.bool_c (eq_bool ⟨.refl _, rfl⟩)))
    (fun _ _ ha hb => ha.tup_c fun _ _ _ _ h1 c dd r => hb.str_c fun _ => SeqAt.RcAt.tuple_str _ _ (⟨_, I.sub _ _ h1, c, _, dd⟩ : s.heap.IsTuple _ _) hu X.p X.w E _ ⟨.refl _, rfl⟩)
    (fun i u j w a' b' e1 e2 f1 f2 hok ha hb => ha.ref_c fun x ka => hb.ref_c fun y kb => ?_)
    (fun _ _ ha hb => ha.str_c fun _ => hb.str_c fun _ => ne_str ⟨.refl _, by rw [bne_mk]⟩) (fun _ _ _ _ _ _ e1 e2 ha hb => ne_tups I e1 e2 hA ha hb)
    (fun _ _ ha hb => ha.int_c fun _ => hb.int_c fun _ => lt_int ⟨.refl _, rfl⟩) (fun _ _ ha hb => ha.int_c fun _ => hb.int_c fun _ => gt_int ⟨.refl _, rfl⟩)
    (fun _ ha hb => hb.none_c (is_none ⟨.refl _, by rw [isNone_ok ha]⟩)) (fun _ ha hb => hb.none_c (isNot_none ⟨.refl _, by rw [isNone_ok ha]⟩))
    (fun _ _ ls h1 ha hb => ha.str_c fun _ => hb.tup_c fun _ _ _ _ h c dd r => in_tuple_strs (ys := ls.map fun x => (⟨x.toArray⟩ : Str)) (⟨_, I.sub _ _ h, c, _, dd⟩ : IsTup s.heap _ _) (strsAre_of r h1) ⟨.refl _, by rw [any_mk]⟩)
    (fun _ _ e1 ha hb => ha.str_c fun _ => hb.ref_c fun x kb => ?_)
    (fun _ _ ls h1 ha hb => ha.str_c fun _ => hb.tup_c fun _ _ _ _ h c dd r => notin_tuple_strs (ys := ls.map fun x => (⟨x.toArray⟩ : Str)) (⟨_, I.sub _ _ h, c, _, dd⟩ : IsTup s.heap _ _) (strsAre_of r h1) ⟨.refl _, by rw [any_mk]⟩)
  · have hok := bAnd2 hok
    obtain ⟨v1, n1, g1, r1⟩ := I.list ka e1
    obtain ⟨v2, n2, g2, r2⟩ := I.list kb e2
    refine SeqAt.compareEq_reads (da := .list (a'.map fun x => PyData.str ⟨x.toArray⟩)) (db := .list (b'.map fun x => PyData.str ⟨x.toArray⟩)) (.list g1 rfl rfl (by simpa using readsStrs r1 f1)) (.list g2 rfl rfl (by simpa using readsStrs r2 f2)) ?_ ?_ ?_ ⟨.refl _, ?_⟩
    · simpa only [PyData.canLay0] using canLayStrs a' hok.1
    · simpa only [PyData.canLay0] using canLayStrs b' hok.2
    · simp only [PyData.depth, depthStrs]; have := hA.un; lia
    · simp only [PyData.eqv, eqvStrs]
  · obtain ⟨v1, n1, g1, r1⟩ := I.list kb e1
    obtain rfl := r1.none
    exact in_list_strs (vs := []) (isList_of g1) .nil ⟨.refl _, rfl⟩
end
end Mine
end

section
set_option compiler.extract_closed false
open PySem PySem.W PyProof.Rows PySem.Calls
set_option Elab.async false
set_option maxRecDepth 100000
set_option tactic.hygienic false
set_option linter.all false
namespace Mine
section
set_option compiler.extract_closed false
variable {X : Cx} {F : Fm} {ρ : Loc} {B : Part} {loc : List Addr} {σ : St} {s s' : Shared} {A : Around} {E : Value → Shared → Prop} {d : Nat}

theorem seqIndex_of {k : Int} {n : Nat} (h0 : 0 ≤ k) (h : k.toNat < n) : seqIndex? k n = some k.toNat := by
  unfold seqIndex?
  have h1 : ¬ k < 0 := by lia
  simp only [h1, if_false]
  rw [if_pos (by simp; lia)]

theorem sub_ok {M : Model} {value slice : Expr} {env : Env} {pos : Pos} {Q : Value → Shared → Prop} (hsl : ∀ o i, subscripted slice false o i = operate [o, i] (getItem o i) ∨ subscripted slice false o i = operate [i, o] (getItem o i))
    (h : wpAny (model X.p X.w) A (eval value env) (fun o s₁ => wpAny (model X.p X.w) A (eval slice env) (fun i s₂ => SubscriptOn (model X.p X.w) A o i Q E s₂) E s₁) E s) :
    wpAny (model X.p X.w) A (eval (.Subscript value slice pos) env) Q E s := by
  rw [eval_Subscript]
  refine wpAny_bind (wpAny_mono h (fun o s₁ h₁ => wpAny_bind (wpAny_holding (wpAny_mono h₁ (fun i s₂ h₂ => wpAny_bind (wpAny_standAt ?_)) fun q0 q0 x => x))) fun q0 q0 x => x)
  obtain ⟨T, id, hl, hT, hg⟩ := h₂
  refine wpAny_bind ?_
  rw [getitemInPython_of_ne hT.not_modules]
  refine wpAny_bind (wpAny_specialOf hT hl (wpAny_pure (wpAny_bind ?_)))
  have tail : ∀ vs, wpAny (model X.p X.w) A (operate vs (getItem o i)) (fun r s₃ => wpAny (model X.p X.w) A (letTemporaryGo value o r >>= fun q0 => pure r) Q E s₃) E s₂ :=
    fun vs => wpAny_operating (wpAny_mono hg (fun r s₃ h₃ => wpAny_bind (wpAny_letTemporaryGo (wpAny_pure h₃))) fun q0 q0 x => x)
  rcases hsl o i with e | e <;> (rw [e]; exact tail _)
theorem subscripted_plain {slice : Expr} (h : isSlice slice = false) (o i : Value) : subscripted slice false o i = operate [o, i] (getItem o i) := by
  cases slice <;> first | rfl | exact true_k h

noncomputable def DAt (ca : Nat → Addr) (B : Part) (loc : List Addr) (kvs : List (Str × Value)) (n : List Nat) : Option AV → Prop
  | some v => ∃ x, valueAt kvs (⟨n.toArray⟩ : Str) = some x ∧ IsV ca B loc x v
  | none => valueAt kvs (⟨n.toArray⟩ : Str) = none
theorem DictR.at {ca : Nat → Addr} {kvs : List (Str × Value)} {es : List (List Nat × AV)} (h : DictR ca B loc kvs es) (n : List Nat) : DAt ca B loc kvs n (es.lookup n) :=
  h.ind (P := fun kvs es => DAt ca B loc kvs n (es.lookup n)) rfl fun {k x v r es} h _ ih => by
    by_cases e : k = n
    · subst e
      rw [List.lookup_cons, beq_self_eq_true]
      exact ⟨x, by simp [valueAt], h⟩
    · have e1 : (n == k) = false := by rw [beq_eq_false_iff_ne]; exact Ne.symm e
      have e2 : ¬ ((⟨k.toArray⟩ : Str) = ⟨n.toArray⟩) := by intro q; apply e; simpa using q
      have t : valueAt ((⟨k.toArray⟩, x) :: r) (⟨n.toArray⟩ : Str) = valueAt r ⟨n.toArray⟩ := by simp [valueAt, e2, e]
      rw [List.lookup_cons, e1]
      unfold DAt at ih ⊢
      rw [t]
      exact ih
theorem DictR.some {ca : Nat → Addr} {kvs : List (Str × Value)} {es : List (List Nat × AV)} (h : DictR ca B loc kvs es) {n : List Nat} {v : AV} (e : es.lookup n = some v) : ∃ x, valueAt kvs (⟨n.toArray⟩ : Str) = some x ∧ IsV ca B loc x v := by
  have := h.at n
  rw [e] at this
  exact this
theorem DictR.none {ca : Nat → Addr} {kvs : List (Str × Value)} {es : List (List Nat × AV)} (h : DictR ca B loc kvs es) {n : List Nat} (e : es.lookup n = none) : valueAt kvs (⟨n.toArray⟩ : Str) = none := by
  have := h.at n
  rw [e] at this
  exact this

theorem item_ok {x k v : AV} {a b : Value} (h : itemR σ x k = some v) (I : Inv X B loc σ s) (ha : IsV X.ca B loc a x) (hb : IsV X.ca B loc b k) :
    SubscriptOn (model X.p X.w) A a b (fun r s' => Soft s s' ∧ IsV X.ca B loc r v) E s := by
  revert ha hb
  refine or_c h (fun h => onInt_c h fun k h => or_c h (fun h => onTup_c h fun vs h => if_c h fun h0 h ha hb => hb.int_c fun t => ha.tup_c fun x o n vals hB c dd r => ?_) fun h => or_c h (fun h => onStr_c h fun l h => if_c h fun h0 h ha hb => hb.int_c fun t => ha.str_c fun u => ?_) fun h => onList_c h fun i vs e h => if_c h fun h0 h ha hb => hb.int_c fun t => ha.ref_c fun x ka => ?_)
    fun h => onStr_c h fun n h => onDict_c h fun i es e h ha hb => hb.str_c fun t => ha.ref_c fun x ka => ?_
  · obtain ⟨y, h1, h2⟩ := r.get h
    have hlt := (List.getElem?_eq_some_iff.mp h).1
    refine ⟨"tuple", _, F.slot_tuple_getitem.lookup, ⟨_, I.sub _ _ hB, c⟩, getItem_tuple (⟨_, I.sub _ _ hB, c, _, dd⟩ : IsTup s.heap _ _) (by lia) (by lia) (seqIndex_of h0.1 ?_) (by simpa using h1) ⟨.refl _, h2⟩⟩
    rw [List.size_toArray, r.length]; exact hlt
  · obtain ⟨c, h1, rfl⟩ := Option.map_eq_some_iff.mp h
    have hlt := (List.getElem?_eq_some_iff.mp h1).1
    refine ⟨"str", _, F.slot_str_getitem.lookup, rfl, getItem_str (c := c) (by simp; lia) ?_ ⟨.tk _ _, ?_⟩⟩
    · show ((seqIndex? _ l.toArray.size).bind fun x => l.toArray[x]?) = _
      rw [List.size_toArray, seqIndex_of h0.1 hlt]; simpa using h1
    · exact .str (l := [c])
  · obtain ⟨vals, n, g, r⟩ := I.list ka e
    obtain ⟨y, h1, h2⟩ := r.get h
    exact ⟨"list", _, slot_list_getitem.lookup, ⟨_, g, rfl⟩, wpAny_getItem_list (isList_of g) h0.1 (by lia) (by simpa using h1) ⟨.refl _, h2⟩⟩
  · cases I.obj i _ _ ka e with
    | dict h1 h2 =>
      obtain ⟨y, e1, e2⟩ := h2.some h
      exact ⟨"dict", _, slot_dict_getitem.lookup, h1.typeIs, wpAny_getItem_of (strKind_is _ _ _ _) h1.mapOf e1 ⟨.tk _ _, e2⟩⟩
end
end Mine
end

section
set_option compiler.extract_closed false
open PySem PySem.W PyProof.Rows PySem.Calls
set_option Elab.async false
set_option maxRecDepth 100000
set_option tactic.hygienic false
set_option linter.all false
namespace Mine

theorem cut_eq {α : Type} (l : List α) (lo hi : Nat) : (l.drop (min lo l.length)).take (min hi l.length - min lo l.length) = cut lo hi l := by
  unfold cut
  rw [← List.drop_take]
  by_cases h2 : lo ≤ l.length
  · have e : min lo l.length = lo := Nat.min_eq_left h2
    rw [e]
    by_cases h1 : hi ≤ l.length
    · rw [Nat.min_eq_left h1]
    · have e' : min hi l.length = l.length := Nat.min_eq_right (by lia)
      rw [e', List.take_of_length_le (Nat.le_refl _), List.take_of_length_le (by lia : l.length ≤ hi)]
  · have e : min lo l.length = l.length := Nat.min_eq_right (by lia)
    rw [e, List.drop_of_length_le (by simp; lia), List.drop_of_length_le (by simp; lia)]

noncomputable def loI : Option AV → Option Int
  | some (.int k) => some k
  | _ => none

theorem clip_n {k : Int} (h : 0 ≤ k) (n : Nat) : ((min k.toNat n : Nat) : Int) = max 0 (min (if k < 0 then k + n else k) (n : Int)) := by
  rw [if_neg (Int.not_lt.mpr h)]
  obtain ⟨m, rfl⟩ := Int.eq_ofNat_of_zero_le h
  rw [Int.max_eq_right (Int.le_min.mpr ⟨h, Int.natCast_nonneg n⟩)]
  show ((min m n : Nat) : Int) = _
  rcases Nat.le_total m n with e | e
  · rw [Nat.min_eq_left e, Int.min_eq_left (Int.ofNat_le.mpr e)]
  · rw [Nat.min_eq_right e, Int.min_eq_right (Int.ofNat_le.mpr e)]
theorem pair3 {a b c d : Int} (h : a = c) (k : b = d) : (c, d, (1 : Int)) = (a, b, 1) := by rw [h, k]
theorem bounds_eq (lo hi : Option Int) (n : Nat) (h0 : ∀ k, lo = some k → 0 ≤ k) (h1 : ∀ k, hi = some k → 0 ≤ k) :
    sliceBounds lo hi none n = (((min (lo.getD 0).toNat n : Nat) : Int), ((min ((hi.map (·.toNat)).getD n) n : Nat) : Int), 1) := by
  have z : ((min (0 : Nat) n : Nat) : Int) = 0 := congrArg Int.ofNat (Nat.zero_min n)
  have m : ((min n n : Nat) : Int) = n := congrArg Int.ofNat (Nat.min_self n)
  cases lo with
  | none =>
    cases hi with
    | none => exact pair3 z m
    | some k => exact pair3 z (clip_n (h1 k rfl) n)
  | some j =>
    cases hi with
    | none => exact pair3 (clip_n (h0 j rfl) n) m
    | some k => exact pair3 (clip_n (h0 j rfl) n) (clip_n (h1 k rfl) n)
theorem pick_cut (vals : List Value) (lo hi : Option Int) (h0 : ∀ k, lo = some k → 0 ≤ k) (h1 : ∀ k, hi = some k → 0 ≤ k) :
    slicePick vals.toArray lo hi none = (cut ((lo.getD 0).toNat) ((hi.map (·.toNat)).getD vals.length) vals).toArray := by
  rw [kmk_pick_nat vals.toArray (bounds_eq lo hi vals.length h0 h1), ← cut_eq]
theorem idx_bounds (lo hi : Option Int) (n : Nat) : Builtin.Str.strSliceIndices lo hi 1 n = sliceRange (sliceBounds lo hi none n).1 (sliceBounds lo hi none n).2.1 (sliceBounds lo hi none n).2.2 := rfl
theorem min_sub {a b n : Nat} (h : min b n - min a n = n) : n = 0 ∨ (min a n = 0 ∧ min b n = n) := by
  rcases Nat.eq_zero_or_pos n with e | e
  · exact .inl e
  · right
    have h1 : min b n ≤ n := Nat.min_le_right ..
    constructor <;> lia
theorem str_cut (l : List Nat) (lo hi : Option Int) (h0 : ∀ k, lo = some k → 0 ≤ k) (h1 : ∀ k, hi = some k → 0 ≤ k) :
    (Builtin.Str.strSliceIndices lo hi 1 l.length).filterMap (fun x => l.toArray[x]?) = cut ((lo.getD 0).toNat) ((hi.map (·.toNat)).getD l.length) l ∧
    ((Builtin.Str.strSliceIndices lo hi 1 l.length).length = l.length → cut ((lo.getD 0).toNat) ((hi.map (·.toNat)).getD l.length) l = l) := by
  rw [idx_bounds, bounds_eq lo hi l.length h0 h1]
  simp only [sliceRange_one]
  refine ⟨by rw [pick_run, ← cut_eq], fun h => ?_⟩
  rw [List.length_map, List.length_range] at h
  rw [← cut_eq]
  rcases min_sub h with e3 | ⟨e1, e2⟩
  · rw [List.length_eq_zero_iff.mp e3, List.drop_nil, List.take_nil]
  · rw [e1, e2, List.drop_zero, Nat.sub_zero, List.take_length]

section
set_option compiler.extract_closed false
variable {X : Cx} {F : Fm} {ρ : Loc} {B : Part} {loc : List Addr} {σ : St} {s s' : Shared} {A : Around} {E : Value → Shared → Prop} {d : Nat}

noncomputable def PartV (ca : Nat → Addr) (B : Part) (loc : List Addr) (v : Value) : Option AV → Prop
  | none => v = .none
  | some k => IsV ca B loc v k

noncomputable def Bd (v : Value) (o : Option Int) : Prop := ∃ l : Option (Int × Tok), v = partValue l ∧ (∀ k, l.map (fun (x : Int × Tok) => x.1) = some k → 0 ≤ k) ∧ l.map (fun (x : Int × Tok) => x.1) = o
theorem Bd.n {ca : Nat → Addr} {v : Value} (h : PartV ca B loc v none) : Bd v none := ⟨none, h, fun _ e => none_k e, rfl⟩
theorem Bd.k {ca : Nat → Addr} {v : Value} {k : Int} (h : PartV ca B loc v (some (.int k))) (h0 : 0 ≤ k) : Bd v (some k) :=
  let ⟨t, e⟩ := IsV.int_i h
  ⟨some (k, t), e, fun _ q => Option.some.inj q ▸ h0, rfl⟩
theorem lo_i {ca : Nat → Addr} {v : Value} {lo : Option AV} {q : Int} (h : intOr 0 lo = some q) (p : PartV ca B loc v lo) : ∃ o, Bd v o ∧ q = o.getD 0 := by
  cases lo with
  | none => exact ⟨none, .n p, (Option.some.inj h).symm⟩
  | some x =>
    cases x with
    | int k => exact if_c h fun z h => ⟨some k, .k p z.1, (Option.some.inj h).symm⟩
    | _ => exact none_k h
theorem hi_i {ca : Nat → Addr} {v : Value} {hi : Option AV} {q : Option Nat} (h : hiR hi = some q) (p : PartV ca B loc v hi) : ∃ o, Bd v o ∧ q = o.map (·.toNat) := by
  cases hi with
  | none => exact ⟨none, .n p, (Option.some.inj h).symm⟩
  | some x =>
    cases x with
    | int k => exact if_c h fun z h => ⟨some k, .k p z.1, (Option.some.inj h).symm⟩
    | _ => exact none_k h
noncomputable def cutB {α : Type} (lo hi : Option Int) (l : List α) : List α := cut (lo.getD 0).toNat ((hi.map (·.toNat)).getD l.length) l
theorem slice_c {ca : Nat → Addr} {o : AV} {lo hi : Option AV} {r : AV ⊕ List AV} {vl vu : Value} {P : AV → AV ⊕ List AV → Prop} (h : sliceR0 σ o lo hi = some r) (pl : PartV ca B loc vl lo) (pu : PartV ca B loc vu hi)
    (s1 : ∀ a b t, Bd vl a → Bd vu b → P (.str t) (.inl (.str (cutB a b t)))) (s2 : ∀ a b t, Bd vl a → Bd vu b → P (.lst t) (.inr (cutB a b t)))
    (s3 : ∀ a b i vs, σ[i]? = some (.list vs) → Bd vl a → Bd vu b → P (.ref i) (.inr (cutB a b vs))) : P o r := by
  cases e1 : intOr 0 lo with
  | none => unfold sliceR0 at h; rw [e1] at h; exact none_k h
  | some a =>
    cases e2 : hiR hi with
    | none => unfold sliceR0 at h; rw [e1, e2] at h; exact none_k h
    | some b =>
      unfold sliceR0 at h
      rw [e1, e2] at h
      obtain ⟨a, k1, rfl⟩ := lo_i e1 pl
      obtain ⟨b, k2, rfl⟩ := hi_i e2 pu
      cases o with
      | str t => exact Option.some.inj h ▸ s1 a b t k1 k2
      | lst t => exact Option.some.inj h ▸ s2 a b t k1 k2
      | ref i =>
        have h : onL σ[i]? (fun vs => some (Sum.inr (cutB a b vs))) = some r := h
        obtain ⟨vs, e, h⟩ := onL_i h
        exact Option.some.inj h ▸ s3 a b i vs e k1 k2
      | _ => exact none_k h
theorem cutB_le {α : Type} (a b : Option Int) (l : List α) : (cutB a b l).length ≤ l.length := by
  unfold cutB cut; rw [List.length_drop, List.length_take]; exact Nat.le_trans (Nat.sub_le ..) (Nat.min_le_right ..)
set_option tactic.hygienic true in
theorem slice_str_ok {x : AV} {lo hi : Option AV} {v : AV} {a vl vu : Value} {sl : Addr} (h : sliceR0 σ x lo hi = some (.inl v)) (ha : IsV X.ca B loc a x) (pl : PartV X.ca B loc vl lo) (pu : PartV X.ca B loc vu hi)
    (hs : s.heap.IsSliceOf sl vl vu .none) (hz : ∀ l, x = .str l → l.length ≤ 100000) :
    SubscriptOn (model X.p X.w) A a (.ref sl) (fun r s' => Soft s s' ∧ IsV X.ca B loc r v) E s := by
  revert ha hz
  refine slice_c (P := fun x r => IsV X.ca B loc a x → (∀ l, x = .str l → l.length ≤ 100000) → match (generalizing := false) r with
    | .inl v => SubscriptOn (model X.p X.w) A a (.ref sl) (fun r s' => Soft s s' ∧ IsV X.ca B loc r v) E s
    | .inr _ => True) h pl pu (fun lo hi t k1 k2 ha hz => ha.str_c fun tk => ?_) (fun _ _ _ _ _ _ _ => trivial) (fun _ _ _ _ _ _ _ _ _ => trivial)
  obtain ⟨l, rfl, h1, rfl⟩ := k1
  obtain ⟨u, rfl, h2, rfl⟩ := k2
  have hz := hz t rfl
  refine ⟨"str", _, F.slot_str_getitem.lookup, rfl, wpAny_getItem_str_slice (l := l) (u := u) (st := none) hs rfl ?_⟩
  obtain ⟨c1, c2⟩ := str_cut t _ _ h1 h2
  unfold sliceMade slicePicked
  simp only [Option.map_none, Option.getD_none, Str.length, List.size_toArray, beq_self_eq_true, Bool.true_and]
  split
  · rename_i q
    unfold cutB
    rw [c2 (by simpa using q)]
    exact ⟨.refl _, .str⟩
  · rw [c1]
    refine ⟨?_, .tk _ _, .str⟩
    simp only [Str.length, List.size_toArray]
    rw [sizeLine_eq]; exact Nat.le_trans (cutB_le _ _ t) (by lia)
theorem isPart_of (o : Option (Int × Tok)) : IsPart (partValue o) (o.map (fun (x : Int × Tok) => x.1)) := by cases o <;> constructor
theorem slice_of {a vl vu : Value} {sl y : Addr} {vals : List Value} {n : Nat} {ws : List AV} {lo hi : Option Int} {Q : Value → Shared → Prop} (g : s.heap.get? y = some (listOf vals.toArray n)) (r : IsVs X.ca B loc vals ws) (hz : ws.length ≤ 100000) (k1 : Bd vl lo) (k2 : Bd vu hi)
    (hs : s.heap.IsSliceOf sl vl vu .none) (hq : ∀ vals : List Value, IsVs X.ca B loc vals (cutB lo hi ws) → Q (.ref s.heap.objs.size) { s with heap := s.heap.push (listOf vals.toArray 0) }) : SubscriptOn (model X.p X.w) A (.ref y) (.ref sl) Q E s := by
  obtain ⟨l, rfl, h1, rfl⟩ := k1
  obtain ⟨u, rfl, h2, rfl⟩ := k2
  have hl := r.length
  refine ⟨"list", _, slot_list_getitem.lookup, ⟨_, g, rfl⟩, wpAny_getItem_list_slice (isList_of g) hs (isPart_of l) (isPart_of u) .none (by simp) ?_ (by rw [List.size_toArray, sizeLine_eq]; lia)⟩
  rw [pick_cut _ _ _ h1 h2, hl]
  exact hq _ ((r.take _).drop _)
theorem slice_list_ok {x : AV} {lo hi : Option AV} {vs : List AV} {a vl vu : Value} {sl : Addr} {Q : Value → Shared → Prop} (h : sliceR0 σ x lo hi = some (.inr vs)) (I : Inv X B loc σ s) (ha : IsV X.ca B loc a x) (pl : PartV X.ca B loc vl lo) (pu : PartV X.ca B loc vu hi)
    (hs : s.heap.IsSliceOf sl vl vu .none) (hz : ∀ i vs, x = .ref i → σ[i]? = some (.list vs) → vs.length ≤ 100000) (hz2 : ∀ vs, x = .lst vs → vs.length ≤ 100000)
    (hq : ∀ vals : List Value, IsVs X.ca B loc vals vs → Q (.ref s.heap.objs.size) { s with heap := s.heap.push (listOf vals.toArray 0) }) :
    SubscriptOn (model X.p X.w) A a (.ref sl) Q E s := by
  have key := slice_c (P := fun x r => IsV X.ca B loc a x → (∀ i vs, x = .ref i → σ[i]? = some (.list vs) → vs.length ≤ 100000) → (∀ vs, x = .lst vs → vs.length ≤ 100000) → ∀ vs, r = .inr vs →
      (∀ vals : List Value, IsVs X.ca B loc vals vs → Q (.ref s.heap.objs.size) { s with heap := s.heap.push (listOf vals.toArray 0) }) → SubscriptOn (model X.p X.w) A a (.ref sl) Q E s) h pl pu
    (fun _ _ _ _ _ _ _ _ _ e => by cases e)
    (fun lo hi ws k1 k2 ha _ hz vs e hq => by
      cases e
      obtain ⟨y, n, vals, rfl, hB, r⟩ := ha.to
      exact slice_of (a := .ref y) (I.sub _ _ hB) r (hz ws rfl) k1 k2 hs hq)
    (fun lo hi i ws e1 k1 k2 ha hz _ vs e hq => by
      cases e
      obtain ⟨y, rfl, ka⟩ := ha.ref_i
      obtain ⟨vals, n, g, r⟩ := I.list ka e1
      exact slice_of (a := .ref y) g r (hz i ws rfl e1) k1 k2 hs hq)
  exact key ha hz hz2 vs rfl hq
theorem rev_c {x : AV} {r : AV ⊕ List AV} {P : AV → AV ⊕ List AV → Prop} (h : revR0 σ x = some r) (s1 : ∀ l, P (.str l) (.inl (.str l.reverse))) (s2 : ∀ i vs, σ[i]? = some (.list vs) → P (.ref i) (.inr vs.reverse)) : P x r := by
  cases x with
  | str l => exact Option.some.inj h ▸ s1 l
  | ref i =>
    have h : onL σ[i]? (fun vs => some (Sum.inr vs.reverse)) = some r := h
    obtain ⟨vs, e, h⟩ := onL_i h
    exact Option.some.inj h ▸ s2 i vs e
  | _ => exact none_k h
theorem rev_list_ok {x : AV} {vs : List AV} {a : Value} {sl : Addr} {t : Tok} {Q : Value → Shared → Prop} (h : revR0 σ x = some (.inr vs)) (I : Inv X B loc σ s) (ha : IsV X.ca B loc a x)
    (hs : s.heap.IsSliceOf sl .none .none (.int (-1) t)) (hz : ∀ i vs, x = .ref i → σ[i]? = some (.list vs) → vs.length ≤ 100000)
    (hq : ∀ vals : List Value, IsVs X.ca B loc vals vs → Q (.ref s.heap.objs.size) { s with heap := s.heap.push (listOf vals.toArray 0) }) :
    SubscriptOn (model X.p X.w) A a (.ref sl) Q E s := by
  have key := rev_c (P := fun x r => IsV X.ca B loc a x → (∀ i vs, x = .ref i → σ[i]? = some (.list vs) → vs.length ≤ 100000) → ∀ vs, r = .inr vs →
      (∀ vals : List Value, IsVs X.ca B loc vals vs → Q (.ref s.heap.objs.size) { s with heap := s.heap.push (listOf vals.toArray 0) }) → SubscriptOn (model X.p X.w) A a (.ref sl) Q E s) h (fun _ _ _ _ e => by cases e)
    (fun i ws e1 ha hz vs e hq => by
      cases e
      obtain ⟨y, rfl, ka⟩ := ha.ref_i
      obtain ⟨vals, n, g, r⟩ := I.list ka e1
      have hl := r.length
      have hz := hz _ ws rfl e1
      refine ⟨"list", _, slot_list_getitem.lookup, ⟨_, g, rfl⟩, wpAny_getItem_list_slice (isList_of g) hs .none .none (.int _ _) (by simp) ?_ (by rw [List.size_toArray, sizeLine_eq]; lia)⟩
      rw [krv_pick]
      exact hq _ r.rev)
  exact key ha hz vs rfl hq
theorem fm_map {α β : Type} {f : α → Option β} {g : α → β} (l : List α) : (∀ k ∈ l, f k = some (g k)) → l.filterMap f = l.map g := by
  induction l with
  | nil => exact fun _ => rfl
  | cons x r ih => exact fun h => by rw [List.filterMap_cons, h x (List.mem_cons_self ..), List.map_cons, ih fun k hk => h k (List.mem_cons_of_mem _ hk)]
theorem rev_pick (l : List Nat) : ((List.range l.length).map fun k => l.length - 1 - k).filterMap (fun x => l.toArray[x]?) = l.reverse := by
  apply List.ext_getElem?
  intro i
  rw [List.filterMap_map]
  have at_ : ∀ k, k < l.length → l[l.length - 1 - k]? = some (l.getD (l.length - 1 - k) 0) := fun k hk => by
    have : l.length - 1 - k < l.length := by lia
    rw [List.getD_eq_getElem?_getD, List.getElem?_eq_getElem this]; rfl
  rw [fm_map (f := (fun x => l.toArray[x]?) ∘ fun k => l.length - 1 - k) (g := fun k => l.getD (l.length - 1 - k) 0) _ fun k hk => (List.getElem?_toArray ..).trans (at_ k (List.mem_range.mp hk))]
  by_cases hi : i < l.length
  · rw [List.getElem?_reverse hi, List.getElem?_map, List.getElem?_range hi, at_ i hi]; rfl
  · rw [List.getElem?_eq_none (by simp; lia), List.getElem?_eq_none (by simp; lia)]
theorem rev_str_ok {x v : AV} {a : Value} {sl : Addr} {t : Tok} (h : revR0 σ x = some (.inl v)) (ha : IsV X.ca B loc a x)
    (hs : s.heap.IsSliceOf sl .none .none (.int (-1) t)) (hz : ∀ l, x = .str l → l.length ≤ 100000) :
    SubscriptOn (model X.p X.w) A a (.ref sl) (fun r s' => Soft s s' ∧ IsV X.ca B loc r v) E s := by
  have key := rev_c (P := fun x r => IsV X.ca B loc a x → (∀ l, x = .str l → l.length ≤ 100000) → ∀ v, r = .inl v → SubscriptOn (model X.p X.w) A a (.ref sl) (fun r s' => Soft s s' ∧ IsV X.ca B loc r v) E s) h
    (fun l ha hz v e => by
      cases e
      refine ha.str_c fun tk => ?_
      have hz := hz l rfl
      refine ⟨"str", _, F.slot_str_getitem.lookup, rfl, wpAny_getItem_str_slice (l := none) (u := none) (st := some (-1, t)) hs rfl ?_⟩
      unfold sliceMade slicePicked
      simp only [Option.map_none, Option.map_some, Option.getD_some, Str.length, List.size_toArray]
      rw [if_neg (by simp), picked_rev, rev_pick]
      refine ⟨?_, .tk _ _, .str⟩
      simp only [Str.length, List.size_toArray, List.length_reverse]
      rw [sizeLine_eq]; lia) (fun _ _ _ _ _ _ e => by cases e)
  exact key ha hz v rfl

theorem okLen_str {x : AV} (h : okLen σ x = true) : ∀ l, x = .str l → l.length ≤ 100000 := by
  rintro l rfl
  simpa [okLen] using h
theorem okLen_lst {x : AV} (h : okLen σ x = true) : ∀ vs, x = .lst vs → vs.length ≤ 100000 := by
  intro vs e; subst e; simpa [okLen] using h
theorem okLen_list {x : AV} (h : okLen σ x = true) : ∀ i vs, x = .ref i → σ[i]? = some (.list vs) → vs.length ≤ 100000 := by
  rintro i vs rfl e
  simpa [okLen, e] using h
set_option tactic.hygienic true in
theorem sliceR_of {x : AV} {lo hi : Option AV} {r : AV ⊕ List AV} (h : sliceR σ x lo hi = some r) : okLen σ x = true ∧ sliceR0 σ x lo hi = some r := by
  unfold sliceR at h
  split at h
  · rename_i q; exact ⟨q, h⟩
  · first | exact none_k h | exact false_k h | exact some_k h | exact true_k h | cases h
set_option tactic.hygienic true in
theorem revR_of {x : AV} {r : AV ⊕ List AV} (h : revR σ x = some r) : okLen σ x = true ∧ revR0 σ x = some r := by
  unfold revR at h
  split at h
  · rename_i q; exact ⟨q, h⟩
  · first | exact none_k h | exact false_k h | exact some_k h | exact true_k h | cases h
end
end Mine
end

section
set_option compiler.extract_closed false
open PySem PySem.W PyProof.Rows PySem.Calls
set_option Elab.async false
set_option maxRecDepth 100000
set_option tactic.hygienic false
set_option linter.all false
namespace Mine

noncomputable def firstTop : Nat := 23
noncomputable def bfVal : Nat → Value
  | 0 => .builtin "len"
  | 1 => .builtin "abs"
  | 2 => .type "int"
  | _ => .type "range"
noncomputable def isiTy : Nat → Value
  | 0 => .type "str"
  | 1 => .type "tuple"
  | _ => .type "int"
noncomputable def ClsVal (X : Cx) (c : Nat) (v : Value) : Prop := kitOne X.K (.type "str") v = some (c == 0) ∧ (c ≤ 2 → kitOne X.K (.type "tuple") v = some (c == 1) ∧ kitOne X.K (.type "int") v = some (c == 2))

structure ClsOk (X : Cx) (C : Addr) : Prop where
  ga : ∀ n, plainGet X.K C n = true
  sa : findIn X.K (.ref C) "__setattr__" = some (some (.builtin "object.__setattr__"))
  over : plainOver X.K C = true
  hd : hasDictIn X.K C = true
  fld : ∀ (f : Nat) (n : Str), fieldNames[f]? = some n → findIn X.K (.ref C) n = some none

structure CxOk (X : Cx) : Prop where
  kin : X.K.In X.h₀
  g : X.h₀.Ns mainGlobals X.mg
  b : X.h₀.Ns builtinsNs X.mb
  nolimit : X.h₀.NoLimit
  bt : ∀ x : Str, x ≠ "__name__" → X.mb x = bootBuiltins x
  globV : ∀ (n : Nat) (nm : Str) (v : AV), globNames[n]? = some nm → prog.glob n = some v → ∃ val, nsIn X.K mainGlobals nm = some (some val) ∧ ∀ loc, IsV X.ca X.h₀.get? loc val v
  fnG : ∀ (f : Nat) (nm : Str), firstTop ≤ f → fnNames[f]? = some nm → nsIn X.K mainGlobals nm = some (some (.ref (X.fa f)))
  clsG : ∀ (C : Nat) (nm : Str), (prog.init C).isSome = true → classNames[C]? = some nm → nsIn X.K mainGlobals nm = some (some (.ref (X.ca C)))
  fnK : ∀ (f : Nat) (fd : FnDef), prog.fn f = some fd → ∃ oc od osl name qual params body sc doc pm an cdv ct locs, X.K.lookup (X.fa f) = some ⟨oc, od, .func (fnOf name qual params body sc .none .none doc pm an cdv ct), osl⟩ ∧ codeIn X.K cdv qual = true ∧
    fnLocs[f]? = some locs ∧ matchF fd locs params body sc = true ∧ keepIn X.K (.ref (X.fa f)) = true
  makes : ∀ (C f : Nat), prog.init C = some f → makesIn X.K (X.ca C) = true ∧ findIn X.K (.ref (X.ca C)) "__init__" = some (some (.ref (X.fa f))) ∧ typeIn X.K (.ref (X.fa f)) = some (.type "function") ∧ keepIn X.K (.ref (X.ca C)) = true
  cls : ∀ C : Nat, (prog.init C).isSome = true → ClsOk X (X.ca C)
  meth : ∀ (C m f : Nat) (nm : Str), prog.meth C m = some f → methNames[m]? = some nm → findIn X.K (.ref (X.ca C)) nm = some (some (.ref (X.fa f))) ∧ isFn X.K (.ref (X.fa f)) = true
  isi : ∀ (c : Nat) (nm : Str), clsName c = some nm → (c ≤ 2 ∨ 15 ≤ c) → ∃ v, (nsIn X.K mainGlobals nm = some (some v) ∨ (nsIn X.K mainGlobals nm = some none ∧ nm ≠ "__name__" ∧ bootBuiltins nm = some v)) ∧ ClsVal X c v
  bfs : ∀ f : Nat, f = 0 ∨ f = 1 ∨ f = 2 ∨ f = 9 → nsIn X.K mainGlobals (bfName f) = some none ∧ bfName f ≠ "__name__" ∧ bootBuiltins (bfName f) = some (bfVal f)
  isin : nsIn X.K mainGlobals "isinstance" = some none ∧ bootBuiltins "isinstance" = some (.builtin "isinstance")

section
set_option compiler.extract_closed false
variable {X : Cx} {F : Fm} {ρ : Loc} {B : Part} {loc : List Addr} {σ : St} {s s' : Shared} {A : Around} {E : Value → Shared → Prop} {d : Nat}

theorem Inv.keeps0 (I : Inv X B loc σ s) : ∀ b o, X.h₀.get? b = some o → s.heap.get? b = some o := fun b o e => I.sub _ _ (I.base _ _ e)
theorem Inv.kin (H : CxOk X) (I : Inv X B loc σ s) : X.K.In s.heap := H.kin.keeps I.keeps0
theorem Inv.ext0 (I : Inv X B loc σ s) : Ext X.h₀.get? B := I.base

theorem foldl_app {α : Type} (l : List α) : ∀ (n : Nat), List.foldl (fun (x1 x2 : Array α) => x1 ++ x2) #[] (List.replicate n l.toArray) = (List.replicate n l).flatten.toArray := by
  have key : ∀ (n : Nat) (acc : List α), List.foldl (fun (x1 x2 : Array α) => x1 ++ x2) acc.toArray (List.replicate n l.toArray) = (acc ++ (List.replicate n l).flatten).toArray := by
    intro n
    induction n with
    | zero => intro acc; simp
    | succ n ih => intro acc; rw [List.replicate_succ, List.foldl_cons, List.append_toArray, ih]; simp [List.replicate_succ]
  intro n
  have := key n []
  simpa using this

theorem binL_ok {op : BOp} {x y : AV} {vs : List AV} {a b : Value} {Q : Value → Shared → Prop} (h : binL σ op x y = some vs) (I : Inv X B loc σ s) (ha : IsV X.ca B loc a x) (hb : IsV X.ca B loc b y)
    (hq : ∀ vals : List Value, IsVs X.ca B loc vals vs → Q (.ref s.heap.objs.size) { s with heap := s.heap.push (listOf vals.toArray 0) }) :
    wpAny (model X.p X.w) A (binaryOp (opB op) a b) Q E s := by
  revert ha hb hq
  cases op with
  | add =>
    refine onList_c (P := fun x => IsV X.ca B loc a x → IsV X.ca B loc b y → _ → _) h fun i l1 e1 h => onList_c (P := fun y => IsV X.ca B loc a _ → IsV X.ca B loc b y → _ → _) h fun j l2 e2 h => if_c h fun hz h ha hb hq => ha.ref_c fun x ka => hb.ref_c fun y kb => ?_
    cases h
    obtain ⟨v1, n1, g1, r1⟩ := I.list ka e1
    obtain ⟨v2, n2, g2, r2⟩ := I.list kb e2
    have k1 := r1.length
    have k2 := r2.length
    refine concat_meets ⟨_, g1, rfl⟩ ⟨_, g2, rfl⟩ noFill_list_add seq_list_add F.slot_list_add F.entry_list_add (F.args_list_add_2 _ _) (AutoSeq1.list___add___list_list_0 _ v1.toArray n1 _ v2.toArray n2 (by simp; rw [sizeLine_eq]; lia)) ⟨g1, g2, ?_⟩
    have e : v1.toArray ++ v2.toArray = (v1 ++ v2).toArray := by simp
    rw [e]
    exact hq _ (r1.app r2)
  | mul =>
    refine onList_c (P := fun x => IsV X.ca B loc a x → IsV X.ca B loc b y → _ → _) h fun i l1 e1 h => onInt_c (P := fun y => IsV X.ca B loc a _ → IsV X.ca B loc b y → _ → _) h fun n h => if_c h fun hz h ha hb hq => ha.ref_c fun x ka => hb.int_c fun t => ?_
    cases h
    obtain ⟨v1, n1, g1, r1⟩ := I.list ka e1
    have k1 := r1.length
    have k2 : v1.toArray.size * n.toNat ≤ 1 * 1000 := Nat.mul_le_mul (by rw [List.size_toArray]; lia) (by lia)
    refine wpAny_binaryOp_repeat_ref (T := "list") (U := "int") (by decide) ⟨_, g1, rfl⟩ (fun s' => typeIs_int s' _ _) noFill_list_mul F.fills_int_mul F.slot_int_rmul repeat_list F.slot_int_index.lookup
      (call_meets F.slot_int_rmul (typeIs_int s _ _) F.entry_int_rmul (F.args_int_rmul_2 _ _) (int___rmul___int_list _ _ _ v1.toArray n1)
        ⟨g1, rfl, ⟨_, g1, rfl⟩, call_meets F.slot_list_mul ⟨_, g1, rfl⟩ F.entry_list_mul (F.args_list_mul_2 _ _)
          (AutoListH.list___mul___list_int_3 _ v1.toArray n1 n _ (by simp [Builtin.List.listFitsIndex]; lia) ?_ ?_) ⟨g1, ?_⟩⟩)
    · lia
    · simp [Builtin.List.listTooLong, sizeLine] at k2 ⊢
      lia
    · have e : List.foldl (fun (x1 x2 : Array Value) => x1 ++ x2) #[] (List.replicate (if v1.toArray.isEmpty = true then 0 else n.toNat) v1.toArray) = (List.replicate n.toNat v1).flatten.toArray := by
        cases v1 with
        | nil => simp
        | cons v r => rw [if_neg (by simp)]; exact foldl_app _ _
      rw [e]
      exact hq _ (r1.rep _)
  | _ => exact none_k h

set_option tactic.hygienic true in
theorem isIn_ok (H : CxOk X) {c : Nat} {x : AV} {a cv : Value} {r : Bool} (h : isIn c x = some r) (I : Inv X B loc σ s) (ha : IsV X.ca B loc a x) (hc : ClsVal X c cv) :
    wpAny (model X.p X.w) A (call (.builtin "isinstance") [a, cv]) (fun v s' => Soft s s' ∧ v = .bool r) E s := by
  obtain ⟨c1, c2⟩ := hc
  unfold isIn at h
  split at h
  · first | exact none_k ha | exact false_k ha | exact some_k ha | exact true_k ha | cases ha
    have e : r = (c == 0) := by
      split at h
      · rename_i q; first | exact none_k h | exact false_k h | exact some_k h | exact true_k h | cases h; rw [q]; rfl
      · split at h
        · rename_i q; first | exact none_k h | exact false_k h | exact some_k h | exact true_k h | cases h; rw [q]; rfl
        · split at h
          · rename_i q; first | exact none_k h | exact false_k h | exact some_k h | exact true_k h | cases h; have : c ≠ 0 := by lia
            simp [this]
          · first | exact none_k h | exact false_k h | exact some_k h | exact true_k h | cases h
    subst e
    exact kia_one kitx_str (I.kin H) trivial c1 (by intro q; first | exact none_k q | exact false_k q | exact some_k q | exact true_k q | cases q) fun tk => ⟨.tk _ _, rfl⟩
  · cases ha with
    | tup hB cc dd rr =>
      have e : c ≤ 2 ∧ r = (c == 1) := by
        split at h
        · rename_i q; first | exact none_k h | exact false_k h | exact some_k h | exact true_k h | cases h; rw [q]; exact ⟨by lia, rfl⟩
        · split at h
          · rename_i q; first | exact none_k h | exact false_k h | exact some_k h | exact true_k h | cases h; rw [q]; exact ⟨by lia, rfl⟩
          · first | exact none_k h | exact false_k h | exact some_k h | exact true_k h | cases h
      obtain ⟨e1, rfl⟩ := e
      exact kia_one kitx_tuple (I.kin H) (⟨_, I.sub _ _ hB, cc⟩ : KitAt _ _ _) (c2 e1).1 (by intro q; first | exact none_k q | exact false_k q | exact some_k q | exact true_k q | cases q) fun tk => ⟨.tk _ _, rfl⟩
  · first | exact none_k ha | exact false_k ha | exact some_k ha | exact true_k ha | cases ha
    have e : c ≤ 2 ∧ r = (c == 2) := by
      split at h
      · rename_i q; first | exact none_k h | exact false_k h | exact some_k h | exact true_k h | cases h; rw [q]; exact ⟨by lia, rfl⟩
      · split at h
        · rename_i q; first | exact none_k h | exact false_k h | exact some_k h | exact true_k h | cases h; rw [q]; exact ⟨by lia, rfl⟩
        · first | exact none_k h | exact false_k h | exact some_k h | exact true_k h | cases h
    obtain ⟨e1, rfl⟩ := e
    exact kia_one kitx_int (I.kin H) trivial (c2 e1).2 (by intro q; first | exact none_k q | exact false_k q | exact some_k q | exact true_k q | cases q) fun tk => ⟨.tk _ _, rfl⟩
  · first | exact none_k h | exact false_k h | exact some_k h | exact true_k h | cases h

theorem bf_ok {f : Nat} {x v : AV} {a : Value} (h : bfR σ f x = some v) (I : Inv X B loc σ s) (ha : IsV X.ca B loc a x) :
    wpAny (model X.p X.w) A (call (bfVal f) [a]) (fun r s' => Soft s s' ∧ IsV X.ca B loc r v) E s := by
  revert ha
  match f, h with
  | 0, h =>
    refine or_c h (fun h => onTup_c h fun l h => if_c h fun hz h => some_c h fun ha => ha.tup_c fun x o n vals hB c dd r => ?_) fun h => or_c h (fun h => onStr_c h fun l h => if_c h fun hz h => some_c h fun ha => ha.str_c fun t => ?_) fun h => onList_c h fun i l e h => if_c h fun hz h => some_c h fun ha => ha.ref_c fun x ka => ?_
    · have k := r.length
      refine len_tuple (⟨_, I.sub _ _ hB, c, _, dd⟩ : IsTup s.heap _ _) (by rw [List.size_toArray]; lia) ⟨.tk _ _, ?_⟩
      rw [List.size_toArray, k]; exact .int
    · refine len_str (by simp [Str.length]; lia) ⟨.tk _ _, ?_⟩
      simp only [Str.length, List.size_toArray]; exact .int
    · obtain ⟨vals, n, g, r⟩ := I.list ka e
      have k := r.length
      refine len_list (isList_of g) (by rw [List.size_toArray]; lia) ⟨.tk _ _, ?_⟩
      rw [List.size_toArray, k]; exact .int
  | 1, h =>
    refine onInt_c h fun i h => some_c h fun ha => ha.int_c fun t => call_abs_int fun u tk => ⟨.tk _ _, ?_⟩
    have : (if i < 0 then -i else i) = (i.natAbs : Int) := by split <;> lia
    rw [this]; exact .int
  | 2, h => exact onInt_c h fun i h => some_c h fun ha => ha.int_c fun t => call_int_int ⟨.refl _, .int⟩
  | f + 3, h => exact none_k h
end
end Mine
end

section
set_option compiler.extract_closed false
open PySem PySem.W PyProof.Rows PySem.Calls
set_option Elab.async false
set_option maxRecDepth 100000
set_option tactic.hygienic false
set_option linter.all false
namespace Mine
noncomputable def bmId : Nat → String
  | 0 => "list.append" | 1 => "list.pop" | 2 => "list.extend" | 3 => "list.reverse" | 4 => "dict.get" | 5 => "str.join" | _ => "str.index"
noncomputable def bmTy : Nat → String
  | 0 | 1 | 2 | 3 => "list" | 4 => "dict" | _ => "str"
section
set_option compiler.extract_closed false
variable {X : Cx} {F : Fm} {ρ : Loc} {B : Part} {loc : List Addr} {σ : St} {s s' : Shared} {A : Around} {E : Value → Shared → Prop} {d : Nat}

theorem glued_nil (l : List (List Nat)) : Txt.join ⟨([] : List Nat).toArray⟩ (l.map fun x => (⟨x.toArray⟩ : Str)) = ⟨(joinS l).toArray⟩ := by
  have key : ∀ (r : List (List Nat)) (acc : List Nat), List.foldl (fun (acc : Array Nat) (p : Str) => acc ++ (⟨([] : List Nat).toArray⟩ : Str).cps ++ p.cps) acc.toArray (r.map fun x => (⟨x.toArray⟩ : Str)) = (acc ++ r.flatten).toArray := by
    intro r
    induction r with
    | nil => intro acc; simp
    | cons x r ih =>
      intro acc
      rw [List.map_cons, List.foldl_cons]
      have : acc.toArray ++ (⟨([] : List Nat).toArray⟩ : Str).cps ++ (⟨x.toArray⟩ : Str).cps = (acc ++ x).toArray := by simp
      rw [this, ih]; simp
  show Builtin.Str.glued _ _ = _
  unfold Builtin.Str.glued joinS
  congr 1
  cases l with
  | nil => rfl
  | cons x r =>
    have := key r x
    simpa using this

theorem sum_mk (l : List (List Nat)) : ((l.map fun x => (⟨x.toArray⟩ : Str)).map (·.length)).sum = (joinS l).length := by
  induction l with
  | nil => rfl
  | cons x r ih => simp only [List.map_cons, List.sum_cons, ih, joinS, List.flatten_cons, List.length_append]; simp [Str.length]

theorem Obj.free_list (h : Heap) {y : Addr} {vs ws : Array Value} {n : Nat} {f : Array Value → Array Value} (g : h.get? y = some (listOf vs n)) (e : f vs = ws) : ∃ n', (h.update y (Obj.mapSeq f)).get? y = some (listOf ws n') := by
  subst e
  exact ⟨_, Heap.get?_update_self _ g rfl⟩

@[elab_as_elim] theorem IsVs.one_c {ca : Nat → Addr} {P : List Value → Prop} {vals : List Value} {x : AV} (h : IsVs ca B loc vals [x]) (k : ∀ v, IsV ca B loc v x → P [v]) : P vals := let ⟨v, e, q⟩ := h.one; e ▸ k v q
@[elab_as_elim] theorem IsVs.none_c {ca : Nat → Addr} {P : List Value → Prop} {vals : List Value} (h : IsVs ca B loc vals []) (k : P []) : P vals := h.none ▸ k
theorem set_same {σ : St} {i : Nat} {o : AO} (e : σ[i]? = some o) : σ.set i o = σ := by
  apply List.ext_getElem?
  intro j
  by_cases hj : j = i
  · subst hj
    rw [List.getElem?_set_self (List.getElem?_eq_some_iff.mp e).1, e]
  · rw [List.getElem?_set_ne (Ne.symm hj)]
set_option tactic.hygienic true in
theorem bm_ok {m : Nat} {x v : AV} {args : List AV} {σ' : St} {a : Value} {vals : List Value} (h : bmR σ m x args = some (v, σ')) (I : Inv X B loc σ s) (K : F.Ok) (R : FrOK X F ρ B loc s.heap) (ha : IsV X.ca B loc a x) (hb : IsVs X.ca B loc vals args) (hA : A.handled = none) :
    wpAny (model X.p X.w) A (call (.builtin (bmId m)) (a :: vals)) (fun r s' => Inv X B loc σ' s' ∧ FrOK X F ρ B loc s'.heap ∧ IsV X.ca B loc r v) E s := by
  have soft : ∀ {s' : Shared} {r : Value} {v : AV}, Soft s s' → IsV X.ca B loc r v → Inv X B loc σ s' ∧ FrOK X F ρ B loc s'.heap ∧ IsV X.ca B loc r v := fun q k => ⟨I.soft q, R.keep q.1, k⟩
  have key : ∀ {c : List Nat} (k : Int) (u t : Tok), Txt.find ⟨([88, 89, 90] : List Nat).toArray⟩ ⟨c.toArray⟩ = k → 0 ≤ k →
      wpAny (model X.p X.w) A (call (.builtin "str.index") [.str ⟨([88, 89, 90] : List Nat).toArray⟩ u, .str ⟨c.toArray⟩ t]) (fun r s' => Inv X B loc σ s' ∧ FrOK X F ρ B loc s'.heap ∧ IsV X.ca B loc r (.int k)) E s := fun k u t e1 e2 =>
    index_or hA (fun q => by rw [e1] at q; lia) (fun q0 q0 => by rw [e1]; exact soft (Soft.tk s (s.toks + 1)) .int)
  revert ha hb
  refine bm_c (P := fun m x args v σ' => IsV X.ca B loc a x → IsVs X.ca B loc vals args → wpAny (model X.p X.w) A (call (.builtin (bmId m)) (a :: vals)) (fun r s' => Inv X B loc σ' s' ∧ FrOK X F ρ B loc s'.heap ∧ IsV X.ca B loc r v) E s) h
    (fun i vs w e hz ha hb => ha.ref_c fun y ka => hb.one_c fun v' hb1 => ?a0) (fun i vs w e q hz ha hb => ha.ref_c fun y ka => hb.none_c ?a1) (fun i l1 j l2 e1 e2 hz ha hb => ha.ref_c fun y ka => hb.one_c fun v' hb1 => hb1.ref_c fun y2 kb => ?a2)
    (fun i e ha hb => ha.ref_c fun y ka => hb.none_c ?a3) (fun i es n dflt e ha hb => ha.ref_c fun y ka => ?a4) (fun i vs l e q hz ha hb => ha.str_c fun t1 => hb.one_c fun v' hb1 => hb1.ref_c fun y2 kb => ?a5)
    (fun ha hb => ha.str_c fun t1 => hb.one_c fun v' hb1 => hb1.str_c fun t2 => key 0 _ _ (by decide +kernel) (by decide)) (fun ha hb => ha.str_c fun t1 => hb.one_c fun v' hb1 => hb1.str_c fun t2 => key 1 _ _ (by decide +kernel) (by decide)) (fun ha hb => ha.str_c fun t1 => hb.one_c fun v' hb1 => hb1.str_c fun t2 => key 2 _ _ (by decide +kernel) (by decide))
  case a0 =>
    obtain ⟨vl, n, g, r⟩ := I.list ka e
    have k := r.length
    refine wpAny_list_append_plain (items := vl.toArray) ⟨n, g⟩ (fun h' hp hs => ?_) (by rw [List.size_toArray, sizeLine_eq]; lia)
    obtain ⟨n', g'⟩ := hp
    have e : vl.toArray.push v' = (vl ++ [v']).toArray := by simp
    rw [e] at g'
    exact (I.mut K R (tk := s.toks) ka hs (.list g' (r.app (.cons hb1 .nil)))).elim fun I' R' => ⟨I', R', .none⟩
  case a1 =>
    obtain ⟨ws, rfl⟩ := List.getLast?_eq_some_iff.mp q
    obtain ⟨vl, n, g, r⟩ := I.list ka e
    obtain ⟨vl, v', rfl, r1, r2⟩ := r.split
    have kk := r1.length
    have hz : (vl ++ [v']).length ≤ 1000000 := by simp at hz ⊢; lia
    have hs : (vl ++ [v']).toArray.size - 1 = vl.length := by simp
    refine call_meets PySem.F.slot_list_pop ⟨_, g, rfl⟩ PySem.F.entry_list_pop (PySem.F.args_list_pop_1 _) (MeetsSeq.list_pop_last y (vl ++ [v']).toArray n v' (by rw [hs]; simp) (by rw [List.size_toArray, sizeLine_eq]; lia)) ⟨g, ?_⟩
    obtain ⟨n', g'⟩ := Obj.free_list s.heap (f := fun xs => xs.eraseIdxIfInBounds ((vl ++ [v']).toArray.size - 1)) (ws := vl.toArray) g (by rw [hs]; simp [Array.eraseIdxIfInBounds, List.eraseIdx_append_of_length_le])
    have e2 : (ws ++ [w]).dropLast = ws := by simp
    rw [e2]
    exact (I.mut K R (tk := s.toks) ka (Heap.SameBut.update ..) (.list g' r1)).elim fun I' R' => ⟨I', R', r2⟩
  case a2 =>
    obtain ⟨v1, n1, g1, r1⟩ := I.list ka e1
    obtain ⟨v2, n2, g2, r2⟩ := I.list kb e2
    have k1 := r1.length
    have k2 := r2.length
    refine call_meets PySem.F.slot_list_extend ⟨_, g1, rfl⟩ PySem.F.entry_list_extend (PySem.F.args_list_extend_2 _ _) (AutoSeq1.list_extend_list_list_0 y v1.toArray n1 y2 v2.toArray n2 ?_ (by rw [List.size_toArray, sizeLine_eq]; lia) (by simp; rw [sizeLine_eq]; lia)) ⟨g1, g2, ?_⟩
    · simp [Builtin.List.listTooLong, sizeLine]; lia
    · obtain ⟨n', g'⟩ := Obj.free_list s.heap (f := fun xs => xs ++ v2.toArray) (ws := (v1 ++ v2).toArray) g1 (by simp)
      exact (I.mut K R (tk := s.toks) ka (Heap.SameBut.update ..) (.list g' (r1.app r2))).elim fun I' R' => ⟨I', R', .none⟩
  case a3 =>
    obtain ⟨v1, n1, g1, r1⟩ := I.list ka e
    obtain rfl := r1.none
    refine call_meets PySem.F.slot_list_reverse ⟨_, g1, rfl⟩ PySem.F.entry_list_reverse (PySem.F.args_list_reverse_1 _) (AutoSeq1.list_reverse_list_0 y ([] : List Value).toArray n1 (by simp)) ⟨g1, ?_⟩
    obtain ⟨n', g'⟩ := Obj.free_list s.heap (f := fun xs => xs.reverse) (ws := ([] : List Value).toArray) g1 (by simp)
    have KK := I.mut K R (tk := s.toks) ka (Heap.SameBut.update ..) (.list g' .nil)
    rw [set_same e] at KK
    exact KK.elim fun I' R' => ⟨I', R', .none⟩
  case a4 =>
    obtain ⟨v1, v2, rfl, hb1, hb2⟩ := hb.two
    obtain ⟨t1, rfl⟩ := hb1.str_i
    cases I.obj i _ _ ka e with
    | dict h1 h2 =>
      rename_i f
      have hy : (y == sysModules) = false := by
        have h2 : 2 ≤ y := I.low _ (List.mem_of_getElem? ka)
        rw [beq_eq_false_iff_ne]
        intro e; rw [e] at h2; exact absurd h2 (by decide)
      refine call_meetsIn PySem.F.slot_dict_get h1.typeIs PySem.F.entry_dict_get (PySem.F.args_dict_get_3 _ _ _) (meets_dict_get_default (strKind X.p X.w) y (strKind_is _ _ _ _) hy v2) ⟨_, h1.mapOf, ?_⟩
      refine soft (Soft.tk s (s.toks + 1)) ?_
      cases hl : es.lookup n with
      | some v =>
        obtain ⟨x, e1, e2⟩ := h2.some hl
        rw [e1]; exact e2
      | none =>
        rw [h2.none hl]; exact hb2
  case a5 =>
    obtain ⟨vl, n, g, r⟩ := I.list kb e
    refine join_list (isList_of g) (strsAre_of r q) ?_ fun t' k => ?_
    · rw [sum_mk]; simp [Str.length]; lia
    · refine soft (Soft.tk s k) ?_
      rw [glued_nil]; exact .str
end
end Mine
end

section
set_option compiler.extract_closed false
open PySem PySem.W PyProof.Rows PySem.Calls Builtin Builtin.ObjectAttr
set_option Elab.async false
set_option maxRecDepth 100000
set_option tactic.hygienic false
set_option linter.all false
namespace Mine
section
set_option compiler.extract_closed false
variable {X : Cx} {F : Fm} {ρ : Loc} {B : Part} {loc : List Addr} {σ : St} {s s' : Shared} {A : Around} {E : Value → Shared → Prop} {d : Nat}

theorem handed_ok {ca : Nat → Addr} {v : Value} {x : AV} (h : IsV ca B loc v x) : handedIn v = true := by cases h <;> rfl

theorem isStr_field {f g : Nat} {t : Tok} (hf : f < fieldNames.length) (hg : g < fieldNames.length) : (Value.str (fieldNm f) t).isStr (fieldNm g) = (f == g) := by
  show (fieldNm f == fieldNm g) = _
  rw [Bool.eq_iff_iff]
  simp only [beq_iff_eq]
  exact ⟨fieldNm_inj hf hg, fun e => by rw [e]⟩

theorem FldsR.length {ca : Nat → Addr} {des : List DictEntry} {es : List (Nat × AV)} (h : FldsR ca B loc des es) : des.length = es.length := h.ind (P := fun d e => d.length = e.length) rfl fun _ _ _ _ ih => congrArg (· + 1) ih
theorem FldsR.noref {ca : Nat → Addr} {des : List DictEntry} {es : List (Nat × AV)} (h : FldsR ca B loc des es) : des.any (·.refKey) = false :=
  h.ind (P := fun d _ => d.any (·.refKey) = false) rfl fun k _ _ _ ih => by rw [List.any_cons, ih, Bool.or_false]; unfold DictEntry.refKey; rw [k]
theorem FldsR.get {ca : Nat → Addr} {f : Nat} {v : AV} (hf : f < fieldNames.length) {des : List DictEntry} {es : List (Nat × AV)} (h : FldsR ca B loc des es) : es.lookup f = some v →
    ∃ e, des.find? (·.key.isStr (fieldNm f)) = some e ∧ IsV ca B loc e.val v :=
  h.ind (P := fun des es => es.lookup f = some v → ∃ e, des.find? (·.key.isStr (fieldNm f)) = some e ∧ IsV ca B loc e.val v) (fun e => none_k e) fun {_ t₁ g _ _ _} k hg hv _ ih e => by
    have q := isStr_field (t := t₁) hg hf
    rw [List.find?_cons, k, q]
    rw [List.lookup_cons] at e
    by_cases c : g = f
    · subst c
      rw [beq_self_eq_true] at e ⊢
      injection e with e
      exact ⟨_, rfl, e ▸ hv⟩
    · have c1 : (g == f) = false := beq_eq_false_iff_ne.mpr c
      have c2 : (f == g) = false := beq_eq_false_iff_ne.mpr (Ne.symm c)
      rw [c2] at e
      rw [c1]
      exact ih e
theorem FldsR.sees {ca : Nat → Addr} {des : List DictEntry} {es : List (Nat × AV)} (h : FldsR ca B loc des es) (n : Str) : (getL n des).isSome = true := by
  unfold getL
  split
  · rfl
  · rw [h.noref]; rfl
theorem FldsR.put {ca : Nat → Addr} {f : Nat} {v : AV} {x : Value} {hsh : Int} {t : Tok} (hf : f < fieldNames.length) (hx : IsV ca B loc x v) {des : List DictEntry} {es : List (Nat × AV)} (h : FldsR ca B loc des es) :
    FldsR ca B loc (putL (fieldNm f) hsh (.str (fieldNm f) t) x des) (putS f v es) :=
  h.ind (P := fun des es => FldsR ca B loc (putL (fieldNm f) hsh (.str (fieldNm f) t) x des) (putS f v es)) (.cons rfl hf hx .nil) fun {_ t₁ g _ _ es} k hg hv r ih => by
    unfold putL putS
    have q := isStr_field (t := t₁) hg hf
    rw [k, q]
    by_cases c : g = f
    · subst c
      rw [beq_self_eq_true, if_pos rfl, if_pos rfl]
      exact .cons rfl hg hx r
    · have c1 : (g == f) = false := beq_eq_false_iff_ne.mpr c
      rw [c1, if_neg Bool.false_ne_true, if_neg Bool.false_ne_true]
      exact .cons k hg hv ih

theorem DictR.length {ca : Nat → Addr} {kvs : List (Str × Value)} {es : List (List Nat × AV)} (h : DictR ca B loc kvs es) : kvs.length = es.length := h.ind (P := fun d e => d.length = e.length) rfl fun _ _ ih => congrArg (· + 1) ih
theorem DictR.put {ca : Nat → Addr} {n : List Nat} {v : AV} {x : Value} (hx : IsV ca B loc x v) {kvs : List (Str × Value)} {es : List (List Nat × AV)} (h : DictR ca B loc kvs es) : (kvs.map (·.1)).Nodup →
    DictR ca B loc (stored kvs (⟨n.toArray⟩ : Str) x) (putS n v es) :=
  h.ind (P := fun kvs es => (kvs.map (·.1)).Nodup → DictR ca B loc (stored kvs (⟨n.toArray⟩ : Str) x) (putS n v es)) (fun _ => .cons hx .nil) fun {k y w r _} hy hr ih hn => by
    have hn' := List.nodup_cons.mp (show ((⟨k.toArray⟩ : Str) :: r.map (·.1)).Nodup from hn)
    have ih := ih hn'.2
    by_cases e : k = n
    · subst e
      have nn : ∀ kv ∈ r, ¬ kv.1 = (⟨k.toArray⟩ : Str) := fun kv hk q => hn'.1 (q ▸ List.mem_map_of_mem hk)
      have e1 : stored ((⟨k.toArray⟩, y) :: r) (⟨k.toArray⟩ : Str) x = (⟨k.toArray⟩, x) :: r := by
        unfold stored
        rw [if_pos (by simp)]
        simp only [List.map_cons, if_true]
        congr 1
        rw [List.map_congr_left (g := _root_.id) (fun kv hk => by rw [if_neg (nn kv hk)]; rfl), List.map_id]
      rw [e1]
      unfold putS
      simp only [beq_self_eq_true, if_true]
      exact .cons hx hr
    · have e2 : ¬ ((⟨k.toArray⟩ : Str) = ⟨n.toArray⟩) := by intro q; apply e; simpa using q
      have e1 : stored ((⟨k.toArray⟩, y) :: r) (⟨n.toArray⟩ : Str) x = (⟨k.toArray⟩, y) :: stored r ⟨n.toArray⟩ x := by
        unfold stored
        rw [List.any_cons]
        have : decide ((⟨k.toArray⟩ : Str) = ⟨n.toArray⟩) = false := by simpa using e2
        rw [this, Bool.false_or]
        split
        · simp [e2]
        · rfl
      rw [e1]
      have c1 : (k == n) = false := by simp [e]
      unfold putS
      simp only [c1, Bool.false_eq_true, if_false]
      exact .cons hy ih

theorem setItem_exact {l : Addr} {items : Array Value} {n : Nat} {k : Int} {t : Tok} {v : Value} {Q : Unit → Shared → Prop} (ho : s.heap.get? l = some (listOf items n))
    (h0 : 0 ≤ k) (hfit : k < 2 ^ 63) (hn : k < items.size) (hQ : Q () { s with heap := s.heap.update l (Obj.mapSeq (·.setIfInBounds k.toNat v)) }) :
    wpAny (model X.p X.w) A (setItem (.ref l) (.int k t) v) Q E s := by
  have hl := isList_of ho
  unfold setItem
  try with_reducible refine wpAny_holding ?_
  refine wpAny_bind (wpAny_sequenceKey hl.typeIs (by decide) ?_)
  refine wpAny_bind (wpAny_callSpecial?_slot (name := Str.ofString "__setitem__") hl.typeIs slot_list_setitem
    (wpAny_call_entry slot_list_setitem hl.typeIs entry_list_setitem ?_ (args_list_setitem _ _ _)))
  show wpAny _ _ (Builtin.List.listSubscript? (.int k t) >>= _) _ _ s
  refine wpAny_bind (wpAny_listSubscript_int (fitsIndex_of h0 hfit) ?_)
  obtain ⟨j, rfl⟩ := Int.eq_ofNat_of_zero_le h0
  have hj : j < items.size := by lia
  have hx' : items[j]? = some items[j] := Array.getElem?_eq_getElem hj
  show wpAny _ _ ((seqItemAt l j >>= fun r => pure (r.map (j, ·))) >>= _) _ _ s
  refine wpAny_bind (wpAny_bind (wpAny_seqItemAt ho rfl (wpAny_pure ?_)))
  rw [hx']
  refine wpAny_bind ?_
  refine wpAny_setSeqItemAt ho rfl ?_
  exact wpAny_pure ⟨.none, rfl, wpAny_pure hQ⟩

theorem store_ok {o k v : AV} {σ' : St} {a b c : Value} (h : storeR σ o k v = some σ') (I : Inv X B loc σ s) (K : F.Ok) (R : FrOK X F ρ B loc s.heap) (ha : IsV X.ca B loc a o) (hb : IsV X.ca B loc b k) (hc : IsV X.ca B loc c v) :
    wpAny (model X.p X.w) A (setItem a b c) (fun q0 s' => Inv X B loc σ' s' ∧ FrOK X F ρ B loc s'.heap) E s := by
  revert ha hb
  refine or_c h (fun h => onInt_c h fun k h => onList_c h fun i vs e h => if_c h fun hz h => some_c h fun ha hb => hb.int_c fun t => ha.ref_c fun x ka => ?_) fun h => onStr_c h fun n h => onDict_c h fun i es e h => if_c h fun hz h => some_c h fun ha hb => hb.str_c fun t => ha.ref_c fun x ka => ?_
  · obtain ⟨vals, n, g, r⟩ := I.list ka e
    have hk := r.length
    refine setItem_exact g hz.1 (by lia) (by rw [List.size_toArray, hk]; lia) ?_
    obtain ⟨n', g'⟩ := Obj.free_list s.heap (f := fun xs => xs.setIfInBounds k.toNat c) (ws := (vals.set k.toNat c).toArray) g (by simp)
    exact I.mut K R (tk := s.toks) ka (Heap.SameBut.update ..) (.list g' (r.set _ hc))
  · cases I.obj _ _ _ ka e with
    | dict h1 h2 =>
      have hk := h2.length
      refine wpAny_setItem_pairs (strKind_is _ _ _ _) h1 (fun h' hm hs => ?_) (by rw [hk, sizeLine_eq]; lia)
      obtain ⟨_, _, _, _, _, _, _, _, nd⟩ := h1
      exact I.mut K R (tk := s.toks + 1) ka hs (.dict hm (h2.put hc nd))

set_option tactic.hygienic true in
theorem getF_ok (H : CxOk X) {x v : AV} {f : Nat} {a : Value} {nm : Str} {expr : Bool} (h : getF σ x f = some v) (hf : fieldNames[f]? = some nm) (I : Inv X B loc σ s) (ha : IsV X.ca B loc a x) :
    wpAny (model X.p X.w) A (getAttr a nm expr) (fun r s' => Soft s s' ∧ IsV X.ca B loc r v) E s := by
  unfold getF at h
  split at h
  · rename_i C i
    split at h
    · rename_i es e
      cases ha with
      | inst hB hl hC =>
        rename_i x dx
        obtain ⟨des, n, g, r⟩ := I.flds hl e
        obtain ⟨fe, fl⟩ := fieldNm_of hf
        subst fe
        obtain ⟨en, e1, e2⟩ := r.get fl h
        have cl := H.cls C hC
        have IA : InstAt s.heap x (instObj (X.ca C) dx) (X.ca C) (some (dictOf des n)) := ⟨I.sub _ _ hB, rfl, rfl, g⟩
        refine get_value (I.kin H) IA (plainGet_of (cl.ga (fieldNm f))).1 (findObj_own cl.hd (cl.fld f _ hf) rfl ?_) (handed_ok e2) ⟨.tk _ _, e2⟩
        rw [lookIn_dict]; unfold getL; rw [e1]
    · first | exact none_k h | exact false_k h | exact some_k h | exact true_k h | cases h
  · first | exact none_k h | exact false_k h | exact some_k h | exact true_k h | cases h

theorem putS_length {α : Type} [BEq α] (k : α) (v : AV) : ∀ es : List (α × AV), (putS k v es).length ≤ es.length + 1
  | [] => by simp [putS]
  | e :: r => by unfold putS; split; simp; have := putS_length k v r; simp; lia

set_option tactic.hygienic true in
theorem setF_ok (H : CxOk X) {x v : AV} {f : Nat} {a c : Value} {nm : Str} {σ' : St} (h : setF σ x f v = some σ') (hf : fieldNames[f]? = some nm) (I : Inv X B loc σ s) (K : F.Ok) (R : FrOK X F ρ B loc s.heap) (ha : IsV X.ca B loc a x) (hc : IsV X.ca B loc c v) :
    wpAny (model X.p X.w) A (setAttr a nm c) (fun q0 s' => Inv X B loc σ' s' ∧ FrOK X F ρ B loc s'.heap) E s := by
  unfold setF at h
  split at h
  · rename_i C i
    split at h
    · rename_i es e
      split at h <;> first | exact none_k h | exact false_k h | exact some_k h | exact true_k h | cases h
      rename_i hz
      cases ha with
      | inst hB hl hC =>
        rename_i x dx
        obtain ⟨des, n, g, r⟩ := I.flds hl e
        obtain ⟨fe, fl⟩ := fieldNm_of hf
        subst fe
        have cl := H.cls C hC
        have IA : InstAt s.heap x (instObj (X.ca C) dx) (X.ca C) (some (dictOf des n)) := ⟨I.sub _ _ hB, rfl, rfl, g⟩
        have XX := I.kin H
        have KK := I.mut (h' := s.heap.update dx (Obj.putName (fieldNm f) (PyData.keyHash X.w.params (fieldNm f)) (.str (fieldNm f) (s.toks + 1)) c)) K R (tk := s.toks + 2) hl (Heap.SameBut.update ..) (.flds (by
            have := Heap.get?_update_self (f := Obj.putName (fieldNm f) (PyData.keyHash X.w.params (fieldNm f)) (.str (fieldNm f) (s.toks + 1)) c) g (by rw [putName_dict]; rfl)
            rw [this, putName_dict]) (r.put fl hc))
        clear I R
        obtain ⟨hh, gg, dd, tt, oo⟩ := s
        refine set_plain XX IA cl.sa ?_
        refine osa_open (r := none) XX IA cl.over (by unfold takerIn; rw [cl.fld f _ hf]; rfl) fun b => ?_
        obtain ⟨cd, hcd, hd'⟩ := any_some cl.hd
        refine wpAny_bind (wpAny_pure (wpAny_bind (wpAny_bind (wpAny_loadPart IA.at_ (wpAny_bind ((looks_clsIn (show X.K.In hh from XX) hcd).at ?_))))))
        rw [hd']
        refine wpAny_pure (a := some dx) (wpAny_bind (wpAny_pure (wpAny_bind ?_)))
        unfold nsSet
        refine wpAny_bind (wpAny_bind (wpAny_askSetting (wpAny_pure (wpAny_bind (wpAny_mkText (wpAny_bind (wpAny_loadPart g ?_)))))))
        dsimp only
        have c0 : (!des.toArray.any (·.key.isStr (fieldNm f)) && des.toArray.any (·.refKey)) = false := by
          have := r.noref
          rw [← Array.any_toList, ← Array.any_toList]
          show (_ && des.any (·.refKey)) = false
          rw [this, Bool.and_false]
        rw [aRefKeyMayBeTheName_at, c0]
        refine wpAny_updatePart g ?_
        have pl : ∀ (q : Int) (t : Tok), (putL (fieldNm f) q (.str (fieldNm f) t) c des).length ≤ des.length + 1 := fun q t => by
          have k1 := (r.put (hsh := q) (t := t) fl hc).length
          have k2 := putS_length f v es
          have k3 := r.length
          lia
        have k3 := r.length
        have D' : ∀ (q : Int) (t : Tok), (hh.update dx (Obj.putName (fieldNm f) q (.str (fieldNm f) t) c)).get? dx = some (dictOf (putL (fieldNm f) q (.str (fieldNm f) t) c des) (putN (fieldNm f) des n)) := fun q t => by
          have := Heap.get?_update_self (f := Obj.putName (fieldNm f) q (.str (fieldNm f) t) c) g (by rw [putName_dict]; rfl)
          rw [this, putName_dict]
        refine wpAny_bind (wpAny_lookBehind (D' _ _) (pastItsLine_dict (by rw [List.size_toArray, sizeLine_eq]; exact Nat.le_trans (pl _ _) (by lia))) ?_)
        refine wpAny_pure ?_
        exact KK
    · first | exact none_k h | exact false_k h | exact some_k h | exact true_k h | cases h
  · first | exact none_k h | exact false_k h | exact some_k h | exact true_k h | cases h
end
end Mine
end

section
set_option compiler.extract_closed false
open PySem PySem.W PyProof.Rows PySem.Calls
set_option Elab.async false
set_option maxRecDepth 100000
set_option tactic.hygienic false
set_option linter.all false
namespace Mine
theorem bNot1 {b : Bool} (h : (!b) = true) : b = false := by
  cases b with
  | false => rfl
  | true => first | exact none_k h | exact false_k h | exact some_k h | exact true_k h | obtain rfl := IsV.bool_i h | obtain rfl := IsV.none_i h | cases h
section
set_option compiler.extract_closed false
variable {sg : Sg} {e : Expr}
theorem m_bad (h : matchE sg .bad e = true) : True := trivial
theorem m_c {v : AV} (h : matchE sg (.c v) e = true) : ∃ k n p, e = .Constant k n p ∧ isC v k = true := by
  obtain ⟨⟨k, n, p, e1⟩, h⟩ := anyS (o := vConst e) h
  exact ⟨k, n, p, e1, h⟩
theorem m_ng {k : Nat} (h : matchE sg (.ng k) e = true) : ∃ n p q, e = .UnaryOp .USub (.Constant (.int (k : Int)) n p) q := by
  obtain ⟨⟨k, n, p, q, e1⟩, h⟩ := anyS (o := vNeg e) h
  exact ⟨n, p, q, eq_of_beq h ▸ e1⟩
theorem m_x {i : Nat} (h : matchE sg (.x i) e = true) : ∃ n p, e = .Name n p ∧ sg.nm[i]? = some n ∧ (n == ("__debug__" : Str)) = false := by
  obtain ⟨⟨n, p, e1⟩, h⟩ := anyS (o := vName e) h
  have h := bAnd2 h
  exact ⟨n, p, e1, eq_of_beq h.1, bNot1 h.2⟩
theorem m_g {i : Nat} (h : matchE sg (.g i) e = true) : ∃ n p, e = .Name n p ∧ globNames[i]? = some n ∧ sg.gl n = true := by
  obtain ⟨⟨n, p, e1⟩, h⟩ := anyS (o := vName e) h
  have h := bAnd2 h
  exact ⟨n, p, e1, eq_of_beq h.1, h.2⟩
theorem m_at {a : ME} {f : Nat} (h : matchE sg (.at a f) e = true) : ∃ o n p, e = .Attribute o n p ∧ fieldNames[f]? = some n ∧ noSuper o = true ∧ matchE sg a o = true := by
  obtain ⟨⟨k, p, e1⟩, h⟩ := anyS (o := vAttr e) h
  have h := bAnd2 h
  have h2 := bAnd2 h.2
  exact ⟨k.1, k.2, p, e1, eq_of_beq h.1, h2.1, h2.2⟩
theorem m_tp {es : List ME} (h : matchE sg (.tp es) e = true) : ∃ l n p, e = .Tuple l n p ∧ matchEs sg es l = true ∧ l.length ≤ 100 := by
  obtain ⟨⟨l, n, p, e1⟩, h⟩ := anyS (o := vTuple e) h
  have h := bAnd2 h
  exact ⟨l, n, p, e1, h.1, of_decide_eq_true h.2⟩
theorem m_ls {es : List ME} (h : matchE sg (.ls es) e = true) : ∃ l p, e = .List l p ∧ matchEs sg es l = true ∧ l.length ≤ 100 := by
  obtain ⟨⟨l, p, e1⟩, h⟩ := anyS (o := vList e) h
  have h := bAnd2 h
  exact ⟨l, p, e1, h.1, of_decide_eq_true h.2⟩
theorem m_dc (h : matchE sg .dc e = true) : ∃ p, e = .Dict [] [] p := by
  obtain ⟨⟨_, p, e1⟩, _⟩ := anyS (o := vDict e) h
  exact ⟨p, e1⟩
theorem m_ix {a i : ME} (h : matchE sg (.ix a i) e = true) : ∃ o k p, e = .Subscript o k p ∧ matchE sg a o = true ∧ isSlice k = false ∧ matchE sg i k = true := by
  obtain ⟨⟨k, p, e1⟩, h⟩ := anyS (o := vSub e) h
  have h := bAnd2 h
  have h2 := bAnd2 h.2
  exact ⟨k.1, k.2, p, e1, h.1, bNot1 h2.1, h2.2⟩
theorem m_sl {a : ME} {lo hi : Option ME} (h : matchE sg (.sl a lo hi) e = true) : ∃ o l u q p, e = .Subscript o (.Slice l u none q) p ∧ matchE sg a o = true ∧ matchO sg lo l = true ∧ matchO sg hi u = true := by
  obtain ⟨⟨k, q, p, e1⟩, h⟩ := anyS (o := vSl e) h
  have h := bAnd2 h
  have h2 := bAnd2 h.2
  exact ⟨k.1, k.2.1, k.2.2, q, p, e1, h.1, h2.1, h2.2⟩
theorem m_sr {a : ME} (h : matchE sg (.sr a) e = true) : ∃ o n p1 p2 p3 p, e = .Subscript o (.Slice none none (some (.UnaryOp .USub (.Constant (.int 1) n p1) p2)) p3) p ∧ matchE sg a o = true := by
  obtain ⟨⟨k, n, p1, p2, p3, p, e1⟩, h⟩ := anyS (o := vSr e) h
  exact ⟨k, n, p1, p2, p3, p, e1, h⟩
theorem m_bo {op : BOp} {a b : ME} (h : matchE sg (.bo op a b) e = true) : ∃ l r p, e = .BinOp l (opB op) r p ∧ matchE sg a l = true ∧ matchE sg b r = true := by
  obtain ⟨⟨k, p, e1⟩, h⟩ := anyS (o := vBin e) h
  have h := bAnd2 h
  have h2 := bAnd2 h.2
  exact ⟨k.1, k.2.2, p, eq_of_beq h2.1 ▸ e1, h.1, h2.2⟩
theorem m_cm {op : COp} {a b : ME} (h : matchE sg (.cm op a b) e = true) : ∃ l r p, e = .Compare l [opC op] [r] p ∧ matchE sg a l = true ∧ matchE sg b r = true ∧ behindInMarks (opC op) r = false := by
  obtain ⟨⟨⟨l, o, r⟩, p, e1⟩, h⟩ := anyS (o := vCmp e) h
  have h := bAnd2 h
  have h2 := bAnd2 h.2
  have h3 := bAnd2 h2.2
  have e2 : o = opC op := eq_of_beq h2.1
  subst e2
  exact ⟨l, r, p, e1, h.1, h3.1, bNot1 h3.2⟩
theorem m_nt {a : ME} (h : matchE sg (.nt a) e = true) : ∃ x p, e = .UnaryOp .Not x p ∧ matchE sg a x = true := by
  obtain ⟨⟨k, p, e1⟩, h⟩ := anyS (o := vNot e) h
  exact ⟨k, p, e1, h⟩
theorem m_an {es : List ME} (h : matchE sg (.an es) e = true) : ∃ l p, e = .BoolOp .And l p ∧ matchEs sg es l = true := by
  obtain ⟨⟨k, p, e1⟩, h⟩ := anyS (o := vAnd e) h
  exact ⟨k, p, e1, h⟩
theorem m_or {es : List ME} (h : matchE sg (.or es) e = true) : ∃ l p, e = .BoolOp .Or l p ∧ matchEs sg es l = true := by
  obtain ⟨⟨k, p, e1⟩, h⟩ := anyS (o := vOr e) h
  exact ⟨k, p, e1, h⟩
theorem m_ie {t a b : ME} (h : matchE sg (.ie t a b) e = true) : ∃ x y z p, e = .IfExp x y z p ∧ matchE sg t x = true ∧ matchE sg a y = true ∧ matchE sg b z = true := by
  obtain ⟨⟨k, p, e1⟩, h⟩ := anyS (o := vIf e) h
  have h := bAnd2 h
  have h2 := bAnd2 h.2
  exact ⟨k.1, k.2.1, k.2.2, p, e1, h.1, h2.1, h2.2⟩
theorem m_cf {f : Nat} {es : List ME} (h : matchE sg (.cf f es) e = true) : ∃ n np l p, e = .Call (.Name n np) l [] p ∧ fnNames[f]? = some n ∧ sg.gl n = true ∧ matchEs sg es l = true ∧ l.length ≤ 20 ∧ firstTop ≤ f := by
  obtain ⟨⟨k, np, p, e1⟩, h⟩ := anyS (o := vCallN e) h
  have h := bAnd2 h
  have h2 := bAnd2 h.2
  have h3 := bAnd2 h2.2
  have h4 := bAnd2 h3.2
  exact ⟨k.1, np, k.2, p, e1, eq_of_beq h.1, h2.1, h3.1, of_decide_eq_true h4.1, of_decide_eq_true h4.2⟩
theorem m_nw {C : Nat} {es : List ME} (h : matchE sg (.nw C es) e = true) : ∃ n np l p, e = .Call (.Name n np) l [] p ∧ classNames[C]? = some n ∧ sg.gl n = true ∧ matchEs sg es l = true ∧ l.length ≤ 20 := by
  obtain ⟨⟨k, np, p, e1⟩, h⟩ := anyS (o := vCallN e) h
  have h := bAnd2 h
  have h2 := bAnd2 h.2
  have h3 := bAnd2 h2.2
  exact ⟨k.1, np, k.2, p, e1, eq_of_beq h.1, h2.1, h3.1, of_decide_eq_true h3.2⟩
theorem m_mc {a : ME} {m : Nat} {es : List ME} (h : matchE sg (.mc a m es) e = true) : ∃ o n ap l p, e = .Call (.Attribute o n ap) l [] p ∧ methNames[m]? = some n ∧ noSuper o = true ∧ matchE sg a o = true ∧ matchEs sg es l = true ∧ l.length ≤ 20 ∧ (ap.endLine == p.line) = true := by
  obtain ⟨⟨k, e1⟩, h⟩ := anyS (o := vCallA e) h
  have h := bAnd2 h
  have h2 := bAnd2 h.2
  have h3 := bAnd2 h2.2
  have h4 := bAnd2 h3.2
  have h5 := bAnd2 h4.2
  exact ⟨k.1, k.2.1, k.2.2.1, k.2.2.2.1, k.2.2.2.2, e1, eq_of_beq h.1, h2.1, h3.1, h4.1, of_decide_eq_true h5.1, h5.2⟩
theorem m_bm {a : ME} {m : Nat} {es : List ME} (h : matchE sg (.bm a m es) e = true) : ∃ o n ap l p, e = .Call (.Attribute o n ap) l [] p ∧ bmNames[m]? = some n ∧ noSuper o = true ∧ matchE sg a o = true ∧ matchEs sg es l = true ∧ l.length ≤ 2 ∧ (ap.endLine == p.line) = true := by
  obtain ⟨⟨k, e1⟩, h⟩ := anyS (o := vCallA e) h
  have h := bAnd2 h
  have h2 := bAnd2 h.2
  have h3 := bAnd2 h2.2
  have h4 := bAnd2 h3.2
  have h5 := bAnd2 h4.2
  exact ⟨k.1, k.2.1, k.2.2.1, k.2.2.2.1, k.2.2.2.2, e1, eq_of_beq h.1, h2.1, h3.1, h4.1, of_decide_eq_true h5.1, h5.2⟩
theorem m_ii {a : ME} {c : Nat} (h : matchE sg (.ii a c) e = true) : ∃ np x cn cp p, e = .Call (.Name "isinstance" np) [x, .Name cn cp] [] p ∧ sg.gl "isinstance" = true ∧ clsName c = some cn ∧ sg.gl cn = true ∧ matchE sg a x = true := by
  obtain ⟨⟨⟨n, x, cn⟩, np, cp, p, e1⟩, h⟩ := anyS (o := vIsi e) h
  have h := bAnd2 h
  have h2 := bAnd2 h.2
  have h3 := bAnd2 h2.2
  have h4 := bAnd2 h3.2
  have e2 : n = "isinstance" := eq_of_beq h.1
  subst e2
  exact ⟨np, x, cn, cp, p, e1, h2.1, eq_of_beq h3.1, h4.1, h4.2⟩
theorem m_bf {a : ME} {f : Nat} (h : matchE sg (.bf f a) e = true) : ∃ np x p, e = .Call (.Name (bfName f) np) [x] [] p ∧ sg.gl (bfName f) = true ∧ matchE sg a x = true := by
  obtain ⟨⟨⟨n, x⟩, np, p, e1⟩, h⟩ := anyS (o := vCall1 e) h
  have h := bAnd2 h
  have h2 := bAnd2 h.2
  have e2 : n = bfName f := eq_of_beq h.1
  subst e2
  exact ⟨np, x, p, e1, h2.1, h2.2⟩
theorem m_lc {n : Nat} {fv : List (Nat × Nat)} {g : List Nat} {gt : Bool} {it a : ME} {cond : Option ME} (h : matchE sg (.lc n fv g gt it cond a) e = true) : ∃ elt tg it' ifs sc p, e = .ListComp elt [⟨tg, it', ifs, 0⟩] sc p ∧ compScope sg sc n fv g = true ∧
    compTg tg (compNames sc) g gt = true ∧ matchE sg it it' = true ∧ matchC ⟨compNames sc, relabelS sc sg.sc⟩ cond ifs = true ∧ matchE ⟨compNames sc, relabelS sc sg.sc⟩ a elt = true := by
  obtain ⟨⟨k, p, e1⟩, h⟩ := anyS (o := vLC e) h
  have h := bAnd2 h
  have h2 := bAnd2 h.2
  have h3 := bAnd2 h2.2
  have h4 := bAnd2 h3.2
  exact ⟨k.1, k.2.1, k.2.2.1, k.2.2.2.1, k.2.2.2.2, p, e1, h.1, h2.1, h3.1, h4.1, h4.2⟩
theorem m_es0 {l : List Expr} (h : matchEs sg [] l = true) : l = [] := List.isEmpty_iff.mp h
theorem m_es1 {x : ME} {r : List ME} {l : List Expr} (h : matchEs sg (x :: r) l = true) : ∃ y l', l = y :: l' ∧ matchE sg x y = true ∧ matchEs sg r l' = true := by
  obtain ⟨⟨k, e1⟩, h⟩ := anyS (o := vCons l) h
  have h := bAnd2 h
  exact ⟨k.1, k.2, e1, h.1, h.2⟩
theorem m_o0 {l : Option Expr} (h : matchO sg none l = true) : l = none := Option.isNone_iff_eq_none.mp h
theorem m_o1 {x : ME} {l : Option Expr} (h : matchO sg (some x) l = true) : ∃ y, l = some y ∧ matchE sg x y = true := by
  cases l with
  | none => first | exact none_k h | exact false_k h | exact some_k h | exact true_k h | obtain rfl := IsV.bool_i h | obtain rfl := IsV.none_i h | cases h
  | some y => exact ⟨y, rfl, h⟩
theorem m_star {x : ME} (h : matchE sg x e = true) : isStar e = false := by
  cases hs : isStar e with
  | false => rfl
  | true =>
    have : ∃ v p, e = .Starred v p := Expr.Starred.elim (motive_1 := fun e => ∃ v p, e = .Starred v p) e (eq_of_beq (show (e.ctorIdx == 22) = true from hs)) fun v p => ⟨v, p, rfl⟩
    obtain ⟨v, p, rfl⟩ := this
    cases x <;> exact false_k h
end
end Mine
end

section
set_option compiler.extract_closed false
open PySem PySem.W PyProof.Rows PySem.Calls
set_option Elab.async false
set_option maxRecDepth 100000
set_option tactic.hygienic false
set_option linter.all false
namespace Mine

noncomputable def Thn (X : Cx) (F : Fm) (ρ : Loc) (B : Part) (loc : List Addr) (σ : St) {α : Type} (R : Part → List Addr → α → Prop) (Q : α → Shared → Prop) : Prop :=
  ∀ (r : α) (s' : Shared) (B' : Part) (loc' : List Addr), Grow B loc B' loc' → Inv X B' loc' σ s' → FrOK X F ρ B' loc' s'.heap → R B' loc' r → Q r s'

noncomputable def SE (X : Cx) (d : Nat) (ρ : Loc) (x : ME) (σ : St) (v : AV) (σ' : St) : Prop :=
  ∀ (F : Fm) (A : Around) (E : Value → Shared → Prop) (s : Shared) (B : Part) (loc : List Addr) (e : Expr), F.Ok → AOk d A → matchE F.sg x e = true → Inv X B loc σ s → FrOK X F ρ B loc s.heap →
    ∀ Q : Value → Shared → Prop, Thn X F ρ B loc σ' (fun B' loc' r => IsV X.ca B' loc' r v) Q → wpAny (model X.p X.w) A (eval e F.env) Q E s
noncomputable def SEs (X : Cx) (d : Nat) (ρ : Loc) (x : List ME) (σ : St) (vs : List AV) (σ' : St) : Prop :=
  ∀ (F : Fm) (A : Around) (E : Value → Shared → Prop) (s : Shared) (B : Part) (loc : List Addr) (l : List Expr) (pos : Pos), F.Ok → AOk d A → matchEs F.sg x l = true → Inv X B loc σ s → FrOK X F ρ B loc s.heap →
    ∀ Q : List Value → Shared → Prop, Thn X F ρ B loc σ' (fun B' loc' r => IsVs X.ca B' loc' r vs ∧ r.length = l.length) Q → wpAny (model X.p X.w) A (spliced (backTo pos (starEach l F.env))) Q E s
noncomputable def ST (X : Cx) (d : Nat) (ρ : Loc) (x : ME) (σ : St) (b : Bool) (σ' : St) : Prop :=
  ∀ (F : Fm) (A : Around) (E : Value → Shared → Prop) (s : Shared) (B : Part) (loc : List Addr) (e : Expr), F.Ok → AOk d A → matchE F.sg x e = true → Inv X B loc σ s → FrOK X F ρ B loc s.heap →
    ∀ Q : Bool → Shared → Prop, Thn X F ρ B loc σ' (fun q0 q0 r => r = b) Q → wpAny (model X.p X.w) A (PySem.isTrue e F.env (eval e F.env)) Q E s

section
set_option compiler.extract_closed false
variable {X : Cx} {F : Fm} {ρ : Loc} {B : Part} {loc : List Addr} {σ σ₁ σ₂ σ₃ : St} {s s' : Shared} {A : Around} {E : Value → Shared → Prop} {d : Nat}

theorem Thn.after {α : Type} {B₁ : Part} {loc₁ : List Addr} {R : Part → List Addr → α → Prop} {Q : α → Shared → Prop} (h : Thn X F ρ B loc σ R Q) (g : Grow B loc B₁ loc₁) : Thn X F ρ B₁ loc₁ σ R Q :=
  fun r s' B' loc' g' I R q => h r s' B' loc' (g.trans g') I R q
theorem Thn.soft {α : Type} {R : Part → List Addr → α → Prop} {Q : α → Shared → Prop} {r : α} (h : Thn X F ρ B loc σ R Q) (I : Inv X B loc σ s) (Z : FrOK X F ρ B loc s.heap) (k : Soft s s') (q : R B loc r) : Q r s' :=
  h r s' B loc (.refl _ _) (I.soft k) (Z.keep k.1) q
theorem Thn.here {α : Type} {R : Part → List Addr → α → Prop} {Q : α → Shared → Prop} {r : α} (h : Thn X F ρ B loc σ R Q) (I : Inv X B loc σ s) (Z : FrOK X F ρ B loc s.heap) (q : R B loc r) : Q r s :=
  h r s B loc (.refl _ _) I Z q
theorem Thn.list {Q : Value → Shared → Prop} {vals : List Value} {vs : List AV} {n tk : Nat} (h : Thn X F ρ B loc (σ ++ [.list vs]) (fun B' loc' r => IsV X.ca B' loc' r (.ref σ.length)) Q) (I : Inv X B loc σ s) (K : F.Ok) (Z : FrOK X F ρ B loc s.heap)
    (hv : IsVs X.ca B loc vals vs) : Q (.ref s.heap.objs.size) { s with heap := s.heap.push (listOf vals.toArray n), toks := tk } := by
  obtain ⟨g, I', R', hl⟩ := I.newMut K Z (o := listOf vals.toArray n) (ao := .list vs) (tk := tk) rfl (.list (Heap.get?_push_size _ rfl) (hv.mono (.refl _) (.app _ _)))
  exact h _ _ _ _ g I' R' (.ref hl)

theorem SubscriptOn.mono {M : Model} {a b : Value} {Q Q' : Value → Shared → Prop} (h : SubscriptOn M A a b Q E s) (hq : ∀ r s', Q r s' → Q' r s') : SubscriptOn M A a b Q' E s :=
  let ⟨T, id, h1, h2, h3⟩ := h; ⟨T, id, h1, h2, wpAny_mono h3 hq fun q0 q0 x => x⟩

theorem Fm.global (H : CxOk X) (K : F.Ok) (I : Inv X B loc σ s) {n : Str} {p : Pos} {v : Value} {Q : Value → Shared → Prop} (hg : F.sg.gl n = true) (e : nsIn X.K mainGlobals n = some (some v)) (h : Q v s) :
    wpAny (model X.p X.w) A (eval (.Name n p) F.env) Q E s := by
  unfold Sg.gl at hg
  simp only [Bool.and_eq_true, beq_iff_eq, Bool.not_eq_true'] at hg
  refine Name_function_global (by rw [K.sc]; exact K.kind) (by unfold Env.kindOf; rw [K.sc]; exact hg.1) (loadGlobal_global (mg := X.mg) (by rw [K.glob]; exact H.g.keeps I.keeps0) (mg_of H.kin H.g e) h) hg.2
theorem Fm.builtin (H : CxOk X) (K : F.Ok) (I : Inv X B loc σ s) {n : Str} {p : Pos} {v : Value} {Q : Value → Shared → Prop} (hg : F.sg.gl n = true) (e : nsIn X.K mainGlobals n = some none) (hn : n ≠ "__name__") (hb : bootBuiltins n = some v) (h : Q v s) :
    wpAny (model X.p X.w) A (eval (.Name n p) F.env) Q E s := by
  unfold Sg.gl at hg
  simp only [Bool.and_eq_true, beq_iff_eq, Bool.not_eq_true'] at hg
  refine Name_function_global (by rw [K.sc]; exact K.kind) (by unfold Env.kindOf; rw [K.sc]; exact hg.1)
    (loadGlobal_builtin (mg := X.mg) (mb := X.mb) (by rw [K.glob]; exact H.g.keeps I.keeps0) (mg_none_of H.kin H.g e) (by rw [K.bi]; exact H.b.keeps I.keeps0) (by rw [H.bt n hn]; exact hb) h) hg.2

theorem isC_ok {v : AV} {k : Const} {env : Env} {M : Model} {Q : Value → Shared → Prop} (h : isC v k = true) (hq : ∀ r tk, IsV X.ca B loc r v → Q r { s with toks := tk }) : wpAny M A (constValue env k) Q E s := by
  cases v with
  | none => cases k <;> first | exact false_k h | exact wpAny_pure (hq _ s.toks .none)
  | bool => cases k <;> first | exact false_k h | exact eq_of_beq h ▸ wpAny_pure (hq _ s.toks .bool)
  | int => cases k <;> first | exact false_k h | exact eq_of_beq h ▸ wpAny_mkInt (hq _ _ .int)
  | str => cases k <;> first | exact false_k h | exact wpAny_mkText (hq _ _ (eq_of_beq h ▸ .str))
  | _ => exact false_k h

theorem s_c {v : AV} : SE X d ρ (.c v) σ v σ := by
  intro F A E s B loc e K hA hm I R Q hq
  obtain ⟨k, n, p, rfl, h⟩ := m_c hm
  show wpAny _ _ (constValue F.env k) Q E s
  exact isC_ok h fun r tk h' => hq.soft I R (.tk _ _) h'
theorem s_ng {k : Nat} : SE X d ρ (.ng k) σ (.int (-(k : Int))) σ := by
  intro F A E s B loc e K hA hm I R Q hq
  obtain ⟨n, p, q, rfl⟩ := m_ng hm
  exact wpAny_UnaryOp (wpAny_Constant_int (neg_int (hq.soft I R (.tk _ _) .int)))
theorem s_x {i : Nat} {v : AV} (h : ρ[i]? = some (some v)) : SE X d ρ (.x i) σ v σ := by
  intro F A E s B loc e K hA hm I R Q hq
  obtain ⟨n, p, rfl, h1, h2⟩ := m_x hm
  refine wpAny_Name ?_ h2
  rcases K.loc i n h1 with hk | ⟨hk, c, hc⟩
  · obtain ⟨m, hm, x⟩ := R.ns
    obtain ⟨val, e1, e2⟩ := x i n v h1 hk h
    exact wpAny_loadName_local (by rw [K.sc]; exact K.kind) (by unfold Env.kindOf; rw [K.sc]; exact hk) hm e1 (hq.here I R e2)
  · obtain ⟨ov, hcl, x⟩ := R.cl i n c h1 hk hc
    obtain ⟨val, rfl, e2⟩ := x v h
    exact wpAny_loadName_cell (by rw [K.sc]; exact K.kind) (by unfold Env.kindOf; rw [K.sc]; exact hk) hc hcl (hq.here I R e2)
theorem s_g (H : CxOk X) {n : Nat} {v : AV} (h : prog.glob n = some v) : SE X d ρ (.g n) σ v σ := by
  intro F A E s B loc e K hA hm I R Q hq
  obtain ⟨nm, p, rfl, h1, h2⟩ := m_g hm
  obtain ⟨val, e1, e2⟩ := H.globV n nm v h1 h
  exact Fm.global H K I h2 e1 (hq.here I R ((e2 loc).mono I.ext0 (.refl _)))
theorem attributeBase_plain {o : Expr} {a : Str} {env : Env} {whole : Sem Value} (h : noSuper o = true) : attributeBase o a env whole = whole := by
  cases o with
  | Call f l k p =>
    cases f with
    | Name =>
      cases l with
      | cons => rfl
      | nil =>
        cases k with
        | cons => rfl
        | nil => exact false_k h
    | _ => rfl
  | _ => rfl
theorem s_at (H : CxOk X) {e : ME} {f : Nat} {o v : AV} (h1 : SE X d ρ e σ o σ₁) (h : getF σ₁ o f = some v) : SE X d ρ (.at e f) σ v σ₁ := by
  intro F A E s B loc e K hA hm I R Q hq
  obtain ⟨o, n, p, rfl, e1, e2, e3⟩ := m_at hm
  refine Attribute_any_ (h1 F A E s B loc o K hA e3 I R _ fun r s' B' loc' g I' R' q => ?_) (by rw [arm_eval_Attribute, attributeBase_plain e2])
  exact wpAny_mono (getF_ok H h e1 I' q) (fun r2 s2 z => (hq.after g).soft I' R' z.1 z.2) fun q0 q0 x => x
theorem s_es0 : SEs X d ρ [] σ [] σ := by
  intro F A E s B loc l pos K hA hm I R Q hq
  obtain rfl := m_es0 hm
  exact spliced_none (hq.here I R ⟨.nil, rfl⟩)
theorem star_one {y : Expr} {r : List Expr} {env : Env} (h : isStar y = false) : starEach (y :: r) env = (false, eval y env) :: starEach r env := by
  cases y <;> first | rfl | exact true_k h
theorem s_es1 {e : ME} {r : List ME} {v : AV} {vs : List AV} (h1 : SE X d ρ e σ v σ₁) (h2 : SEs X d ρ r σ₁ vs σ₂) : SEs X d ρ (e :: r) σ (v :: vs) σ₂ := by
  intro F A E s B loc l pos K hA hm I R Q hq
  obtain ⟨y, l', rfl, m1, m2⟩ := m_es1 hm
  refine spliced_more (h1 F A E s B loc y K hA m1 I R _ fun r s' B' loc' g I' R' q => ?_) (star_one (m_star m1))
  exact h2 F A E s' B' loc' l' pos K hA m2 I' R' _ fun r2 s2 B2 loc2 g2 I2 R2 q2 => hq _ _ _ _ (g.trans g2) I2 R2 ⟨.cons (q.grow g2) q2.1, by simp [q2.2]⟩
theorem s_tp {es : List ME} {vs : List AV} (h1 : SEs X d ρ es σ vs σ₁) : SE X d ρ (.tp es) σ (.tup vs) σ₁ := by
  intro F A E s B loc e K hA hm I R Q hq
  obtain ⟨l, n, p, rfl, e1, e2⟩ := m_tp hm
  refine Tuple_ (h1 F A E s B loc l p K hA e1 I R _ fun r s' B' loc' g I' R' q => ?_)
  refine wpAny_newObj_type ?_ (by show r.toArray.size ≤ sizeLine; rw [List.size_toArray, q.2, sizeLine_eq]; lia)
  obtain ⟨g2, I2, R2⟩ := I'.newImm K R' (o := { cls := .type "tuple", data := .seq r.toArray }) rfl (tk := s'.toks)
  exact hq _ _ _ _ (g.trans g2) I2 R2 (.tup (addB_self _ _ _) rfl rfl (q.1.grow g2))
theorem s_ls {es : List ME} {vs : List AV} (h1 : SEs X d ρ es σ vs σ₁) : SE X d ρ (.ls es) σ (.ref σ₁.length) (σ₁ ++ [.list vs]) := by
  intro F A E s B loc e K hA hm I R Q hq
  obtain ⟨l, p, rfl, e1, e2⟩ := m_ls hm
  refine List_ (h1 F A E s B loc l p K hA e1 I R _ fun r s' B' loc' g I' R' q => ?_)
  refine wpAny_newList ?_ (by rw [q.2, sizeLine_eq]; lia)
  exact (hq.after g).list (n := 0) (tk := s'.toks) I' K R' q.1
theorem s_dc : SE X d ρ .dc σ (.ref σ.length) (σ ++ [.dict []]) := by
  intro F A E s B loc e K hA hm I R Q hq
  obtain ⟨p, rfl⟩ := m_dc hm
  refine wpAny_Dict_empty ?_
  obtain ⟨g, I', R', hl⟩ := I.newMut K R (o := { cls := .type "dict", data := .dict #[] }) (ao := .dict []) (tk := s.toks) rfl (.dict (kvs := []) ⟨_, _, _, Heap.get?_push_size _ rfl, ⟨rfl, rfl, rfl⟩, rfl, fun q0 h => (by simp at h), .nil, by simp⟩ .nil)
  exact hq _ _ _ _ g I' R' (.ref hl)
theorem s_ix {a i : ME} {o k v : AV} (h1 : SE X d ρ a σ o σ₁) (h2 : SE X d ρ i σ₁ k σ₂) (h : itemR σ₂ o k = some v) : SE X d ρ (.ix a i) σ v σ₂ := by
  intro F A E s B loc e K hA hm I R Q hq
  obtain ⟨o, k, p, rfl, e1, e2, e3⟩ := m_ix hm
  refine sub_ok (M := model X.p X.w) (fun q0 q0 => .inl (subscripted_plain e2 _ _)) (h1 F A E s B loc o K hA e1 I R _ fun r s' B' loc' g I' R' q => ?_)
  refine h2 F A E s' B' loc' k K hA e3 I' R' _ fun r2 s2 B2 loc2 g2 I2 R2 q2 => ?_
  refine SubscriptOn.mono (item_ok h I2 (q.grow g2) q2) fun r3 s3 z => ((hq.after (g.trans g2)).soft I2 R2 z.1 z.2)
theorem s_bo {op : BOp} {a b : ME} {x y v : AV} (h1 : SE X d ρ a σ x σ₁) (h2 : SE X d ρ b σ₁ y σ₂) (h : binV op x y = some v) : SE X d ρ (.bo op a b) σ v σ₂ := by
  intro F A E s B loc e K hA hm I R Q hq
  obtain ⟨l, r, p, rfl, e1, e2⟩ := m_bo hm
  refine wpAny_BinOp (h1 F A E s B loc l K hA e1 I R _ fun r1 s' B' loc' g I' R' q => ?_)
  refine h2 F A E s' B' loc' r K hA e2 I' R' _ fun r2 s2 B2 loc2 g2 I2 R2 q2 => ?_
  exact wpAny_mono (bin_ok h (q.grow g2) q2 hA.h) (fun r3 s3 z => ((hq.after (g.trans g2)).soft I2 R2 z.1 z.2)) fun q0 q0 x => x
theorem s_boL {op : BOp} {a b : ME} {x y : AV} {vs : List AV} (h1 : SE X d ρ a σ x σ₁) (h2 : SE X d ρ b σ₁ y σ₂) (h : binL σ₂ op x y = some vs) : SE X d ρ (.bo op a b) σ (.ref σ₂.length) (σ₂ ++ [.list vs]) := by
  intro F A E s B loc e K hA hm I R Q hq
  obtain ⟨l, r, p, rfl, e1, e2⟩ := m_bo hm
  refine wpAny_BinOp (h1 F A E s B loc l K hA e1 I R _ fun r1 s' B' loc' g I' R' q => ?_)
  refine h2 F A E s' B' loc' r K hA e2 I' R' _ fun r2 s2 B2 loc2 g2 I2 R2 q2 => ?_
  exact binL_ok h I2 (q.grow g2) q2 fun vals hv => ((hq.after (g.trans g2)).list (n := 0) (tk := s2.toks) I2 K R2 hv)
theorem s_cm {op : COp} {a b : ME} {x y : AV} {r : Bool} (h1 : SE X d ρ a σ x σ₁) (h2 : SE X d ρ b σ₁ y σ₂) (h : cmpR σ₂ op x y = some r) : SE X d ρ (.cm op a b) σ (.bool r) σ₂ := by
  intro F A E s B loc e K hA hm I R Q hq
  obtain ⟨l, r, p, rfl, e1, e2, e3⟩ := m_cm hm
  refine wpAny_Compare1 (h1 F A E s B loc l K hA e1 I R _ fun r1 s' B' loc' g I' R' q => ?_) e3
  refine h2 F A E s' B' loc' r K hA e2 I' R' _ fun r2 s2 B2 loc2 g2 I2 R2 q2 => ?_
  exact wpAny_mono (cmp_ok h I2 (q.grow g2) q2 hA) (fun r3 s3 z => ((hq.after (g.trans g2)).soft I2 R2 z.1 (z.2 ▸ .bool))) fun q0 q0 x => x
theorem m_an2 {sg : Sg} {a b : ME} {l : List Expr} (h : matchEs sg [a, b] l = true) : ∃ x y, l = [x, y] ∧ matchE sg a x = true ∧ matchE sg b y = true := by
  obtain ⟨x, l', rfl, m1, m2⟩ := m_es1 h
  obtain ⟨y, l', rfl, m2, m3⟩ := m_es1 m2
  rw [m_es0 m3]
  exact ⟨_, _, rfl, m1, m2⟩
theorem s_anF {a b : ME} (h1 : SE X d ρ a σ (.bool false) σ₁) : SE X d ρ (.an [a, b]) σ (.bool false) σ₁ := by
  intro F A E s B loc e K hA hm I R Q hq
  obtain ⟨l, p, rfl, e1⟩ := m_an hm
  obtain ⟨x, y, rfl, m1, m2⟩ := m_an2 e1
  show wpAny _ _ (eval x F.env >>= _) Q E s
  refine wpAny_bind (h1 F A E s B loc x K hA m1 I R _ fun r1 s' B' loc' g I' R' q => ?_)
  first | exact none_k q | exact false_k q | exact some_k q | exact true_k q | obtain rfl := IsV.bool_i q | obtain rfl := IsV.none_i q | cases q
  refine wpAny_bind (wpAny_standAt (wpAny_bind (wpAny_holding (wpAny_truthy_bool ?_))))
  exact wpAny_pure ((hq.after g).here I' R' .bool)
theorem s_anT {a b : ME} {v : AV} (h1 : SE X d ρ a σ (.bool true) σ₁) (h2 : SE X d ρ b σ₁ v σ₂) : SE X d ρ (.an [a, b]) σ v σ₂ := by
  intro F A E s B loc e K hA hm I R Q hq
  obtain ⟨l, p, rfl, e1⟩ := m_an hm
  obtain ⟨x, y, rfl, m1, m2⟩ := m_an2 e1
  show wpAny _ _ (eval x F.env >>= _) Q E s
  refine wpAny_bind (h1 F A E s B loc x K hA m1 I R _ fun r1 s' B' loc' g I' R' q => ?_)
  first | exact none_k q | exact false_k q | exact some_k q | exact true_k q | obtain rfl := IsV.bool_i q | obtain rfl := IsV.none_i q | cases q
  refine wpAny_bind (wpAny_standAt (wpAny_bind (wpAny_holding (wpAny_truthy_bool ?_))))
  exact h2 F A E s' B' loc' y K hA m2 I' R' _ (hq.after g)
theorem s_ie {t a b : ME} {r : Bool} {v : AV} (h1 : ST X d ρ t σ r σ₁) (h2 : SE X d ρ (if r then a else b) σ₁ v σ₂) : SE X d ρ (.ie t a b) σ v σ₂ := by
  intro F A E s B loc e K hA hm I R Q hq
  obtain ⟨x, y, z, p, rfl, e1, e2, e3⟩ := m_ie hm
  refine wpAny_IfExp (h1 F A E s B loc x K hA e1 I R _ fun r1 s' B' loc' g I' R' q => ?_)
  subst q
  cases r1 with
  | true => exact h2 F A E s' B' loc' y K hA e2 I' R' _ (hq.after g)
  | false => exact h2 F A E s' B' loc' z K hA e3 I' R' _ (hq.after g)

theorem s_tn {a : ME} {r : Bool} (h1 : ST X d ρ a σ r σ₁) : ST X d ρ (.nt a) σ (!r) σ₁ := by
  intro F A E s B loc e K hA hm I R Q hq
  obtain ⟨x, p, rfl, e1⟩ := m_nt hm
  exact wpAny_isTrue_Not (h1 F A E s B loc x K hA e1 I R _ fun r1 s' B' loc' g I' R' q => hq _ _ _ _ g I' R' (by rw [q]))
theorem s_ta0 : ST X d ρ (.an []) σ true σ := by
  intro F A E s B loc e K hA hm I R Q hq
  obtain ⟨l, p, rfl, e1⟩ := m_an hm
  rw [m_es0 e1]
  exact wpAny_isTrue_BoolOp (wpAny_pure (hq.here I R rfl))
theorem s_to0 : ST X d ρ (.or []) σ false σ := by
  intro F A E s B loc e K hA hm I R Q hq
  obtain ⟨l, p, rfl, e1⟩ := m_or hm
  rw [m_es0 e1]
  exact wpAny_isTrue_BoolOp (wpAny_pure (hq.here I R rfl))
theorem s_taF {a : ME} {r : List ME} (h1 : ST X d ρ a σ false σ₁) : ST X d ρ (.an (a :: r)) σ false σ₁ := by
  intro F A E s B loc e K hA hm I R Q hq
  obtain ⟨l, p, rfl, e1⟩ := m_an hm
  obtain ⟨x, l', rfl, m1, m2⟩ := m_es1 e1
  refine wpAny_isTrue_BoolOp (wpAny_allTrue_And_cons (h1 F A E s B loc x K hA m1 I R _ fun r1 s' B' loc' g I' R' q => ?_))
  subst q
  exact (hq.after g).here I' R' rfl
theorem s_taT {a : ME} {r : List ME} {b : Bool} (h1 : ST X d ρ a σ true σ₁) (h2 : ST X d ρ (.an r) σ₁ b σ₂) : ST X d ρ (.an (a :: r)) σ b σ₂ := by
  intro F A E s B loc e K hA hm I R Q hq
  obtain ⟨l, p, rfl, e1⟩ := m_an hm
  obtain ⟨x, l', rfl, m1, m2⟩ := m_es1 e1
  refine wpAny_isTrue_BoolOp (wpAny_allTrue_And_cons (h1 F A E s B loc x K hA m1 I R _ fun r1 s' B' loc' g I' R' q => ?_))
  subst q
  exact h2 F A E s' B' loc' (.BoolOp .And l' p) K hA m2 I' R' _ (hq.after g)
theorem s_toT {a : ME} {r : List ME} (h1 : ST X d ρ a σ true σ₁) : ST X d ρ (.or (a :: r)) σ true σ₁ := by
  intro F A E s B loc e K hA hm I R Q hq
  obtain ⟨l, p, rfl, e1⟩ := m_or hm
  obtain ⟨x, l', rfl, m1, m2⟩ := m_es1 e1
  refine wpAny_isTrue_BoolOp (wpAny_allTrue_Or_cons (h1 F A E s B loc x K hA m1 I R _ fun r1 s' B' loc' g I' R' q => ?_))
  subst q
  exact (hq.after g).here I' R' rfl
theorem s_toF {a : ME} {r : List ME} {b : Bool} (h1 : ST X d ρ a σ false σ₁) (h2 : ST X d ρ (.or r) σ₁ b σ₂) : ST X d ρ (.or (a :: r)) σ b σ₂ := by
  intro F A E s B loc e K hA hm I R Q hq
  obtain ⟨l, p, rfl, e1⟩ := m_or hm
  obtain ⟨x, l', rfl, m1, m2⟩ := m_es1 e1
  refine wpAny_isTrue_BoolOp (wpAny_allTrue_Or_cons (h1 F A E s B loc x K hA m1 I R _ fun r1 s' B' loc' g I' R' q => ?_))
  subst q
  exact h2 F A E s' B' loc' (.BoolOp .Or l' p) K hA m2 I' R' _ (hq.after g)
theorem s_tc {op : COp} {a b : ME} {x y : AV} {r : Bool} (h1 : SE X d ρ a σ x σ₁) (h2 : SE X d ρ b σ₁ y σ₂) (h : cmpR σ₂ op x y = some r) : ST X d ρ (.cm op a b) σ r σ₂ := by
  intro F A E s B loc e K hA hm I R Q hq
  obtain ⟨l, r, p, rfl, e1, e2, e3⟩ := m_cm hm
  refine wpAny_isTrue_Compare1 (h1 F A E s B loc l K hA e1 I R _ fun r1 s' B' loc' g I' R' q => ?_) e3
  refine h2 F A E s' B' loc' r K hA e2 I' R' _ fun r2 s2 B2 loc2 g2 I2 R2 q2 => ?_
  refine wpAny_mono (cmp_ok h I2 (q.grow g2) q2 hA) (fun r3 s3 z => ?_) fun q0 q0 x => x
  obtain ⟨z1, rfl⟩ := z
  exact wpAny_truthy_bool ((hq.after (g.trans g2)).soft I2 R2 z1 rfl)
theorem not_neg {P : Prop} {sg : Sg} {k : Nat} {a : Expr} {p : Pos} (h : matchE sg (.ng k) (.UnaryOp .Not a p) = true) : P := by
  obtain ⟨_, _, _, e⟩ := m_ng h
  cases e
theorem isTrue_plain {sg : Sg} {x : ME} {e : Expr} {env : Env} {whole : Sem Value} (h : matchE sg x e = true) (hp : plainT x = true) :
    PySem.isTrue e env whole = (do let v ← whole; standAt e.pos; holding [v] (truthy v)) := by
  cases e with
  | BoolOp => exact (show False by cases x <;> first | exact false_k h | exact false_k hp).elim
  | IfExp => exact (show False by cases x <;> first | exact false_k h | exact false_k hp).elim
  | Compare => exact (show False by cases x <;> first | exact false_k h | exact false_k hp).elim
  | UnaryOp op =>
    cases op with
    | Not => exact (show False by cases x <;> first | exact false_k h | exact false_k hp | exact not_neg h).elim
    | _ => rfl
  | _ => rfl
theorem s_te {a : ME} {r : Bool} (h1 : SE X d ρ a σ (.bool r) σ₁) (hp : plainT a = true) : ST X d ρ a σ r σ₁ := by
  intro F A E s B loc e K hA hm I R Q hq
  refine wpAny_isTrue_value (h1 F A E s B loc e K hA hm I R _ fun r1 s' B' loc' g I' R' q => ?_) (isTrue_plain hm hp)
  first | exact none_k q | exact false_k q | exact some_k q | exact true_k q | obtain rfl := IsV.bool_i q | obtain rfl := IsV.none_i q | cases q
  exact wpAny_truthy_bool ((hq.after g).here I' R' rfl)

noncomputable def SO (X : Cx) (d : Nat) (ρ : Loc) (x : Option ME) (σ : St) (v : Option AV) (σ' : St) : Prop := match x, v with
  | none, none => σ' = σ
  | some e, some v => SE X d ρ e σ v σ'
  | _, _ => False
theorem so_ok {x : Option ME} {v : Option AV} {l : Option Expr} (h : SO X d ρ x σ v σ₁) (K : F.Ok) (hA : AOk d A) (hm : matchO F.sg x l = true) (I : Inv X B loc σ s) (R : FrOK X F ρ B loc s.heap)
    (Q : Value → Shared → Prop) (hq : Thn X F ρ B loc σ₁ (fun B' loc' r => PartV X.ca B' loc' r v) Q) : wpAny (model X.p X.w) A (evalPart l F.env) Q E s := by
  cases x with
  | none =>
    cases v with
    | none => obtain rfl := m_o0 hm; first | exact none_k h | exact false_k h | exact some_k h | exact true_k h | cases h; exact wpAny_evalPart_none (hq.here I R rfl)
    | some v => first | exact none_k h | exact false_k h | exact some_k h | exact true_k h | obtain rfl := IsV.bool_i h | obtain rfl := IsV.none_i h | cases h
  | some x =>
    cases v with
    | none => first | exact none_k h | exact false_k h | exact some_k h | exact true_k h | obtain rfl := IsV.bool_i h | obtain rfl := IsV.none_i h | cases h
    | some v => obtain ⟨y, rfl, m1⟩ := m_o1 hm; exact wpAny_evalPart_some (h F A E s B loc y K hA m1 I R Q hq)
theorem PartV.grow {ca : Nat → Addr} {B B' : Part} {loc loc' : List Addr} {v : Value} {x : Option AV} (h : PartV ca B loc v x) (g : Grow B loc B' loc') : PartV ca B' loc' v x := by
  cases x with
  | none => exact h
  | some x => exact IsV.grow h g
theorem s_slice {a : ME} {lo hi : Option ME} {o : AV} {j k : Option AV} {v : AV} {σ₄ : St} (h1 : SE X d ρ a σ o σ₁) (h2 : SO X d ρ lo σ₁ j σ₂) (h3 : SO X d ρ hi σ₂ k σ₃)
    (h : sliceR σ₃ o j k = some (.inl v) ∧ σ₄ = σ₃ ∨ ∃ vs, sliceR σ₃ o j k = some (.inr vs) ∧ v = .ref σ₃.length ∧ σ₄ = σ₃ ++ [.list vs]) : SE X d ρ (.sl a lo hi) σ v σ₄ := by
  intro F A E s B loc e K hA hm I R Q hq
  obtain ⟨o, l, u, q, p, rfl, e1, e2, e3⟩ := m_sl hm
  refine sub_ok (M := model X.p X.w) (fun q0 q0 => .inr rfl) (h1 F A E s B loc o K hA e1 I R _ fun r1 s1 B1 loc1 g1 I1 R1 q1 => ?_)
  refine wpAny_Slice (so_ok h2 K hA e2 I1 R1 _ fun r2 s2 B2 loc2 g2 I2 R2 q2 => ?_)
  refine so_ok h3 K hA e3 I2 R2 _ fun r3 s3 B3 loc3 g3 I3 R3 q3 => wpAny_evalPart_none ?_
  obtain ⟨g4, I4, R4⟩ := I3.newImm K R3 (o := { cls := .type "slice", data := .fields #[r2, r3, .none] }) rfl (tk := s3.toks)
  have hs : (s3.heap.push { cls := .type "slice", data := .fields #[r2, r3, .none] }).IsSliceOf s3.heap.objs.size r2 r3 .none := ⟨_, Heap.get?_push_size _ rfl, rfl, rfl⟩
  have G := ((g1.trans g2).trans g3).trans g4
  rcases h with ⟨h, rfl⟩ | ⟨vs, h, rfl, rfl⟩
  · obtain ⟨z1, z2⟩ := sliceR_of h
    refine SubscriptOn.mono (slice_str_ok (s := { s3 with heap := s3.heap.push { cls := .type "slice", data := .fields #[r2, r3, .none] } }) z2 (q1.grow ((g2.trans g3).trans g4)) (q2.grow (g3.trans g4)) (q3.grow g4) hs (okLen_str z1)) fun r5 s5 z => (hq.after G).soft I4 R4 z.1 z.2
  · obtain ⟨z1, z2⟩ := sliceR_of h
    exact slice_list_ok (s := { s3 with heap := s3.heap.push { cls := .type "slice", data := .fields #[r2, r3, .none] } }) z2 I4 (q1.grow ((g2.trans g3).trans g4)) (q2.grow (g3.trans g4)) (q3.grow g4) hs (okLen_list z1) (okLen_lst z1)
      fun vals hv => (hq.after G).list (n := 0) (tk := s3.toks) I4 K R4 hv
theorem s_rev {a : ME} {o v : AV} {σ₄ : St} (h1 : SE X d ρ a σ o σ₁)
    (h : revR σ₁ o = some (.inl v) ∧ σ₄ = σ₁ ∨ ∃ vs, revR σ₁ o = some (.inr vs) ∧ v = .ref σ₁.length ∧ σ₄ = σ₁ ++ [.list vs]) : SE X d ρ (.sr a) σ v σ₄ := by
  intro F A E s B loc e K hA hm I R Q hq
  obtain ⟨o, n, p1, p2, p3, p, rfl, e1⟩ := m_sr hm
  refine sub_ok (M := model X.p X.w) (fun q0 q0 => by first | exact .inl rfl | exact .inr rfl) (h1 F A E s B loc o K hA e1 I R _ fun r1 s1 B1 loc1 g1 I1 R1 q1 => ?_)
  refine wpAny_Slice (wpAny_evalPart_none (wpAny_evalPart_none (wpAny_evalPart_some (wpAny_UnaryOp (wpAny_Constant_int (neg_int ?_))))))
  obtain ⟨g4, I4, R4⟩ := I1.newImm K R1 (o := { cls := .type "slice", data := .fields #[.none, .none, .int (-1) (s1.toks + 1)] }) rfl (tk := s1.toks + 2)
  have hs : (s1.heap.push { cls := .type "slice", data := .fields #[.none, .none, .int (-1) (s1.toks + 1)] }).IsSliceOf s1.heap.objs.size .none .none (.int (-1) (s1.toks + 1)) := ⟨_, Heap.get?_push_size _ rfl, rfl, rfl⟩
  have G := g1.trans g4
  rcases h with ⟨h, rfl⟩ | ⟨vs, h, rfl, rfl⟩
  · obtain ⟨z1, z2⟩ := revR_of h
    refine SubscriptOn.mono (rev_str_ok (s := { s1 with heap := s1.heap.push { cls := .type "slice", data := .fields #[.none, .none, .int (-1) (s1.toks + 1)] }, toks := s1.toks + 2 }) z2 (q1.grow g4) hs (okLen_str z1)) fun r5 s5 z => (hq.after G).soft I4 R4 z.1 z.2
  · obtain ⟨z1, z2⟩ := revR_of h
    exact rev_list_ok (s := { s1 with heap := s1.heap.push { cls := .type "slice", data := .fields #[.none, .none, .int (-1) (s1.toks + 1)] }, toks := s1.toks + 2 }) z2 I4 (q1.grow g4) hs (okLen_list z1)
      fun vals hv => (hq.after G).list (n := 0) (tk := s1.toks + 2) I4 K R4 hv
end
end Mine
end

section
set_option compiler.extract_closed false
open PySem PySem.W PyProof.Rows PySem.Calls
set_option Elab.async false
set_option maxRecDepth 100000
set_option tactic.hygienic false
set_option linter.all false
namespace Mine
section
set_option compiler.extract_closed false
variable {X : Cx} {F : Fm} {ρ : Loc} {B : Part} {loc : List Addr} {σ σ₁ σ₂ σ₃ : St} {s s' : Shared} {A : Around} {E : Value → Shared → Prop} {d : Nat}

theorem FrOK.memB (K : F.Ok) (R : FrOK X F ρ B loc s.heap) {a : Addr} (z : F.mem a) : B a = none ∧ a ∉ loc := by
  rcases z with rfl | ⟨ho, n, hc⟩
  · exact ⟨R.LB, R.Ll⟩
  · exact ⟨(R.cown ho n a hc).1, (R.cown ho n a hc).2.1⟩
theorem dull_dict {o : Obj} {es ep} (h : o.data = .dict es ep) : Dull o := ⟨fun q0 q0 e => (by rw [h] at e; first | exact none_k e | exact false_k e | exact some_k e | exact true_k e | cases e), fun e => (by rw [h] at e; first | exact none_k e | exact false_k e | exact some_k e | exact true_k e | cases e)⟩
theorem FrOK.memDull (K : F.Ok) (R : FrOK X F ρ B loc s.heap) {a : Addr} (z : F.mem a) : ∃ o, s.heap.get? a = some o ∧ Dull o := by
  rcases z with rfl | ⟨ho, n, hc⟩
  · obtain ⟨m, ⟨o, es, ep, h1, h2, _⟩, _⟩ := R.ns
    exact ⟨o, h1, dull_dict h2⟩
  · obtain ⟨i, h1, h2⟩ := K.cellsNm n a hc
    obtain ⟨ov, ⟨o, h3, h4⟩, _⟩ := R.cl i n a h1 h2 hc
    refine ⟨o, h3, ?_⟩
    constructor
    · intro xs k e; simp_all
    · intro e; simp_all
theorem Inv.noBase (I : Inv X B loc σ s) {a : Addr} (h : B a = none) : X.h₀.get? a = none := by
  cases e : X.h₀.get? a with
  | none => rfl
  | some o => rw [I.base a o e] at h; first | exact none_k h | exact false_k h | exact some_k h | exact true_k h | obtain rfl := IsV.bool_i h | obtain rfl := IsV.none_i h | cases h

theorem away (K : F.Ok) (I : Inv X B loc σ s) (R : FrOK X F ρ B loc s.heap) : ∃ B₁, Ext B B₁ ∧ Inv X B₁ loc σ s ∧ (∀ a, F.mem a → ∃ o, B₁ a = some o) ∧ (∀ a, ¬ F.mem a → B₁ a = B a) ∧ ∀ B' loc' σ' s', Grow B₁ loc B' loc' → Inv X B' loc' σ' s' →
    ∃ B'', Grow B loc B'' loc' ∧ Inv X B'' loc' σ' s' ∧ FrOK X F ρ B'' loc' s'.heap ∧ (∀ a, B' a = none → B'' a = none) ∧ ∀ v x, IsV X.ca B' loc' v x → IsV X.ca B'' loc' v x := by
  have hz : ∀ a, F.mem a → B a = none := fun a z => (R.memB K z).1
  refine ⟨frz F.mem s.heap B, I.frz_ext, I.freeze fun a z => (R.memB K z).2, fun a z => ?_, fun a z => frz_out z, fun B' loc' σ' s' g I' => ?_⟩
  · obtain ⟨o, ho, _⟩ := R.memDull K z
    exact ⟨o, by rw [frz_in z]; exact ho⟩
  · have hd := Inv.dull (s := s) (Z := F.mem) g fun a z => R.memDull K z
    have g' := Grow.back (s := s) hz g
    have still : ∀ a, F.mem a → s'.heap.get? a = s.heap.get? a := fun a z => by
      obtain ⟨o, ho, _⟩ := R.memDull K z
      exact (I'.still g z ho).trans ho.symm
    have out : ∀ a, F.mem a → a ∉ loc' := fun a z h => by
      obtain ⟨o, ho, _⟩ := R.memDull K z
      have := g.ext a o (by rw [frz_in z]; exact ho)
      rw [I'.free a h] at this; first | exact none_k this | exact false_k this | exact some_k this | exact true_k this | obtain rfl := IsV.bool_i this | obtain rfl := IsV.none_i this | cases this
    refine ⟨thw F.mem B', g', I'.thaw hd fun a z => I.noBase (hz a z), ?_, fun a e => ?_, fun v x h => h.thaw hd⟩
    rotate_left
    · by_cases z : F.mem a
      · exact thw_in z
      · rw [thw_out z]; exact e
    refine R.grow g' (still _ (.inl rfl)) (fun n c hc => ?_) (thw_in (.inl rfl)) (out _ (.inl rfl)) fun ho n c hc => ⟨thw_in (.inr ⟨ho, n, hc⟩), out _ (.inr ⟨ho, n, hc⟩)⟩
    cases hown : F.own with
    | true => exact still c (.inr ⟨hown, n, hc⟩)
    | false =>
      obtain ⟨o, ho⟩ := R.cfrz hown n c hc
      have := I'.sub c o (g.ext c o (I.frz_ext c o ho))
      exact this.trans (I.sub c o ho).symm

noncomputable def One (it a : Addr) : Prop := a = it
theorem One.rfl {it : Addr} : One it it := Eq.refl it
theorem held (K : F.Ok) (I : Inv X B loc σ s) (R : FrOK X F ρ B loc s.heap) {it : Addr} {o : Obj} (hB : B it = none) (hl : it ∉ loc) (hL : it ≠ F.env.locals) (hC : F.own = true → ∀ n, F.env.cells.lookup n ≠ some it) (ho : s.heap.get? it = some o) (hd : Dull o) :
    ∃ B₁, Ext B B₁ ∧ Inv X B₁ loc σ s ∧ FrOK X F ρ B₁ loc s.heap ∧ ∀ B' loc' σ' s' ρ', Grow B₁ loc B' loc' → Inv X B' loc' σ' s' → FrOK X F ρ' B' loc' s'.heap →
    ∃ B'', Grow B loc B'' loc' ∧ Inv X B'' loc' σ' s' ∧ FrOK X F ρ' B'' loc' s'.heap ∧ s'.heap.get? it = some o ∧ B'' it = none ∧ it ∉ loc' ∧ ∀ v x, IsV X.ca B' loc' v x → IsV X.ca B'' loc' v x := by
  have I₁ := I.freeze (Z := One it) fun a e => (show a = it from e) ▸ hl
  refine ⟨frz (One it) s.heap B, I.frz_ext, I₁, ?_, fun B' loc' σ' s' ρ' g I' R' => ?_⟩
  · refine R.grow ⟨I.frz_ext, .refl _⟩ rfl (fun q0 q0 q0 => rfl) (by rw [frz_out (Z := One it) (Ne.symm hL)]; exact R.LB) R.Ll fun hown n c hc => ⟨?_, (R.cown hown n c hc).2.1⟩
    rw [frz_out (Z := One it) fun e => hC hown n ((show c = it from e) ▸ hc)]; exact (R.cown hown n c hc).1
  · have hd' := Inv.dull (s := s) (Z := One it) g fun a z => ⟨o, (show a = it from z) ▸ ho, hd⟩
    have g' := Grow.back (s := s) (Z := One it) (fun a z => (show a = it from z) ▸ hB) g
    have hit : B' it = some o := g.ext it o (by rw [frz_in One.rfl]; exact ho)
    refine ⟨thw (One it) B', g', I'.thaw hd' fun a z => I.noBase ((show a = it from z) ▸ hB), ?_, I'.sub it o hit, thw_in One.rfl, fun h => (by rw [I'.free it h] at hit; first | exact none_k hit | exact false_k hit | exact some_k hit | exact true_k hit | cases hit), fun v x h => h.thaw hd'⟩
    refine ⟨R'.len, ?_, by rw [thw_out (Z := One it) (Ne.symm hL)]; exact R'.LB, R'.Ll, ?_, fun hown n c hc => ?_, fun hown n c hc => ?_⟩
    · obtain ⟨m, hm, x⟩ := R'.ns
      exact ⟨m, hm, fun i n av a b c => let ⟨v, e1, e2⟩ := x i n av a b c; ⟨v, e1, e2.thaw hd'⟩⟩
    · intro i n c a b e
      obtain ⟨ov, hc, x⟩ := R'.cl i n c a b e
      exact ⟨ov, hc, fun av q => let ⟨v, e1, e2⟩ := x av q; ⟨v, e1, e2.thaw hd'⟩⟩
    · obtain ⟨c1, c2, c3⟩ := R'.cown hown n c hc
      refine ⟨?_, c2, c3⟩
      rw [thw_out (Z := One it) fun e => hC hown n ((show c = it from e) ▸ hc)]; exact c1
    · obtain ⟨x, hx⟩ := R.cfrz hown n c hc
      have : c ≠ it := fun e => by rw [e, hB] at hx; first | exact none_k hx | exact false_k hx | exact some_k hx | exact true_k hx | obtain rfl := IsV.bool_i hx | obtain rfl := IsV.none_i hx | cases hx
      exact ⟨x, by rw [thw_out (Z := One it) this]; exact g.ext c x (I.frz_ext c x hx)⟩

theorem Inv.other (K : F.Ok) (I : Inv X B loc σ s) (R : FrOK X F ρ B loc s.heap) {a : Addr} {h' : Heap} {tk : Nat} (hB : B a = none) (hl : a ∉ loc) (hL : a ≠ F.env.locals) (hC : F.own = true → ∀ n, F.env.cells.lookup n ≠ some a) (hs : Heap.SameBut a s.heap h') :
    Inv X B loc σ { s with heap := h', toks := tk } ∧ FrOK X F ρ B loc h' := by
  refine ⟨⟨fun b o e => (hs.2 b fun q => by rw [q, hB] at e; first | exact none_k e | exact false_k e | exact some_k e | exact true_k e | cases e).trans (I.sub b o e), I.base, I.len, fun i b ao h1 h2 => ?_, I.free, I.nodup, I.gens, I.os, I.two, I.low⟩, ?_⟩
  · exact (I.obj i b ao h1 h2).mono (.refl B) (.refl loc) (hs.2 b fun q => hl (q ▸ List.mem_of_getElem? h1))
  · refine R.grow (.refl _ _) (hs.2 _ (Ne.symm hL)) (fun n c hc => hs.2 _ fun q => ?_) R.LB R.Ll fun hown n c hc => ⟨(R.cown hown n c hc).1, (R.cown hown n c hc).2.1⟩
    subst q
    cases hown : F.own with
    | true => exact hC hown n hc
    | false =>
      obtain ⟨x, hx⟩ := R.cfrz hown n c hc
      rw [hB] at hx; first | exact none_k hx | exact false_k hx | exact some_k hx | exact true_k hx | obtain rfl := IsV.bool_i hx | obtain rfl := IsV.none_i hx | cases hx
end

structure CallOk (d : Nat) (A : Around) : Prop where
  h : A.handled = none
  dep : A.depth + 4 * d + 8 < recursionLimit
  un : A.units + 20 * d + 40 < cLine
theorem AOk.call {d : Nat} {A : Around} (h : AOk d A) : CallOk d A := ⟨h.h, by have := h.dep; lia, by have := h.un; lia⟩
theorem AOk.made {d : Nat} {A : Around} (h : AOk d A) (C : Addr) (vals : List Value) (kw : List (Str × Value)) : CallOk d (A.under (.builtin "type.__call__" ⟨.ref C :: vals, kw⟩)) :=
  ⟨h.h, by have := h.dep; show A.depth + 1 + 4 * d + 8 < _; lia, by have := h.un; show A.units + 1 + 20 * d + 40 < _; lia⟩
noncomputable def SC (X : Cx) (d : Nat) (f : Nat) (args : List AV) (σ : St) (v : AV) (σ' : St) : Prop :=
  ∀ (A : Around) (s : Shared) (B : Part) (loc : List Addr) (vals : List Value), CallOk d A → Inv X B loc σ s → IsVs X.ca B loc vals args →
    ∀ R : Result → Shared → Prop, (∀ (r : Value) (s' : Shared) (B' : Part) (loc' : List Addr), Grow B loc B' loc' → Inv X B' loc' σ' s' → IsV X.ca B' loc' r v → R (.ok (.ret r)) s') →
      codeAny (model X.p X.w) A (.call (.ref (X.fa f)) ⟨vals, []⟩) R s

noncomputable def FlR (ca : Nat → Addr) (B : Part) (loc : List Addr) : Fl → Flow → Prop
  | .next, .next => True
  | .brk, .brk => True
  | .cont, .cont => True
  | .ret v, .ret r => IsV ca B loc r v
  | _, _ => False
end Mine
end

section
set_option compiler.extract_closed false
open PySem PySem.W PyProof.Rows PySem.Calls
set_option Elab.async false
set_option maxRecDepth 100000
set_option tactic.hygienic false
set_option linter.all false
namespace Mine

theorem lookup_zip_isSome : ∀ {names : List Str} {vals : List Value} {n : Str}, n ∈ names → names.length = vals.length → ((names.zip vals).lookup n).isSome = true
  | [], _, _, h, _ => by first | exact none_k h | exact false_k h | exact some_k h | exact true_k h | obtain rfl := IsV.bool_i h | obtain rfl := IsV.none_i h | cases h
  | m :: r, [], _, _, hl => by simp at hl
  | m :: r, v :: vs, n, h, hl => by
    rw [List.zip_cons_cons, List.lookup_cons]
    by_cases e : n = m
    · simp [e]
    · have e1 : (n == m) = false := by rw [beq_eq_false_iff_ne]; exact e
      rw [e1]
      exact lookup_zip_isSome (by rcases List.mem_cons.mp h with h | h; exact absurd h e; exact h) (by simpa using hl)
theorem filterMap_same {α β : Type} {f g : α → Option β} : ∀ {l : List α}, (∀ x ∈ l, f x = g x) → l.filterMap f = l.filterMap g
  | [], _ => rfl
  | x :: r, h => by rw [List.filterMap_cons, List.filterMap_cons, h x List.mem_cons_self, filterMap_same fun y hy => h y (List.mem_cons_of_mem _ hy)]
theorem filterMap_zip : ∀ {names : List Str} {vals : List Value}, names.length = vals.length → names.Nodup → names.filterMap (fun n => ((names.zip vals).lookup n).map (n, ·)) = names.zip vals
  | [], vals, hl, _ => by simp
  | m :: r, [], hl, _ => by simp at hl
  | m :: r, v :: vs, hl, nd => by
    have nd' := List.nodup_cons.mp nd
    rw [List.filterMap_cons]
    simp only [List.zip_cons_cons, List.lookup_cons, beq_self_eq_true, Option.map_some]
    congr 1
    have ih := filterMap_zip (names := r) (vals := vs) (by simpa using hl) nd'.2
    refine Eq.trans (filterMap_same fun n hn => ?_) ih
    have e1 : (n == m) = false := by rw [beq_eq_false_iff_ne]; intro e; exact nd'.1 (e ▸ hn)
    rw [e1]

theorem bindArgs_at {nm qn : Str} {as : List Arg} {kd : List (Option Expr)} {df : List Expr} {body : FuncBody} {sc : Scope} {gl : Addr} {cl : List (Str × Addr)} {kwd doc pm : Value} {an : Option Addr} {cd ct : Value} {bi : Addr} {names : List Str} {vals : List Value}
    (hn : as.map (·.arg) = names) (hl : names.length = vals.length) (nd : names.Nodup) : bindArgs ⟨nm, qn, ⟨[], as, none, [], kd, none, df⟩, body, sc, gl, cl, .none, kwd, doc, pm, an, cd, ct, bi⟩ ⟨vals, []⟩ = pure (names.zip vals) := by
  subst hn
  have c2 : ∀ k, (List.filter (fun n => (((as.map (·.arg)).zip vals).lookup n).isNone) ((as.map (·.arg)).take k)) = [] := fun k => by
    rw [List.filter_eq_nil_iff]
    intro n hn
    have := lookup_zip_isSome (List.mem_of_mem_take hn) hl
    rw [Option.isNone_iff_eq_none]
    intro e
    rw [e] at this; exact false_k this
  refine Eq.trans (if_neg (c := (decide (vals.length > (as.map (·.arg)).length) && true) = true) (by rw [hl, Bool.and_true, decide_eq_true_eq]; exact Nat.lt_irrefl _)) ?_
  refine Eq.trans (if_neg (fun h => ?_)) ?_
  · have e : (List.filter (fun n => (((as.map (·.arg)).zip vals).lookup n).isNone) ((as.map (·.arg)).take ((as.map (·.arg)).length - (List.drop (0 - (as.map (·.arg)).length) ([] : List Value)).length))).isEmpty = false := bNot1 h
    rw [c2] at e
    exact true_k e
  rw [List.drop_eq_nil_of_le (as := ((none : Option (Array Value)).getD #[]).toList) (Nat.zero_le _), List.zip_nil_right]
  exact congrArg (pure (f := Sem)) ((congrArg (List.filterMap _) (List.append_nil _)).trans (filterMap_zip hl nd))
theorem bindArgs_plain {fd : FuncData} {names : List Str} {vals : List Value} (h1 : fd.params.posonlyargs = []) (h2 : fd.params.vararg = none) (h3 : fd.params.kwonlyargs = []) (h4 : fd.params.kwarg = none) (h5 : fd.defaults = .none)
    (hn : fd.params.args.map (·.arg) = names) (hl : names.length = vals.length) (nd : names.Nodup) : bindArgs fd ⟨vals, []⟩ = pure (names.zip vals) := by
  obtain ⟨nm, qn, ⟨a1, as, a3, a4, a5, a6, a7⟩, body, sc, gl, cl, d, kwd, doc, pm, an, cd, ct, bi⟩ := fd
  have h1 : a1 = [] := h1
  have h2 : a3 = none := h2
  have h3 : a4 = [] := h3
  have h4 : a6 = none := h4
  have h5 : d = .none := h5
  rw [h1, h2, h3, h4, h5]
  exact bindArgs_at hn hl nd

section
set_option compiler.extract_closed false
variable {kindOf : Str → Option NameKind}
theorem bindL_out : ∀ (binds : List (Str × Value)) (m : Str → Option Value) (n : Str), n ∉ binds.map (·.1) → bindL kindOf binds m n = m n
  | [], m, n, _ => rfl
  | (k, v) :: r, m, n, h => by
    unfold bindL
    rw [bindL_out r _ n fun q => h (by simp at q ⊢; exact .inr q)]
    split
    · have : n ≠ k := fun e => h (by simp [e])
      simp [this]
    · rfl
theorem bindL_in : ∀ (binds : List (Str × Value)) (m : Str → Option Value) (n : Str) (v : Value), (binds.map (·.1)).Nodup → (n, v) ∈ binds → kindOf n = some .local → bindL kindOf binds m n = some v
  | (k, w) :: r, m, n, v, nd, h, hk => by
    have nd' := List.nodup_cons.mp nd
    unfold bindL
    rcases List.mem_cons.mp h with h | h
    · first | exact none_k h | exact false_k h | exact some_k h | exact true_k h | obtain rfl := IsV.bool_i h | obtain rfl := IsV.none_i h | cases h
      rw [bindL_out r _ k nd'.1, hk]
      simp
    · exact bindL_in r _ n v nd'.2 h hk
theorem bindC_out : ∀ (binds : List (Str × Value)) (m : Str → Option Value) (n : Str), n ∉ binds.map (·.1) → bindC kindOf binds m n = m n
  | [], m, n, _ => rfl
  | (k, v) :: r, m, n, h => by
    unfold bindC
    rw [bindC_out r _ n fun q => h (by simp at q ⊢; exact .inr q)]
    split
    · rfl
    · have : n ≠ k := fun e => h (by simp [e])
      simp [this]
theorem bindC_in : ∀ (binds : List (Str × Value)) (m : Str → Option Value) (n : Str) (v : Value), (binds.map (·.1)).Nodup → (n, v) ∈ binds → kindOf n = some .cell → bindC kindOf binds m n = some v
  | (k, w) :: r, m, n, v, nd, h, hk => by
    have nd' := List.nodup_cons.mp nd
    unfold bindC
    rcases List.mem_cons.mp h with h | h
    · first | exact none_k h | exact false_k h | exact some_k h | exact true_k h | obtain rfl := IsV.bool_i h | obtain rfl := IsV.none_i h | cases h
      rw [bindC_out r _ k nd'.1, hk]
      simp
    · exact bindC_in r _ n v nd'.2 h hk
end

set_option tactic.hygienic true in
theorem lookup_mem {α : Type} {n : Str} {c : α} : ∀ {l : List (Str × α)}, l.lookup n = some c → (n, c) ∈ l
  | [], h => by first | exact none_k h | exact false_k h | exact some_k h | exact true_k h | obtain rfl := IsV.bool_i h | obtain rfl := IsV.none_i h | cases h
  | (k, x) :: r, h => by
    rw [List.lookup_cons] at h
    split at h
    · rename_i e; first | exact none_k h | exact false_k h | exact some_k h | exact true_k h | cases h; rw [eq_of_beq e]; exact List.mem_cons_self
    · exact List.mem_cons_of_mem _ (lookup_mem h)
theorem mem_lookup {α : Type} {n : Str} {c : α} : ∀ {l : List (Str × α)}, (l.map (·.1)).Nodup → (n, c) ∈ l → l.lookup n = some c
  | (k, x) :: r, nd, h => by
    have nd' := List.nodup_cons.mp nd
    rw [List.lookup_cons]
    rcases List.mem_cons.mp h with h2 | h2
    · first | exact none_k h2 | exact false_k h2 | exact some_k h2 | exact true_k h2 | cases h2; simp
    · have hk : n ∈ r.map (·.1) := List.mem_map_of_mem (f := (·.1)) h2
      have : (n == k) = false := by rw [beq_eq_false_iff_ne]; intro e; exact nd'.1 (e ▸ hk)
      rw [this]
      exact mem_lookup nd'.2 h2
set_option tactic.hygienic true in
theorem cellsFrom_mem : ∀ (names : List (Str × NameKind)) (k : Nat) (acc : List (Str × Addr)) (n : Str) (c : Addr), (n, c) ∈ cellsFrom k names acc → (n, NameKind.cell) ∈ names ∨ (n, c) ∈ acc
  | [], k, acc, n, c, h => .inr h
  | (m, kd) :: r, k, acc, n, c, h => by
    unfold cellsFrom at h
    split at h
    · rename_i e
      rw [beq_iff_eq] at e
      subst e
      rcases cellsFrom_mem r _ _ n c h with q | q
      · exact .inl (List.mem_cons_of_mem _ q)
      · rcases List.mem_cons.mp q with q | q
        · first | exact none_k q | exact false_k q | exact some_k q | exact true_k q | cases q; exact .inl List.mem_cons_self
        · exact .inr q
    · rcases cellsFrom_mem r _ _ n c h with q | q
      · exact .inl (List.mem_cons_of_mem _ q)
      · exact .inr q
theorem apart_inj {cs : List (Str × Addr)} (h : List.Pairwise (fun x y : Str × Addr => x.2 ≠ y.2) cs) {n n' : Str} {c : Addr} (h1 : (n, c) ∈ cs) (h2 : (n', c) ∈ cs) : n = n' := by
  obtain ⟨i, hi, e1⟩ := List.mem_iff_getElem.mp h1
  obtain ⟨j, hj, e2⟩ := List.mem_iff_getElem.mp h2
  rcases Nat.lt_trichotomy i j with q | q | q
  · have := List.pairwise_iff_getElem.mp h i j hi hj q
    rw [e1, e2] at this; exact absurd rfl this
  · subst q; rw [e1] at e2; exact (Prod.mk.inj e2).1
  · have := List.pairwise_iff_getElem.mp h j i hj hi q
    rw [e1, e2] at this; exact absurd rfl this

theorem CallOk.deeper {d : Nat} {A : Around} (h : CallOk (d + 1) A) (env : Env) : AOk d (A.deeper env) :=
  ⟨h.h, by have := h.dep; show A.depth + 1 + 4 * d + 10 < _; lia, by have := h.un; show A.units + 3 + 20 * d + 50 < _; lia⟩
theorem AOk.in1 {d : Nat} {A : Around} (h : AOk d A) (k : A.units + 1 + 20 * d + 50 < cLine) : AOk d A.in1 := ⟨h.h, h.dep, k⟩

structure FdOk (fd : FnDef) (locs : List Str) (params : Arguments) (body : List Stmt) (sc : Scope) : Prop where
  p1 : params.posonlyargs = []
  p2 : params.vararg = none
  p3 : params.kwonlyargs = []
  p4 : params.kwarg = none
  args : params.args.map (·.arg) = locs.take fd.np
  len : locs.length = fd.nl
  le : fd.np ≤ fd.nl
  nd : locs.Nodup
  kind : sc.kind = .function
  gen : sc.isGenerator = false
  co : sc.isCoroutine = false
  loc : ∀ n ∈ locs, sc.names.lookup n = some .local ∨ sc.names.lookup n = some .cell
  names : (sc.names.map (·.1)).Nodup
  cells : ∀ n, (n, NameKind.cell) ∈ sc.names → n ∈ locs
  body : matchB ⟨locs, sc⟩ fd.body body = true
theorem fdOk {fd : FnDef} {locs : List Str} {params : Arguments} {body : List Stmt} {sc : Scope} (h : matchF fd locs params body sc = true) : FdOk fd locs params body sc := by
  unfold matchF at h
  simp only [Bool.and_eq_true, List.isEmpty_iff, Option.isNone_iff_eq_none, beq_iff_eq, decide_eq_true_eq, Bool.not_eq_true', List.all_eq_true, Bool.or_eq_true, bne_iff_ne, List.contains_iff_mem] at h
  obtain ⟨⟨⟨⟨⟨⟨⟨⟨⟨⟨⟨⟨⟨⟨⟨⟨h1, h2⟩, h3⟩, h4⟩, h5⟩, h6⟩, h7⟩, h8⟩, h9⟩, h10⟩, h11⟩, h12⟩, h13⟩, h14⟩, h15⟩, h16⟩, h17⟩ := h
  exact ⟨h1, h2, h3, h4, h7, h8, h9, h10, h11, h12, h13, h14, h15, fun n hn => by
    have := (h16 _ hn).2
    rcases this with q | q
    · exact absurd rfl q
    · exact q, h17⟩
end Mine
end

section
set_option compiler.extract_closed false
open PySem PySem.W PyProof.Rows PySem.Calls
set_option Elab.async false
set_option maxRecDepth 100000
set_option tactic.hygienic false
set_option linter.all false
namespace Mine

noncomputable def SB (X : Cx) (d : Nat) (ρ : Loc) (x : List MS) (σ : St) (fl : Fl) (ρ' : Loc) (σ' : St) : Prop :=
  ∀ (F : Fm) (A : Around) (E : Value → Shared → Prop) (s : Shared) (B : Part) (loc : List Addr) (l : List Stmt), F.Ok → F.own = true → AOk d A → matchB F.sg x l = true → Inv X B loc σ s → FrOK X F ρ B loc s.heap →
    ∀ Q : Flow → Shared → Prop, Thn X F ρ' B loc σ' (fun B' loc' r => FlR X.ca B' loc' fl r) Q → wpAny (model X.p X.w) A (execs l F.env) Q E s
noncomputable def SS (X : Cx) (d : Nat) (ρ : Loc) (x : MS) (σ : St) (fl : Fl) (ρ' : Loc) (σ' : St) : Prop :=
  ∀ (F : Fm) (A : Around) (E : Value → Shared → Prop) (s : Shared) (B : Part) (loc : List Addr) (l : Stmt), F.Ok → F.own = true → AOk d A → matchS F.sg x l = true → Inv X B loc σ s → FrOK X F ρ B loc s.heap →
    ∀ Q : Flow → Shared → Prop, Thn X F ρ' B loc σ' (fun B' loc' r => FlR X.ca B' loc' fl r) Q → wpAny (model X.p X.w) A (exec l F.env) Q E s

section
set_option compiler.extract_closed false
variable {X : Cx} {F : Fm} {ρ ρ' : Loc} {B : Part} {loc : List Addr} {σ σ' σ₁ σ₂ σ₃ : St} {s s' : Shared} {A : Around} {E : Value → Shared → Prop} {d : Nat}

theorem initLoc_get {fd : FnDef} {args : List AV} {i : Nat} {av : AV} (h : (initLoc fd args)[i]? = some (some av)) : args[i]? = some av := by
  unfold initLoc at h
  by_cases hi : i < args.length
  · rw [List.getElem?_append_left (by simpa using hi), List.getElem?_map] at h
    cases e : args[i]? with
    | none => rw [e] at h; first | exact none_k h | exact false_k h | exact some_k h | exact true_k h | obtain rfl := IsV.bool_i h | obtain rfl := IsV.none_i h | cases h
    | some x => rw [e] at h; simp at h; rw [h]
  · rw [List.getElem?_append_right (by simpa using Nat.le_of_not_lt hi), List.getElem?_replicate] at h
    split at h <;> first | exact none_k h | exact false_k h | exact some_k h | exact true_k h | obtain rfl := IsV.bool_i h | obtain rfl := IsV.none_i h | cases h
theorem zip_get : ∀ {names : List Str} {vals : List Value} {i : Nat} {n : Str} {v : Value}, names[i]? = some n → vals[i]? = some v → (n, v) ∈ names.zip vals
  | [], _, _, _, _, h, _ => by simp at h
  | m :: r, [], _, _, _, _, h => by simp at h
  | m :: r, w :: ws, 0, n, v, h1, h2 => by simp at h1 h2; subst h1 h2; simp
  | m :: r, w :: ws, i + 1, n, v, h1, h2 => by
    simp at h1 h2
    rw [List.zip_cons_cons]
    exact List.mem_cons_of_mem _ (zip_get h1 h2)
theorem zip_fst : ∀ {names : List Str} {vals : List Value}, names.length = vals.length → (names.zip vals).map (·.1) = names
  | [], _, _ => by simp
  | m :: r, [], h => by simp at h
  | m :: r, w :: ws, h => by simp; exact zip_fst (by simpa using h)

theorem s_call (H : CxOk X) {f : Nat} {fd : FnDef} {args : List AV} {fl : Fl} (hf : prog.fn f = some fd) (hl : args.length = fd.np) (hb : SB X d (initLoc fd args) fd.body σ fl ρ' σ') : SC X (d + 1) f args σ (flOf fl) σ' := by
  intro A s B loc vals hA I hv R hq
  obtain ⟨oc, od, osl, name, qual, params, body, sc, doc, pm, an, cdv, ct, locs, hK, hcd, hlocs, hm, hkeep⟩ := H.fnK f fd hf
  have Z := fdOk hm
  have hget : s.heap.get? (X.fa f) = some ⟨oc, od, .func (fnOf name qual params body sc .none .none doc pm an cdv ct), osl⟩ := I.kin H _ _ hK
  have hvl : (locs.take fd.np).length = vals.length := by rw [List.length_take, hv.length, hl, Z.len]; have := Z.le; lia
  have hnd : (locs.take fd.np).Nodup := Z.nd.sublist (List.take_sublist _ _)
  have hnames : ((locs.take fd.np).zip vals).map (·.1) = locs.take fd.np := zip_fst hvl
  have hkn : ∀ x ∈ (locs.take fd.np).zip vals, x.1 ∈ locs := fun x hx => List.mem_of_mem_take (by rw [← hnames]; exact List.mem_map_of_mem (f := (·.1)) hx)
  refine codeAny_call_cells (fd := fnOf name qual params body sc .none .none doc pm an cdv ct) (body := body) (binds := (locs.take fd.np).zip vals) (by have := hA.dep; lia) hget rfl (H.nolimit.keeps I.keeps0) (codeRec_of (I.kin H) hcd) rfl
    (bindArgs_plain Z.p1 Z.p2 Z.p3 Z.p4 rfl Z.args hvl hnd) rfl (fun x hx => ?_) (fun s₁ W => ?_) Z.co Z.gen Z.kind
  · rcases Z.loc x.1 (hkn x hx) with q | q
    · exact .inl q
    · exact .inr ⟨q, cellsFrom_some _ _ _ (.inl q)⟩
  · obtain ⟨⟨⟨hh, tk, hs⟩, W2, W3, W4⟩, W5, W6, W7⟩ := W
    have I₁ : Inv X B loc σ s₁ := I.keep W3 (by rw [hs]) (by rw [hs])
    obtain ⟨f1, f2⟩ := I.fresh
    let F' : Fm := ⟨⟨locs, sc⟩, true, callEnvC (fnOf name qual params body sc .none .none doc pm an cdv ct) s.heap.objs.size (X.fa f)⟩
    have hcell : ∀ (n : Str) (c : Addr), F'.env.cells.lookup n = some c → sc.names.lookup n = some .cell ∧ ∃ i : Nat, locs[i]? = some n := fun n c hc => by
      have h1 := lookup_mem hc
      rcases cellsFrom_mem _ _ _ _ _ h1 with q | q
      · refine ⟨mem_lookup Z.names q, ?_⟩
        obtain ⟨i, hi, e⟩ := List.mem_iff_getElem.mp (Z.cells n q)
        exact ⟨i, by rw [List.getElem?_eq_getElem hi, e]⟩
      · first | exact none_k q | exact false_k q | exact some_k q | exact true_k q | obtain rfl := IsV.bool_i q | obtain rfl := IsV.none_i q | cases q
    have K' : F'.Ok := by
      refine ⟨rfl, Z.kind, rfl, rfl, Z.nd, fun i n h => ?_, fun n c hc => ?_, fun n n' c h1 h2 => apart_inj W6 (lookup_mem h1) (lookup_mem h2)⟩
      · rcases Z.loc n (List.mem_of_getElem? h) with q | q
        · exact .inl q
        · exact .inr ⟨q, Option.isSome_iff_exists.mp (cellsFrom_some _ _ _ (.inl q))⟩
      · obtain ⟨q, i, e⟩ := hcell n c hc
        exact ⟨i, e, q⟩
    have hval : ∀ (i : Nat) (n : Str) (av : AV), locs[i]? = some n → (initLoc fd args)[i]? = some (some av) → ∃ v, (n, v) ∈ (locs.take fd.np).zip vals ∧ IsV X.ca B loc v av := fun i n av h1 h2 => by
      have h3 := initLoc_get h2
      obtain ⟨v, e1, e2⟩ := hv.get h3
      have hi : i < fd.np := by rw [← hl]; exact (List.getElem?_eq_some_iff.mp h3).1
      exact ⟨v, zip_get (by rw [List.getElem?_take, if_pos hi]; exact h1) e1, e2⟩
    have R' : FrOK X F' (initLoc fd args) B loc s₁.heap := by
      refine ⟨?_, ⟨_, W2, fun i n av h1 h2 h3 => ?_⟩, f1, f2, fun i n c h1 h2 h3 => ?_, fun q0 n c hc => ?_, fun h => (by first | exact none_k h | exact false_k h | exact some_k h | exact true_k h | cases h)⟩
      · show (args.map some ++ List.replicate (fd.nl - fd.np) none).length = locs.length
        rw [Z.len]; simp [hl]; have := Z.le; lia
      · obtain ⟨v, e1, e2⟩ := hval i n av h1 h3
        exact ⟨v, bindL_in _ _ _ _ (by rw [hnames]; exact hnd) e1 h2, e2⟩
      · refine ⟨_, W5 n c h3, fun av h4 => ?_⟩
        obtain ⟨v, e1, e2⟩ := hval i n av h1 h4
        exact ⟨v, bindC_in _ _ _ _ (by rw [hnames]; exact hnd) e1 h2, e2⟩
      · have hlt := W7 n c (lookup_mem hc)
        have hlt : s.heap.objs.size < c := hlt
        refine ⟨?_, fun h => ?_, Nat.ne_of_gt hlt⟩
        · cases e : B c with
          | none => rfl
          | some o => exact absurd (Heap.lt_size (I.sub _ _ e)) (Nat.lt_asymm hlt)
        · obtain ⟨o, ho⟩ := I.someAt h
          exact absurd (Heap.lt_size ho) (Nat.lt_asymm hlt)
    refine hb F' _ _ s₁ B loc body K' rfl (hA.deeper _) Z.body I₁ R' _ fun r s₂ B₂ loc₂ g₂ I₂ R₂ q₂ => ?_
    refine hq _ _ _ _ g₂ I₂ ?_
    cases fl <;> cases r <;> first | exact q₂.elim | exact .none | exact q₂
end
end Mine
end

section
set_option compiler.extract_closed false
open PySem PySem.W PyProof.Rows PySem.Calls
set_option Elab.async false
set_option maxRecDepth 100000
set_option tactic.hygienic false
set_option linter.all false
namespace Mine
section
set_option compiler.extract_closed false
variable {X : Cx} {F : Fm} {ρ ρ' : Loc} {B : Part} {loc : List Addr} {σ σ' σ₁ σ₂ σ₃ : St} {s s' : Shared} {A : Around} {E : Value → Shared → Prop} {d : Nat}

theorem plain_args {sg : Sg} {pos : Pos} {env : Env} : ∀ {es : List ME} {l : List Expr}, matchEs sg es l = true → (backTo pos (starEach l env)).any (·.1) = false
  | [], l, h => by obtain rfl := m_es0 h; rfl
  | e :: r, l, h => by
    obtain ⟨y, l', rfl, m1, m2⟩ := m_es1 h
    rw [star_one (m_star m1)]
    show (false || (backTo pos (starEach l' env)).any (·.1)) = false
    rw [plain_args m2]; rfl
theorem all_of_any {α : Type} {p : α → Bool} {l : List α} (h : l.any p = false) : l.all (fun x => !p x) = true := by
  rw [List.all_eq_true]; intro x hx
  have := List.any_eq_false.mp h x hx
  simp [this]
theorem args_ok {es : List ME} {vs : List AV} {l : List Expr} {pos : Pos} {f : Value} (h : SEs X d ρ es σ vs σ₁) (K : F.Ok) (hA : AOk d A) (hm : matchEs F.sg es l = true) (I : Inv X B loc σ s) (R : FrOK X F ρ B loc s.heap)
    {Q : Args → Shared → Prop} (hq : Thn X F ρ B loc σ₁ (fun B' loc' r => IsVs X.ca B' loc' r vs ∧ r.length = l.length) fun r s' => Q ⟨r, []⟩ s') : wpAny (model X.p X.w) A (evalArgs f true (backTo pos (starEach l F.env)) []) Q E s := by
  have h1 := h F A E s B loc l pos K hA hm I R _ hq
  cases l with
  | nil =>
    unfold evalArgs
    show wpAny _ _ (spliced [] >>= _) Q E s
    refine wpAny_bind (wpAny_mono h1 (fun vs s' h' => ?_) fun q0 q0 x => x)
    refine wpAny_bind (wpAny_pure ?_)
    refine wpAny_holding ?_
    exact wpAny_bind (wpAny_pure (wpAny_bind (wpAny_pure (wpAny_pure h'))))
  | cons y r =>
    cases es with
    | nil => simp [matchEs] at hm
    | cons e es' =>
      obtain ⟨y', l', e1, m1, m2⟩ := m_es1 hm
      first | exact none_k e1 | exact false_k e1 | exact some_k e1 | exact true_k e1 | obtain rfl := IsV.bool_i e1 | obtain rfl := IsV.none_i e1 | cases e1
      rw [star_one (m_star m1)] at h1 ⊢
      exact evalArgs_plain h1

theorem callee {f : Nat} {vs : List AV} {v : AV} (h : SC X d f vs σ v σ₁) (K : F.Ok) (hA : CallOk d A) (I : Inv X B loc σ s) (R : FrOK X F ρ B loc s.heap) {vals : List Value} (hv : IsVs X.ca B loc vals vs)
    {Q : Value → Shared → Prop} (hq : Thn X F ρ B loc σ₁ (fun B' loc' r => IsV X.ca B' loc' r v) Q) {R' : Result → Shared → Prop} (hR : ∀ r s', Q r s' → R' (.ok (.ret r)) s') :
    codeAny (model X.p X.w) A (.call (.ref (X.fa f)) ⟨vals, []⟩) R' s := by
  obtain ⟨B₁, e1, I₁, _, _, back⟩ := away K I R
  refine h A s B₁ loc vals hA I₁ (hv.mono e1 (.refl _)) R' fun r s' B' loc' g I' q => ?_
  obtain ⟨B'', g', I'', R'', _, q'⟩ := back B' loc' _ s' g I'
  exact hR r s' (hq r s' B'' loc' g' I'' R'' (q' _ _ q))

theorem s_cf (H : CxOk X) {f : Nat} {es : List ME} {vs : List AV} {v : AV} (hf : (prog.fn f).isSome = true) (h1 : SEs X d ρ es σ vs σ₁) (h2 : SC X d f vs σ₁ v σ₂) : SE X d ρ (.cf f es) σ v σ₂ := by
  intro F A E s B loc e K hA hm I R Q hq
  obtain ⟨n, np, l, p, rfl, e1, e2, e3, e4, e5⟩ := m_cf hm
  obtain ⟨fd, hfd⟩ := Option.isSome_iff_exists.mp hf
  obtain ⟨_, _, _, _, _, _, _, _, _, _, _, _, _, _, _, _, _, _, hkeep⟩ := H.fnK f fd hfd
  refine wpAny_Call_ofName (Fm.global H K I e2 (H.fnG f n e5 e1) ?_)
  refine callWith_of (P := X.K.In) (by show ((backTo p (starEach l F.env)).any (·.1) || false) = false; rw [plain_args e3]; rfl) (keeps_K hkeep) (args_ok h1 K hA e3 I R fun r s₁ B₁ loc₁ g₁ I₁ R₁ q₁ => ⟨I₁.kin H, ?_⟩)
  refine wpAny_call (callee h2 K hA.call I₁ R₁ q₁.1 (hq.after g₁) fun r s' z => z)

theorem InitBack_ok {x : Addr} {R : Result → Shared → Prop} {s' : Shared} (h : R (.ok (.ret (.ref x))) s') : InitBack x R (.ok (.ret .none)) s' := ⟨rfl, h⟩
theorem s_nw (H : CxOk X) {C f : Nat} {es : List ME} {vs : List AV} (hi : prog.init C = some f) (h1 : SEs X d ρ es σ vs σ₁) (h2 : SC X d f (.inst C σ₁.length :: vs) (σ₁ ++ [.flds []]) .none σ₂) : SE X d ρ (.nw C es) σ (.inst C σ₁.length) σ₂ := by
  intro F A E s B loc e K hA hm I R Q hq
  obtain ⟨n, np, l, p, rfl, e1, e2, e3, e4⟩ := m_nw hm
  obtain ⟨mk, fi, ft, kp⟩ := H.makes C f hi
  have hC : (prog.init C).isSome = true := by rw [hi]; rfl
  refine wpAny_Call_ofName (Fm.global H K I e2 (H.clsG C n hC e1) ?_)
  refine callWith_of (P := X.K.In) (by show ((backTo p (starEach l F.env)).any (·.1) || false) = false; rw [plain_args e3]; rfl) (keeps_K kp) (args_ok h1 K hA e3 I R fun r s₁ B₁ loc₁ g₁ I₁ R₁ q₁ => ⟨I₁.kin H, ?_⟩)
  refine wpAny_call ?_
  have XX := I₁.kin H
  obtain ⟨g2, I2, R2, hl⟩ := I₁.newMut K R₁ (o := emptyDict) (ao := .flds []) (tk := s₁.toks) rfl (.flds (des := []) (n := 0) (Heap.get?_push_size _ rfl) .nil)
  obtain ⟨g3, I3, R3⟩ := I2.newImm K R2 (o := instObj (X.ca C) s₁.heap.objs.size) rfl (tk := s₁.toks)
  have hsz : (s₁.heap.push emptyDict).objs.size = s₁.heap.objs.size + 1 := by simp [Heap.push]
  have G := (g₁.trans g2).trans g3
  have hx : IsV X.ca (addB B₁ (s₁.heap.push emptyDict).objs.size (instObj (X.ca C) s₁.heap.objs.size)) (loc₁ ++ [s₁.heap.objs.size]) (.ref (s₁.heap.objs.size + 1)) (.inst C σ₁.length) := by
    refine .inst (dx := s₁.heap.objs.size) ?_ hl hC
    rw [← hsz]; exact addB_self _ _ _
  have key := callee (A := A.under (.builtin "type.__call__" ⟨.ref (X.ca C) :: r, []⟩)) h2 K (hA.made (X.ca C) r []) I3 R3 (vals := .ref (s₁.heap.objs.size + 1) :: r) (.cons hx (q₁.1.grow (g2.trans g3)))
    (Q := fun r2 s' => r2 = .none ∧ Q (.ref (s₁.heap.objs.size + 1)) s')
    (fun r2 s' B' loc' g' I' R' q' => by
      first | exact none_k q' | exact false_k q' | exact some_k q' | exact true_k q' | cases q'
      exact ⟨rfl, hq _ _ _ _ (G.trans g') I' R' (hx.grow g')⟩)
    (R' := InitBack (s₁.heap.objs.size + 1) fun r s' => match r with | .ok (.ret v) => Q v s' | .ok _ => False | .error e => E e s') (fun r2 s' z => by obtain ⟨rfl, z⟩ := z; exact InitBack_ok z)
  obtain ⟨hh, gg, dd, tt, oo⟩ := s₁
  exact make_core (makes_of XX mk) (looks_findIn XX fi) (fun self => bind_fn XX self ft) (.inl (by rfl)) key

theorem FldsR.miss {ca : Nat → Addr} {n : Str} (hn : ∀ f, f < fieldNames.length → fieldNm f ≠ n) {des : List DictEntry} {es : List (Nat × AV)} (h : FldsR ca B loc des es) : getL n des = some none :=
  h.ind (P := fun des _ => getL n des = some none) rfl fun {_ t g _ _ _} k hg hv r ih => by
    unfold getL at ih ⊢
    have q : (Value.str (fieldNm g) t).isStr n = false := by
      show (fieldNm g == n) = false
      rw [beq_eq_false_iff_ne]; exact hn g hg
    rw [List.find?_cons, k, q]
    have nr : DictEntry.refKey ‹_› = false := (by unfold DictEntry.refKey; rw [k])
    rw [List.any_cons, nr, Bool.false_or]
    exact ih
theorem meth_field0 : ∀ f : Fin 18, ∀ m : Fin 18, fieldNm f.1 ≠ methNames.getD m.1 "" := by decide +kernel
theorem meth_len : methNames.length = 18 := by decide +kernel
theorem meth_field {m : Nat} {n : Str} (h : methNames[m]? = some n) : ∀ f, f < fieldNames.length → fieldNm f ≠ n := fun f hf => by
  have hm := (List.getElem?_eq_some_iff.mp h).1
  have := meth_field0 ⟨f, field_len ▸ hf⟩ ⟨m, meth_len ▸ hm⟩
  simp only [List.getD_eq_getElem?_getD, h, Option.getD_some] at this
  exact this

theorem form_ok {sg : Sg} {es : List ME} {l : List Expr} {pos : Pos} {env : Env} {k : Nat} (h : matchEs sg es l = true) (hk : k ≤ 20) : methodCallForm k (backTo pos (starEach l env)) [] = true := by
  unfold methodCallForm
  have := all_of_any (plain_args (pos := pos) (env := env) h)
  rw [this]
  simp; lia
set_option tactic.hygienic true in
theorem s_mc (H : CxOk X) {a : ME} {m f C i : Nat} {es : List ME} {vs : List AV} {v : AV} (hf : (prog.fn f).isSome = true) (h1 : SE X d ρ a σ (.inst C i) σ₁) (h2 : SEs X d ρ es σ₁ vs σ₂) (hm' : prog.meth C m = some f) (h3 : SC X d f (.inst C i :: vs) σ₂ v σ₃)
    (hfl : ∃ es, σ₁[i]? = some (.flds es)) : SE X d ρ (.mc a m es) σ v σ₃ := by
  intro F A E s B loc e K hA hm I R Q hq
  obtain ⟨o, n, ap, l, p, rfl, e1, e2, e3, e4, e5, e6⟩ := m_mc hm
  obtain ⟨fd, hfd⟩ := Option.isSome_iff_exists.mp hf
  obtain ⟨_, _, _, _, _, _, _, _, _, _, _, _, _, _, _, _, _, _, hkeep⟩ := H.fnK f fd hfd
  rw [arm_eval_Call, attributeBase_plain e2]
  refine wpAny_bind (h1 F A E s B loc o K hA e3 I R _ fun r s₁ B₁ loc₁ g₁ I₁ R₁ q₁ => wpAny_bind (wpAny_standAt ?_))
  cases q₁ with
  | inst hB hl hC =>
    rename_i x dx
    obtain ⟨fs, hfs⟩ := hfl
    obtain ⟨des, nn, gg, rr⟩ := I₁.flds hl hfs
    have cl := H.cls C hC
    have IA : InstAt s₁.heap x (instObj (X.ca C) dx) (X.ca C) (some (dictOf des nn)) := ⟨I₁.sub _ _ hB, rfl, rfl, gg⟩
    obtain ⟨m1, m2⟩ := H.meth C m f n hm' e1
    obtain ⟨pg1, pg2⟩ := plainGet_of (cl.ga n)
    unfold methodCall
    have hform : methodCallForm (l.length + ([] : List Keyword).length) (backTo p (starEach l F.env)) (backToKw p (keywordEach [] F.env)) = true := form_ok e4 (by simpa using e5)
    rw [hform]
    refine wpAny_bind (wpAny_holding ?_)
    show wpAny _ _ (getMethod (.ref x) n _) _ _ _
    refine method_fn (I₁.kin H) IA pg1 pg2 m1 (beq_iff_eq.mp m2) (by show (lookIn n (dictOf des nn)).map (·.isSome) = some false; rw [lookIn_dict, rr.miss (meth_field e1)]; rfl) ?_
    dsimp only
    unfold methodCallPos
    rw [if_pos (by rw [e6]; simp)]
    refine wpAny_bind (wpAny_pure ?_)
    refine callWith_of (P := X.K.In) (by show ((backTo p (starEach l F.env)).any (·.1) || false) = false; rw [plain_args e4]; rfl) (keeps_K hkeep) (args_ok h2 K hA e4 I₁ R₁ fun r s₂ B₂ loc₂ g₂ I₂ R₂ q₂ => ⟨I₂.kin H, ?_⟩)
    have hx : IsV X.ca B₂ loc₂ (.ref x) (.inst C i) := (IsV.inst hB hl hC).grow g₂
    exact wpAny_call (callee h3 K hA.call I₂ R₂ (vals := .ref x :: r) (.cons hx q₂.1) (hq.after (g₁.trans g₂)) fun r s' z => z)
end
end Mine
end

section
set_option compiler.extract_closed false
open PySem PySem.W PyProof.Rows PySem.Calls
set_option Elab.async false
set_option maxRecDepth 100000
set_option tactic.hygienic false
set_option linter.all false
namespace Mine
section
set_option compiler.extract_closed false
variable {X : Cx} {F : Fm} {ρ ρ' : Loc} {B : Part} {loc : List Addr} {σ σ' σ₁ σ₂ σ₃ : St} {s s' : Shared} {A : Around} {E : Value → Shared → Prop} {d : Nat}

theorem isFl_of {i : Nat} (h : isFl σ i = true) : ∃ es, σ[i]? = some (.flds es) := by
  unfold isFl at h; split at h
  · exact ⟨_, ‹_›⟩
  · first | exact none_k h | exact false_k h | exact some_k h | exact true_k h | obtain rfl := IsV.bool_i h | obtain rfl := IsV.none_i h | cases h

noncomputable def bmAttr : Nat → String
  | 0 => "append" | 1 => "pop" | 2 => "extend" | 3 => "reverse" | 4 => "get" | 5 => "join" | _ => "index"
theorem bm_facts {m : Nat} (hm : m ≤ 6) : PlainAttrs (bmTy m) ∧ Slot (bmTy m) (bmAttr m) (bmId m) ∧ typeOf (.builtin (bmId m)) = pure (.type "method_descriptor") := by
  match m, hm with
  | 0, _ => exact ⟨PySem.F.plainAttrs_list, PySem.F.slot_list_append, PySem.F.type_list_append⟩
  | 1, _ => exact ⟨PySem.F.plainAttrs_list, PySem.F.slot_list_pop, PySem.F.type_list_pop⟩
  | 2, _ => exact ⟨PySem.F.plainAttrs_list, PySem.F.slot_list_extend, PySem.F.type_list_extend⟩
  | 3, _ => exact ⟨PySem.F.plainAttrs_list, PySem.F.slot_list_reverse, PySem.F.type_list_reverse⟩
  | 4, _ => exact ⟨PySem.F.plainAttrs_dict, PySem.F.slot_dict_get, PySem.F.type_dict_get⟩
  | 5, _ => exact ⟨PySem.F.plainAttrs_str, PySem.F.slot_str_join, PySem.F.type_str_join⟩
  | 6, _ => exact ⟨PySem.F.plainAttrs_str, PySem.F.slot_str_index, PySem.F.type_str_index⟩
theorem bm_name {m : Nat} {n : Str} (h : bmNames[m]? = some n) : m ≤ 6 ∧ n = (bmAttr m : Str) := by
  have hl : m < bmNames.length := (List.getElem?_eq_some_iff.mp h).1
  have h7 : bmNames.length = 7 := by decide +kernel
  rw [h7] at hl
  refine ⟨by lia, ?_⟩
  have key : ∀ k : Fin 7, bmNames[k.1]? = some (bmAttr k.1 : Str) := by decide +kernel
  have := key ⟨m, hl⟩
  rw [h] at this
  exact Option.some.inj this
theorem bmK_ok {m : Nat} {x : AV} {a : Value} (h : bmK σ m x = true) (I : Inv X B loc σ s) (ha : IsV X.ca B loc a x) : s.TypeIs a (bmTy m) ∧ ∀ y, a = .ref y → ∃ ob, s.heap.get? y = some ob ∧ ob.dict = none := by
  have dict : isDctV σ x = true → s.TypeIs a "dict" ∧ ∀ y, a = .ref y → ∃ ob, s.heap.get? y = some ob ∧ ob.dict = none := by
    intro h
    cases x with
    | ref i =>
      obtain ⟨y, rfl, ka⟩ := ha.ref_i
      have h : (match σ[i]? with | some (.dict _) => true | _ => false) = true := h
      cases e : σ[i]? with
      | none => rw [e] at h; first | exact none_k h | exact false_k h | exact some_k h | exact true_k h | obtain rfl := IsV.bool_i h | obtain rfl := IsV.none_i h | cases h
      | some o =>
        rw [e] at h
        cases o with
        | dict es =>
          cases I.obj _ _ _ ka e with
          | dict h1 h2 => exact ⟨h1.typeIs, h1.mapOf.noDict⟩
        | list => first | exact none_k h | exact false_k h | exact some_k h | exact true_k h | obtain rfl := IsV.bool_i h | obtain rfl := IsV.none_i h | cases h
        | flds => first | exact none_k h | exact false_k h | exact some_k h | exact true_k h | obtain rfl := IsV.bool_i h | obtain rfl := IsV.none_i h | cases h
    | _ => first | exact none_k h | exact false_k h | exact some_k h | exact true_k h | obtain rfl := IsV.bool_i h | obtain rfl := IsV.none_i h | cases h
  have str : isStrV x = true → s.TypeIs a "str" ∧ ∀ y, a = .ref y → ∃ ob, s.heap.get? y = some ob ∧ ob.dict = none := by
    intro h
    cases x with
    | str l => obtain ⟨t, rfl⟩ := ha.str_i; exact ⟨rfl, fun y e => by first | exact none_k e | exact false_k e | exact some_k e | exact true_k e | cases e⟩
    | _ => first | exact none_k h | exact false_k h | exact some_k h | exact true_k h | obtain rfl := IsV.bool_i h | obtain rfl := IsV.none_i h | cases h
  have list : isLstV σ x = true → s.TypeIs a "list" ∧ ∀ y, a = .ref y → ∃ ob, s.heap.get? y = some ob ∧ ob.dict = none := by
    intro h
    cases x with
    | ref i =>
      obtain ⟨y, rfl, ka⟩ := ha.ref_i
      have h : (match σ[i]? with | some (.list _) => true | _ => false) = true := h
      cases e : σ[i]? with
      | none => rw [e] at h; first | exact none_k h | exact false_k h | exact some_k h | exact true_k h | obtain rfl := IsV.bool_i h | obtain rfl := IsV.none_i h | cases h
      | some o =>
        rw [e] at h
        cases o with
        | list vs =>
          obtain ⟨vals, n, g, r⟩ := I.list ka e
          exact ⟨⟨_, g, rfl⟩, fun y e => by first | exact none_k e | exact false_k e | exact some_k e | exact true_k e | cases e; exact ⟨_, g, rfl⟩⟩
        | dict => first | exact none_k h | exact false_k h | exact some_k h | exact true_k h | obtain rfl := IsV.bool_i h | obtain rfl := IsV.none_i h | cases h
        | flds => first | exact none_k h | exact false_k h | exact some_k h | exact true_k h | obtain rfl := IsV.bool_i h | obtain rfl := IsV.none_i h | cases h
    | _ => first | exact none_k h | exact false_k h | exact some_k h | exact true_k h | obtain rfl := IsV.bool_i h | obtain rfl := IsV.none_i h | cases h
  match m, h with
  | 0, h => exact list h
  | 1, h => exact list h
  | 2, h => exact list h
  | 3, h => exact list h
  | 4, h => exact dict h
  | 5, h => exact str h
  | 6, h => exact str h
  | m + 7, h =>
    have h : (decide (m + 7 ≤ 3) && isLstV σ x) = true := h
    exact absurd (of_decide_eq_true (bAnd2 h).1) (by lia)
theorem s_bm {a : ME} {m : Nat} {es : List ME} {o v : AV} {vs : List AV} (h1 : SE X d ρ a σ o σ₁) (hk : bmK σ₁ m o = true) (h2 : SEs X d ρ es σ₁ vs σ₂) (h : bmR σ₂ m o vs = some (v, σ₃)) : SE X d ρ (.bm a m es) σ v σ₃ := by
  intro F A E s B loc e K hA hm I R Q hq
  obtain ⟨o, n, ap, l, p, rfl, e1, e2, e3, e4, e5, e6⟩ := m_bm hm
  obtain ⟨b1, rfl⟩ := bm_name e1
  obtain ⟨f1, f2, f3⟩ := bm_facts b1
  refine wpAny_Call_method_late (attributeBase_plain e2) ?_ e6 rfl (h1 F A E s B loc o K hA e3 I R _ fun r s₁ B₁ loc₁ g₁ I₁ R₁ q₁ => ?_)
  · have := form_ok (pos := p) (env := F.env) (k := l.length + 0) e4 (by lia)
    exact this
  · obtain ⟨t1, t2⟩ := bmK_ok hk I₁ q₁
    refine ⟨bmTy m, bmId m, f1, f2, f3, t1, t2, ?_⟩
    refine callWith_builtin (plain_args e4) (args_ok h2 K hA e4 I₁ R₁ fun r2 s₂ B₂ loc₂ g₂ I₂ R₂ q₂ => ?_)
    have key := bm_ok (A := A) (E := E) h I₂ K R₂ (q₁.grow g₂) q₂.1 hA.h
    exact wpAny_mono key (fun r3 s3 z => hq r3 s3 B₂ loc₂ (g₁.trans g₂) z.1 z.2.1 z.2.2) fun q0 q0 x => x

theorem isi_glob (H : CxOk X) (K : F.Ok) (I : Inv X B loc σ s) {c : Nat} {cn : Str} {cp : Pos} (h1 : clsName c = some cn) (h2 : c ≤ 2 ∨ 15 ≤ c) (hg : F.sg.gl cn = true) {Q : Value → Shared → Prop} (hq : ∀ cv, ClsVal X c cv → Q cv s) :
    wpAny (model X.p X.w) A (eval (.Name cn cp) F.env) Q E s := by
  obtain ⟨v, hv, hc⟩ := H.isi c cn h1 h2
  rcases hv with hv | ⟨hv, hn, hb⟩
  · exact Fm.global H K I hg hv (hq v hc)
  · exact Fm.builtin H K I hg hv hn hb (hq v hc)
theorem isIn_c {c : Nat} {v : AV} {r : Bool} (h : isIn c v = some r) : c ≤ 2 ∨ 15 ≤ c := by
  unfold isIn at h
  split at h <;> (repeat' split at h) <;> first | (first | exact none_k h | exact false_k h | exact some_k h | exact true_k h | cases h; done) | lia
theorem s_ii (H : CxOk X) {a : ME} {c : Nat} {v : AV} {r : Bool} (h1 : SE X d ρ a σ v σ₁) (h : isIn c v = some r) : SE X d ρ (.ii a c) σ (.bool r) σ₁ := by
  intro F A E s B loc e K hA hm I R Q hq
  obtain ⟨np, x, cn, cp, p, rfl, e1, e2, e3, e4⟩ := m_ii hm
  refine wpAny_Call_ofName (Fm.builtin H K I e1 H.isin.1 (by decide) H.isin.2 ?_)
  have hp : starEach [x, .Name cn cp] F.env = [(false, eval x F.env), (false, eval (.Name cn cp) F.env)] := by rw [star_one (m_star e4)]; rfl
  rw [hp]
  refine callWith_builtin rfl (evalArgs_plain ?_)
  refine Calls.spliced_cons (h1 F A E s B loc x K hA e4 I R _ fun r1 s₁ B₁ loc₁ g₁ I₁ R₁ q₁ => ?_)
  refine Calls.spliced_cons (isi_glob H K I₁ e2 (isIn_c h) e3 fun cv hcv => ?_)
  refine Calls.spliced_nil ?_
  refine wpAny_mono (isIn_ok H h I₁ q₁ hcv) (fun r3 s3 z => ?_) fun q0 q0 x => x
  obtain ⟨z1, rfl⟩ := z
  exact (hq.after g₁).soft I₁ R₁ z1 .bool
theorem bfR_f {f : Nat} {v w : AV} (h : bfR σ f v = some w) : f = 0 ∨ f = 1 ∨ f = 2 := by
  match f, h with
  | 0, _ => exact .inl rfl
  | 1, _ => exact .inr (.inl rfl)
  | 2, _ => exact .inr (.inr rfl)
theorem s_bf (H : CxOk X) {a : ME} {f : Nat} {v r : AV} (h1 : SE X d ρ a σ v σ₁) (h : bfR σ₁ f v = some r) : SE X d ρ (.bf f a) σ r σ₁ := by
  intro F A E s B loc e K hA hm I R Q hq
  obtain ⟨np, x, p, rfl, e1, e2⟩ := m_bf hm
  have hf := bfR_f h
  obtain ⟨b1, b2, b3⟩ := H.bfs f (by lia)
  refine wpAny_Call_ofName (Fm.builtin H K I e1 b1 b2 b3 ?_)
  have hp : starEach [x] F.env = [(false, eval x F.env)] := by rw [star_one (m_star e2)]; rfl
  rw [hp]
  have fin : ∀ {s₁ : Shared} {B₁ : Part} {loc₁ : List Addr} {r1 : Value}, Grow B loc B₁ loc₁ → Inv X B₁ loc₁ σ₁ s₁ → FrOK X F ρ B₁ loc₁ s₁.heap → IsV X.ca B₁ loc₁ r1 v → wpAny (model X.p X.w) A (call (bfVal f) [r1]) Q E s₁ := fun g₁ I₁ R₁ q₁ =>
    wpAny_mono (bf_ok h I₁ q₁) (fun r3 s3 z => (hq.after g₁).soft I₁ R₁ z.1 z.2) fun q0 q0 x => x
  rcases hf with rfl | rfl | rfl
  · exact callWith_builtin rfl (evalArgs_plain (Calls.spliced_cons (h1 F A E s B loc x K hA e2 I R _ fun r1 s₁ B₁ loc₁ g₁ I₁ R₁ q₁ => Calls.spliced_nil (fin g₁ I₁ R₁ q₁))))
  · exact callWith_builtin rfl (evalArgs_plain (Calls.spliced_cons (h1 F A E s B loc x K hA e2 I R _ fun r1 s₁ B₁ loc₁ g₁ I₁ R₁ q₁ => Calls.spliced_nil (fin g₁ I₁ R₁ q₁))))
  · exact PySem.callWith_type rfl (evalArgs_plain (Calls.spliced_cons (h1 F A E s B loc x K hA e2 I R _ fun r1 s₁ B₁ loc₁ g₁ I₁ R₁ q₁ => Calls.spliced_nil (fin g₁ I₁ R₁ q₁))))
end
end Mine
end

section
set_option compiler.extract_closed false
open PySem PySem.W PyProof.Rows PySem.Calls
set_option Elab.async false
set_option maxRecDepth 100000
set_option tactic.hygienic false
set_option linter.all false
namespace Mine

noncomputable def SA (X : Cx) (d : Nat) (ρ : Loc) (g : Tg) (v : AV) (σ : St) (ρ' : Loc) (σ' : St) : Prop :=
  ∀ (F : Fm) (A : Around) (E : Value → Shared → Prop) (s : Shared) (B : Part) (loc : List Addr) (t : Expr) (val : Value), F.Ok → F.own = true → AOk d A → matchT F.sg g t = true → Inv X B loc σ s → FrOK X F ρ B loc s.heap → IsV X.ca B loc val v →
    ∀ Q : Unit → Shared → Prop, Thn X F ρ' B loc σ' (fun q0 q0 q0 => True) Q → wpAny (model X.p X.w) A (assign t F.env val) Q E s
noncomputable def SAs (X : Cx) (d : Nat) (ρ : Loc) (gs : List Tg) (vs : List AV) (σ : St) (ρ' : Loc) (σ' : St) : Prop :=
  ∀ (F : Fm) (A : Around) (E : Value → Shared → Prop) (s : Shared) (B : Part) (loc : List Addr) (l : List Expr) (vals : List Value), F.Ok → F.own = true → AOk d A → matchTs F.sg gs l = true → Inv X B loc σ s → FrOK X F ρ B loc s.heap → IsVs X.ca B loc vals vs →
    ∀ Q : Unit → Shared → Prop, Thn X F ρ' B loc σ' (fun q0 q0 q0 => True) Q → wpAny (model X.p X.w) A (assignInOrder ((assignEach l F.env).map (·.2)) vals) Q E s

section
set_option compiler.extract_closed false
variable {X : Cx} {F : Fm} {ρ ρ' ρ₁ ρ₂ : Loc} {B : Part} {loc : List Addr} {σ σ' σ₁ σ₂ σ₃ : St} {s s' : Shared} {A : Around} {E : Value → Shared → Prop} {d : Nat}

section
set_option compiler.extract_closed false
variable {sg : Sg} {e : Expr}
theorem t_x {i : Nat} (h : matchT sg (.x i) e = true) : ∃ n p, e = .Name n p ∧ sg.nm[i]? = some n := by
  obtain ⟨⟨n, p, e1⟩, h⟩ := anyS (o := vName e) h
  exact ⟨n, p, e1, eq_of_beq h⟩
theorem t_tup {gs : List Tg} (h : matchT sg (.tup gs) e = true) : ∃ l n p, e = .Tuple l n p ∧ matchTs sg gs l = true := by
  obtain ⟨⟨l, n, p, e1⟩, h⟩ := anyS (o := vTuple e) h
  exact ⟨l, n, p, e1, h⟩
theorem t_at {a : ME} {f : Nat} (h : matchT sg (.at a f) e = true) : ∃ o n p, e = .Attribute o n p ∧ fieldNames[f]? = some n ∧ noSuper o = true ∧ matchE sg a o = true := by
  obtain ⟨⟨k, p, e1⟩, h⟩ := anyS (o := vAttr e) h
  have h := bAnd2 h
  have h2 := bAnd2 h.2
  exact ⟨k.1, k.2, p, e1, eq_of_beq h.1, h2.1, h2.2⟩
theorem t_ix {a i : ME} (h : matchT sg (.ix a i) e = true) : ∃ o k p, e = .Subscript o k p ∧ matchE sg a o = true ∧ isSlice k = false ∧ matchE sg i k = true := by
  obtain ⟨⟨k, p, e1⟩, h⟩ := anyS (o := vSub e) h
  have h := bAnd2 h
  have h2 := bAnd2 h.2
  exact ⟨k.1, k.2, p, e1, h.1, bNot1 h2.1, h2.2⟩
theorem t_nil {l : List Expr} (h : matchTs sg [] l = true) : l = [] := List.isEmpty_iff.mp h
theorem t_cons {x : Tg} {r : List Tg} {l : List Expr} (h : matchTs sg (x :: r) l = true) : ∃ y l', l = y :: l' ∧ matchT sg x y = true ∧ matchTs sg r l' = true := by
  obtain ⟨⟨k, e1⟩, h⟩ := anyS (o := vCons l) h
  have h := bAnd2 h
  exact ⟨k.1, k.2, e1, h.1, h.2⟩
theorem t_star {x : Tg} (h : matchT sg x e = true) : isStar e = false := by
  cases x with
  | x i => obtain ⟨_, _, e1, _⟩ := t_x h; rw [e1]; rfl
  | tup gs => obtain ⟨_, _, _, e1, _⟩ := t_tup h; rw [e1]; rfl
  | «at» a f => obtain ⟨_, _, _, e1, _⟩ := t_at h; rw [e1]; rfl
  | ix a i => obtain ⟨_, _, _, e1, _⟩ := t_ix h; rw [e1]; rfl
theorem each_one {y : Expr} {r : List Expr} {env : Env} (h : isStar y = false) : assignEach (y :: r) env = (false, assign y env) :: assignEach r env := by
  cases y <;> first | rfl | exact true_k h
theorem each_ok {env : Env} : ∀ {gs : List Tg} {l : List Expr}, matchTs sg gs l = true → (assignEach l env).length = gs.length ∧ (assignEach l env).findIdx? (·.1) = none
  | [], l, h => by obtain rfl := t_nil h; exact ⟨rfl, rfl⟩
  | g :: r, l, h => by
    obtain ⟨y, l', rfl, m1, m2⟩ := t_cons h
    obtain ⟨h1, h2⟩ := each_ok (env := env) m2
    rw [each_one (t_star m1)]
    exact ⟨by simp [h1], by rw [List.findIdx?_cons, h2]; rfl⟩
end

theorem wpAny_bindName' {M : Model} {env : Env} {x : Str} {v : Value} {Q : Unit → Shared → Prop} (h : wpAny M A (storeName env x v) Q E s) : wpAny M A (bindName env x v) Q E s := by
  unfold bindName
  exact wpAny_bind (wpAny_holding (wpAny_point (wpAny_bind (wpAny_mono h (fun q0 q0 z => wpAny_point z) fun q0 q0 x => x))))

theorem name_store {i : Nat} {n : Str} {v : Value} {av : AV} (K : F.Ok) (I : Inv X B loc σ s) (R : FrOK X F ρ B loc s.heap) (hn : F.sg.nm[i]? = some n) (ho : F.own = true ∨ F.sg.sc.names.lookup n = some .local) (hv : IsV X.ca B loc v av)
    {Q : Unit → Shared → Prop} (hq : Thn X F (ρ.set i (some av)) B loc σ (fun q0 q0 q0 => True) Q) : wpAny (model X.p X.w) A (storeName F.env n v) Q E s := by
  have loc_case : F.sg.sc.names.lookup n = some .local → wpAny (model X.p X.w) A (storeName F.env n v) Q E s := fun hk => by
    obtain ⟨m, hm, x⟩ := R.ns
    refine wpAny_storeName_local (by unfold Env.kindOf; rw [K.sc]; exact hk) hm (fun h' h1 h2 => ?_) (by rw [K.sc, K.kind]; rfl)
    obtain ⟨I', R'⟩ := FrOK.setLocal (tk := s.toks + 1) I K R hn hk hv hm h1 h2 x
    exact hq.here I' R' trivial
  rcases K.loc i n hn with hk | ⟨hk, c, hc⟩
  · exact loc_case hk
  · rcases ho with ho | ho
    · obtain ⟨ov, hcl, x⟩ := R.cl i n c hn hk hc
      refine wpAny_storeName_cell (by rw [K.sc]; exact K.kind) (by unfold Env.kindOf; rw [K.sc]; exact hk) hc hcl fun h' h1 h2 => ?_
      obtain ⟨I', R'⟩ := FrOK.setCell (tk := s.toks) I K R ho hn hk hc hv h1 h2
      exact hq.here I' R' trivial
    · exact loc_case ho

theorem s_ax {i : Nat} {v : AV} : SA X d ρ (.x i) v σ (ρ.set i (some v)) σ := by
  intro F A E s B loc t val K ho hA hm I R hv Q hq
  obtain ⟨n, p, rfl, h1⟩ := t_x hm
  exact wpAny_assign_Name (name_store K I R h1 (.inl ho) hv hq)
theorem s_ag0 : SAs X d ρ [] [] σ ρ σ := by
  intro F A E s B loc l vals K ho hA hm I R hv Q hq
  obtain rfl := t_nil hm
  first | exact none_k hv | exact false_k hv | exact some_k hv | exact true_k hv | obtain rfl := IsV.bool_i hv | obtain rfl := IsV.none_i hv | cases hv
  exact wpAny_pure (hq.here I R trivial)
theorem s_ag1 {g : Tg} {gs : List Tg} {v : AV} {vs : List AV} (h1 : SA X d ρ g v σ ρ₁ σ₁) (h2 : SAs X d ρ₁ gs vs σ₁ ρ₂ σ₂) : SAs X d ρ (g :: gs) (v :: vs) σ ρ₂ σ₂ := by
  intro F A E s B loc l vals K ho hA hm I R hv Q hq
  obtain ⟨y, l', rfl, m1, m2⟩ := t_cons hm
  cases hv with
  | cons hv1 hv2 =>
    rw [each_one (t_star m1)]
    refine wpAny_assignInOrder_more (h1 F A E s B loc y _ K ho hA m1 I R hv1 _ fun r s' B' loc' g I' R' q => ?_)
    exact h2 F A E s' B' loc' l' _ K ho hA m2 I' R' (hv2.grow g) _ (hq.after g)
theorem s_atp {gs : List Tg} {vs : List AV} (hl : gs.length = vs.length) (h1 : SAs X d ρ gs vs σ ρ' σ₁) : SA X d ρ (.tup gs) (.tup vs) σ ρ' σ₁ := by
  intro F A E s B loc t val K ho hA hm I R hv Q hq
  obtain ⟨l, n, p, rfl, m1⟩ := t_tup hm
  cases hv with
  | tup hB c dd r =>
    have k := r.length
    obtain ⟨e1, e2⟩ := each_ok (env := F.env) m1
    refine wpAny_assign_Tuple hA.h ⟨_, I.sub _ _ hB, c, _, dd⟩ (by rw [e1, List.size_toArray, k, hl]) e2 fun h' hx => ?_
    have kk := Keep.ext hx
    exact h1 F A E { s with heap := h' } B loc l _ K ho hA m1 (I.keep (s' := { s with heap := h' }) kk rfl rfl) (R.keep kk) (by simpa using r) _ hq
theorem s_aat (H : CxOk X) {a : ME} {f : Nat} {o v : AV} (h1 : SE X d ρ a σ o σ₁) (h : setF σ₁ o f v = some σ₂) : SA X d ρ (.at a f) v σ ρ σ₂ := by
  intro F A E s B loc t val K ho hA hm I R hv Q hq
  obtain ⟨o, n, p, rfl, m1, m2, m3⟩ := t_at hm
  rw [assign_Attribute]
  refine wpAny_bind (wpAny_holding (h1 F A E s B loc o K hA m3 I R _ fun r s' B' loc' g I' R' q => wpAny_bind (wpAny_standAt (wpAny_bind (wpAny_holding ?_)))))
  exact wpAny_mono (setF_ok H h m1 I' K R' q (hv.grow g)) (fun q0 s2 z => wpAny_release (hq _ _ _ _ g z.1 z.2 trivial)) fun q0 q0 x => x
theorem s_aix {a i : ME} {o k v : AV} (h1 : SE X d ρ a σ o σ₁) (h2 : SE X d ρ i σ₁ k σ₂) (h : storeR σ₂ o k v = some σ₃) : SA X d ρ (.ix a i) v σ ρ σ₃ := by
  intro F A E s B loc t val K ho hA hm I R hv Q hq
  obtain ⟨o, kk, p, rfl, m1, m2, m3⟩ := t_ix hm
  rw [assign_Subscript]
  refine wpAny_bind (wpAny_holding (h1 F A E s B loc o K hA m1 I R _ fun r s' B' loc' g I' R' q => wpAny_bind (wpAny_holding ?_)))
  refine h2 F A E s' B' loc' kk K hA m3 I' R' _ fun r2 s2 B2 loc2 g2 I2 R2 q2 => wpAny_bind (wpAny_standAt (wpAny_bind (wpAny_holding ?_)))
  exact wpAny_mono (store_ok h I2 K R2 (q.grow g2) q2 (hv.grow (g.trans g2))) (fun q0 s2 z => wpAny_release (hq _ _ _ _ (g.trans g2) z.1 z.2 trivial)) fun q0 q0 x => x

theorem names_store (K : F.Ok) : ∀ (is : List Nat) (ns : List Str) (vs : List AV) (vals : List Value) (ρ : Loc) (B : Part) (loc : List Addr) (s : Shared) (Q : Unit → Shared → Prop), (is.map fun i => F.sg.nm[i]?) = ns.map some → (∀ n ∈ ns, F.own = true ∨ F.sg.sc.names.lookup n = some .local) →
    is.length = vs.length → Inv X B loc σ s → FrOK X F ρ B loc s.heap → IsVs X.ca B loc vals vs → Thn X F (setL ρ is vs) B loc σ (fun q0 q0 q0 => True) Q → wpAny (model X.p X.w) A (assignInOrder (ns.map fun n => bindName F.env n) vals) Q E s
  | [], ns, vs, vals, ρ, B, loc, s, Q, h1, h2, h3, I, R, hv, hq => by
    have : ns = [] := by simpa using h1.symm
    subst this
    exact wpAny_pure (hq.here I R trivial)
  | i :: is, ns, vs, vals, ρ, B, loc, s, Q, h1, h2, h3, I, R, hv, hq => by
    cases ns with
    | nil => simp at h1
    | cons n ns =>
      cases hv with
      | nil => simp at h3
      | cons hv1 hv2 =>
        simp only [List.map_cons, List.cons.injEq] at h1
        refine wpAny_assignInOrder_more (wpAny_bindName' (name_store K I R h1.1 (h2 n List.mem_cons_self) hv1 fun q0 s' B' loc' g I' R' q0 => ?_))
        exact names_store K is ns _ _ _ B' loc' s' Q h1.2 (fun m hm => h2 m (List.mem_cons_of_mem _ hm)) (by simpa using h3) I' R' (hv2.grow g) (hq.after g)
end
end Mine
end

section
set_option compiler.extract_closed false
open PySem PySem.W PyProof.Rows PySem.Calls
set_option Elab.async false
set_option maxRecDepth 100000
set_option tactic.hygienic false
set_option linter.all false
namespace Mine
section
set_option compiler.extract_closed false
variable {X : Cx} {F : Fm} {ρ ρ' ρ₁ ρ₂ : Loc} {B : Part} {loc : List Addr} {σ σ' σ₁ σ₂ σ₃ : St} {s s' : Shared} {A : Around} {E : Value → Shared → Prop} {d : Nat}
section
set_option compiler.extract_closed false
variable {sg : Sg} {st : Stmt}
theorem n_as {g : Tg} {e : ME} (h : matchS sg (.as g e) st = true) : ∃ t v p, st = .Assign [t] v p ∧ matchT sg g t = true ∧ matchE sg e v = true ∧ isComp v = false ∧ swapNone sg t v = true := by
  obtain ⟨⟨k, p, e1⟩, h⟩ := anyS (o := wAs st) h
  have h := bAnd2 h
  have h2 := bAnd2 h.2
  have h3 := bAnd2 h2.2
  exact ⟨k.1, k.2, p, e1, h.1, h2.1, bNot1 h3.1, h3.2⟩
theorem n_asw {xs : List Nat} {e : ME} (h : matchS sg (.asw xs e) st = true) : ∃ ts n p vs k q r, st = .Assign [.Tuple ts n p] (.Tuple vs k q) r ∧ matchE sg e (.Tuple vs k q) = true ∧ swapSome sg ts vs xs = true := by
  obtain ⟨⟨k, n, p, r, e1⟩, h⟩ := anyS (o := wAsw st) h
  have h := bAnd2 h
  exact ⟨k.1, n, p, k.2.1, k.2.2.1, k.2.2.2, r, e1, h.1, h.2⟩
theorem n_asl {x : Nat} {e : ME} (h : matchS sg (.asl x e) st = true) : ∃ n p elt gens sc q pos, st = .Assign [.Name n p] (.ListComp elt gens sc q) pos ∧ sg.nm[x]? = some n ∧ sg.sc.names.lookup n = some .local ∧ matchE sg e (.ListComp elt gens sc q) = true ∧ (p.line == q.line) = true ∧ (sc.names.any fun (m, k) => m == n && (k == .local || k == .cell)) = false := by
  obtain ⟨⟨k, r, e1⟩, h⟩ := anyS (o := wAsl st) h
  have h := bAnd2 h
  have h2 := bAnd2 h.2
  have h3 := bAnd2 h2.2
  have h4 := bAnd2 h3.2
  exact ⟨k.1, k.2.1, k.2.2.1, k.2.2.2.1, k.2.2.2.2.1, k.2.2.2.2.2, r, e1, eq_of_beq h.1, eq_of_beq h2.1, h3.1, h4.1, bNot1 h4.2⟩
theorem n_au {e v : ME} {f : Nat} (h : matchS sg (.au e f v) st = true) : ∃ o a ap v' p, st = .AugAssign (.Attribute o a ap) .Add v' p ∧ fieldNames[f]? = some a ∧ matchE sg e o = true ∧ matchE sg v v' = true := by
  obtain ⟨⟨k, ap, p, e1⟩, h⟩ := anyS (o := wAu st) h
  have h := bAnd2 h
  have h2 := bAnd2 h.2
  exact ⟨k.1, k.2.1, ap, k.2.2, p, e1, eq_of_beq h.1, h2.1, h2.2⟩
theorem n_ex {e : ME} (h : matchS sg (.ex e) st = true) : ∃ v p, st = .Expr v p ∧ matchE sg e v = true ∧ isComp v = false := by
  obtain ⟨⟨k, p, e1⟩, h⟩ := anyS (o := wEx st) h
  have h := bAnd2 h
  exact ⟨k, p, e1, h.1, bNot1 h.2⟩
theorem n_rt {e : ME} (h : matchS sg (.rt e) st = true) : ∃ v p, st = .Return (some v) p ∧ matchE sg e v = true := by
  obtain ⟨⟨k, p, e1⟩, h⟩ := anyS (o := wRt st) h
  exact ⟨k, p, e1, h⟩
theorem n_iff {t : ME} {a b : List MS} (h : matchS sg (.iff t a b) st = true) : ∃ t' a' b' p, st = .If t' a' b' p ∧ matchE sg t t' = true ∧ matchB sg a a' = true ∧ matchB sg b b' = true := by
  obtain ⟨⟨k, p, e1⟩, h⟩ := anyS (o := wIf st) h
  have h := bAnd2 h
  have h2 := bAnd2 h.2
  exact ⟨k.1, k.2.1, k.2.2, p, e1, h.1, h2.1, h2.2⟩
theorem n_wh {t : ME} {b : List MS} (h : matchS sg (.wh t b) st = true) : ∃ t' b' p, st = .While t' b' [] p ∧ matchE sg t t' = true ∧ matchB sg b b' = true := by
  obtain ⟨⟨k, p, e1⟩, h⟩ := anyS (o := wWh st) h
  have h := bAnd2 h
  exact ⟨k.1, k.2, p, e1, h.1, h.2⟩
theorem n_fr {g : Tg} {it : ME} {b : List MS} (h : matchS sg (.fr g it b) st = true) : ∃ t i b' p, st = .For t i b' [] p ∧ matchT sg g t = true ∧ matchE sg it i = true ∧ matchB sg b b' = true := by
  obtain ⟨⟨k, p, e1⟩, h⟩ := anyS (o := wFr st) h
  have h := bAnd2 h
  have h2 := bAnd2 h.2
  exact ⟨k.1, k.2.1, k.2.2, p, e1, h.1, h2.1, h2.2⟩
theorem n_br (h : matchS sg .br st = true) : ∃ p, st = .Break p := by
  obtain ⟨⟨_, p, e1⟩, _⟩ := anyS (o := wBr st) h
  exact ⟨p, e1⟩
theorem n_ct (h : matchS sg .ct st = true) : ∃ p, st = .Continue p := by
  obtain ⟨⟨_, p, e1⟩, _⟩ := anyS (o := wCt st) h
  exact ⟨p, e1⟩
theorem n_b0 {l : List Stmt} (h : matchB sg [] l = true) : l = [] := List.isEmpty_iff.mp h
theorem n_b1 {x : MS} {r : List MS} {l : List Stmt} (h : matchB sg (x :: r) l = true) : ∃ y l', l = y :: l' ∧ matchS sg x y = true ∧ matchB sg r l' = true := by
  obtain ⟨⟨k, e1⟩, h⟩ := anyS (o := vCons l) h
  have h := bAnd2 h
  exact ⟨k.1, k.2, e1, h.1, h.2⟩
end

theorem swapsWith_plain {v : Expr} {t : Option Expr} {k : Nat} {env : Env} (h : isComp v = false) : swapsWith v t k env = pure false := by
  unfold swapsWith
  cases v <;> first | rfl | exact true_k h
theorem kindOf_eq (K : F.Ok) : ∀ n, F.env.kindOf n = F.sg.sc.names.lookup n := fun n => by unfold Env.kindOf; rw [K.sc]
theorem blockKind_eq (K : F.Ok) : F.env.blockKind = .function := by unfold Env.blockKind; rw [K.sc, K.kind]; rfl
theorem swappedStores_none {sg : Sg} {t v : Expr} {env : Env} (hk : ∀ n, env.kindOf n = sg.sc.names.lookup n) (h : swapNone sg t v = true) : swappedStores [t] v env = pure none := by
  cases t with
  | Tuple ts k p =>
    cases v with
    | Tuple vs k2 p2 =>
      have h : ((swapNames sg ts).length != ts.length) = true := h
      unfold swappedStores
      dsimp only
      split
      · rfl
      · split
        · rfl
        · rw [if_pos]
          simp only [hk]
          simp only [bne_iff_ne, swapNames] at h
          simp only [Bool.or_eq_true, bne_iff_ne]
          exact .inl h
    | _ => rfl
  | List ts p => exact false_k h
  | _ => first | rfl | (cases v <;> rfl)

theorem s_sa {g : Tg} {e : ME} {v : AV} (h1 : SE X d ρ e σ v σ₁) (h2 : SA X d ρ g v σ₁ ρ' σ₂) : SS X d ρ (.as g e) σ .next ρ' σ₂ := by
  intro F A E s B loc st K ho hA hm I R Q hq
  obtain ⟨t, v, p, rfl, m1, m2, m3, m4⟩ := n_as hm
  refine wpAny_Assign_stores (h1 F A E s B loc v K hA m2 I R _ fun r s' B' loc' g I' R' q => ?_) (swapsWith_plain m3) (swappedStores_none (kindOf_eq K) m4)
  rw [each_one (t_star m1)]
  exact h2 F A E s' B' loc' t r K ho hA m1 I' R' q _ fun q0 s2 B2 loc2 g2 I2 R2 q0 => hq _ _ _ _ (g.trans g2) I2 R2 trivial
theorem s_su (H : CxOk X) {e v : ME} {f : Nat} {o : AV} {a b : Int} (h1 : SE X d ρ e σ o σ₁) (hg : getF σ₁ o f = some (.int a)) (h2 : SE X d ρ v σ₁ (.int b) σ₂) (hs : setF σ₂ o f (.int (a + b)) = some σ₃) : SS X d ρ (.au e f v) σ .next ρ σ₃ := by
  intro F A E s B loc st K ho hA hm I R Q hq
  obtain ⟨o, n, ap, v', p, rfl, m1, m2, m3⟩ := n_au hm
  refine wpAny_AugAssign_AttributeAny (h1 F A E s B loc o K hA m2 I R _ fun r s₁ B₁ loc₁ g₁ I₁ R₁ q₁ => ?_)
  refine wpAny_mono (getF_ok H hg m1 I₁ q₁) (fun old s₂ z => ?_) fun q0 q0 x => x
  have I₂ := I₁.soft z.1
  have R₂ := R₁.keep z.1.1
  obtain ⟨z1, z2⟩ := z
  first | exact none_k z2 | exact false_k z2 | exact some_k z2 | exact true_k z2 | obtain rfl := IsV.bool_i z2 | obtain rfl := IsV.none_i z2 | cases z2
  refine h2 F A E s₂ B₁ loc₁ v' K hA m3 I₂ R₂ _ fun r3 s₃ B₃ loc₃ g₃ I₃ R₃ q₃ => ?_
  cases q₃
  refine wpAny_iadd_int ?_
  exact wpAny_mono (setF_ok (s := { s₃ with toks := s₃.toks + 1 }) H hs m1 (I₃.soft (.tk _ _)) K R₃ (q₁.grow g₃) .int) (fun q0 s4 z => hq _ _ _ _ (g₁.trans g₃) z.1 z.2 trivial) fun q0 q0 x => x
theorem s_se {e : ME} {v : AV} (h1 : SE X d ρ e σ v σ₁) : SS X d ρ (.ex e) σ .next ρ σ₁ := by
  intro F A E s B loc st K ho hA hm I R Q hq
  obtain ⟨v, p, rfl, m1, m2⟩ := n_ex hm
  exact wpAny_Expr_any (h1 F A E s B loc v K hA m1 I R _ fun r s' B' loc' g I' R' q => hq _ _ _ _ g I' R' trivial) (by unfold interactive; rw [K.sc, K.kind]; rfl) (swapsWith_plain m2)
theorem s_sr1 {e : ME} {v : AV} (h1 : SE X d ρ e σ v σ₁) : SS X d ρ (.rt e) σ (.ret v) ρ σ₁ := by
  intro F A E s B loc st K ho hA hm I R Q hq
  obtain ⟨v, p, rfl, m1⟩ := n_rt hm
  exact wpAny_Return_some (h1 F A E s B loc v K hA m1 I R _ fun r s' B' loc' g I' R' q => hq _ _ _ _ g I' R' q)
theorem s_si {t : ME} {a b : List MS} {r : Bool} {fl : Fl} (h1 : ST X d ρ t σ r σ₁) (h2 : SB X d ρ (if r then a else b) σ₁ fl ρ' σ₂) : SS X d ρ (.iff t a b) σ fl ρ' σ₂ := by
  intro F A E s B loc st K ho hA hm I R Q hq
  obtain ⟨t', a', b', p, rfl, m1, m2, m3⟩ := n_iff hm
  refine wpAny_If (h1 F A E s B loc t' K hA m1 I R _ fun r1 s' B' loc' g I' R' q => ?_)
  subst q
  cases r1 with
  | true => exact h2 F A E s' B' loc' a' K ho hA m2 I' R' _ (hq.after g)
  | false => exact h2 F A E s' B' loc' b' K ho hA m3 I' R' _ (hq.after g)
theorem s_sb : SS X d ρ .br σ .brk ρ σ := by
  intro F A E s B loc st K ho hA hm I R Q hq
  obtain ⟨p, rfl⟩ := n_br hm
  exact wpAny_bind (wpAny_standAt (wpAny_pure (hq.here I R trivial)))
theorem s_sc : SS X d ρ .ct σ .cont ρ σ := by
  intro F A E s B loc st K ho hA hm I R Q hq
  obtain ⟨p, rfl⟩ := n_ct hm
  exact wpAny_bind (wpAny_standAt (wpAny_pure (hq.here I R trivial)))
theorem s_b0 : SB X d ρ [] σ .next ρ σ := by
  intro F A E s B loc l K ho hA hm I R Q hq
  obtain rfl := n_b0 hm
  exact wpAny_pure (hq.here I R trivial)
theorem s_b1 {x : MS} {r : List MS} {fl : Fl} (h1 : SS X d ρ x σ .next ρ₁ σ₁) (h2 : SB X d ρ₁ r σ₁ fl ρ₂ σ₂) : SB X d ρ (x :: r) σ fl ρ₂ σ₂ := by
  intro F A E s B loc l K ho hA hm I R Q hq
  obtain ⟨y, l', rfl, m1, m2⟩ := n_b1 hm
  refine wpAny_execs_cons (h1 F A E s B loc y K ho hA m1 I R _ fun r1 s' B' loc' g I' R' q => ?_)
  cases r1 <;> first | exact q.elim | skip
  exact h2 F A E s' B' loc' l' K ho hA m2 I' R' _ (hq.after g)
theorem s_bx {x : MS} {r : List MS} {fl : Fl} (h1 : SS X d ρ x σ fl ρ₁ σ₁) (hn : fl ≠ .next) : SB X d ρ (x :: r) σ fl ρ₁ σ₁ := by
  intro F A E s B loc l K ho hA hm I R Q hq
  obtain ⟨y, l', rfl, m1, m2⟩ := n_b1 hm
  refine wpAny_execs_cons (h1 F A E s B loc y K ho hA m1 I R _ fun r1 s' B' loc' g I' R' q => ?_)
  have := hq _ _ _ _ g I' R' q
  cases r1 <;> first | exact this | skip
  cases fl <;> first | exact absurd rfl hn | exact q.elim

theorem eraseDups_nodup : True := trivial
set_option tactic.hygienic true in
theorem s_sw {xs : List Nat} {e : ME} {vs : List AV} (h1 : SE X d ρ e σ (.tup vs) σ₁) (hl : xs.length = vs.length) : SS X d ρ (.asw xs e) σ .next (setL ρ xs.reverse vs.reverse) σ₁ := by
  intro F A E s B loc st K ho hA hm I R Q hq
  obtain ⟨ts, n, p, ws, k, q, r, rfl, m1, m2⟩ := n_asw hm
  have hl2 : xs.reverse.length = vs.reverse.length := by rw [List.length_reverse, List.length_reverse, hl]
  unfold swapSome at m2
  simp only [Bool.and_eq_true, Bool.or_eq_true, beq_iff_eq, Bool.not_eq_true'] at m2
  obtain ⟨⟨⟨⟨⟨⟨⟨a1, a2⟩, a3⟩, a4⟩, a5⟩, a6⟩, a7⟩, a8⟩ := m2
  have key : swappedStores [.Tuple ts n p] (.Tuple ws k q) F.env = pure (some (swapNames F.sg ts)) := by
    unfold swappedStores
    dsimp only
    rw [if_neg (by simp only [Bool.or_eq_true, Bool.not_eq_true', bne_iff_ne, not_or, Decidable.not_not]; refine ⟨⟨?_, a2⟩, blockKind_eq K⟩; rcases a1 with a1 | a1 <;> simp [a1])]
    rw [if_neg (fun z => false_k (a3.symm.trans ((congrArg (fun f => ws.any f) (funext (f := isStar) fun x => by cases x <;> rfl)).trans z)))]
    simp only [kindOf_eq K]
    have e : (ts.filterMap fun
      | .Name id pos => if F.sg.sc.names.lookup id == some .local && pos.line == (ts.head?.map (·.pos.line)).getD 0 then some id else none
      | _ => none) = swapNames F.sg ts := rfl
    rw [if_neg (by simp only [Bool.or_eq_true, bne_iff_ne, not_or, Decidable.not_not]; exact ⟨a4, a5⟩), if_neg (by rw [a6]; decide), if_neg (by rw [a7]; decide)]
    rfl
  show wpAny _ _ (exec (.Assign [.Tuple ts n p] (.Tuple ws k q) r) F.env) Q E s
  have ex : exec (.Assign [.Tuple ts n p] (.Tuple ws k q) r) F.env = (do
      standAt r
      if ← swapsWithSole [.Tuple ts n p] (.Tuple ws k q) r.line F.env then do
        evalThenUse (.Tuple ws k q) F.env fun v => assignAll v ((assignEach [.Tuple ts n p] F.env).map (·.2))
        pure .next
      else do
        let v ← eval (.Tuple ws k q) F.env
        assignStores F.env v (← swappedStores [.Tuple ts n p] (.Tuple ws k q) F.env) ((assignEach [.Tuple ts n p] F.env).map (·.2))) := rfl
  rw [ex]
  refine wpAny_bind (wpAny_standAt (wpAny_bind ?_))
  rw [show swapsWithSole [.Tuple ts n p] (.Tuple ws k q) r.line F.env = pure false from swapsWith_plain (v := .Tuple ws k q) (t := some (.Tuple ts n p)) (k := r.line) (env := F.env) rfl]
  refine wpAny_pure ?_
  refine wpAny_bind (h1 F A E s B loc _ K hA m1 I R _ fun r1 s' B' loc' g I' R' q' => ?_)
  rw [key]
  refine wpAny_bind (wpAny_pure ?_)
  generalize hN : swapNames F.sg ts = N at *
  have hxl : xs.length = N.length := by have := congrArg List.length a8; simpa using this
  cases q' with
  | tup hB c dd rr =>
    rename_i a o nn vals
    have kk := rr.length
    have hz : N.length = vals.toArray.size := by rw [List.size_toArray, kk, ← hl, hxl]
    refine wpAny_bind (wpAny_rule (wpAny_bind ?_))
    rw [hz]
    refine wpAny_unpackItems_tuple hA.h ⟨_, I'.sub _ _ hB, c, _, dd⟩ fun h' hx => ?_
    have kp := Keep.ext hx
    refine wpAny_bind ?_
    refine names_store K xs.reverse N.reverse vs.reverse _ ρ B' loc' { s' with heap := h' } _ ?_ (fun q0 q0 => .inl ho) (by simp [hl]) (I'.keep (s' := { s' with heap := h' }) kp rfl rfl) (R'.keep kp) (by simpa using rr.rev) fun q0 s2 B2 loc2 g2 I2 R2 q0 => wpAny_pure (hq _ _ _ _ (g.trans g2) I2 R2 trivial)
    rw [List.map_reverse, List.map_reverse, a8]
end
end Mine
end

section
set_option compiler.extract_closed false
open PySem PySem.W PyProof.Rows PySem.Calls
set_option Elab.async false
set_option maxRecDepth 100000
set_option tactic.hygienic false
set_option linter.all false
namespace Mine
section
set_option compiler.extract_closed false
variable {X : Cx} {F : Fm} {ρ ρ' ρ₁ ρ₂ ρ₃ : Loc} {B : Part} {loc : List Addr} {σ σ' σ₁ σ₂ σ₃ : St} {s s' : Shared} {A : Around} {E : Value → Shared → Prop} {d : Nat}

structure Free (F : Fm) (B : Part) (loc : List Addr) (it : Addr) : Prop where
  b : B it = none
  l : it ∉ loc
  ns : it ≠ F.env.locals
  c : F.own = true → ∀ n, F.env.cells.lookup n ≠ some it
noncomputable def ItAt (loc : List Addr) (h : Heap) (it : Addr) : Src → Prop
  | .lst i k => ∃ l, loc[i]? = some l ∧ h.IsListIter it l k
  | .rng x n => IsRangeIter h it x n 1
  | .chs l => ∃ (pre : List Nat) (t : Tok), h.IsStrIter it "str_ascii_iterator" ⟨(pre ++ l).toArray⟩ t pre.length
noncomputable def itTys : List String := ["enumerate", "zip", "dict_itemiterator", "dict_reverseitemiterator", "odict_iterator", "itertools.zip_longest", "itertools.pairwise"]
theorem ItAt.obj {h : Heap} {it : Addr} {src : Src} (x : ItAt loc h it src) : ∃ o n, h.get? it = some o ∧ Dull o ∧ o.cls = .type n ∧ itTys.contains n = false := by
  have dl : ∀ {o : Obj} {vs}, o.data = .fields vs → Dull o := fun e => ⟨fun q0 q0 q => (by rw [e] at q; first | exact none_k q | exact false_k q | exact some_k q | exact true_k q | cases q), fun q => (by rw [e] at q; first | exact none_k q | exact false_k q | exact some_k q | exact true_k q | cases q)⟩
  cases src with
  | lst i k => obtain ⟨l, _, o, h1, h2, h3⟩ := x; exact ⟨o, _, h1, dl h3, h2, by decide⟩
  | rng a n => exact ⟨_, _, x, dl rfl, rfl, by decide⟩
  | chs l => obtain ⟨pre, t, o, h1, h2, h3⟩ := x; exact ⟨o, _, h1, dl h3, h2, by decide⟩
theorem ItAt.same {loc' : List Addr} {h h' : Heap} {it : Addr} {src : Src} (x : ItAt loc h it src) (p : Pre loc loc') (e : h'.get? it = h.get? it) : ItAt loc' h' it src := by
  cases src with
  | lst i k => obtain ⟨l, hl, o, h1, h2, h3⟩ := x; exact ⟨l, p _ _ hl, o, e.trans h1, h2, h3⟩
  | rng a n => exact e.trans x
  | chs l => obtain ⟨pre, t, o, h1, h2, h3⟩ := x; exact ⟨pre, t, o, e.trans h1, h2, h3⟩

theorem Inv.otherX (K : F.Ok) (I : Inv X B loc σ s) (R : FrOK X F ρ B loc s.heap) {a : Addr} {h' : Heap} {tk : Nat} (f : Free F B loc a) (hs : Heap.ExtBut a s.heap h') :
    Inv X B loc σ { s with heap := h', toks := tk } ∧ FrOK X F ρ B loc h' := by
  obtain ⟨hB, hl, hL, hC⟩ := f
  have same : ∀ {b : Addr} {o : Obj}, b ≠ a → s.heap.get? b = some o → h'.get? b = s.heap.get? b := fun hb ho => (hs _ _ hb ho).trans ho.symm
  refine ⟨⟨fun b o e => hs b o (fun q => by rw [q, hB] at e; first | exact none_k e | exact false_k e | exact some_k e | exact true_k e | cases e) (I.sub b o e), I.base, I.len, fun i b ao h1 h2 => ?_, I.free, I.nodup, I.gens, I.os, I.two, I.low⟩, ?_⟩
  · have x := I.obj i b ao h1 h2
    obtain ⟨o, ho, _⟩ := x.live
    exact x.mono (.refl B) (.refl loc) (same (fun q => hl (q ▸ List.mem_of_getElem? h1)) ho)
  · obtain ⟨oL, hoL, _⟩ := R.Lat
    refine R.grow (.refl _ _) (same (Ne.symm hL) hoL) (fun n c hc => ?_) R.LB R.Ll fun hown n c hc => ⟨(R.cown hown n c hc).1, (R.cown hown n c hc).2.1⟩
    obtain ⟨i, h1, h2⟩ := K.cellsNm n c hc
    obtain ⟨ov, ⟨y, hy, _⟩, _⟩ := R.cl i n c h1 h2 hc
    refine same (fun q => ?_) hy
    subst q
    cases hown : F.own with
    | true => exact hC hown n hc
    | false =>
      obtain ⟨x, hx⟩ := R.cfrz hown n c hc
      rw [hB] at hx; first | exact none_k hx | exact false_k hx | exact some_k hx | exact true_k hx | obtain rfl := IsV.bool_i hx | obtain rfl := IsV.none_i hx | cases hx
theorem extBut_of {a : Addr} {h h' : Heap} (x : Heap.SameBut a h h') : Heap.ExtBut a h h' := fun b o hb e => (x.2 b hb).trans e

set_option tactic.hygienic true in
theorem next_end {src : Src} {it : Addr} (hn : src.next σ = some none) (K : F.Ok) (hA : A.handled = none) (I : Inv X B loc σ s) (R : FrOK X F ρ B loc s.heap) (f : Free F B loc it) (x : ItAt loc s.heap it src) {Q : Option Value → Shared → Prop}
    (hq : ∀ s', Inv X B loc σ s' → FrOK X F ρ B loc s'.heap → Q none s') : wpAny (model X.p X.w) A (pyNext (.ref it)) Q E s := by
  have fin : ∀ h', Heap.ExtBut it s.heap h' → Q none { s with heap := h' } := fun h' hx => by
    obtain ⟨I', R'⟩ := Inv.otherX (tk := s.toks) K I R f hx
    exact hq _ I' R'
  unfold Src.next at hn
  cases src with
  | lst i k =>
    dsimp only at hn
    obtain ⟨l, hl, hit⟩ := x
    split at hn
    · rename_i vs e
      split at hn <;> first | exact none_k hn | exact false_k hn | exact some_k hn | exact true_k hn | obtain rfl := IsV.bool_i hn | obtain rfl := IsV.none_i hn | cases hn
      rename_i hk
      obtain ⟨vals, n, g, r⟩ := I.list hl e
      have hk' : vals.toArray[k]? = none := by
        rw [List.getElem?_toArray, List.getElem?_eq_none_iff, r.length]; exact List.getElem?_eq_none_iff.mp hk
      exact wpAny_pyNext_list_end hA hit (isList_of g) hk' fin
    · first | exact none_k hn | exact false_k hn | exact some_k hn | exact true_k hn | obtain rfl := IsV.bool_i hn | obtain rfl := IsV.none_i hn | cases hn
  | rng a n =>
    cases n with
    | zero => exact wpAny_pyNext_range_end hA x (by lia) fin
    | succ n => first | exact none_k hn | exact false_k hn | exact some_k hn | exact true_k hn | obtain rfl := IsV.bool_i hn | obtain rfl := IsV.none_i hn | cases hn
  | chs l =>
    cases l with
    | nil =>
      obtain ⟨pre, t, hit⟩ := x
      exact wpAny_pyNext_ascii_end hA hit (by simp) fin
    | cons c l => first | exact none_k hn | exact false_k hn | exact some_k hn | exact true_k hn | obtain rfl := IsV.bool_i hn | obtain rfl := IsV.none_i hn | cases hn
set_option tactic.hygienic true in
theorem next_item {src src' : Src} {it : Addr} {v : AV} (hn : src.next σ = some (some (v, src'))) (K : F.Ok) (I : Inv X B loc σ s) (R : FrOK X F ρ B loc s.heap) (f : Free F B loc it) (x : ItAt loc s.heap it src) {Q : Option Value → Shared → Prop}
    (hq : ∀ val s', IsV X.ca B loc val v → Inv X B loc σ s' → FrOK X F ρ B loc s'.heap → ItAt loc s'.heap it src' → Q (some val) s') : wpAny (model X.p X.w) A (pyNext (.ref it)) Q E s := by
  have fin : ∀ h' tk val, Heap.SameBut it s.heap h' → IsV X.ca B loc val v → ItAt loc h' it src' → Q (some val) { s with heap := h', toks := tk } := fun h' tk val hx hv hi => by
    obtain ⟨I', R'⟩ := Inv.otherX (tk := tk) K I R f (extBut_of hx)
    exact hq _ _ hv I' R' hi
  unfold Src.next at hn
  cases src with
  | lst i k =>
    dsimp only at hn
    obtain ⟨l, hl, hit⟩ := x
    split at hn
    · rename_i vs e
      split at hn <;> first | exact none_k hn | exact false_k hn | exact some_k hn | exact true_k hn | obtain rfl := IsV.bool_i hn | obtain rfl := IsV.none_i hn | cases hn
      rename_i hk
      obtain ⟨vals, n, g, r⟩ := I.list hl e
      obtain ⟨y, e1, e2⟩ := r.get hk
      exact wpAny_pyNext_list_item hit (isList_of g) (x := y) (by simpa using e1) fun h' h1 h2 => fin h' s.toks _ h2 e2 ⟨l, hl, h1⟩
    · first | exact none_k hn | exact false_k hn | exact some_k hn | exact true_k hn | obtain rfl := IsV.bool_i hn | obtain rfl := IsV.none_i hn | cases hn
  | rng a n =>
    cases n with
    | zero => first | exact none_k hn | exact false_k hn | exact some_k hn | exact true_k hn | obtain rfl := IsV.bool_i hn | obtain rfl := IsV.none_i hn | cases hn
    | succ n =>
      first | exact none_k hn | exact false_k hn | exact some_k hn | exact true_k hn | obtain rfl := IsV.bool_i hn | obtain rfl := IsV.none_i hn | cases hn
      refine wpAny_pyNext_range_item x (by lia) fun h' h1 h2 => fin h' _ _ h2 .int ?_
      have : ((n + 1 : Nat) : Int) - 1 = n := by lia
      rw [this] at h1; exact h1
  | chs l =>
    cases l with
    | nil => first | exact none_k hn | exact false_k hn | exact some_k hn | exact true_k hn | obtain rfl := IsV.bool_i hn | obtain rfl := IsV.none_i hn | cases hn
    | cons c l =>
      first | exact none_k hn | exact false_k hn | exact some_k hn | exact true_k hn | obtain rfl := IsV.bool_i hn | obtain rfl := IsV.none_i hn | cases hn
      obtain ⟨pre, t, hit⟩ := x
      refine wpAny_pyNext_ascii_item (c := c) hit (by simp) fun h' h1 h2 => fin h' _ _ h2 (.str (l := [c])) ⟨pre ++ [c], t, ?_⟩
      have e1 : pre ++ [c] ++ l = pre ++ c :: l := by simp
      rw [e1]; simpa using h1

noncomputable def SI (X : Cx) (d : Nat) (ρ : Loc) (x : ME) (σ : St) (src : Src) (σ' : St) : Prop :=
  (∀ (sg : Sg) (e : Expr), matchE sg x e = true → ∀ env v, foldedSetIterable e env v = pure v) ∧
  ∀ (F : Fm) (A : Around) (E : Value → Shared → Prop) (s : Shared) (B : Part) (loc : List Addr) (e : Expr), F.Ok → AOk d A → matchE F.sg x e = true → Inv X B loc σ s → FrOK X F ρ B loc s.heap →
    ∀ Q : Value → Shared → Prop, (∀ it s' B' loc', Grow B loc B' loc' → Inv X B' loc' σ' s' → FrOK X F ρ B' loc' s'.heap → Free F B' loc' it → ItAt loc' s'.heap it src → Q (.ref it) s') →
      wpAny (model X.p X.w) A (eval e F.env) (fun v s₁ => wpAny (model X.p X.w) A (pyIter v) Q E s₁) E s

theorem fold_plain {sg : Sg} {x : ME} {e : Expr} (h : matchE sg x e = true) (hb : x ≠ .bad) (env : Env) (v : Value) : foldedSetIterable e env v = pure v := by
  cases e with
  | Set => cases x <;> first | exact absurd rfl hb | exact false_k h
  | _ => rfl

theorem Free.fresh (K : F.Ok) (I : Inv X B loc σ s) (R : FrOK X F ρ B loc s.heap) : Free F B loc s.heap.objs.size :=
  ⟨I.fresh.1, I.fresh.2, Nat.ne_of_gt R.ltL, fun q0 n hc => absurd (R.ltC K hc) (Nat.lt_irrefl _)⟩
theorem iter_new {it : Obj} {src : Src} {tk : Nat} (K : F.Ok) (I : Inv X B loc σ s) (R : FrOK X F ρ B loc s.heap) (h : ItAt loc (s.heap.push it) s.heap.objs.size src) {Q : Value → Shared → Prop}
    (hq : ∀ it s' B' loc', Grow B loc B' loc' → Inv X B' loc' σ s' → FrOK X F ρ B' loc' s'.heap → Free F B' loc' it → ItAt loc' s'.heap it src → Q (.ref it) s') : Q (.ref s.heap.objs.size) { s with heap := s.heap.push it, toks := tk } :=
  hq _ _ B loc (.refl _ _) (I.keep (s' := { s with heap := s.heap.push it, toks := tk }) (Keep.push _ _) rfl rfl) (R.keep (Keep.push _ _)) (Free.fresh K I R) h
theorem s_itL {e : ME} {i : Nat} {vs : List AV} (hb : e ≠ .bad) (h1 : SE X d ρ e σ (.ref i) σ₁) (h : σ₁[i]? = some (.list vs)) : SI X d ρ e σ (.lst i 0) σ₁ := by
  refine ⟨fun sg e' hm env v => fold_plain hm hb env v, fun F A E s B loc e K hA hm I R Q hq => ?_⟩
  refine h1 F A E s B loc e K hA hm I R _ fun r s' B' loc' g I' R' q => ?_
  cases q with
  | ref ha =>
    obtain ⟨vals, n, gg, r⟩ := I'.list ha h
    exact wpAny_pyIter_list (isList_of gg) (iter_new (tk := s'.toks) (src := .lst i 0) K I' R' ⟨_, ha, _, Heap.get?_push_size _ rfl, rfl, rfl⟩ fun it s2 B2 loc2 g2 I2 R2 f2 x2 => hq it s2 B2 loc2 (g.trans g2) I2 R2 f2 x2)
theorem s_itS {e : ME} {l : List Nat} (hb : e ≠ .bad) (h1 : SE X d ρ e σ (.str l) σ₁) (h : ∀ c ∈ l, c < 128) : SI X d ρ e σ (.chs l) σ₁ := by
  refine ⟨fun sg e' hm env v => fold_plain hm hb env v, fun F A E s B loc e K hA hm I R Q hq => ?_⟩
  refine h1 F A E s B loc e K hA hm I R _ fun r s' B' loc' g I' R' q => ?_
  cases q with
  | str =>
    refine wpAny_pyIter_ascii (by simpa using h) (iter_new (tk := s'.toks) (src := .chs l) K I' R' ⟨[], _, _, Heap.get?_push_size _ rfl, rfl, by simp; rfl⟩ fun it s2 B2 loc2 g2 I2 R2 f2 x2 => hq it s2 B2 loc2 (g.trans g2) I2 R2 f2 x2)
theorem s_itR (H : CxOk X) {e : ME} {k : Int} (h1 : SE X d ρ e σ (.int k) σ₁) (h0 : 0 ≤ k) (hk : k < 1000) : SI X d ρ (.bf 9 e) σ (.rng 0 k.toNat) σ₁ := by
  refine ⟨fun sg e' hm env v => fold_plain hm (by simp) env v, fun F A E s B loc e K hA hm I R Q hq => ?_⟩
  obtain ⟨np, x, p, rfl, e1, e2⟩ := m_bf hm
  obtain ⟨b1, b2, b3⟩ := H.bfs 9 (by lia)
  refine wpAny_Call_ofName (Fm.builtin H K I e1 b1 b2 b3 ?_)
  have hp : starEach [x] F.env = [(false, eval x F.env)] := by rw [star_one (m_star e2)]; rfl
  rw [hp]
  refine PySem.callWith_type rfl (evalArgs_plain (Calls.spliced_cons (h1 F A E s B loc x K hA e2 I R _ fun r1 s₁ B₁ loc₁ g₁ I₁ R₁ q₁ => Calls.spliced_nil ?_)))
  cases q₁
  refine call_range_1 ?_
  have I2 := I₁.keep (s' := { s₁ with heap := s₁.heap.push { cls := .type "range", data := .fields #[.int 0 s₁.toks, .int k ‹Tok›, .int 1 (s₁.toks + 1)] }, toks := s₁.toks + 1 + 1 }) (Keep.push _ _) rfl rfl
  have R2 : FrOK X F ρ B₁ loc₁ (s₁.heap.push { cls := .type "range", data := .fields #[.int 0 s₁.toks, .int k ‹Tok›, .int 1 (s₁.toks + 1)] }) := R₁.keep (Keep.push _ _)
  have hsz : Builtin.Range.rangeSize 0 k 1 = k := by unfold Builtin.Range.rangeSize; simp; lia
  refine wpAny_pyIter_range (Heap.get?_push_size _ rfl) (by unfold Builtin.Range.small; simp only [hsz]; simp [Builtin.Range.rangeFitsLong]; lia) ?_
  refine iter_new (src := .rng 0 k.toNat) (tk := s₁.toks + 1 + 1) K I2 R2 ?_ fun it s2 B2 loc2 g2 I2 R2 f2 x2 => hq it s2 B2 loc2 (g₁.trans g2) I2 R2 f2 x2
  show (Heap.get? _ _) = _
  rw [Heap.get?_push_size _ rfl, hsz]
  have : ((k.toNat : Nat) : Int) = k := by lia
  rw [this]
end
end Mine
end

section
set_option compiler.extract_closed false
open PySem PySem.W PyProof.Rows PySem.Calls
set_option Elab.async false
set_option maxRecDepth 100000
set_option tactic.hygienic false
set_option linter.all false
namespace Mine
section
set_option compiler.extract_closed false
variable {X : Cx} {F : Fm} {ρ ρ' ρ₁ ρ₂ ρ₃ : Loc} {B : Part} {loc : List Addr} {σ σ' σ₁ σ₂ σ₃ : St} {s s' : Shared} {A : Around} {E : Value → Shared → Prop} {d : Nat}

theorem while_turn {p : Program} {w : World} {R : Result → Shared → Prop} {test body orelse env}
    (h : wpAny (model p w) A (PySem.isTrue test env (eval test env)) (fun b s₂ =>
        if b then wpAny (model p w) A (execs body env) (fun f s₃ => match f with
            | .next | .cont => codeAny (model p w) A (.whileLoop test body orelse env) R s₃
            | .brk => R (.ok .next) s₃
            | .ret v => R (.ok (.ret v)) s₃) (notedBy (model p w) A env fun e s' => R (.error e) s') s₂
        else wpAny (model p w) A (execs orelse env) (fun f s₃ => R (.ok f) s₃) (notedBy (model p w) A env fun e s' => R (.error e) s') s₂)
        (notedBy (model p w) A env fun e s' => R (.error e) s') s) : codeAny (model p w) A (.whileLoop test body orelse env) R s := by
  refine codeAny_of_tree ?_
  show wpAny _ A ((whileTurn test body orelse env).onRaise (fun x => do noteFrame x env; theTreesLotGoes x)) _ _ s
  refine wpAny_noted ?_
  simp only [whileTurn]
  refine wpAny_bind (wpAny_mono h (fun b s₂ h₂ => ?_) fun q0 q0 h' => h')
  cases b with
  | false =>
    simp only [Bool.false_eq_true, if_false] at h₂ ⊢
    exact wpAny_bind (wpAny_mono h₂ (fun f s₃ h₃ => wpAny_pure h₃) fun q0 q0 h' => h')
  | true =>
    simp only [if_true] at h₂ ⊢
    refine wpAny_bind (wpAny_mono h₂ (fun f s₃ h₃ => ?_) fun q0 q0 h' => h')
    cases f with
    | next => exact wpAny_pure ⟨rfl, h₃⟩
    | cont => exact wpAny_pure ⟨rfl, h₃⟩
    | brk => exact wpAny_pure h₃
    | ret v => exact wpAny_pure h₃
theorem for_turn {p : Program} {w : World} {R : Result → Shared → Prop} {target it body orelse env}
    (h : wpAny (model p w) A (pyNext it) (fun r s₁ => match r with
      | none => wpAny (model p w) A (execs orelse env) (fun f s₃ => R (.ok f) s₃) (notedBy (model p w) A env fun e s' => R (.error e) s') s₁
      | some v => wpAny (model p w) A (letOwnedTupleGo target it v) (fun q0 s₁' =>
          wpAny (model p w) A (assign target env v) (fun q0 s₂ => wpAny (model p w) A (execs body env) (fun f s₃ => match f with
            | .next | .cont => codeAny (model p w) A (.forLoop target it body orelse env) R s₃
            | .brk => R (.ok .next) s₃
            | .ret v => R (.ok (.ret v)) s₃) (notedBy (model p w) A env fun e s' => R (.error e) s') s₂) (notedBy (model p w) A env fun e s' => R (.error e) s') s₁') (notedBy (model p w) A env fun e s' => R (.error e) s') s₁) (notedBy (model p w) A env fun e s' => R (.error e) s') s) :
    codeAny (model p w) A (.forLoop target it body orelse env) R s := by
  refine codeAny_of_tree ?_
  show wpAny _ A ((forTurn target it body orelse env).onRaise (fun x => do noteFrame x env; theTreesLotGoes x)) _ _ s
  refine wpAny_noted ?_
  simp only [forTurn]
  refine wpAny_bind (wpAny_standAt (wpAny_bind (wpAny_onRaise (wpAny_mono h (fun r s₁ h₁ => ?_) fun q0 q0 h' => wpAny_standAt h'))))
  cases r with
  | none => exact wpAny_pure ⟨rfl, codeAny_block h₁⟩
  | some v =>
    refine wpAny_bind (wpAny_mono h₁ (fun q0 s₁' h₁' => ?_) fun q0 q0 h' => h')
    refine wpAny_bind (wpAny_mono h₁' (fun q0 s₂ h₂ => wpAny_bind (wpAny_mono h₂ (fun f s₃ h₃ => ?_) fun q0 q0 h' => h')) fun q0 q0 h' => h')
    cases f with
    | next => exact wpAny_pure ⟨rfl, h₃⟩
    | cont => exact wpAny_pure ⟨rfl, h₃⟩
    | brk => exact wpAny_pure h₃
    | ret v => exact wpAny_pure h₃

noncomputable def SW (X : Cx) (d : Nat) (ρ : Loc) (t : ME) (b : List MS) (σ : St) (fl : Fl) (ρ' : Loc) (σ' : St) : Prop :=
  ∀ (F : Fm) (A : Around) (s : Shared) (B : Part) (loc : List Addr) (t' : Expr) (b' : List Stmt), F.Ok → F.own = true → AOk d A → matchE F.sg t t' = true → matchB F.sg b b' = true → Inv X B loc σ s → FrOK X F ρ B loc s.heap →
    ∀ R : Result → Shared → Prop, Thn X F ρ' B loc σ' (fun B' loc' r => FlR X.ca B' loc' fl r) (fun f s' => R (.ok f) s') → codeAny (model X.p X.w) A (.whileLoop t' b' [] F.env) R s
noncomputable def SF (X : Cx) (d : Nat) (ρ : Loc) (g : Tg) (src : Src) (b : List MS) (σ : St) (fl : Fl) (ρ' : Loc) (σ' : St) : Prop :=
  ∀ (F : Fm) (A : Around) (s : Shared) (B : Part) (loc : List Addr) (t' : Expr) (b' : List Stmt) (it : Addr), F.Ok → F.own = true → AOk d A → matchT F.sg g t' = true → matchB F.sg b b' = true → Inv X B loc σ s → FrOK X F ρ B loc s.heap → Free F B loc it → ItAt loc s.heap it src →
    ∀ R : Result → Shared → Prop, Thn X F ρ' B loc σ' (fun B' loc' r => FlR X.ca B' loc' fl r) (fun f s' => R (.ok f) s') → codeAny (model X.p X.w) A (.forLoop t' (.ref it) b' [] F.env) R s

theorem s_sh {t : ME} {b : List MS} {fl : Fl} (h1 : SW X d ρ t b σ fl ρ' σ₁) : SS X d ρ (.wh t b) σ fl ρ' σ₁ := by
  intro F A E s B loc st K ho hA hm I R Q hq
  obtain ⟨t', b', p, rfl, m1, m2⟩ := n_wh hm
  exact wpAny_While (h1 F A s B loc t' b' K ho hA m1 m2 I R _ fun r s' B' loc' g I' R' q => hq r s' B' loc' g I' R' q)
theorem s_wF {t : ME} {b : List MS} (h1 : ST X d ρ t σ false σ₁) : SW X d ρ t b σ .next ρ σ₁ := by
  intro F A s B loc t' b' K ho hA m1 m2 I R Rr hq
  refine while_turn (h1 F A _ s B loc t' K hA m1 I R _ fun r s' B' loc' g I' R' q => ?_)
  subst q
  exact wpAny_pure (hq _ _ _ _ g I' R' trivial)
theorem s_wN {t : ME} {b : List MS} {fl fl' : Fl} (h1 : ST X d ρ t σ true σ₁) (h2 : SB X d ρ b σ₁ fl ρ₁ σ₂) (hf : fl = .next ∨ fl = .cont) (h3 : SW X d ρ₁ t b σ₂ fl' ρ₂ σ₃) : SW X d ρ t b σ fl' ρ₂ σ₃ := by
  intro F A s B loc t' b' K ho hA m1 m2 I R Rr hq
  refine while_turn (h1 F A _ s B loc t' K hA m1 I R _ fun r s' B' loc' g I' R' q => ?_)
  subst q
  rw [if_pos rfl]
  refine h2 F A _ s' B' loc' b' K ho hA m2 I' R' _ fun r2 s2 B2 loc2 g2 I2 R2 q2 => ?_
  have go := h3 F A s2 B2 loc2 t' b' K ho hA m1 m2 I2 R2 Rr (hq.after (g.trans g2))
  rcases hf with rfl | rfl <;> cases r2 <;> first | exact q2.elim | exact go
theorem s_wB {t : ME} {b : List MS} (h1 : ST X d ρ t σ true σ₁) (h2 : SB X d ρ b σ₁ .brk ρ₁ σ₂) : SW X d ρ t b σ .next ρ₁ σ₂ := by
  intro F A s B loc t' b' K ho hA m1 m2 I R Rr hq
  refine while_turn (h1 F A _ s B loc t' K hA m1 I R _ fun r s' B' loc' g I' R' q => ?_)
  subst q
  rw [if_pos rfl]
  refine h2 F A _ s' B' loc' b' K ho hA m2 I' R' _ fun r2 s2 B2 loc2 g2 I2 R2 q2 => ?_
  cases r2 <;> first | exact q2.elim | exact hq _ _ _ _ (g.trans g2) I2 R2 trivial
theorem s_wR {t : ME} {b : List MS} {v : AV} (h1 : ST X d ρ t σ true σ₁) (h2 : SB X d ρ b σ₁ (.ret v) ρ₁ σ₂) : SW X d ρ t b σ (.ret v) ρ₁ σ₂ := by
  intro F A s B loc t' b' K ho hA m1 m2 I R Rr hq
  refine while_turn (h1 F A _ s B loc t' K hA m1 I R _ fun r s' B' loc' g I' R' q => ?_)
  subst q
  rw [if_pos rfl]
  refine h2 F A _ s' B' loc' b' K ho hA m2 I' R' _ fun r2 s2 B2 loc2 g2 I2 R2 q2 => ?_
  cases r2 <;> first | exact q2.elim | exact hq (.ret _) _ _ _ (g.trans g2) I2 R2 q2

theorem s_sf {g : Tg} {it : ME} {b : List MS} {src : Src} {fl : Fl} (h1 : SI X d ρ it σ src σ₁) (h2 : SF X d ρ g src b σ₁ fl ρ' σ₂) : SS X d ρ (.fr g it b) σ fl ρ' σ₂ := by
  intro F A E s B loc st K ho hA hm I R Q hq
  obtain ⟨t, i, b', p, rfl, m1, m2, m3⟩ := n_fr hm
  refine wpAny_For (h1.2 F A E s B loc i K hA m2 I R _ fun it s' B' loc' g I' R' f x => ?_) (h1.1 F.sg i m2 F.env)
  exact h2 F A s' B' loc' t b' it K ho hA m1 m3 I' R' f x _ (hq.after g)

set_option tactic.hygienic true in
theorem letGo_plain {p : Program} {w : World} {t : Expr} {it : Addr} {v : Value} {o : Obj} {n : String} {Q : Unit → Shared → Prop} (ho : s.heap.get? it = some o) (hc : o.cls = .type n) (hn : itTys.contains n = false) (hQ : Q () s) :
    wpAny (model p w) A (letOwnedTupleGo t (.ref it) v) Q E s := by
  have main : wpAny (model p w) A (do
      let (.ref r, .ref a) := ((Value.ref it), v) | return
      let o ← load r
      match o.cls, o.data with
      | .type n, .fields vs =>
        if ["enumerate", "zip", "dict_itemiterator", "dict_reverseitemiterator", "odict_iterator", "itertools.zip_longest", "itertools.pairwise"].contains n && vs[0]? == some (rawInt a) then
          rule "for.unpacks-the-owned-tuple"
          updateField r 0 .none
      | _, _ => pure ()) Q E s := by
    cases v <;> try exact wpAny_pure hQ
    rename_i a
    refine wpAny_bind (wpAny_load ho ?_)
    rw [hc]
    cases o.data <;> try exact wpAny_pure hQ
    dsimp only
    have hn' : (["enumerate", "zip", "dict_itemiterator", "dict_reverseitemiterator", "odict_iterator", "itertools.zip_longest", "itertools.pairwise"].contains n) = false := hn
    rw [hn', Bool.false_and, if_neg (by decide)]
    exact wpAny_pure hQ
  cases t <;> first | exact wpAny_pure hQ | exact main

theorem s_fE {g : Tg} {src : Src} {b : List MS} (hn : src.next σ = some none) : SF X d ρ g src b σ .next ρ σ := by
  intro F A s B loc t' b' it K ho hA m1 m2 I R f x Rr hq
  exact for_turn (next_end hn K hA.h I R f x fun s' I' R' => wpAny_pure (hq.here (s := s') I' R' trivial))

theorem for_body {g : Tg} {src src' : Src} {b : List MS} {v : AV} {fl : Fl} (hn : src.next σ = some (some (v, src'))) (h1 : SA X d ρ g v σ ρ₁ σ₁) (h2 : SB X d ρ₁ b σ₁ fl ρ₂ σ₂) (K : F.Ok) (ho : F.own = true) (hA : AOk d A) {t' : Expr} {b' : List Stmt} {it : Addr}
    (m1 : matchT F.sg g t' = true) (m2 : matchB F.sg b b' = true) (I : Inv X B loc σ s) (R : FrOK X F ρ B loc s.heap) (f : Free F B loc it) (x : ItAt loc s.heap it src) {Rr : Result → Shared → Prop}
    (hq : ∀ r s' B' loc', Grow B loc B' loc' → Inv X B' loc' σ₂ s' → FrOK X F ρ₂ B' loc' s'.heap → Free F B' loc' it → ItAt loc' s'.heap it src' → FlR X.ca B' loc' fl r → match r with
            | .next | .cont => codeAny (model X.p X.w) A (.forLoop t' (.ref it) b' [] F.env) Rr s'
            | .brk => Rr (.ok .next) s'
            | .ret v => Rr (.ok (.ret v)) s') : codeAny (model X.p X.w) A (.forLoop t' (.ref it) b' [] F.env) Rr s := by
  refine for_turn (next_item hn K I R f x fun val s₁ hv I₁ R₁ x₁ => ?_)
  obtain ⟨o, n, ho1, hd, hc, ht⟩ := x₁.obj
  refine letGo_plain ho1 hc ht ?_
  obtain ⟨B₁, e1, I₂, R₂, back⟩ := held K I₁ R₁ f.b f.l f.ns f.c ho1 hd
  refine h1 F A _ s₁ B₁ loc t' val K ho hA m1 I₂ R₂ (hv.mono e1 (.refl _)) _ fun q0 s₃ B₃ loc₃ g₃ I₃ R₃ q0 => ?_
  refine h2 F A _ s₃ B₃ loc₃ b' K ho hA m2 I₃ R₃ _ fun r s₄ B₄ loc₄ g₄ I₄ R₄ q₄ => ?_
  obtain ⟨B₅, g₅, I₅, R₅, h5, b5, l5, v5⟩ := back B₄ loc₄ σ₂ s₄ ρ₂ (g₃.trans g₄) I₄ R₄
  refine hq r s₄ B₅ loc₄ g₅ I₅ R₅ ⟨b5, l5, f.ns, f.c⟩ (x₁.same g₅.pre (h5.trans ho1.symm)) ?_
  cases fl <;> cases r <;> first | exact q₄ | exact v5 _ _ q₄
theorem s_fN {g : Tg} {src src' : Src} {b : List MS} {v : AV} {fl fl' : Fl} (hn : src.next σ = some (some (v, src'))) (h1 : SA X d ρ g v σ ρ₁ σ₁) (h2 : SB X d ρ₁ b σ₁ fl ρ₂ σ₂) (hf : fl = .next ∨ fl = .cont) (h3 : SF X d ρ₂ g src' b σ₂ fl' ρ₃ σ₃) : SF X d ρ g src b σ fl' ρ₃ σ₃ := by
  intro F A s B loc t' b' it K ho hA m1 m2 I R f x Rr hq
  refine for_body hn h1 h2 K ho hA m1 m2 I R f x fun r s' B' loc' g I' R' f' x' q => ?_
  have go := h3 F A s' B' loc' t' b' it K ho hA m1 m2 I' R' f' x' Rr (hq.after g)
  rcases hf with rfl | rfl <;> cases r <;> first | exact q.elim | exact go
theorem s_fB {g : Tg} {src src' : Src} {b : List MS} {v : AV} (hn : src.next σ = some (some (v, src'))) (h1 : SA X d ρ g v σ ρ₁ σ₁) (h2 : SB X d ρ₁ b σ₁ .brk ρ₂ σ₂) : SF X d ρ g src b σ .next ρ₂ σ₂ := by
  intro F A s B loc t' b' it K ho hA m1 m2 I R f x Rr hq
  refine for_body hn h1 h2 K ho hA m1 m2 I R f x fun r s' B' loc' g I' R' f' x' q => ?_
  cases r <;> first | exact q.elim | exact hq _ _ _ _ g I' R' trivial
theorem s_fR {g : Tg} {src src' : Src} {b : List MS} {v w : AV} (hn : src.next σ = some (some (v, src'))) (h1 : SA X d ρ g v σ ρ₁ σ₁) (h2 : SB X d ρ₁ b σ₁ (.ret w) ρ₂ σ₂) : SF X d ρ g src b σ (.ret w) ρ₂ σ₂ := by
  intro F A s B loc t' b' it K ho hA m1 m2 I R f x Rr hq
  refine for_body hn h1 h2 K ho hA m1 m2 I R f x fun r s' B' loc' g I' R' f' x' q => ?_
  cases r <;> first | exact q.elim | exact hq (.ret _) _ _ _ g I' R' q
end
end Mine
end

section
set_option compiler.extract_closed false
open PySem PySem.W PyProof.Rows PySem.Calls
set_option Elab.async false
set_option maxRecDepth 100000
set_option tactic.hygienic false
set_option linter.all false
namespace Mine
section
set_option compiler.extract_closed false
variable {X : Cx} {F : Fm} {ρ ρ' ρ₁ ρ₂ ρ₃ : Loc} {B : Part} {loc : List Addr} {σ σ' σ₁ σ₂ σ₃ σ₄ : St} {s s' : Shared} {A : Around} {E : Value → Shared → Prop} {d : Nat}

theorem comp_turn {p : Program} {w : World} {R : Result → Shared → Prop} {elt target iter : Expr} {ifs : List Expr} {scope : Scope} {pos : Pos} {it acc : Value} {env : Env}
    (h : wpAny (model p w) A (pyNext it) (fun r s₁ => match r with
      | none => R (.ok .next) s₁
      | some v => wpAny (model p w) A (letOwnedTupleGo target it v) (fun q0 s₁' => wpAny (model p w) A (assign target env v) (fun q0 s₂ =>
          wpAny (model p w) A (forIn ifs true fun c r => if r = true then do let ok ← PySem.isTrue c env (eval c env); pure (ForInStep.yield ok) else pure (ForInStep.yield r)) (fun ok s₃ =>
            if ok = true then wpAny (model p w) A (eval elt env) (fun x s₄ =>
              wpAny (model p w) A (call (.builtin "list.append") [acc, x]) (fun q0 s₅ => codeAny (model p w) A (.compLoop (.ListComp elt [⟨target, iter, ifs, 0⟩] scope pos) 0 it acc env) R s₅) (notedBy (model p w) A env fun e s' => R (.error e) s') s₄) (notedBy (model p w) A env fun e s' => R (.error e) s') s₃
            else codeAny (model p w) A (.compLoop (.ListComp elt [⟨target, iter, ifs, 0⟩] scope pos) 0 it acc env) R s₃) (notedBy (model p w) A env fun e s' => R (.error e) s') s₂) (notedBy (model p w) A env fun e s' => R (.error e) s') s₁') (notedBy (model p w) A env fun e s' => R (.error e) s') s₁) (notedBy (model p w) A env fun e s' => R (.error e) s') s) :
    codeAny (model p w) A (.compLoop (.ListComp elt [⟨target, iter, ifs, 0⟩] scope pos) 0 it acc env) R s := by
  refine codeAny_of_tree ?_
  show wpAny _ A ((compTurn (.ListComp elt [⟨target, iter, ifs, 0⟩] scope pos) 0 it acc env).onRaise (fun x => do noteFrame x env; theTreesLotGoes x)) _ _ s
  refine wpAny_noted ?_
  rw [compTurn_list]
  refine wpAny_bind (wpAny_standAt (wpAny_bind (wpAny_mono h (fun r s₁ h₁ => ?_) fun q0 q0 h' => h')))
  cases r with
  | none => exact wpAny_pure h₁
  | some v =>
    refine wpAny_bind (wpAny_mono h₁ (fun q0 s₁' h₁ => ?_) fun q0 q0 h' => h')
    refine wpAny_bind (wpAny_mono h₁ (fun q0 s₂ h₂ => wpAny_bind (wpAny_mono h₂ (fun ok s₃ h₃ => ?_) fun q0 q0 h' => h')) fun q0 q0 h' => h')
    cases ok with
    | true =>
      simp only [if_true] at h₃ ⊢
      refine wpAny_bind (wpAny_bind (wpAny_mono h₃ (fun x s₄ h₄ => wpAny_bind (wpAny_mono h₄ (fun q0 s₅ h₅ => ?_) fun q0 q0 h' => h')) fun q0 q0 h' => h'))
      exact wpAny_pure (wpAny_pure ⟨rfl, h₅⟩)
    | false =>
      simp only [Bool.false_eq_true, if_false] at h₃ ⊢
      exact wpAny_pure ⟨rfl, h₃⟩

noncomputable def SL (X : Cx) (d : Nat) (ρ : Loc) (g : List Nat) (gt : Bool) (src : Src) (cond : Option ME) (e : ME) (acc : Nat) (σ σ' : St) : Prop :=
  ∀ (F : Fm) (A : Around) (s : Shared) (B : Part) (loc : List Addr) (elt tg it' : Expr) (ifs : List Expr) (sc : Scope) (p : Pos) (it accA : Addr), F.Ok → AOk d A → compTg tg F.sg.nm g gt = true → (∀ i ∈ g, ∀ n, F.sg.nm[i]? = some n → F.sg.sc.names.lookup n = some .local) →
    matchC F.sg cond ifs = true → matchE F.sg e elt = true → Inv X B loc σ s → FrOK X F ρ B loc s.heap → Free F B loc it → ItAt loc s.heap it src → loc[acc]? = some accA →
    ∀ R : Result → Shared → Prop, (∀ s' B' loc' ρ', Grow B loc B' loc' → Inv X B' loc' σ' s' → FrOK X F ρ' B' loc' s'.heap → R (.ok .next) s') →
      codeAny (model X.p X.w) A (.compLoop (.ListComp elt [⟨tg, it', ifs, 0⟩] sc p) 0 (.ref it) (.ref accA) F.env) R s

theorem s_lE {g : List Nat} {gt : Bool} {src : Src} {cond : Option ME} {e : ME} {acc : Nat} (hn : src.next σ = some none) : SL X d ρ g gt src cond e acc σ σ := by
  intro F A s B loc elt tg it' ifs sc p it accA K hA m1 m2 m3 m4 I R f x ha Rr hq
  exact comp_turn (next_end hn K hA.h I R f x fun s' I' R' => hq s' B loc ρ (.refl _ _) I' R')

theorem nm_of {e : Expr} {nm : List Str} {i : Nat} (h : (vName e).any (fun n => nm[i]? == some n.1) = true) : ∃ n p, e = .Name n p ∧ nm[i]? = some n := by
  obtain ⟨⟨n, p, e1⟩, h⟩ := anyS (o := vName e) h
  exact ⟨n, p, e1, eq_of_beq h⟩
theorem areNm_0 {es : List Expr} {nm : List Str} (h : areNm es nm [] = true) : es = [] := by
  cases es with
  | nil => rfl
  | cons => exact false_k h
theorem areNm_1 {es : List Expr} {nm : List Str} {i : Nat} {is : List Nat} (h : areNm es nm (i :: is) = true) : ∃ n p r, es = .Name n p :: r ∧ nm[i]? = some n ∧ areNm r nm is = true := by
  cases es with
  | nil => exact false_k h
  | cons e r =>
    have h := bAnd2 h
    obtain ⟨n, p, rfl, q⟩ := nm_of h.1
    exact ⟨n, p, r, rfl, q, h.2⟩
theorem names_each (K : F.Ok) {is : List Nat} : ∀ {es : List Expr} {vs : List AV} {vals : List Value} {ρ : Loc} {B : Part} {loc : List Addr} {s : Shared} {Q : Unit → Shared → Prop}, areNm es F.sg.nm is = true → (∀ i ∈ is, ∀ n, F.sg.nm[i]? = some n → F.sg.sc.names.lookup n = some .local) →
    is.length = vs.length → Inv X B loc σ s → FrOK X F ρ B loc s.heap → IsVs X.ca B loc vals vs → Thn X F (setL ρ is vs) B loc σ (fun q0 q0 q0 => True) Q → wpAny (model X.p X.w) A (assignInOrder ((assignEach es F.env).map (·.2)) vals) Q E s := by
  induction is with
  | nil => intro es vs vals ρ B loc s Q h1 h2 h3 I R hv hq; rw [areNm_0 h1]; exact wpAny_pure (hq.here I R trivial)
  | cons i is ih =>
    intro es vs vals ρ B loc s Q h1 h2 h3 I R hv hq
    obtain ⟨n, p, r, rfl, q1, q2⟩ := areNm_1 h1
    cases vs with
    | nil => cases h3
    | cons v vs =>
      obtain ⟨x, xs, rfl, k1, k2⟩ := hv.to
      rw [each_one rfl]
      exact wpAny_assignInOrder_more (wpAny_assign_Name (name_store K I R q1 (.inr (h2 i List.mem_cons_self n q1)) k1 fun q0 s' B' loc' g I' R' q0 =>
        ih q2 (fun j hj => h2 j (List.mem_cons_of_mem _ hj)) (Nat.succ.inj h3) I' R' (k2.grow g) (hq.after g)))
theorem areNm_len {nm : List Str} {env : Env} {is : List Nat} : ∀ {es : List Expr}, areNm es nm is = true → (assignEach es env).length = is.length ∧ (assignEach es env).findIdx? (·.1) = none := by
  induction is with
  | nil => intro es h; rw [areNm_0 h]; exact ⟨rfl, rfl⟩
  | cons i is ih =>
    intro es h
    obtain ⟨n, p, r, rfl, q1, q2⟩ := areNm_1 h
    obtain ⟨e1, e2⟩ := ih q2
    rw [each_one rfl]
    exact ⟨congrArg (· + 1) e1, by rw [List.findIdx?_cons, e2]; rfl⟩
theorem target_ok {tg : Expr} {g : List Nat} {gt : Bool} {v : AV} {ws : List AV} {val : Value} (K : F.Ok) (hA : A.handled = none) (hm : compTg tg F.sg.nm g gt = true) (hl : ∀ i ∈ g, ∀ n, F.sg.nm[i]? = some n → F.sg.sc.names.lookup n = some .local)
    (h1 : gt = false → ws = [v]) (h2 : gt = true → v = .tup ws) (hl2 : g.length = ws.length) (I : Inv X B loc σ s) (R : FrOK X F ρ B loc s.heap) (hv : IsV X.ca B loc val v)
    {Q : Unit → Shared → Prop} (hq : Thn X F (setL ρ g ws) B loc σ (fun q0 q0 q0 => True) Q) : wpAny (model X.p X.w) A (assign tg F.env val) Q E s := by
  cases gt with
  | false =>
    have e := h1 rfl
    subst e
    match g, hl2, hm with
    | [i], _, hm =>
      obtain ⟨n, p, rfl, q⟩ := nm_of hm
      exact wpAny_assign_Name (name_store K I R q (.inr (hl i List.mem_cons_self _ q)) hv hq)
  | true =>
    have e := h2 rfl
    subst e
    obtain ⟨⟨es, k, p, rfl⟩, hm⟩ := anyS (o := vTuple tg) hm
    revert hq
    refine hv.tup_c fun x o n vals hB c dd r hq => ?_
    have kk := r.length
    obtain ⟨e1, e2⟩ := areNm_len (env := F.env) hm
    refine wpAny_assign_Tuple hA ⟨_, I.sub _ _ hB, c, _, dd⟩ (by rw [e1, List.size_toArray, kk, hl2]) e2 fun h' hx => ?_
    have kp := Keep.ext hx
    exact names_each K hm hl hl2 (I.keep (s' := { s with heap := h' }) kp rfl rfl) (R.keep kp) r hq

theorem append_ok {acc : Nat} {accA : Addr} {vs : List AV} {w : AV} {val : Value} (K : F.Ok) (I : Inv X B loc σ s) (R : FrOK X F ρ B loc s.heap) (ha : loc[acc]? = some accA) (he : σ[acc]? = some (.list vs)) (hz : vs.length < 100000) (hv : IsV X.ca B loc val w)
    {Q : Value → Shared → Prop} (hq : ∀ r s', Inv X B loc (σ.set acc (.list (vs ++ [w]))) s' → FrOK X F ρ B loc s'.heap → Q r s') : wpAny (model X.p X.w) A (call (.builtin "list.append") [.ref accA, val]) Q E s := by
  obtain ⟨vl, n, g, r⟩ := I.list ha he
  have k := r.length
  refine wpAny_list_append_plain (items := vl.toArray) ⟨n, g⟩ (fun h' hp hs => ?_) (by simp; rw [sizeLine_eq]; lia)
  obtain ⟨n', g'⟩ := hp
  have e : vl.toArray.push val = (vl ++ [val]).toArray := by simp
  rw [e] at g'
  obtain ⟨I', R'⟩ := I.mut K R (tk := s.toks) ha hs (.list g' (r.app (.cons hv .nil)))
  exact hq _ _ I' R'

theorem comp_next {src src' : Src} {g : List Nat} {gt : Bool} {v : AV} {ws : List AV} {tg elt it' : Expr} {ifs : List Expr} {sc : Scope} {p : Pos} {it accA : Addr} (hn : src.next σ = some (some (v, src'))) (K : F.Ok) (hA : AOk d A) (hm : compTg tg F.sg.nm g gt = true)
    (hl : ∀ i ∈ g, ∀ n, F.sg.nm[i]? = some n → F.sg.sc.names.lookup n = some .local) (h1 : gt = false → ws = [v]) (h2 : gt = true → v = .tup ws) (hl2 : g.length = ws.length) (I : Inv X B loc σ s) (R : FrOK X F ρ B loc s.heap) (f : Free F B loc it) (x : ItAt loc s.heap it src)
    {Rr : Result → Shared → Prop}
    (hq : ∀ s₂ B₁ loc₁, Grow B loc B₁ loc₁ → Inv X B₁ loc₁ σ s₂ → FrOK X F (setL ρ g ws) B₁ loc₁ s₂.heap →
      (∀ B' loc' σ' s' ρ', Grow B₁ loc₁ B' loc' → Inv X B' loc' σ' s' → FrOK X F ρ' B' loc' s'.heap → ∃ B'', Grow B loc B'' loc' ∧ Inv X B'' loc' σ' s' ∧ FrOK X F ρ' B'' loc' s'.heap ∧ Free F B'' loc' it ∧ ItAt loc' s'.heap it src') →
      wpAny (model X.p X.w) A (forIn ifs true fun c r => if r = true then do let ok ← PySem.isTrue c F.env (eval c F.env); pure (ForInStep.yield ok) else pure (ForInStep.yield r)) (fun ok s₃ =>
            if ok = true then wpAny (model X.p X.w) A (eval elt F.env) (fun x s₄ =>
              wpAny (model X.p X.w) A (call (.builtin "list.append") [.ref accA, x]) (fun q0 s₅ => codeAny (model X.p X.w) A (.compLoop (.ListComp elt [⟨tg, it', ifs, 0⟩] sc p) 0 (.ref it) (.ref accA) F.env) Rr s₅) (notedBy (model X.p X.w) A F.env fun e s' => Rr (.error e) s') s₄) (notedBy (model X.p X.w) A F.env fun e s' => Rr (.error e) s') s₃
            else codeAny (model X.p X.w) A (.compLoop (.ListComp elt [⟨tg, it', ifs, 0⟩] sc p) 0 (.ref it) (.ref accA) F.env) Rr s₃) (notedBy (model X.p X.w) A F.env fun e s' => Rr (.error e) s') s₂) :
    codeAny (model X.p X.w) A (.compLoop (.ListComp elt [⟨tg, it', ifs, 0⟩] sc p) 0 (.ref it) (.ref accA) F.env) Rr s := by
  refine comp_turn (next_item hn K I R f x fun val s₁ hv I₁ R₁ x₁ => ?_)
  obtain ⟨o, n, ho1, hd, hc, ht⟩ := x₁.obj
  refine letGo_plain ho1 hc ht ?_
  obtain ⟨B₁, e1, I₂, R₂, back⟩ := held K I₁ R₁ f.b f.l f.ns f.c ho1 hd
  refine target_ok K hA.h hm hl h1 h2 hl2 I₂ R₂ (hv.mono e1 (.refl _)) fun q0 s₂ B₂ loc₂ g₂ I₃ R₃ q0 => ?_
  refine hq s₂ B₂ loc₂ ⟨e1.trans g₂.ext, g₂.pre⟩ I₃ R₃ fun B' loc' σ' s' ρ' g' I' R' => ?_
  obtain ⟨B₅, g₅, I₅, R₅, h5, b5, l5, v5⟩ := back B' loc' σ' s' ρ' (g₂.trans g') I' R'
  exact ⟨B₅, g₅, I₅, R₅, ⟨b5, l5, f.ns, f.c⟩, x₁.same g₅.pre (h5.trans ho1.symm)⟩

theorem m_c0 {sg : Sg} {ifs : List Expr} (h : matchC sg none ifs = true) : ifs = [] := List.isEmpty_iff.mp h
theorem m_c1 {sg : Sg} {c : ME} {ifs : List Expr} (h : matchC sg (some c) ifs = true) : ∃ x, ifs = [x] ∧ matchE sg c x = true := by
  obtain ⟨⟨k, e1⟩, h⟩ := anyS (o := vCons ifs) h
  have h := bAnd2 h
  exact ⟨k.1, by rw [e1, List.isEmpty_iff.mp h.2], h.1⟩
theorem s_lN {src src' : Src} {g : List Nat} {gt : Bool} {e : ME} {acc : Nat} {v w : AV} {ws vs : List AV} (hn : src.next σ = some (some (v, src'))) (e1 : gt = false → ws = [v]) (e2 : gt = true → v = .tup ws)
    (h1 : g.length = ws.length) (h2 : SE X d (setL ρ g ws) e σ w σ₂) (he : σ₂[acc]? = some (.list vs)) (hz : vs.length < 100000) (h3 : SL X d (setL ρ g ws) g gt src' none e acc (σ₂.set acc (.list (vs ++ [w]))) σ₃) : SL X d ρ g gt src none e acc σ σ₃ := by
  intro F A s B loc elt tg it' ifs sc p it accA K hA m1 m2 m3 m4 I R f x ha Rr hq
  refine comp_next hn K hA m1 m2 e1 e2 h1 I R f x fun s₂ B₂ loc₂ g₂ I₂ R₂ back => ?_
  have hi := m_c0 m3
  subst hi
  refine wpAny_tests_nil ?_
  rw [if_pos rfl]
  refine h2 F A _ s₂ B₂ loc₂ elt K hA m4 I₂ R₂ _ fun val s₃ B₃ loc₃ g₃ I₃ R₃ q₃ => ?_
  have hacc : loc₃[acc]? = some accA := g₃.pre _ _ (g₂.pre _ _ ha)
  refine append_ok K I₃ R₃ hacc he hz q₃ fun q0 s₄ I₄ R₄ => ?_
  obtain ⟨B₅, g₅, I₅, R₅, f₅, x₅⟩ := back B₃ loc₃ _ s₄ (setL ρ g ws) g₃ I₄ R₄
  exact h3 F A s₄ B₅ loc₃ elt tg it' [] sc p it accA K hA m1 m2 m3 m4 I₅ R₅ f₅ x₅ hacc Rr fun s' B' loc' ρ' g' I' R' => hq s' B' loc' ρ' (g₅.trans g') I' R'
theorem s_lF {src src' : Src} {g : List Nat} {gt : Bool} {e c : ME} {acc : Nat} {v : AV} {ws : List AV} (hn : src.next σ = some (some (v, src'))) (e1 : gt = false → ws = [v]) (e2 : gt = true → v = .tup ws)
    (h1 : g.length = ws.length) (h2 : ST X d (setL ρ g ws) c σ false σ₂) (h3 : SL X d (setL ρ g ws) g gt src' (some c) e acc σ₂ σ₃) : SL X d ρ g gt src (some c) e acc σ σ₃ := by
  intro F A s B loc elt tg it' ifs sc p it accA K hA m1 m2 m3 m4 I R f x ha Rr hq
  refine comp_next hn K hA m1 m2 e1 e2 h1 I R f x fun s₂ B₂ loc₂ g₂ I₂ R₂ back => ?_
  obtain ⟨c', hi, mc⟩ := m_c1 m3
  subst hi
  refine wpAny_tests_one (h2 F A _ s₂ B₂ loc₂ c' K hA mc I₂ R₂ _ fun r s₃ B₃ loc₃ g₃ I₃ R₃ q₃ => ?_)
  subst q₃
  rw [if_neg (by decide)]
  obtain ⟨B₅, g₅, I₅, R₅, f₅, x₅⟩ := back B₃ loc₃ _ s₃ (setL ρ g ws) g₃ I₃ R₃
  exact h3 F A s₃ B₅ loc₃ elt tg it' [c'] sc p it accA K hA m1 m2 m3 m4 I₅ R₅ f₅ x₅ (g₃.pre _ _ (g₂.pre _ _ ha)) Rr fun s' B' loc' ρ' g' I' R' => hq s' B' loc' ρ' (g₅.trans g') I' R'
theorem s_lT {src src' : Src} {g : List Nat} {gt : Bool} {e c : ME} {acc : Nat} {v w : AV} {ws vs : List AV} (hn : src.next σ = some (some (v, src'))) (e1 : gt = false → ws = [v]) (e2 : gt = true → v = .tup ws)
    (h1 : g.length = ws.length) (h2 : ST X d (setL ρ g ws) c σ true σ₂) (h2' : SE X d (setL ρ g ws) e σ₂ w σ₃) (he : σ₃[acc]? = some (.list vs)) (hz : vs.length < 100000) (h3 : SL X d (setL ρ g ws) g gt src' (some c) e acc (σ₃.set acc (.list (vs ++ [w]))) σ₄) :
    SL X d ρ g gt src (some c) e acc σ σ₄ := by
  intro F A s B loc elt tg it' ifs sc p it accA K hA m1 m2 m3 m4 I R f x ha Rr hq
  refine comp_next hn K hA m1 m2 e1 e2 h1 I R f x fun s₂ B₂ loc₂ g₂ I₂ R₂ back => ?_
  obtain ⟨c', hi, mc⟩ := m_c1 m3
  subst hi
  refine wpAny_tests_one (h2 F A _ s₂ B₂ loc₂ c' K hA mc I₂ R₂ _ fun r s₃ B₃ loc₃ g₃ I₃ R₃ q₃ => ?_)
  subst q₃
  rw [if_pos rfl]
  refine h2' F A _ s₃ B₃ loc₃ elt K hA m4 I₃ R₃ _ fun val s₄ B₄ loc₄ g₄ I₄ R₄ q₄ => ?_
  have hacc : loc₄[acc]? = some accA := g₄.pre _ _ (g₃.pre _ _ (g₂.pre _ _ ha))
  refine append_ok K I₄ R₄ hacc he hz q₄ fun q0 s₅ I₅ R₅ => ?_
  obtain ⟨B₆, g₆, I₆, R₆, f₆, x₆⟩ := back B₄ loc₄ _ s₅ (setL ρ g ws) (g₃.trans g₄) I₅ R₅
  exact h3 F A s₅ B₆ loc₄ elt tg it' [c'] sc p it accA K hA m1 m2 m3 m4 I₆ R₆ f₆ x₆ hacc Rr fun s' B' loc' ρ' g' I' R' => hq s' B' loc' ρ' (g₆.trans g') I' R'
end
end Mine
end

section
set_option compiler.extract_closed false
open PySem PySem.W PyProof.Rows PySem.Calls
set_option Elab.async false
set_option maxRecDepth 100000
set_option tactic.hygienic false
set_option linter.all false
namespace Mine

noncomputable def cloL (cells : List (Str × Addr)) : List (Str × NameKind) → List (Str × Addr) → List (Str × Addr)
  | [], acc => acc
  | (n, k) :: r, acc => if k == .free then cloL cells r ((n, (cells.lookup n).getD 0) :: acc) else cloL cells r acc
theorem closure_eq {sc : Scope} {env : Env} (h : ∀ n, (n, NameKind.free) ∈ sc.names → ∃ c, env.cells.lookup n = some c) : closureFor sc env = pure (cloL env.cells sc.names []) := by
  have key : ∀ (names : List (Str × NameKind)) (acc : List (Str × Addr)), (∀ n, (n, NameKind.free) ∈ names → ∃ c, env.cells.lookup n = some c) →
      (forIn names acc fun (x : Str × NameKind) (cs : List (Str × Addr)) => match x with
        | (name, kind) => if (kind == NameKind.free) = true then (cellOf env name >>= fun c => (pure (ForInStep.yield ((name, c) :: cs)) : Sem (ForInStep (List (Str × Addr))))) else pure (ForInStep.yield cs)) = (pure (cloL env.cells names acc) : Sem (List (Str × Addr))) := by
    intro names
    induction names with
    | nil => intro acc _; rfl
    | cons x r ih =>
      intro acc hx
      obtain ⟨n, k⟩ := x
      rw [List.forIn_cons]
      unfold cloL
      cases hk : (k == NameKind.free) with
      | true =>
        obtain ⟨c, hc⟩ := hx n (by rw [beq_iff_eq] at hk; subst hk; exact List.mem_cons_self)
        have e : cellOf env n = pure c := by unfold cellOf; rw [hc]
        simp only [if_true, e, pure_bind, hc, Option.getD_some, hk]
        exact ih _ fun m hm => hx m (List.mem_cons_of_mem _ hm)
      | false =>
        simp only [Bool.false_eq_true, if_false, pure_bind, hk]
        exact ih _ fun m hm => hx m (List.mem_cons_of_mem _ hm)
  have := key sc.names [] h
  show (forIn sc.names [] _ >>= fun s => pure s) = _
  rw [bind_pure]
  exact this
set_option tactic.hygienic true in
theorem cloL_mem {cells : List (Str × Addr)} : ∀ (names : List (Str × NameKind)) (acc : List (Str × Addr)) (n : Str) (c : Addr), (n, c) ∈ cloL cells names acc → ((n, NameKind.free) ∈ names ∧ c = (cells.lookup n).getD 0) ∨ (n, c) ∈ acc
  | [], acc, n, c, h => .inr h
  | (m, k) :: r, acc, n, c, h => by
    unfold cloL at h
    split at h
    · rename_i e
      rw [beq_iff_eq] at e; subst e
      rcases cloL_mem r _ n c h with q | q
      · exact .inl ⟨List.mem_cons_of_mem _ q.1, q.2⟩
      · rcases List.mem_cons.mp q with q | q
        · first | exact none_k q | exact false_k q | exact some_k q | exact true_k q | cases q; exact .inl ⟨List.mem_cons_self, rfl⟩
        · exact .inr q
    · rcases cloL_mem r _ n c h with q | q
      · exact .inl ⟨List.mem_cons_of_mem _ q.1, q.2⟩
      · exact .inr q
theorem lookup_isSome_mem {α : Type} {n : Str} : ∀ {l : List (Str × α)}, (∃ c, (n, c) ∈ l) → (l.lookup n).isSome = true
  | [], h => by obtain ⟨c, h⟩ := h; first | exact none_k h | exact false_k h | exact some_k h | exact true_k h | obtain rfl := IsV.bool_i h | obtain rfl := IsV.none_i h | cases h
  | (m, x) :: r, h => by
    rw [List.lookup_cons]
    cases e : (n == m) with
    | true => rfl
    | false =>
      obtain ⟨c, h⟩ := h
      rcases List.mem_cons.mp h with h | h
      · first | exact none_k h | exact false_k h | exact some_k h | exact true_k h | cases h; simp at e
      · exact lookup_isSome_mem ⟨c, h⟩
set_option tactic.hygienic true in
theorem cloL_keep {cells : List (Str × Addr)} : ∀ (names : List (Str × NameKind)) (acc : List (Str × Addr)) (n : Str), (n, NameKind.free) ∈ names ∨ (∃ c, (n, c) ∈ acc) → ∃ c, (n, c) ∈ cloL cells names acc
  | [], acc, n, h => by rcases h with h | h; first | exact none_k h | exact false_k h | exact some_k h | exact true_k h | cases h; exact h
  | (m, k) :: r, acc, n, h => by
    unfold cloL
    split
    · rename_i e
      refine cloL_keep r _ n ?_
      rcases h with h | ⟨c, h⟩
      · rcases List.mem_cons.mp h with h | h
        · first | exact none_k h | exact false_k h | exact some_k h | exact true_k h | cases h; exact .inr ⟨_, List.mem_cons_self⟩
        · exact .inl h
      · exact .inr ⟨c, List.mem_cons_of_mem _ h⟩
    · rename_i e
      refine cloL_keep r _ n ?_
      rcases h with h | h
      · rcases List.mem_cons.mp h with h | h
        · first | exact none_k h | exact false_k h | exact some_k h | exact true_k h | cases h; simp at e
        · exact .inl h
      · exact .inr h
theorem relabel_lookup {sc o : Scope} {n : Str} (ho : o.kind = .function) : (relabelS sc o).names.lookup n = (sc.names.lookup n).map fun k => if k == .free && o.names.lookup n == some .cell then NameKind.cell else k := by
  unfold relabelS
  dsimp only
  generalize sc.names = l
  induction l with
  | nil => rfl
  | cons x r ih =>
    obtain ⟨m, k⟩ := x
    rw [List.map_cons]
    dsimp only
    cases e : (n == m) with
    | true =>
      have e' := eq_of_beq e
      subst e'
      have hk : (o.kind == ScopeKind.function) = true := by rw [ho]; rfl
      rw [hk, Bool.and_true]
      by_cases hc : (k == NameKind.free && o.names.lookup n == some NameKind.cell) = true
      · rw [if_pos hc]; simp [List.lookup_cons, hc]
        intro q; simp at hc; exact absurd hc.2 (q hc.1)
      · rw [if_neg hc]; simp [List.lookup_cons]
        intro h1 h2; exact absurd (by simp [h1, h2]) hc
    | false =>
      have e1 : ∀ k' : NameKind, List.lookup n ((m, k') :: r) = List.lookup n r := fun k' => by rw [List.lookup_cons, e]
      have e2 : ∀ (k' : NameKind) (r' : List (Str × NameKind)), List.lookup n ((m, k') :: r') = List.lookup n r' := fun k' r' => by rw [List.lookup_cons, e]
      rw [e1, ← ih]
      split <;> exact e2 _ _

structure CsOk (sg : Sg) (sc : Scope) (n : Nat) (fv : List (Nat × Nat)) (g : List Nat) : Prop where
  len : (compNames sc).length = n
  nd : (compNames sc).Nodup
  names : (sc.names.map (·.1)).Nodup
  kind : sc.kind = .function
  nocell : ∀ x ∈ sc.names, x.2 ≠ .cell
  at_ : ∀ (i : Nat) (x : Str), (compNames sc)[i]? = some x → (∃ j, fv.lookup i = some j ∧ sc.names.lookup x = some .free ∧ sg.nm[j]? = some x ∧ sg.sc.names.lookup x = some .cell) ∨ (fv.lookup i = none ∧ sc.names.lookup x = some .local)
  free : ∀ x ∈ sc.names, x.2 = .free → x.1 ∈ compNames sc
  g : ∀ i ∈ g, i < n ∧ fv.lookup i = none
theorem csOk {sg : Sg} {sc : Scope} {n : Nat} {fv : List (Nat × Nat)} {g : List Nat} (h : compScope sg sc n fv g = true) : CsOk sg sc n fv g := by
  unfold compScope at h
  simp only [Bool.and_eq_true, beq_iff_eq, decide_eq_true_eq, List.all_eq_true, bne_iff_ne, Bool.or_eq_true, List.contains_iff_mem, Option.isNone_iff_eq_none, List.mem_range] at h
  obtain ⟨⟨⟨⟨⟨⟨⟨h1, h2⟩, h3⟩, h4⟩, h5⟩, h6⟩, h7⟩, h8⟩ := h
  refine ⟨h1, h2, h3, h4, h5, fun i x hx => ?_, fun x hx e => ?_, h8⟩
  · have hi : i < n := h1 ▸ (List.getElem?_eq_some_iff.mp hx).1
    have := h6 i hi
    rw [hx] at this
    dsimp only at this
    cases e : fv.lookup i with
    | some j =>
      rw [e] at this
      simp only [Bool.and_eq_true, beq_iff_eq] at this
      exact .inl ⟨j, rfl, this.1.1, this.1.2, this.2⟩
    | none =>
      rw [e] at this
      simp only [beq_iff_eq] at this
      exact .inr ⟨rfl, this⟩
  · rcases h7 x hx with q | q
    · exact absurd e q
    · exact q

section
set_option compiler.extract_closed false
variable {X : Cx} {F : Fm} {ρ ρ' ρ₁ ρ₂ ρ₃ : Loc} {B : Part} {loc : List Addr} {σ σ' σ₁ σ₂ σ₃ σ₄ : St} {s s' : Shared} {A : Around} {E : Value → Shared → Prop} {d : Nat}

theorem relabel_eq (K : F.Ok) (sc : Scope) : relabel sc F.env = relabelS sc F.sg.sc := by
  unfold relabel relabelS
  have : ∀ n, F.env.kindOf n = F.sg.sc.names.lookup n := kindOf_eq K
  rw [K.sc]
  simp only [this]

theorem comp_core {n : Nat} {fv : List (Nat × Nat)} {g : List Nat} {gt : Bool} {it e : ME} {cond : Option ME} {src : Src} (h1 : SI X d ρ it σ src σ₁) (h2 : SL X d (freshLoc ρ n fv) g gt src cond e σ₁.length (σ₁ ++ [.list []]) σ₂)
    (K : F.Ok) (hA : AOk d A) {elt tg it' : Expr} {ifs : List Expr} {sc : Scope} {p : Pos} (m1 : compScope F.sg sc n fv g = true) (m2 : compTg tg (compNames sc) g gt = true) (m3 : matchE F.sg it it' = true)
    (m4 : matchC ⟨compNames sc, relabelS sc F.sg.sc⟩ cond ifs = true) (m5 : matchE ⟨compNames sc, relabelS sc F.sg.sc⟩ e elt = true) (I : Inv X B loc σ s) (R : FrOK X F ρ B loc s.heap) (use : Option (Value → Sem Unit)) {Q : Value → Shared → Prop} {fp : Pos}
    (hq : ∀ s' B' loc' C m accA, Grow B loc B' loc' → Inv X B' loc' σ₂ s' → FrOK X F ρ B' loc' s'.heap → Free F B' loc' C → s'.heap.Ns C m → loc'[σ₁.length]? = some accA → match use with
      | none => ∀ h', Heap.SameBut C s'.heap h' → Q (.ref accA) { s' with heap := h' }
      | some u => wpAny (model X.p X.w) A (u (.ref accA)) (fun q0 s'' => ∃ m, s''.heap.Ns C m ∧ ∀ h', Heap.SameBut C s''.heap h' → Q .none { s'' with heap := h' }) E s') :
    wpAny (model X.p X.w) A (comprehension (.ListComp elt [⟨tg, it', ifs, 0⟩] sc p) sc F.env fp (newList []) false (eval it' F.env) use) Q E s := by
  have Z := csOk m1
  have hcl : ∀ n, (n, NameKind.free) ∈ sc.names → ∃ j, F.sg.nm[j]? = some n ∧ F.sg.sc.names.lookup n = some .cell := fun n hn => by
    obtain ⟨i, hi, e⟩ := List.mem_iff_getElem.mp (Z.free _ hn rfl)
    rcases Z.at_ i n (by rw [List.getElem?_eq_getElem hi, e]) with ⟨j, _, _, a, b⟩ | ⟨_, b⟩
    · exact ⟨j, a, b⟩
    · rw [mem_lookup Z.names hn] at b; first | exact none_k b | exact false_k b | exact some_k b | exact true_k b | obtain rfl := IsV.bool_i b | obtain rfl := IsV.none_i b | cases b
  have hcl' : ∀ n, (n, NameKind.free) ∈ sc.names → ∃ c, F.env.cells.lookup n = some c := fun n hn => by
    obtain ⟨j, a, b⟩ := hcl n hn
    rcases K.loc j n a with q | q
    · rw [b] at q; first | exact none_k q | exact false_k q | exact some_k q | exact true_k q | obtain rfl := IsV.bool_i q | obtain rfl := IsV.none_i q | cases q
    · exact q.2
  refine wpAny_comprehension_free (use := use) rfl (h1.1 F.sg it' m3 F.env) (closure_eq hcl') Z.kind (fun x hx hl => by obtain ⟨a, b⟩ := x; dsimp only at hl ⊢; subst hl; exact mem_lookup Z.names hx) ?_
  refine h1.2 F A E s B loc it' K hA m3 I R _ fun itA s₂ B₂ loc₂ g₂ I₂ R₂ f₂ x₂ => ?_
  refine wpAny_newList ?_ (by simp)
  obtain ⟨g₃, I₃, R₃, hl₃⟩ := I₂.newMut K R₂ (o := listOf ([] : List Value).toArray 0) (ao := .list []) (tk := s₂.toks) rfl (.list (vals := []) (n := 0) (Heap.get?_push_size _ rfl) .nil)
  obtain ⟨oI, nI, hoI, hdI, _, _⟩ := x₂.obj
  have hitne : itA ≠ s₂.heap.objs.size := Nat.ne_of_lt (Heap.lt_size hoI)
  have f₃ : Free F B₂ (loc₂ ++ [s₂.heap.objs.size]) itA := ⟨f₂.b, fun h => by
    rcases List.mem_append.mp h with h | h
    · exact f₂.l h
    · exact hitne (List.mem_singleton.mp h), f₂.ns, f₂.c⟩
  have x₃ : ItAt (loc₂ ++ [s₂.heap.objs.size]) (s₂.heap.push (listOf ([] : List Value).toArray 0)) itA src := x₂.same (.app _ _) ((Heap.get?_push_of_some _ hoI).trans hoI.symm)
  generalize hloc : loc₂ ++ [s₂.heap.objs.size] = loc₃ at *
  generalize hs3 : ({ s₂ with heap := s₂.heap.push (listOf ([] : List Value).toArray 0), toks := s₂.toks } : Shared) = s₃ at *
  have hheap : s₃.heap = s₂.heap.push (listOf ([] : List Value).toArray 0) := by rw [← hs3]
  have R₃ : FrOK X F ρ B₂ loc₃ s₃.heap := hheap ▸ R₃
  have x₃ : ItAt loc₃ s₃.heap itA src := hheap ▸ x₃
  refine wpAny_newFunctionEnv (fun x hx => Z.nocell x hx) (by intro y hy; simp at hy) (fun h₄ hns hsb => ?_) Z.kind
  have fresh := I₃.fresh
  have kp : Keep s₃.heap h₄ := fun b o ho => by
    have hb : b ≠ s₃.heap.objs.size := Nat.ne_of_lt (Heap.lt_size ho)
    exact (hsb.2 b hb).trans (Heap.get?_push_of_some _ ho)
  have I₄ := I₃.keep (s' := { s₃ with heap := h₄, toks := s₃.toks + ([] : List (Str × Value)).length }) kp rfl rfl
  have R₄ : FrOK X F ρ B₂ loc₃ h₄ := R₃.keep kp
  have hoI3 : ∃ o, s₃.heap.get? itA = some o := by obtain ⟨o, _, ho, _⟩ := x₃.obj; exact ⟨o, ho⟩
  have x₄ : ItAt loc₃ h₄ itA src := by obtain ⟨o, ho⟩ := hoI3; exact x₃.same (.refl _) ((kp _ _ ho).trans ho.symm)
  generalize hC : s₃.heap.objs.size = C at *
  have fC : Free F B₂ loc₃ C := by rw [← hC]; exact Free.fresh K I₃ R₃
  obtain ⟨B₁, e1, I₅, hmem, hout, back⟩ := away K I₄ R₄
  have nmC : ¬ F.mem C := fun z => by
    rcases z with z | ⟨ho, n', hc⟩
    · exact fC.ns z
    · exact fC.c ho n' hc
  have nmI : ¬ F.mem itA := fun z => by
    rcases z with z | ⟨ho, n', hc⟩
    · exact f₃.ns z
    · exact f₃.c ho n' hc
  have hCit : itA ≠ C := by obtain ⟨o, ho⟩ := hoI3; rw [← hC]; exact Nat.ne_of_lt (Heap.lt_size ho)
  let F' : Fm := ⟨⟨compNames sc, relabelS sc F.sg.sc⟩, false, { newEnv sc C F.env.globals (cloL F.env.cells sc.names []) F.env.qual none .none (some F.env) builtinsNs with scope := relabelS sc F.sg.sc }⟩
  have hclo : ∀ n c, (cloL F.env.cells sc.names []).lookup n = some c → (n, NameKind.free) ∈ sc.names ∧ F.env.cells.lookup n = some c := fun n c hc => by
    rcases cloL_mem _ _ _ _ (lookup_mem hc) with ⟨q1, q2⟩ | q
    · obtain ⟨c', hc'⟩ := hcl' n q1
      rw [hc'] at q2; exact ⟨q1, by rw [hc', q2]; rfl⟩
    · first | exact none_k q | exact false_k q | exact some_k q | exact true_k q | obtain rfl := IsV.bool_i q | obtain rfl := IsV.none_i q | cases q
  have kindAt : ∀ (i : Nat) (x : Str), (compNames sc)[i]? = some x → ((relabelS sc F.sg.sc).names.lookup x = some .local ∧ fv.lookup i = none) ∨ ((relabelS sc F.sg.sc).names.lookup x = some .cell ∧ (x, NameKind.free) ∈ sc.names ∧ ∃ j, fv.lookup i = some j ∧ F.sg.nm[j]? = some x ∧ F.sg.sc.names.lookup x = some .cell) := fun i x hx => by
    rw [relabel_lookup K.kind]
    rcases Z.at_ i x hx with ⟨j, a, b, c, dd⟩ | ⟨a, b⟩
    · refine .inr ⟨?_, lookup_mem b, j, a, c, dd⟩
      rw [b, dd]; rfl
    · refine .inl ⟨?_, a⟩
      rw [b]; rfl
  have K' : F'.Ok := by
    refine ⟨rfl, Z.kind, K.glob, K.bi, Z.nd, fun i x hx => ?_, fun x c hc => ?_, fun x x' c h1 h2 => ?_⟩
    · rcases kindAt i x hx with ⟨q, _⟩ | ⟨q, hf, _⟩
      · exact .inl q
      · obtain ⟨c, hc⟩ := cloL_keep (cells := F.env.cells) sc.names [] x (.inl hf)
        exact .inr ⟨q, Option.isSome_iff_exists.mp (lookup_isSome_mem ⟨c, hc⟩)⟩
    · obtain ⟨hf, _⟩ := hclo x c hc
      obtain ⟨i, hi, e⟩ := List.mem_iff_getElem.mp (Z.free _ hf rfl)
      have hx : (compNames sc)[i]? = some x := by rw [List.getElem?_eq_getElem hi, e]
      refine ⟨i, hx, ?_⟩
      rcases Z.at_ i x hx with ⟨j, a, b, c', dd⟩ | ⟨a, b⟩
      · show (relabelS sc F.sg.sc).names.lookup x = _
        rw [relabel_lookup K.kind, b, dd]; rfl
      · rw [mem_lookup Z.names hf] at b; first | exact none_k b | exact false_k b | exact some_k b | exact true_k b | obtain rfl := IsV.bool_i b | obtain rfl := IsV.none_i b | cases b
    · exact K.inj _ _ c (hclo x c h1).2 (hclo x' c h2).2
  have flen : (freshLoc ρ n fv).length = n := by unfold freshLoc; simp
  have fget : ∀ (i : Nat) (av : AV), (freshLoc ρ n fv)[i]? = some (some av) → ∃ j, fv.lookup i = some j ∧ ρ[j]? = some (some av) := fun i av h => by
    unfold freshLoc at h
    rw [List.getElem?_map] at h
    cases hr : (List.range n)[i]? with
    | none => rw [hr] at h; first | exact none_k h | exact false_k h | exact some_k h | exact true_k h | obtain rfl := IsV.bool_i h | obtain rfl := IsV.none_i h | cases h
    | some k =>
      have : k = i := by obtain ⟨_, e⟩ := List.getElem?_eq_some_iff.mp hr; simpa using e.symm
      subst this
      rw [hr] at h
      simp only [Option.map_some, Option.some.injEq] at h
      cases hj : fv.lookup k with
      | none => rw [hj] at h; first | exact none_k h | exact false_k h | exact some_k h | exact true_k h | obtain rfl := IsV.bool_i h | obtain rfl := IsV.none_i h | cases h
      | some j =>
        rw [hj] at h
        dsimp only at h
        refine ⟨j, rfl, ?_⟩
        cases hp : ρ[j]? with
        | none => rw [hp] at h; first | exact none_k h | exact false_k h | exact some_k h | exact true_k h | obtain rfl := IsV.bool_i h | obtain rfl := IsV.none_i h | cases h
        | some o => rw [hp] at h; simp at h; rw [h]
  have R' : FrOK X F' (freshLoc ρ n fv) B₁ loc₃ h₄ := by
    refine ⟨flen.trans Z.len.symm, ⟨_, hns, fun i x av a b c => ?_⟩, (hout C nmC).trans fC.b, fC.l, fun i x c a b hc => ?_, fun h => (by first | exact none_k h | exact false_k h | exact some_k h | exact true_k h | cases h), fun q0 x c hc => ?_⟩
    · obtain ⟨j, q1, q2⟩ := fget i av c
      rcases kindAt i x a with ⟨_, q⟩ | ⟨q, _⟩
      · rw [q1] at q; first | exact none_k q | exact false_k q | exact some_k q | exact true_k q | obtain rfl := IsV.bool_i q | obtain rfl := IsV.none_i q | cases q
      · rw [show F'.sg.sc.names.lookup x = (relabelS sc F.sg.sc).names.lookup x from rfl, q] at b; first | exact none_k b | exact false_k b | exact some_k b | exact true_k b | obtain rfl := IsV.bool_i b | obtain rfl := IsV.none_i b | cases b
    · obtain ⟨hf, hc'⟩ := hclo x c hc
      rcases kindAt i x a with ⟨q, _⟩ | ⟨_, _, j, q1, q2, q3⟩
      · rw [show F'.sg.sc.names.lookup x = (relabelS sc F.sg.sc).names.lookup x from rfl, q] at b; first | exact none_k b | exact false_k b | exact some_k b | exact true_k b | obtain rfl := IsV.bool_i b | obtain rfl := IsV.none_i b | cases b
      · obtain ⟨ov, hcell, hval⟩ := R₄.cl j x c q2 q3 hc'
        refine ⟨ov, hcell, fun av hav => ?_⟩
        obtain ⟨j', r1, r2⟩ := fget i av hav
        rw [q1] at r1; first | exact none_k r1 | exact false_k r1 | exact some_k r1 | exact true_k r1 | obtain rfl := IsV.bool_i r1 | obtain rfl := IsV.none_i r1 | cases r1
        obtain ⟨v, v1, v2⟩ := hval av r2
        exact ⟨v, v1, v2.mono e1 (.refl _)⟩
    · obtain ⟨hf, hc'⟩ := hclo x c hc
      cases hown : F.own with
      | true => exact hmem c (.inr ⟨hown, x, hc'⟩)
      | false =>
        obtain ⟨o, ho⟩ := R₄.cfrz hown x c hc'
        exact ⟨o, e1 _ _ ho⟩
  have f' : Free F' B₁ loc₃ itA := ⟨by rw [hout itA nmI]; exact f₃.b, f₃.l, hCit, fun h => (by first | exact none_k h | exact false_k h | exact some_k h | exact true_k h | cases h)⟩
  rw [relabel_eq K]
  have hacc : loc₃[σ₁.length]? = some s₂.heap.objs.size := hl₃
  have tgl : ∀ i ∈ g, ∀ x, F'.sg.nm[i]? = some x → F'.sg.sc.names.lookup x = some .local := fun i hi x hx => by
    rcases kindAt i x hx with ⟨q, _⟩ | ⟨_, _, j, q1, _⟩
    · exact q
    · rw [(Z.g i hi).2] at q1; first | exact none_k q1 | exact false_k q1 | exact some_k q1 | exact true_k q1 | obtain rfl := IsV.bool_i q1 | obtain rfl := IsV.none_i q1 | cases q1
  have loop : ∀ {it2 : Value}, it2 = .ref itA → codeAny (model X.p X.w) A (.compLoop (.ListComp elt [⟨tg, it', ifs, 0⟩] sc p) 0 it2 (.ref s₂.heap.objs.size) F'.env)
      (compPost (model X.p X.w) A E use Q (.ref s₂.heap.objs.size) C) { s₃ with heap := h₄, toks := s₃.toks + ([] : List (Str × Value)).length } := fun {it2} e => by
    subst e
    refine h2 F' A _ B₁ loc₃ elt tg it' ifs sc p itA s₂.heap.objs.size K' hA m2 tgl m4 m5 I₅ R' f' x₄ hacc _ fun s₆ B₆ loc₆ ρ₆ g₆ I₆ R₆ => ?_
    obtain ⟨B₇, g₇, I₇, R₇, nn, v₇⟩ := back B₆ loc₆ _ s₆ g₆ I₆
    obtain ⟨m, hm, _⟩ := R₆.ns
    have res := hq s₆ B₇ loc₆ C m s₂.heap.objs.size ((g₂.trans g₃).trans g₇) I₇ R₇ ⟨nn C R₆.LB, R₆.Ll, fC.ns, fC.c⟩ hm (g₇.pre _ _ hacc)
    unfold compPost
    cases use with
    | none => exact ⟨m, hm, res⟩
    | some u => exact res
  refine codeAny_compStart_list (loop rfl) ?_
  cases src with
  | lst i k =>
    obtain ⟨l, _, hit⟩ := x₄
    exact wpAny_pyIter_listiter hit (loop rfl)
  | rng a k => exact wpAny_pyIter_rangeiter x₄ (loop rfl)
  | chs l =>
    obtain ⟨pre, t, hit⟩ := x₄
    exact wpAny_pyIter_striter_ascii hit (loop rfl)
end
end Mine
end

section
set_option compiler.extract_closed false
open PySem PySem.W PyProof.Rows PySem.Calls
set_option Elab.async false
set_option maxRecDepth 100000
set_option tactic.hygienic false
set_option linter.all false
namespace Mine
section
set_option compiler.extract_closed false
variable {X : Cx} {F : Fm} {ρ ρ' ρ₁ ρ₂ ρ₃ : Loc} {B : Part} {loc : List Addr} {σ σ' σ₁ σ₂ σ₃ σ₄ : St} {s s' : Shared} {A : Around} {E : Value → Shared → Prop} {d : Nat}

theorem s_lc {n : Nat} {fv : List (Nat × Nat)} {g : List Nat} {gt : Bool} {it e : ME} {cond : Option ME} {src : Src} (h1 : SI X d ρ it σ src σ₁) (h2 : SL X d (freshLoc ρ n fv) g gt src cond e σ₁.length (σ₁ ++ [.list []]) σ₂) : SE X d ρ (.lc n fv g gt it cond e) σ (.ref σ₁.length) σ₂ := by
  intro F A E s B loc ex K hA hm I R Q hq
  obtain ⟨elt, tg, it', ifs, sc, p, rfl, m1, m2, m3, m4, m5⟩ := m_lc hm
  rw [eval_ListComp]
  show wpAny _ _ (comprehension (.ListComp elt [⟨tg, it', ifs, 0⟩] sc p) sc F.env _ (newList []) false (eval it' F.env) none) Q E s
  refine comp_core h1 h2 K hA m1 m2 m3 m4 m5 I R none fun s' B' loc' C m accA g I' R' fC hC ha h' hs => ?_
  obtain ⟨I2, R2⟩ := Inv.otherX (tk := s'.toks) K I' R' fC (extBut_of hs)
  exact hq _ _ _ _ g I2 R2 (.ref ha)
theorem s_sl {x : Nat} {n : Nat} {fv : List (Nat × Nat)} {g : List Nat} {gt : Bool} {it e : ME} {cond : Option ME} {src : Src} (h1 : SI X d ρ it σ src σ₁) (h2 : SL X d (freshLoc ρ n fv) g gt src cond e σ₁.length (σ₁ ++ [.list []]) σ₂) :
    SS X d ρ (.asl x (.lc n fv g gt it cond e)) σ .next (ρ.set x (some (.ref σ₁.length))) σ₂ := by
  intro F A E s B loc st K ho hA hm I R Q hq
  obtain ⟨nm, np, elt, gens, sc, q, pos, rfl, n1, n2, n3, n4, n5⟩ := n_asl hm
  obtain ⟨elt', tg, it', ifs, sc', p', e1, m1, m2, m3, m4, m5⟩ := m_lc n3
  first | exact none_k e1 | exact false_k e1 | exact some_k e1 | exact true_k e1 | obtain rfl := IsV.bool_i e1 | obtain rfl := IsV.none_i e1 | cases e1
  have hsw : swapsWith (.ListComp elt [⟨tg, it', ifs, 0⟩] sc q) (some (.Name nm np)) pos.line F.env = pure true := by
    unfold swapsWith
    dsimp only
    have a1 : (F.env.blockKind == .function) = true := by rw [blockKind_eq K]; rfl
    have a2 : (F.env.kindOf nm == some .local) = true := by rw [kindOf_eq K, n2]; rfl
    have a3 : (np.line == (Expr.ListComp elt [⟨tg, it', ifs, 0⟩] sc q).pos.line) = true := n4
    rw [a1, a2, a3]
    have a4 : (!(sc.names.any fun x => match x with | (n, k) => n == nm && (k == .local || k == .cell))) = true := by rw [n5]; rfl
    show pure (true && true && true && _) = _
    rw [show (!(sc.names.any fun (n, k) => n == nm && (k == .local || k == .cell))) = true from a4]
    rfl
  rw [exec_Assign_Name_used _ _ _ _ hsw]
  refine wpAny_bind (wpAny_standAt (wpAny_bind ?_))
  show wpAny _ A (do let _ ← comprehension (.ListComp elt [⟨tg, it', ifs, 0⟩] sc q) sc F.env _ (newList []) false (eval it' F.env) (some (assign (.Name nm np) F.env))) _ _ s
  refine wpAny_bind (wpAny_mono (comp_core (Q := fun q0 s' => Q .next s') h1 h2 K hA m1 m2 m3 m4 m5 I R (some (assign (.Name nm np) F.env)) fun s' B' loc' C m accA g I' R' fC hC ha => ?_) (fun q0 s' hq' => wpAny_pure (wpAny_pure hq')) fun q0 q0 e => e)
  dsimp only
  obtain ⟨o, es, ep, hoC, hdC, hkC⟩ := hC
  obtain ⟨B₁, x1, I₂, R₂, back⟩ := held K I' R' fC.b fC.l fC.ns fC.c hoC (dull_dict hdC)
  refine wpAny_assign_Name (name_store K I₂ R₂ n1 (.inl ho) (.ref ha : IsV X.ca B₁ loc' (.ref accA) (.ref σ₁.length)) fun q0 s₃ B₃ loc₃ g₃ I₃ R₃ q0 => ?_)
  obtain ⟨B₄, g₄, I₄, R₄, h4, b4, l4, _⟩ := back B₃ loc₃ _ s₃ _ g₃ I₃ R₃
  refine ⟨m, ⟨o, es, ep, h4, hdC, hkC⟩, fun h' hs => ?_⟩
  obtain ⟨I5, R5⟩ := Inv.otherX (tk := s₃.toks) K I₄ R₄ ⟨b4, l4, fC.ns, fC.c⟩ (extBut_of hs)
  exact hq _ _ _ _ (g.trans g₄) I5 R5 trivial
end
end Mine
end

section
set_option compiler.extract_closed false
open PySem PySem.W PyProof.Rows PySem.Calls
set_option Elab.async false
set_option maxRecDepth 100000
set_option tactic.hygienic false
set_option linter.all false
namespace Mine
noncomputable def faList : List Nat := [51, 58, 65, 70, 77, 84, 91, 205, 439, 446, 467, 474, 481, 488, 495, 502, 509, 516, 523, 565, 572, 579, 586, 23, 30, 37, 105, 112, 219, 254, 285, 292, 299, 306, 327, 411, 418, 537, 544, 551, 600, 607, 614, 621, 628, 635, 642, 649, 656, 661, 666]
noncomputable def caList : List Nat := [94, 449, 526, 589, 208, 145, 166, 187]
noncomputable def faAt (f : Nat) : Addr := faList.getD f 0
noncomputable def caAt (C : Nat) : Addr := caList.getD C 0

noncomputable def ckS (v : Value) : AV → Bool
  | .str l => if h : v.ctorIdx = 6 then Value.str.elim (motive := fun _ => Bool) v h fun s _ => s.cps.toList == l else false
  | .int b => if h : v.ctorIdx = 4 then Value.int.elim (motive := fun _ => Bool) v h fun a _ => a == b else false
  | _ => false
noncomputable def ckSs : List Value → List AV → Bool
  | [], l => l.isEmpty
  | v :: vs, l => (vCons l).any fun k => ckS v k.1.1 && ckSs vs k.1.2
noncomputable def dSeq (d : Data) : Option { x : Array Value // ∃ n, d = .seq x n } := if h : d.ctorIdx = 2 then Data.seq.elim d h fun x n => some ⟨x, n, rfl⟩ else none
noncomputable def dFn (d : Data) : Option { x : FuncData // d = .func x } := if h : d.ctorIdx = 7 then Data.func.elim d h fun x => some ⟨x, rfl⟩ else none
noncomputable def fSt (d : FuncBody) : Option { x : List Stmt // d = .stmts x } := if h : d.ctorIdx = 0 then FuncBody.stmts.elim d h fun x => some ⟨x, rfl⟩ else none
noncomputable def vRef (d : Value) : Option { x : Addr // d = .ref x } := if h : d.ctorIdx = 10 then Value.ref.elim d h fun x => some ⟨x, rfl⟩ else none
noncomputable def ckV (K : Frag) (v : Value) (a : AV) : Bool := ckS v a || (match a with
  | .tup l => (vRef v).any fun a => (K.lookup a.1).any fun o => o.cls == .type "tuple" && (dSeq o.data).any fun x => ckSs x.1.toList l
  | _ => false)
noncomputable def ckGlob (K : Frag) (n : Nat) : Bool := (globNames[n]?).all fun nm => (prog.glob n).all fun v => (nsIn K mainGlobals nm).any fun o => o.any fun val => ckV K val v
noncomputable def ckFd (K : Frag) (fd : FnDef) (locs : List Str) (D : FuncData) : Bool :=
  (fSt D.body).any (fun b => matchF fd locs D.params b.1 D.scope) && (D.globals == mainGlobals && (D.closure.isEmpty && (D.defaults == .none && (D.kwdefaults == .none && (D.builtins == builtinsNs && codeIn K D.code D.qualname)))))
noncomputable def ckFn (K : Frag) (f : Nat) : Bool := (fnDefs[f]?).all fun fd => (fnLocs[f]?).any fun locs => (K.lookup (faAt f)).any fun o => (dFn o.data).any fun D => ckFd K fd locs D.1 && keepIn K (.ref (faAt f))
noncomputable def ckFnG (K : Frag) (f : Nat) : Bool := decide (f < 23) || nsIn K mainGlobals (fnNames.getD f "") == some (some (.ref (faAt f)))
noncomputable def ckCls (K : Frag) (x : Nat × Nat) : Bool :=
  nsIn K mainGlobals (classNames.getD x.1 "") == some (some (.ref (caAt x.1))) && (makesIn K (caAt x.1) && (findIn K (.ref (caAt x.1)) "__init__" == some (some (.ref (faAt x.2))) && (typeIn K (.ref (faAt x.2)) == some (.type "function") && (keepIn K (.ref (caAt x.1))
  && (plainGet K (caAt x.1) "" && (findIn K (.ref (caAt x.1)) "__setattr__" == some (some (.builtin "object.__setattr__")) && (plainOver K (caAt x.1) && hasDictIn K (caAt x.1))))))))
noncomputable def ckFld (K : Frag) (x : Nat × Nat) : Bool := fieldNames.all fun n => findIn K (.ref (caAt x.1)) n == some none
noncomputable def ckMeth (K : Frag) (x : Nat × Nat × Nat) : Bool := findIn K (.ref (caAt x.1)) (methNames.getD x.2.1 "") == some (some (.ref (faAt x.2.2))) && isFn K (.ref (faAt x.2.2))
noncomputable def ckCV (K : Frag) (c : Nat) (v : Value) : Bool := kitOne K (.type "str") v == some (c == 0) && (decide (2 < c) || (kitOne K (.type "tuple") v == some (c == 1) && kitOne K (.type "int") v == some (c == 2)))
noncomputable def ckIsi (K : Frag) (c : Nat) : Bool := (clsName c).all fun nm => (nsIn K mainGlobals nm).any fun o => o.any (ckCV K c) || (o.isNone && (nm != "__name__" && (bootBuiltins nm).any (ckCV K c)))
noncomputable def ckBf (K : Frag) (f : Nat) : Bool := nsIn K mainGlobals (bfName f) == some none && (bfName f != "__name__" && bootBuiltins (bfName f) == some (bfVal f))
noncomputable def ckIs (K : Frag) : Bool := nsIn K mainGlobals "isinstance" == some none && bootBuiltins "isinstance" == some (.builtin "isinstance")

structure KOk (K : Frag) : Prop where
  glob : (List.range 28).all (ckGlob K) = true
  fn : ∀ f, f < 51 → ckFn K f = true
  fnG : (List.range 51).all (ckFnG K) = true
  cls : initTab.all (ckCls K) = true
  fld : initTab.all (ckFld K) = true
  meth : methTab.all (ckMeth K) = true
  isi : [0, 1, 2, 15, 16, 17].all (ckIsi K) = true
  bf : [0, 1, 2, 9].all (ckBf K) = true
  is : ckIs K = true

theorem allS {α : Type} {o : Option α} {p : α → Bool} {a : α} (h : o.all p = true) (e : o = some a) : p a = true := by rw [e] at h; exact h
theorem ckS_ok {B : Part} {ca : Nat → Addr} {loc : List Addr} {v : Value} {a : AV} (h : ckS v a = true) : IsV ca B loc v a := by
  cases a with
  | str l => cases v <;> first | exact false_k h | exact eq_of_beq h ▸ .str
  | int b => cases v <;> first | exact false_k h | exact eq_of_beq h ▸ .int
  | _ => exact false_k h
theorem ckSs_ok {B : Part} {ca : Nat → Addr} {loc : List Addr} {vs : List Value} : ∀ {l : List AV}, ckSs vs l = true → IsVs ca B loc vs l := by
  induction vs with
  | nil => intro l h; rw [List.isEmpty_iff.mp h]; exact .nil
  | cons v vs ih =>
    intro l h
    obtain ⟨⟨k, rfl⟩, h⟩ := anyS (o := vCons l) h
    have h := bAnd2 h
    exact .cons (ckS_ok h.1) (ih h.2)
theorem anyK {α : Type} {o : Option α} {p : α → Bool} (h : o.any p = true) : ∃ a, o = some a ∧ p a = true := by
  cases o with
  | none => exact false_k h
  | some a => exact ⟨a, rfl, h⟩
theorem ckV_ok {K : Frag} {h : Heap} {ca : Nat → Addr} {loc : List Addr} (X : K.In h) {v : Value} {a : AV} (e : ckV K v a = true) : IsV ca h.get? loc v a := by
  rcases (Bool.or_eq_true ..).mp e with e | e
  · exact ckS_ok e
  · cases a with
    | tup l =>
      obtain ⟨⟨a, rfl⟩, e⟩ := anyS (o := vRef v) e
      obtain ⟨o, q, e⟩ := anyK e
      have e := bAnd2 e
      obtain ⟨⟨x, n, hx⟩, e2⟩ := anyS (o := dSeq o.data) e.2
      exact .tup (X _ _ q) (eq_of_beq e.1) (hx.trans (by rw [Array.toArray_toList])) (ckSs_ok e2)
    | _ => exact false_k e
set_option tactic.hygienic true in
theorem lookup_memN {α : Type} {n : Nat} {c : α} : ∀ {l : List (Nat × α)}, l.lookup n = some c → (n, c) ∈ l
  | [], h => by first | exact none_k h | exact false_k h | exact some_k h | exact true_k h | cases h
  | (k, x) :: r, h => by
    rw [List.lookup_cons] at h
    split at h
    · rename_i e; first | exact none_k h | exact false_k h | exact some_k h | exact true_k h | cases h; rw [eq_of_beq e]; exact List.mem_cons_self
    · exact List.mem_cons_of_mem _ (lookup_memN h)
theorem getD_of {l : List Str} {i : Nat} {n : Str} (h : l[i]? = some n) : l.getD i "" = n := by rw [List.getD_eq_getElem?_getD, h]; rfl
theorem clsName_some {c : Nat} {nm : Str} (h : clsName c = some nm) (hc : c ≤ 2 ∨ 15 ≤ c) : c ∈ [0, 1, 2, 15, 16, 17] := by
  by_cases h18 : c < 18
  · simp; lia
  · exfalso
    have h3 : clsName c = classNames[c - 10]? := by
      match c, h18 with
      | 0, q => exact absurd (by lia) q
      | 1, q => exact absurd (by lia) q
      | 2, q => exact absurd (by lia) q
      | k + 3, _ => rfl
    rw [h3] at h
    have := (List.getElem?_eq_some_iff.mp h).1
    have h8 : classNames.length = 8 := by decide +kernel
    rw [h8] at this; lia
theorem any_c {α : Type} {P : Prop} {o : Option α} {p : α → Bool} (h : o.any p = true) (k : ∀ a, o = some a → p a = true → P) : P := let ⟨a, e, q⟩ := anyK h; k a e q
theorem and_c {a b : Bool} {P : Prop} (h : (a && b) = true) (k : a = true → b = true → P) : P := k (bAnd2 h).1 (bAnd2 h).2
theorem fn_eq {name qual : Str} {params : Arguments} {body : FuncBody} {sc : Scope} {gl : Addr} {cl : List (Str × Addr)} {df kd doc pm : Value} {an : Option Addr} {cdv ct : Value} {bi : Addr} {l : List Stmt} (h1 : body = .stmts l) (h2 : gl = mainGlobals) (h3 : cl = []) (h4 : df = .none) (h5 : kd = .none) (h6 : bi = builtinsNs) :
    (⟨name, qual, params, body, sc, gl, cl, df, kd, doc, pm, an, cdv, ct, bi⟩ : FuncData) = fnOf name qual params l sc .none .none doc pm an cdv ct := by subst h1 h2 h3 h4 h5 h6; rfl
theorem fd_c {K : Frag} {fd : FnDef} {locs : List Str} {D : FuncData} {P : Prop} (h : ckFd K fd locs D = true) (k : ∀ name qual params body sc doc pm an cdv ct, D = fnOf name qual params body sc .none .none doc pm an cdv ct → codeIn K cdv qual = true → matchF fd locs params body sc = true → P) : P := by
  obtain ⟨name, qual, params, body, sc, gl, cl, df, kd, doc, pm, an, cdv, ct, bi⟩ := D
  refine and_c h fun a h => and_c h fun b h => and_c h fun c h => and_c h fun e h => and_c h fun f h => and_c h fun g h => any_c a fun x _ m => k name qual params x.1 sc doc pm an cdv ct (fn_eq x.2 (eq_of_beq b) (List.isEmpty_iff.mp c) (eq_of_beq e) (eq_of_beq f) (eq_of_beq g)) h m
theorem fn_c {K : Frag} {f : Nat} {fd : FnDef} {P : Prop} (h : ckFn K f = true) (h1 : fnDefs[f]? = some fd) (k : ∀ oc od osl name qual params body sc doc pm an cdv ct locs, K.lookup (faAt f) = some ⟨oc, od, .func (fnOf name qual params body sc .none .none doc pm an cdv ct), osl⟩ → codeIn K cdv qual = true →
    fnLocs[f]? = some locs → matchF fd locs params body sc = true → keepIn K (.ref (faAt f)) = true → P) : P := by
  unfold ckFn at h
  have h := allS h h1
  refine any_c h fun locs e1 h => any_c h fun o e2 h => any_c h fun D _ h => and_c h fun a b => fd_c a fun name qual params body sc doc pm an cdv ct e c m => k o.cls o.dict o.slots name qual params body sc doc pm an cdv ct locs ?_ c e1 m b
  rw [e2, ← e, ← D.2]
theorem cls_c {K : Frag} {C f : Nat} {P : Prop} (H : initTab.all (ckCls K) = true) (hf : initTab.lookup C = some f) (k : nsIn K mainGlobals (classNames.getD C "") = some (some (.ref (caAt C))) → makesIn K (caAt C) = true → findIn K (.ref (caAt C)) "__init__" = some (some (.ref (faAt f))) → typeIn K (.ref (faAt f)) = some (.type "function") →
    keepIn K (.ref (caAt C)) = true → plainGet K (caAt C) "" = true → findIn K (.ref (caAt C)) "__setattr__" = some (some (.builtin "object.__setattr__")) → plainOver K (caAt C) = true → hasDictIn K (caAt C) = true → P) : P :=
  and_c (List.all_eq_true.mp H (C, f) (lookup_memN hf)) fun a h => and_c h fun b h => and_c h fun c h => and_c h fun d h => and_c h fun e h => and_c h fun f h => and_c h fun g h => and_c h fun i j => k (eq_of_beq a) b (eq_of_beq c) (eq_of_beq d) e f (eq_of_beq g) i j
theorem cv_ok {X : Cx} {c : Nat} {v : Value} (e : ckCV X.K c v = true) : ClsVal X c v :=
  and_c e fun a b => ⟨eq_of_beq a, fun hc => ((Bool.or_eq_true ..).mp b).elim (fun q => absurd hc (Nat.not_le_of_lt (of_decide_eq_true q))) fun q => and_c q fun x y => ⟨eq_of_beq x, eq_of_beq y⟩⟩
theorem cxOk {X : Cx} (H : KOk X.K) (hfa : X.fa = faAt) (hca : X.ca = caAt) (kin : X.K.In X.h₀) (g : X.h₀.Ns mainGlobals X.mg) (b : X.h₀.Ns builtinsNs X.mb) (nl : X.h₀.NoLimit) (bt : ∀ x : Str, x ≠ "__name__" → X.mb x = bootBuiltins x) : CxOk X where
  kin := kin
  g := g
  b := b
  nolimit := nl
  bt := bt
  globV n nm v h1 h2 := by
    have hn : n < 28 := (show globNames.length = 28 by decide +kernel) ▸ (List.getElem?_eq_some_iff.mp h1).1
    have h := List.all_eq_true.mp H.glob n (List.mem_range.mpr hn)
    unfold ckGlob at h
    have h := allS h h1
    have h := allS h h2
    exact any_c h fun o q e => any_c e fun val q2 e => ⟨val, q.trans (congrArg some q2), fun loc => ckV_ok kin e⟩
  fnG f nm h1 h2 := by
    have hf : f < 51 := by have := (List.getElem?_eq_some_iff.mp h2).1; have h8 : fnNames.length = 51 := by decide +kernel
                           rw [h8] at this; exact this
    have := List.all_eq_true.mp H.fnG f (List.mem_range.mpr hf)
    unfold ckFnG at this
    rw [getD_of h2, Bool.or_eq_true, decide_eq_true_eq, beq_iff_eq] at this
    rw [hfa]
    rcases this with q | q
    · unfold firstTop at h1; lia
    · exact q
  clsG C nm h1 h2 := by
    rw [hca, ← getD_of h2]
    exact (Option.isSome_iff_exists.mp h1).elim fun f hf => cls_c H.cls hf fun a _ _ _ _ _ _ _ _ => a
  fnK f fd h1 := by
    have hf : f < 51 := (show fnDefs.length = 51 by decide +kernel) ▸ (List.getElem?_eq_some_iff.mp (show fnDefs[f]? = some fd from h1)).1
    rw [hfa]
    exact fn_c (H.fn f hf) h1 fun oc od osl name qual params body sc doc pm an cdv ct locs a b c d e => ⟨oc, od, osl, name, qual, params, body, sc, doc, pm, an, cdv, ct, locs, a, b, c, d, e⟩
  makes C f h1 := by
    rw [hca, hfa]
    exact cls_c H.cls h1 fun _ a b c d _ _ _ _ => ⟨a, b, c, d⟩
  cls C h1 := by
    rw [hca]
    exact (Option.isSome_iff_exists.mp h1).elim fun f hf => cls_c H.cls hf fun _ _ _ _ _ a b c d => ⟨fun n => a, b, c, d, fun g n hg => eq_of_beq (List.all_eq_true.mp (List.all_eq_true.mp H.fld (C, f) (lookup_memN hf)) n (List.mem_of_getElem? hg))⟩
  meth C m f nm h1 h2 := by
    have hm : (C, m, f) ∈ methTab := by
      have h1 : (methTab.find? fun x => x.1 == C && x.2.1 == m).map (fun x => x.2.2) = some f := h1
      obtain ⟨x, q1, q2⟩ := Option.map_eq_some_iff.mp h1
      have q3 := List.find?_some q1
      simp only [Bool.and_eq_true, beq_iff_eq] at q3
      obtain ⟨a, b, c⟩ := x
      obtain ⟨rfl, rfl⟩ := q3
      subst q2
      exact List.mem_of_find?_eq_some q1
    have h := bAnd2 (List.all_eq_true.mp H.meth _ hm)
    rw [hca, hfa, ← getD_of h2]
    exact ⟨eq_of_beq h.1, h.2⟩
  isi c nm h1 h2 := by
    have h := List.all_eq_true.mp H.isi c (clsName_some h1 h2)
    unfold ckIsi at h
    have h := allS h h1
    exact any_c h fun o q e => ((Bool.or_eq_true ..).mp e).elim (fun e => any_c e fun v q2 e => ⟨v, .inl (q.trans (congrArg some q2)), cv_ok e⟩) fun e =>
      and_c e fun a b => and_c b fun b c => any_c c fun v q2 e3 => ⟨v, .inr ⟨q.trans (congrArg some (Option.isNone_iff_eq_none.mp a)), bne_iff_ne.mp b, q2⟩, cv_ok e3⟩
  bfs f hf := by
    have h := bAnd2 (List.all_eq_true.mp H.bf f (by rcases hf with rfl | rfl | rfl | rfl <;> decide))
    have h2 := bAnd2 h.2
    exact ⟨eq_of_beq h.1, bne_iff_ne.mp h2.1, eq_of_beq h2.2⟩
  isin := by
    have := H.is
    unfold ckIs at this
    simp only [Bool.and_eq_true, beq_iff_eq] at this
    exact this
end Mine
end

section
set_option compiler.extract_closed false
open PySem
set_option Elab.async false
set_option maxRecDepth 100000
set_option tactic.hygienic false
set_option linter.all false
set_option maxHeartbeats 0
namespace Mine
noncomputable abbrev VE (d : Nat) (ρ : Loc) (x : ME) (σ : St) (v : AV) (σ' : St) : Prop := ∀ X, CxOk X → SE X d ρ x σ v σ'
noncomputable abbrev VEs (d : Nat) (ρ : Loc) (x : List ME) (σ : St) (v : List AV) (σ' : St) : Prop := ∀ X, CxOk X → SEs X d ρ x σ v σ'
noncomputable abbrev VI (d : Nat) (ρ : Loc) (x : ME) (σ : St) (v : Src) (σ' : St) : Prop := ∀ X, CxOk X → SI X d ρ x σ v σ'
noncomputable abbrev VT (d : Nat) (ρ : Loc) (x : ME) (σ : St) (v : Bool) (σ' : St) : Prop := ∀ X, CxOk X → ST X d ρ x σ v σ'
noncomputable abbrev VA (d : Nat) (ρ : Loc) (g : Tg) (v : AV) (σ : St) (ρ' : Loc) (σ' : St) : Prop := ∀ X, CxOk X → SA X d ρ g v σ ρ' σ'
noncomputable abbrev VAs (d : Nat) (ρ : Loc) (g : List Tg) (v : List AV) (σ : St) (ρ' : Loc) (σ' : St) : Prop := ∀ X, CxOk X → SAs X d ρ g v σ ρ' σ'
noncomputable abbrev VS (d : Nat) (ρ : Loc) (x : MS) (σ : St) (fl : Fl) (ρ' : Loc) (σ' : St) : Prop := ∀ X, CxOk X → SS X d ρ x σ fl ρ' σ'
noncomputable abbrev VB (d : Nat) (ρ : Loc) (x : List MS) (σ : St) (fl : Fl) (ρ' : Loc) (σ' : St) : Prop := ∀ X, CxOk X → SB X d ρ x σ fl ρ' σ'
noncomputable abbrev VW (d : Nat) (ρ : Loc) (t : ME) (x : List MS) (σ : St) (fl : Fl) (ρ' : Loc) (σ' : St) : Prop := ∀ X, CxOk X → SW X d ρ t x σ fl ρ' σ'
noncomputable abbrev VF (d : Nat) (ρ : Loc) (g : Tg) (src : Src) (x : List MS) (σ : St) (fl : Fl) (ρ' : Loc) (σ' : St) : Prop := ∀ X, CxOk X → SF X d ρ g src x σ fl ρ' σ'
noncomputable abbrev VL (d : Nat) (ρ : Loc) (g : List Nat) (gt : Bool) (src : Src) (c : Option ME) (e : ME) (acc : Nat) (σ σ' : St) : Prop := ∀ X, CxOk X → SL X d ρ g gt src c e acc σ σ'
noncomputable abbrev VC (d : Nat) (f : Nat) (args : List AV) (σ : St) (v : AV) (σ' : St) : Prop := (prog.fn f).isSome = true ∧ ∀ X, CxOk X → SC X d f args σ v σ'
noncomputable def RE (d : Nat) (ρ : Loc) (x : ME) (σ : St) (K : AV → St → Prop) : Prop := ∃ v σ', VE d ρ x σ v σ' ∧ K v σ'
noncomputable def REs (d : Nat) (ρ : Loc) (x : List ME) (σ : St) (K : List AV → St → Prop) : Prop := ∃ v σ', VEs d ρ x σ v σ' ∧ K v σ'
noncomputable def RI (d : Nat) (ρ : Loc) (x : ME) (σ : St) (K : Src → St → Prop) : Prop := ∃ v σ', VI d ρ x σ v σ' ∧ K v σ'
noncomputable def RT (d : Nat) (ρ : Loc) (x : ME) (σ : St) (K : Bool → St → Prop) : Prop := ∃ v σ', VT d ρ x σ v σ' ∧ K v σ'
noncomputable def RA (d : Nat) (ρ : Loc) (g : Tg) (v : AV) (σ : St) (K : Loc → St → Prop) : Prop := ∃ ρ' σ', VA d ρ g v σ ρ' σ' ∧ K ρ' σ'
noncomputable def RAs (d : Nat) (ρ : Loc) (g : List Tg) (v : List AV) (σ : St) (K : Loc → St → Prop) : Prop := ∃ ρ' σ', VAs d ρ g v σ ρ' σ' ∧ K ρ' σ'
noncomputable def RS (d : Nat) (ρ : Loc) (x : MS) (σ : St) (K : Fl → Loc → St → Prop) : Prop := ∃ fl ρ' σ', VS d ρ x σ fl ρ' σ' ∧ K fl ρ' σ'
structure RB (d : Nat) (ρ : Loc) (x : List MS) (σ : St) (K : Fl → Loc → St → Prop) : Prop where
  out : ∃ fl ρ' σ', VB d ρ x σ fl ρ' σ' ∧ K fl ρ' σ'
noncomputable def RW (d : Nat) (ρ : Loc) (t : ME) (x : List MS) (σ : St) (K : Fl → Loc → St → Prop) : Prop := ∃ fl ρ' σ', VW d ρ t x σ fl ρ' σ' ∧ K fl ρ' σ'
noncomputable def RF (d : Nat) (ρ : Loc) (g : Tg) (src : Src) (x : List MS) (σ : St) (K : Fl → Loc → St → Prop) : Prop := ∃ fl ρ' σ', VF d ρ g src x σ fl ρ' σ' ∧ K fl ρ' σ'
noncomputable def RL (d : Nat) (ρ : Loc) (g : List Nat) (gt : Bool) (src : Src) (c : Option ME) (e : ME) (acc : Nat) (σ : St) (K : St → Prop) : Prop := ∃ σ', VL d ρ g gt src c e acc σ σ' ∧ K σ'
noncomputable def RC (d : Nat) (f : Nat) (args : List AV) (σ : St) (K : AV → St → Prop) : Prop := ∃ v σ', VC d f args σ v σ' ∧ K v σ'
theorem ne_bad {e : ME} (h : notBad e = true) : e ≠ .bad := by rintro rfl; first | exact none_k h | exact false_k h | exact some_k h | exact true_k h | cases h

theorem ex1 {α : Type} {p q : α → Prop} {P : Prop} (h : ∃ a, p a ∧ q a) (f : ∀ a, p a → q a → P) : P := h.elim fun a h => f a h.1 h.2
theorem ex2 {α β : Type} {p q : α → β → Prop} {P : Prop} (h : ∃ a b, p a b ∧ q a b) (f : ∀ a b, p a b → q a b → P) : P := h.elim fun a h => h.elim fun b h => f a b h.1 h.2
theorem ex3 {α β γ : Type} {p q : α → β → γ → Prop} {P : Prop} (h : ∃ a b c, p a b c ∧ q a b c) (f : ∀ a b c, p a b c → q a b c → P) : P := h.elim fun a h => h.elim fun b h => h.elim fun c h => f a b c h.1 h.2
theorem exI {α : Sort _} {p q : α → Prop} {v : α} (h : p v) (k : q v) : ∃ v, p v ∧ q v := ⟨v, h, k⟩
theorem exI2 {α β : Sort _} {p q : α → β → Prop} {v : α} {w : β} (h : p v w) (k : q v w) : ∃ v w, p v w ∧ q v w := ⟨v, w, h, k⟩
theorem exAu {y : AV} {g : Int → Option St} {q : St → Prop} {b : Int} {σ : St} (h : y = .int b) (h2 : g b = some σ) (k : q σ) : ∃ b σ, y = .int b ∧ g b = some σ ∧ q σ := ⟨b, σ, h, h2, k⟩
theorem exMc {C i f m : Nat} {σ : St} {q : Nat → Prop} (h : isFl σ i = true) (h2 : prog.meth C m = some f) (k : q f) : ∃ C' i' f', AV.inst C i = .inst C' i' ∧ isFl σ i' = true ∧ prog.meth C' m = some f' ∧ q f' := ⟨C, i, f, rfl, h, h2, k⟩
noncomputable def Sw (r : Bool) (A B : Prop) : Prop := (r = true → A) ∧ (r = false → B)
theorem Sw.t {A B : Prop} (h : A) : Sw true A B := ⟨fun q0 => h, fun e => (by first | exact none_k e | exact false_k e | exact some_k e | exact true_k e | cases e)⟩
theorem Sw.f {A B : Prop} (h : B) : Sw false A B := ⟨fun e => (by first | exact none_k e | exact false_k e | exact some_k e | exact true_k e | cases e), fun q0 => h⟩
theorem Sw.eqt {r : Bool} {A B : Prop} (e : r = true) (h : A) : Sw r A B := ⟨fun q0 => h, fun q => Bool.noConfusion (e.symm.trans q)⟩
theorem Sw.eqf {r : Bool} {A B : Prop} (e : r = false) (h : B) : Sw r A B := ⟨fun q => Bool.noConfusion (e.symm.trans q), fun q0 => h⟩
section
set_option compiler.extract_closed false
variable {d : Nat} {ρ : Loc} {σ : St} {K : AV → St → Prop} {KS : Fl → Loc → St → Prop} {KT : Bool → St → Prop} {KA : Loc → St → Prop} {KV : List AV → St → Prop} {KI : Src → St → Prop} {KL : St → Prop}
theorem r_c {v : AV} (h : K v σ) : RE d ρ (.c v) σ K := ⟨_, _, (fun X H => s_c), h⟩
theorem r_ng {k : Nat} (h : K (.int (-(k : Int))) σ) : RE d ρ (.ng k) σ K := ⟨_, _, (fun X H => s_ng), h⟩
theorem r_x {i : Nat} {v : AV} (e : ρ[i]? = some (some v)) (h : K v σ) : RE d ρ (.x i) σ K := ⟨_, _, (fun X H => s_x e), h⟩
theorem r_g {i : Nat} {v : AV} (e : prog.glob i = some v) (h : K v σ) : RE d ρ (.g i) σ K := ⟨_, _, (fun X H => s_g H e), h⟩
theorem r_at {e : ME} {f : Nat} (h : RE d ρ e σ fun o σ₁ => ∃ v, getF σ₁ o f = some v ∧ K v σ₁) : RE d ρ (.at e f) σ K :=
  ex2 h fun q0 q0 e1 h => ex1 h fun q0 e2 h => ⟨_, _, (fun X H => s_at H (e1 X H) e2), h⟩
theorem r_tp {es : List ME} (h : REs d ρ es σ fun vs σ₁ => K (.tup vs) σ₁) : RE d ρ (.tp es) σ K := ex2 h fun q0 q0 e1 h => ⟨_, _, (fun X H => s_tp (e1 X H)), h⟩
theorem r_ls {es : List ME} (h : REs d ρ es σ fun vs σ₁ => K (.ref σ₁.length) (σ₁ ++ [.list vs])) : RE d ρ (.ls es) σ K := ex2 h fun q0 q0 e1 h => ⟨_, _, (fun X H => s_ls (e1 X H)), h⟩
theorem r_dc (h : K (.ref σ.length) (σ ++ [.dict []])) : RE d ρ .dc σ K := ⟨_, _, (fun X H => s_dc), h⟩
theorem r_ix {e i : ME} (h : RE d ρ e σ fun o σ₁ => RE d ρ i σ₁ fun k σ₂ => ∃ v, itemR σ₂ o k = some v ∧ K v σ₂) : RE d ρ (.ix e i) σ K :=
  ex2 h fun q0 q0 e1 h => ex2 h fun q0 q0 e2 h => ex1 h fun q0 e3 h => ⟨_, _, (fun X H => s_ix (e1 X H) (e2 X H) e3), h⟩
theorem r_sl0 {e hi : ME} (h : RE d ρ e σ fun o σ₁ => RE d ρ hi σ₁ fun k σ₂ => ∃ v, sliceR σ₂ o none (some k) = some (.inl v) ∧ K v σ₂) : RE d ρ (.sl e none (some hi)) σ K :=
  ex2 h fun q0 q0 e1 h => ex2 h fun q0 q0 e2 h => ex1 h fun q0 e3 h => ⟨_, _, (fun X H => s_slice (j := none) (k := some _) (e1 X H) rfl (e2 X H) (.inl ⟨e3, rfl⟩)), h⟩
theorem r_sl2 {e lo hi : ME} (h : RE d ρ e σ fun o σ₁ => RE d ρ lo σ₁ fun j σ₂ => RE d ρ hi σ₂ fun k σ₃ => ∃ v, sliceR σ₃ o (some j) (some k) = some (.inl v) ∧ K v σ₃) : RE d ρ (.sl e (some lo) (some hi)) σ K :=
  ex2 h fun q0 q0 e1 h => ex2 h fun q0 q0 e2 h => ex2 h fun q0 q0 e3 h => ex1 h fun q0 e4 h => ⟨_, _, (fun X H => s_slice (j := some _) (k := some _) (e1 X H) (e2 X H) (e3 X H) (.inl ⟨e4, rfl⟩)), h⟩
theorem r_sl0L {e hi : ME} (h : RE d ρ e σ fun o σ₁ => RE d ρ hi σ₁ fun k σ₂ => ∃ vs, sliceR σ₂ o none (some k) = some (.inr vs) ∧ K (.ref σ₂.length) (σ₂ ++ [.list vs])) : RE d ρ (.sl e none (some hi)) σ K :=
  ex2 h fun q0 q0 e1 h => ex2 h fun q0 q0 e2 h => ex1 h fun q0 e3 h => ⟨_, _, (fun X H => s_slice (j := none) (k := some _) (e1 X H) rfl (e2 X H) (.inr ⟨_, e3, rfl, rfl⟩)), h⟩
theorem r_sl1L {e lo : ME} (h : RE d ρ e σ fun o σ₁ => RE d ρ lo σ₁ fun k σ₂ => ∃ vs, sliceR σ₂ o (some k) none = some (.inr vs) ∧ K (.ref σ₂.length) (σ₂ ++ [.list vs])) : RE d ρ (.sl e (some lo) none) σ K :=
  ex2 h fun q0 q0 e1 h => ex2 h fun q0 q0 e2 h => ex1 h fun q0 e3 h => ⟨_, _, (fun X H => s_slice (j := some _) (k := none) (e1 X H) (e2 X H) rfl (.inr ⟨_, e3, rfl, rfl⟩)), h⟩
theorem r_sl2L {e lo hi : ME} (h : RE d ρ e σ fun o σ₁ => RE d ρ lo σ₁ fun j σ₂ => RE d ρ hi σ₂ fun k σ₃ => ∃ vs, sliceR σ₃ o (some j) (some k) = some (.inr vs) ∧ K (.ref σ₃.length) (σ₃ ++ [.list vs])) : RE d ρ (.sl e (some lo) (some hi)) σ K :=
  ex2 h fun q0 q0 e1 h => ex2 h fun q0 q0 e2 h => ex2 h fun q0 q0 e3 h => ex1 h fun q0 e4 h => ⟨_, _, (fun X H => s_slice (j := some _) (k := some _) (e1 X H) (e2 X H) (e3 X H) (.inr ⟨_, e4, rfl, rfl⟩)), h⟩
theorem r_sr {e : ME} (h : RE d ρ e σ fun o σ₁ => ∃ v, revR σ₁ o = some (.inl v) ∧ K v σ₁) : RE d ρ (.sr e) σ K := ex2 h fun q0 q0 e1 h => ex1 h fun q0 e2 h => ⟨_, _, (fun X H => s_rev (e1 X H) (.inl ⟨e2, rfl⟩)), h⟩
theorem r_srL {e : ME} (h : RE d ρ e σ fun o σ₁ => ∃ vs, revR σ₁ o = some (.inr vs) ∧ K (.ref σ₁.length) (σ₁ ++ [.list vs])) : RE d ρ (.sr e) σ K := ex2 h fun q0 q0 e1 h => ex1 h fun q0 e2 h => ⟨_, _, (fun X H => s_rev (e1 X H) (.inr ⟨_, e2, rfl, rfl⟩)), h⟩
noncomputable def SlK (r : AV ⊕ List AV) (σ : St) (K : AV → St → Prop) : Prop := match r with
  | .inl v => K v σ
  | .inr vs => K (.ref σ.length) (σ ++ [.list vs])
theorem slk_l {v : AV} (h : K v σ) : SlK (.inl v) σ K := h
theorem slk_r {vs : List AV} (h : K (.ref σ.length) (σ ++ [.list vs])) : SlK (.inr vs) σ K := h
theorem rs_0 {e hi : ME} (h : RE d ρ e σ fun o σ₁ => RE d ρ hi σ₁ fun k σ₂ => ∃ r, sliceR σ₂ o none (some k) = some r ∧ SlK r σ₂ K) : RE d ρ (.sl e none (some hi)) σ K := by
  obtain ⟨o, σ₁, e1, k, σ₂, e2, r, e3, q⟩ := h
  cases r with
  | inl v => exact ⟨_, _, (fun X H => s_slice (j := none) (k := some _) (e1 X H) rfl (e2 X H) (.inl ⟨e3, rfl⟩)), q⟩
  | inr vs => exact ⟨_, _, (fun X H => s_slice (j := none) (k := some _) (e1 X H) rfl (e2 X H) (.inr ⟨_, e3, rfl, rfl⟩)), q⟩
theorem rs_2 {e lo hi : ME} (h : RE d ρ e σ fun o σ₁ => RE d ρ lo σ₁ fun j σ₂ => RE d ρ hi σ₂ fun k σ₃ => ∃ r, sliceR σ₃ o (some j) (some k) = some r ∧ SlK r σ₃ K) : RE d ρ (.sl e (some lo) (some hi)) σ K := by
  obtain ⟨o, σ₁, e1, j, σ₂, e2, k, σ₃, e3, r, e4, q⟩ := h
  cases r with
  | inl v => exact ⟨_, _, (fun X H => s_slice (j := some _) (k := some _) (e1 X H) (e2 X H) (e3 X H) (.inl ⟨e4, rfl⟩)), q⟩
  | inr vs => exact ⟨_, _, (fun X H => s_slice (j := some _) (k := some _) (e1 X H) (e2 X H) (e3 X H) (.inr ⟨_, e4, rfl, rfl⟩)), q⟩
theorem rs_r {e : ME} (h : RE d ρ e σ fun o σ₁ => ∃ r, revR σ₁ o = some r ∧ SlK r σ₁ K) : RE d ρ (.sr e) σ K := by
  obtain ⟨o, σ₁, e1, r, e2, q⟩ := h
  cases r with
  | inl v => exact ⟨_, _, (fun X H => s_rev (e1 X H) (.inl ⟨e2, rfl⟩)), q⟩
  | inr vs => exact ⟨_, _, (fun X H => s_rev (e1 X H) (.inr ⟨_, e2, rfl, rfl⟩)), q⟩
theorem r_bo {op : BOp} {a b : ME} (h : RE d ρ a σ fun x σ₁ => RE d ρ b σ₁ fun y σ₂ => ∃ v, binV op x y = some v ∧ K v σ₂) : RE d ρ (.bo op a b) σ K :=
  ex2 h fun q0 q0 e1 h => ex2 h fun q0 q0 e2 h => ex1 h fun q0 e3 h => ⟨_, _, (fun X H => s_bo (e1 X H) (e2 X H) e3), h⟩
theorem r_boL {op : BOp} {a b : ME} (h : RE d ρ a σ fun x σ₁ => RE d ρ b σ₁ fun y σ₂ => ∃ vs, binL σ₂ op x y = some vs ∧ K (.ref σ₂.length) (σ₂ ++ [.list vs])) : RE d ρ (.bo op a b) σ K :=
  ex2 h fun q0 q0 e1 h => ex2 h fun q0 q0 e2 h => ex1 h fun q0 e3 h => ⟨_, _, (fun X H => s_boL (e1 X H) (e2 X H) e3), h⟩
theorem r_cm {op : COp} {a b : ME} (h : RE d ρ a σ fun x σ₁ => RE d ρ b σ₁ fun y σ₂ => ∃ r, cmpR σ₂ op x y = some r ∧ K (.bool r) σ₂) : RE d ρ (.cm op a b) σ K :=
  ex2 h fun q0 q0 e1 h => ex2 h fun q0 q0 e2 h => ex1 h fun q0 e3 h => ⟨_, _, (fun X H => s_cm (e1 X H) (e2 X H) e3), h⟩
theorem r_an {a b : ME} (h : RE d ρ a σ fun x σ₁ => ∃ r, x = .bool r ∧ Sw r (RE d ρ b σ₁ K) (K (.bool false) σ₁)) : RE d ρ (.an [a, b]) σ K := by
  obtain ⟨x, σ₁, e1, r, rfl, h1, h2⟩ := h
  cases r with
  | false => exact ⟨_, _, (fun X H => s_anF (e1 X H)), h2 rfl⟩
  | true => obtain ⟨v, σ₂, e2, k⟩ := h1 rfl; exact ⟨_, _, (fun X H => s_anT (e1 X H) (e2 X H)), k⟩
theorem r_ie {t a b : ME} (h : RT d ρ t σ fun r σ₁ => Sw r (RE d ρ a σ₁ K) (RE d ρ b σ₁ K)) : RE d ρ (.ie t a b) σ K := by
  obtain ⟨r, σ₁, e1, h1, h2⟩ := h
  cases r with
  | true => obtain ⟨v, σ₂, e2, k⟩ := h1 rfl; exact ⟨_, _, (fun X H => s_ie (e1 X H) (e2 X H)), k⟩
  | false => obtain ⟨v, σ₂, e2, k⟩ := h2 rfl; exact ⟨_, _, (fun X H => s_ie (e1 X H) (e2 X H)), k⟩
theorem r_cf {f : Nat} {es : List ME} (h : REs d ρ es σ fun vs σ₁ => RC d f vs σ₁ K) : RE d ρ (.cf f es) σ K := ex2 h fun q0 q0 e1 h => ex2 h fun q0 q0 e2 h => ⟨_, _, (fun X H => s_cf H e2.1 (e1 X H) (e2.2 X H)), h⟩
theorem r_nw {C f : Nat} {es : List ME} (hi : prog.init C = some f) (h : REs d ρ es σ fun vs σ₁ => RC d f (.inst C σ₁.length :: vs) (σ₁ ++ [.flds []]) fun r σ₂ => r = .none ∧ K (.inst C σ₁.length) σ₂) : RE d ρ (.nw C es) σ K :=
  ex2 h fun q0 q0 e1 h => ex2 h fun q0 q0 e2 h => ⟨_, _, (fun X H => s_nw H hi (e1 X H) ((h.1 ▸ e2).2 X H)), h.2⟩
theorem r_mc {e : ME} {m : Nat} {es : List ME} (h : RE d ρ e σ fun o σ₁ => REs d ρ es σ₁ fun vs σ₂ => ∃ C i f, o = .inst C i ∧ isFl σ₁ i = true ∧ prog.meth C m = some f ∧ RC d f (o :: vs) σ₂ K) : RE d ρ (.mc e m es) σ K := by
  obtain ⟨o, σ₁, e1, vs, σ₂, e2, C, i, f, rfl, h1, h2, v, σ₃, e3, k⟩ := h
  exact ⟨_, _, (fun X H => s_mc H e3.1 (e1 X H) (e2 X H) h2 (e3.2 X H) (isFl_of h1)), k⟩
theorem r_bm {e : ME} {m : Nat} {es : List ME} (h : RE d ρ e σ fun o σ₁ => bmK σ₁ m o = true ∧ REs d ρ es σ₁ fun vs σ₂ => ∃ v σ₃, bmR σ₂ m o vs = some (v, σ₃) ∧ K v σ₃) : RE d ρ (.bm e m es) σ K :=
  ex2 h fun q0 q0 e1 h => ex2 h.2 fun q0 q0 e2 k => ex2 k fun q0 q0 e3 k => ⟨_, _, (fun X H => s_bm (e1 X H) h.1 (e2 X H) e3), k⟩
theorem r_ii {e : ME} {c : Nat} (h : RE d ρ e σ fun v σ₁ => ∃ r, isIn c v = some r ∧ K (.bool r) σ₁) : RE d ρ (.ii e c) σ K := ex2 h fun q0 q0 e1 h => ex1 h fun q0 e2 h => ⟨_, _, (fun X H => s_ii H (e1 X H) e2), h⟩
theorem r_bf {e : ME} {f : Nat} (h : RE d ρ e σ fun v σ₁ => ∃ r, bfR σ₁ f v = some r ∧ K r σ₁) : RE d ρ (.bf f e) σ K := ex2 h fun q0 q0 e1 h => ex1 h fun q0 e2 h => ⟨_, _, (fun X H => s_bf H (e1 X H) e2), h⟩
theorem r_lc {n : Nat} {fv : List (Nat × Nat)} {g : List Nat} {gt : Bool} {it e : ME} {c : Option ME} (h : RI d ρ it σ fun src σ₁ => RL d (freshLoc ρ n fv) g gt src c e σ₁.length (σ₁ ++ [.list []]) fun σ₂ => K (.ref σ₁.length) σ₂) : RE d ρ (.lc n fv g gt it c e) σ K :=
  ex2 h fun q0 q0 e1 h => ex1 h fun q0 e2 h => ⟨_, _, (fun X H => s_lc (e1 X H) (e2 X H)), h⟩
theorem r_es0 (h : KV [] σ) : REs d ρ [] σ KV := ⟨_, _, (fun X H => s_es0), h⟩
theorem r_es1 {e : ME} {r : List ME} (h : RE d ρ e σ fun v σ₁ => REs d ρ r σ₁ fun vs σ₂ => KV (v :: vs) σ₂) : REs d ρ (e :: r) σ KV := ex2 h fun q0 q0 e1 h => ex2 h fun q0 q0 e2 h => ⟨_, _, (fun X H => s_es1 (e1 X H) (e2 X H)), h⟩
theorem r_itR {e : ME} (h : RE d ρ e σ fun v σ₁ => ∃ k : Int, v = .int k ∧ 0 ≤ k ∧ k < 1000 ∧ KI (.rng 0 k.toNat) σ₁) : RI d ρ (.bf 9 e) σ KI := by
  obtain ⟨v, σ₁, e1, k, rfl, h1, h2, h3⟩ := h; exact ⟨_, _, (fun X H => s_itR H (e1 X H) h1 h2), h3⟩
theorem r_itL {e : ME} (h : RE d ρ e σ fun v σ₁ => ∃ i vs, v = .ref i ∧ σ₁[i]? = some (.list vs) ∧ KI (.lst i 0) σ₁) (hb : notBad e = true := by rfl) : RI d ρ e σ KI := by
  obtain ⟨v, σ₁, e1, i, vs, rfl, h1, h2⟩ := h; exact ⟨_, _, (fun X H => s_itL (ne_bad hb) (e1 X H) h1), h2⟩
theorem r_itS {e : ME} (h : RE d ρ e σ fun v σ₁ => ∃ l, v = .str l ∧ (∀ c ∈ l, c < 128) ∧ KI (.chs l) σ₁) (hb : notBad e = true := by rfl) : RI d ρ e σ KI := by
  obtain ⟨v, σ₁, e1, l, rfl, h1, h2⟩ := h; exact ⟨_, _, (fun X H => s_itS (ne_bad hb) (e1 X H) h1), h2⟩
theorem r_tn {e : ME} (h : RT d ρ e σ fun r σ₁ => KT (!r) σ₁) : RT d ρ (.nt e) σ KT := ex2 h fun q0 q0 e1 h => ⟨_, _, (fun X H => s_tn (e1 X H)), h⟩
theorem r_ta0 (h : KT true σ) : RT d ρ (.an []) σ KT := ⟨_, _, (fun X H => s_ta0), h⟩
theorem r_ta1 {e : ME} {r : List ME} (h : RT d ρ e σ fun b σ₁ => Sw b (RT d ρ (.an r) σ₁ KT) (KT false σ₁)) : RT d ρ (.an (e :: r)) σ KT := by
  obtain ⟨b, σ₁, e1, h, h'⟩ := h
  cases b with
  | false => exact ⟨_, _, (fun X H => s_taF (e1 X H)), h' rfl⟩
  | true => obtain ⟨b2, σ₂, e2, k⟩ := h rfl; exact ⟨_, _, (fun X H => s_taT (e1 X H) (e2 X H)), k⟩
theorem r_to0 (h : KT false σ) : RT d ρ (.or []) σ KT := ⟨_, _, (fun X H => s_to0), h⟩
theorem r_to1 {e : ME} {r : List ME} (h : RT d ρ e σ fun b σ₁ => Sw b (KT true σ₁) (RT d ρ (.or r) σ₁ KT)) : RT d ρ (.or (e :: r)) σ KT := by
  obtain ⟨b, σ₁, e1, h, h'⟩ := h
  cases b with
  | true => exact ⟨_, _, (fun X H => s_toT (e1 X H)), h rfl⟩
  | false => obtain ⟨b2, σ₂, e2, k⟩ := h' rfl; exact ⟨_, _, (fun X H => s_toF (e1 X H) (e2 X H)), k⟩
theorem r_tc {op : COp} {a b : ME} (h : RE d ρ a σ fun x σ₁ => RE d ρ b σ₁ fun y σ₂ => ∃ r, cmpR σ₂ op x y = some r ∧ KT r σ₂) : RT d ρ (.cm op a b) σ KT :=
  ex2 h fun q0 q0 e1 h => ex2 h fun q0 q0 e2 h => ex1 h fun q0 e3 h => ⟨_, _, (fun X H => s_tc (e1 X H) (e2 X H) e3), h⟩
theorem r_te {e : ME} (hp : plainT e = true) (h : RE d ρ e σ fun v σ₁ => ∃ r, v = .bool r ∧ KT r σ₁) : RT d ρ e σ KT := by
  obtain ⟨v, σ₁, e1, r, rfl, k⟩ := h; exact ⟨_, _, (fun X H => s_te (e1 X H) hp), k⟩
theorem r_ax {i : Nat} {v : AV} (h : KA (ρ.set i (some v)) σ) : RA d ρ (.x i) v σ KA := ⟨_, _, (fun X H => s_ax), h⟩
theorem r_atp {gs : List Tg} {vs : List AV} (hl : gs.length = vs.length) (h : RAs d ρ gs vs σ KA) : RA d ρ (.tup gs) (.tup vs) σ KA := ex2 h fun q0 q0 e1 h => ⟨_, _, (fun X H => s_atp hl (e1 X H)), h⟩
theorem r_aat {e : ME} {f : Nat} {v : AV} (h : RE d ρ e σ fun o σ₁ => ∃ σ₂, setF σ₁ o f v = some σ₂ ∧ KA ρ σ₂) : RA d ρ (.at e f) v σ KA := ex2 h fun q0 q0 e1 h => ex1 h fun q0 e2 h => ⟨_, _, (fun X H => s_aat H (e1 X H) e2), h⟩
theorem r_aix {e i : ME} {v : AV} (h : RE d ρ e σ fun o σ₁ => RE d ρ i σ₁ fun k σ₂ => ∃ σ₃, storeR σ₂ o k v = some σ₃ ∧ KA ρ σ₃) : RA d ρ (.ix e i) v σ KA :=
  ex2 h fun q0 q0 e1 h => ex2 h fun q0 q0 e2 h => ex1 h fun q0 e3 h => ⟨_, _, (fun X H => s_aix (e1 X H) (e2 X H) e3), h⟩
theorem r_ag0 (h : KA ρ σ) : RAs d ρ [] [] σ KA := ⟨_, _, (fun X H => s_ag0), h⟩
theorem r_ag1 {g : Tg} {gs : List Tg} {v : AV} {vs : List AV} (h : RA d ρ g v σ fun ρ₁ σ₁ => RAs d ρ₁ gs vs σ₁ KA) : RAs d ρ (g :: gs) (v :: vs) σ KA := ex2 h fun q0 q0 e1 h => ex2 h fun q0 q0 e2 h => ⟨_, _, (fun X H => s_ag1 (e1 X H) (e2 X H)), h⟩
theorem r_sa {g : Tg} {e : ME} (h : RE d ρ e σ fun v σ₁ => RA d ρ g v σ₁ fun ρ' σ₂ => KS .next ρ' σ₂) : RS d ρ (.as g e) σ KS := ex2 h fun q0 q0 e1 h => ex2 h fun q0 q0 e2 h => ⟨_, _, _, (fun X H => s_sa (e1 X H) (e2 X H)), h⟩
theorem r_sw {xs : List Nat} {e : ME} (h : RE d ρ e σ fun v σ₁ => ∃ vs, v = .tup vs ∧ xs.length = vs.length ∧ KS .next (setL ρ xs.reverse vs.reverse) σ₁) : RS d ρ (.asw xs e) σ KS := by
  obtain ⟨v, σ₁, e1, vs, rfl, h1, k⟩ := h; exact ⟨_, _, _, (fun X H => s_sw (e1 X H) h1), k⟩
theorem r_sl {x n : Nat} {fv : List (Nat × Nat)} {g : List Nat} {gt : Bool} {it e : ME} {c : Option ME} (h : RI d ρ it σ fun src σ₁ => RL d (freshLoc ρ n fv) g gt src c e σ₁.length (σ₁ ++ [.list []]) fun σ₂ => KS .next (ρ.set x (some (.ref σ₁.length))) σ₂) : RS d ρ (.asl x (.lc n fv g gt it c e)) σ KS :=
  ex2 h fun q0 q0 e1 h => ex1 h fun q0 e2 h => ⟨_, _, _, (fun X H => s_sl (e1 X H) (e2 X H)), h⟩
theorem r_su {e v : ME} {f : Nat} (h : RE d ρ e σ fun o σ₁ => ∃ a, getF σ₁ o f = some (.int a) ∧ RE d ρ v σ₁ fun y σ₂ => ∃ b σ₃, y = .int b ∧ setF σ₂ o f (.int (a + b)) = some σ₃ ∧ KS .next ρ σ₃) : RS d ρ (.au e f v) σ KS := by
  obtain ⟨o, σ₁, e1, a, h1, y, σ₂, e2, b, σ₃, rfl, h2, k⟩ := h; exact ⟨_, _, _, (fun X H => s_su H (e1 X H) h1 (e2 X H) h2), k⟩
theorem r_se {e : ME} (h : RE d ρ e σ fun q0 σ₁ => KS .next ρ σ₁) : RS d ρ (.ex e) σ KS := ex2 h fun q0 q0 e1 h => ⟨_, _, _, (fun X H => s_se (e1 X H)), h⟩
theorem r_sr1 {e : ME} (h : RE d ρ e σ fun v σ₁ => KS (.ret v) ρ σ₁) : RS d ρ (.rt e) σ KS := ex2 h fun q0 q0 e1 h => ⟨_, _, _, (fun X H => s_sr1 (e1 X H)), h⟩
theorem r_si {t : ME} {a b : List MS} (h : RT d ρ t σ fun r σ₁ => Sw r (RB d ρ a σ₁ KS) (RB d ρ b σ₁ KS)) : RS d ρ (.iff t a b) σ KS := by
  obtain ⟨r, σ₁, e1, h1, h2⟩ := h
  cases r with
  | true => obtain ⟨v, ρ', σ₂, e2, k⟩ := (h1 rfl).out; exact ⟨_, _, _, (fun X H => s_si (e1 X H) (e2 X H)), k⟩
  | false => obtain ⟨v, ρ', σ₂, e2, k⟩ := (h2 rfl).out; exact ⟨_, _, _, (fun X H => s_si (e1 X H) (e2 X H)), k⟩
theorem r_sh {t : ME} {b : List MS} (h : RW d ρ t b σ KS) : RS d ρ (.wh t b) σ KS := ex3 h fun q0 q0 q0 e1 h => ⟨_, _, _, (fun X H => s_sh (e1 X H)), h⟩
theorem r_sf {g : Tg} {it : ME} {b : List MS} (h : RI d ρ it σ fun src σ₁ => RF d ρ g src b σ₁ KS) : RS d ρ (.fr g it b) σ KS := ex2 h fun q0 q0 e1 h => ex3 h fun q0 q0 q0 e2 h => ⟨_, _, _, (fun X H => s_sf (e1 X H) (e2 X H)), h⟩
theorem r_sb (h : KS .brk ρ σ) : RS d ρ .br σ KS := ⟨_, _, _, (fun X H => s_sb), h⟩
theorem r_sc (h : KS .cont ρ σ) : RS d ρ .ct σ KS := ⟨_, _, _, (fun X H => s_sc), h⟩
theorem r_b0 (h : KS .next ρ σ) : RB d ρ [] σ KS := ⟨_, _, _, (fun X H => s_b0), h⟩
noncomputable def goOn (d : Nat) (r : List MS) (KS : Fl → Loc → St → Prop) : Fl → Loc → St → Prop
  | .next, ρ, σ => RB d ρ r σ KS
  | fl, ρ, σ => KS fl ρ σ
theorem r_b1 {s : MS} {r : List MS} (h : RS d ρ s σ (goOn d r KS)) : RB d ρ (s :: r) σ KS := by
  obtain ⟨fl, ρ₁, σ₁, e1, h⟩ := h
  cases fl with
  | next => obtain ⟨fl2, ρ₂, σ₂, e2, k⟩ := h.out; exact ⟨_, _, _, (fun X H => s_b1 (e1 X H) (e2 X H)), k⟩
  | brk => exact ⟨_, _, _, (fun X H => s_bx (e1 X H) (by simp)), h⟩
  | cont => exact ⟨_, _, _, (fun X H => s_bx (e1 X H) (by simp)), h⟩
  | ret v => exact ⟨_, _, _, (fun X H => s_bx (e1 X H) (by simp)), h⟩
theorem r_next {r : List MS} (h : RB d ρ r σ KS) : goOn d r KS .next ρ σ := h
theorem r_ret {r : List MS} {v : AV} (h : KS (.ret v) ρ σ) : goOn d r KS (.ret v) ρ σ := h
theorem r_brk {r : List MS} (h : KS .brk ρ σ) : goOn d r KS .brk ρ σ := h
theorem r_cont {r : List MS} (h : KS .cont ρ σ) : goOn d r KS .cont ρ σ := h
noncomputable def again (d : Nat) (t : ME) (b : List MS) (KS : Fl → Loc → St → Prop) : Fl → Loc → St → Prop
  | .next, ρ, σ => RW d ρ t b σ KS
  | .cont, ρ, σ => RW d ρ t b σ KS
  | .brk, ρ, σ => KS .next ρ σ
  | .ret v, ρ, σ => KS (.ret v) ρ σ
theorem rg_next {t : ME} {b : List MS} (h : RW d ρ t b σ KS) : again d t b KS .next ρ σ := h
theorem rg_cont {t : ME} {b : List MS} (h : RW d ρ t b σ KS) : again d t b KS .cont ρ σ := h
theorem rg_brk {t : ME} {b : List MS} (h : KS .next ρ σ) : again d t b KS .brk ρ σ := h
theorem rg_ret {t : ME} {b : List MS} {v : AV} (h : KS (.ret v) ρ σ) : again d t b KS (.ret v) ρ σ := h
theorem r_w {t : ME} {b : List MS} (h : RT d ρ t σ fun r σ₁ => Sw r (RB d ρ b σ₁ (again d t b KS)) (KS .next ρ σ₁)) : RW d ρ t b σ KS := by
  obtain ⟨r, σ₁, e1, h, h'⟩ := h
  cases r with
  | false => exact ⟨_, _, _, (fun X H => s_wF (e1 X H)), h' rfl⟩
  | true =>
    obtain ⟨fl, ρ₁, σ₂, e2, h⟩ := (h rfl).out
    cases fl with
    | next => obtain ⟨fl2, ρ₂, σ₃, e3, k⟩ := h; exact ⟨_, _, _, (fun X H => s_wN (e1 X H) (e2 X H) (.inl rfl) (e3 X H)), k⟩
    | cont => obtain ⟨fl2, ρ₂, σ₃, e3, k⟩ := h; exact ⟨_, _, _, (fun X H => s_wN (e1 X H) (e2 X H) (.inr rfl) (e3 X H)), k⟩
    | brk => exact ⟨_, _, _, (fun X H => s_wB (e1 X H) (e2 X H)), h⟩
    | ret v => exact ⟨_, _, _, (fun X H => s_wR (e1 X H) (e2 X H)), h⟩
noncomputable def againF (d : Nat) (g : Tg) (src : Src) (b : List MS) (KS : Fl → Loc → St → Prop) : Fl → Loc → St → Prop
  | .next, ρ, σ => RF d ρ g src b σ KS
  | .cont, ρ, σ => RF d ρ g src b σ KS
  | .brk, ρ, σ => KS .next ρ σ
  | .ret v, ρ, σ => KS (.ret v) ρ σ
theorem rf_next {g : Tg} {src : Src} {b : List MS} (h : RF d ρ g src b σ KS) : againF d g src b KS .next ρ σ := h
theorem rf_cont {g : Tg} {src : Src} {b : List MS} (h : RF d ρ g src b σ KS) : againF d g src b KS .cont ρ σ := h
theorem rf_brk {g : Tg} {src : Src} {b : List MS} (h : KS .next ρ σ) : againF d g src b KS .brk ρ σ := h
theorem rf_ret {g : Tg} {src : Src} {b : List MS} {v : AV} (h : KS (.ret v) ρ σ) : againF d g src b KS (.ret v) ρ σ := h
theorem r_fE {g : Tg} {src : Src} {b : List MS} (e : src.next σ = some none) (h : KS .next ρ σ) : RF d ρ g src b σ KS := ⟨_, _, _, (fun X H => s_fE e), h⟩
theorem r_f1 {g : Tg} {src src' : Src} {b : List MS} {v : AV} (e : src.next σ = some (some (v, src'))) (h : RA d ρ g v σ fun ρ₁ σ₁ => RB d ρ₁ b σ₁ (againF d g src' b KS)) : RF d ρ g src b σ KS := by
  obtain ⟨ρ₁, σ₁, e1, ⟨fl, ρ₂, σ₂, e2, h⟩⟩ := h
  cases fl with
  | next => obtain ⟨fl2, ρ₃, σ₃, e3, k⟩ := h; exact ⟨_, _, _, (fun X H => s_fN e (e1 X H) (e2 X H) (.inl rfl) (e3 X H)), k⟩
  | cont => obtain ⟨fl2, ρ₃, σ₃, e3, k⟩ := h; exact ⟨_, _, _, (fun X H => s_fN e (e1 X H) (e2 X H) (.inr rfl) (e3 X H)), k⟩
  | brk => exact ⟨_, _, _, (fun X H => s_fB e (e1 X H) (e2 X H)), h⟩
  | ret v => exact ⟨_, _, _, (fun X H => s_fR e (e1 X H) (e2 X H)), h⟩
theorem r_lE {g : List Nat} {gt : Bool} {src : Src} {c : Option ME} {e : ME} {acc : Nat} (hn : src.next σ = some none) (h : KL σ) : RL d ρ g gt src c e acc σ KL := ⟨_, (fun X H => s_lE hn), h⟩
theorem r_lN {g : List Nat} {gt : Bool} {src src' : Src} {e : ME} {acc : Nat} {v : AV} (hn : src.next σ = some (some (v, src')))
    (h : ∃ ws, (if gt then v else .tup [v]) = .tup ws ∧ g.length = ws.length ∧ RE d (setL ρ g ws) e σ fun w σ₂ => ∃ vs, σ₂[acc]? = some (.list vs) ∧ vs.length < 100000 ∧ RL d (setL ρ g ws) g gt src' none e acc (σ₂.set acc (.list (vs ++ [w]))) KL) : RL d ρ g gt src none e acc σ KL := by
  obtain ⟨ws, e0, hl, w, σ₂, e2, vs, h1, h2, σ₃, e3, k⟩ := h
  exact ⟨_, (fun X H => s_lN hn (fun q => by rw [q] at e0; injection e0 with e0; exact e0.symm) (fun q => by rw [q] at e0; exact e0) hl (e2 X H) h1 h2 (e3 X H)), k⟩
theorem r_lC {g : List Nat} {gt : Bool} {src src' : Src} {c e : ME} {acc : Nat} {v : AV} (hn : src.next σ = some (some (v, src')))
    (h : ∃ ws, (if gt then v else .tup [v]) = .tup ws ∧ g.length = ws.length ∧ RT d (setL ρ g ws) c σ fun b σ₂ => Sw b (RE d (setL ρ g ws) e σ₂ fun w σ₃ => ∃ vs, σ₃[acc]? = some (.list vs) ∧ vs.length < 100000 ∧ RL d (setL ρ g ws) g gt src' (some c) e acc (σ₃.set acc (.list (vs ++ [w]))) KL)
      (RL d (setL ρ g ws) g gt src' (some c) e acc σ₂ KL)) : RL d ρ g gt src (some c) e acc σ KL := by
  obtain ⟨ws, e0, hl, b, σ₂, e2, h, h'⟩ := h
  have a1 : gt = false → ws = [v] := fun q => by rw [q] at e0; injection e0 with e0; exact e0.symm
  have a2 : gt = true → v = .tup ws := fun q => by rw [q] at e0; exact e0
  cases b with
  | false => obtain ⟨σ₃, e3, k⟩ := h' rfl; exact ⟨_, (fun X H => s_lF hn a1 a2 hl (e2 X H) (e3 X H)), k⟩
  | true =>
    obtain ⟨w, σ₃, e3, vs, h1, h2, σ₄, e4, k⟩ := h rfl
    exact ⟨_, (fun X H => s_lT hn a1 a2 hl (e2 X H) (e3 X H) h1 h2 (e4 X H)), k⟩
theorem r_call {f : Nat} {fd : FnDef} {args : List AV} (hf : fnDefs[f]? = some fd) (hl : args.length = fd.np) (hle : fd.np ≤ fd.nl) (h : RB d (initLoc fd args) fd.body σ fun fl q0 σ' => K (flOf fl) σ') : RC (d + 1) f args σ K :=
  ex3 h.out fun q0 q0 q0 e1 h => ⟨_, _, ⟨by rw [show prog.fn _ = _ from hf]; rfl, fun X H => s_call H hf hl (e1 X H)⟩, h⟩
end
noncomputable def kd : AO → Nat
  | .list _ => 0
  | .dict _ => 1
  | .flds es => es.length + 2
theorem ne_kd {σ : St} {i j : Nat} {x y : AO} (a : σ[i]? = some x) (b : σ[j]? = some y) (h : (kd x == kd y) = false) : i ≠ j := fun e => by
  rw [e, b] at a
  injection a with a
  rw [a, beq_self_eq_true] at h
  first | exact none_k h | exact false_k h | exact some_k h | exact true_k h | cases h
noncomputable abbrev Rds := List (Nat × List (Nat × AV))
inductive Out (α : Type) where
  | ok (a : α) (L : Rds) (q : List (Nat × Nat))
  | need (a : Nat)
  | bad
noncomputable def Out.bind {α β : Type} (m : Out α) (f : α → Rds → List (Nat × Nat) → Out β) : Out β := match m with
  | .ok a L q => f a L q
  | .need a => .need a
  | .bad => .bad
noncomputable def rdO (a : Nat) (L : Rds) (q : List (Nat × Nat)) : Out (List (Nat × AV)) := match L with
  | [] => .need a
  | x :: L => .ok x.2 L ((a, x.1) :: q)
noncomputable def ofO {α : Type} (o : Option α) (L : Rds) (q : List (Nat × Nat)) : Out α := match o with
  | some a => .ok a L q
  | none => .bad
noncomputable def insO {α : Type} (v : AV) (f : Nat → Out α) : Out α := match v with
  | .inst _ i => f i
  | _ => .bad
noncomputable def natO (k : Int) (f : Nat → Option AV) : Option AV := match k with
  | .ofNat n => f n
  | .negSucc _ => none
noncomputable def itemP (o k : AV) : Option AV := onInt k fun k => natO k fun n => (onTup o fun vs => if vs.length ≤ 1000 then vs[n]? else none) <|> (onStr o fun l => if l.length ≤ 1000 then (l[n]?).map fun c => .str [c] else none)
noncomputable def hmap (f : ME → Rds → List (Nat × Nat) → Out AV) : List ME → Rds → List (Nat × Nat) → Out (List AV)
  | [], L, q => .ok [] L q
  | e :: r, L, q => (f e L q).bind fun v L q => (hmap f r L q).bind fun vs L q => .ok (v :: vs) L q
noncomputable def hev (ρ : Loc) : Nat → ME → Rds → List (Nat × Nat) → Out AV
  | 0, _, _, _ => .bad
  | n + 1, e, L, q => match e with
    | .c v => .ok v L q
    | .x i => ofO (ρ[i]?.bind id) L q
    | .g i => ofO (prog.glob i) L q
    | .at e f => (hev ρ n e L q).bind fun o L q => insO o fun i => (rdO i L q).bind fun es L q => ofO (es.lookup f) L q
    | .tp es => (hmap (hev ρ n) es L q).bind fun vs L q => .ok (.tup vs) L q
    | .ix o k => (hev ρ n o L q).bind fun o L q => (hev ρ n k L q).bind fun k L q => ofO (itemP o k) L q
    | .bo op a b => (hev ρ n a L q).bind fun a L q => (hev ρ n b L q).bind fun b L q => ofO (binV op a b) L q
    | .cm op a b => (hev ρ n a L q).bind fun a L q => (hev ρ n b L q).bind fun b L q => (ofO (cmpV op a b) L q).bind fun r L q => .ok (.bool r) L q
    | .ii e c => (hev ρ n e L q).bind fun v L q => (ofO (isIn c v) L q).bind fun r L q => .ok (.bool r) L q
    | .ie t a b => match t with
      | .cm op x y => (hev ρ n x L q).bind fun x L q => (hev ρ n y L q).bind fun y L q => (ofO (cmpV op x y) L q).bind fun r L q => if r then hev ρ n a L q else hev ρ n b L q
      | _ => .bad
    | _ => .bad
noncomputable def het (ρ : Loc) : Nat → ME → Rds → List (Nat × Nat) → Out Bool
  | 0, _, _, _ => .bad
  | n + 1, e, L, q => match e with
    | .nt e => (het ρ n e L q).bind fun b L q => .ok (!b) L q
    | .an es => match es with
      | [] => .ok true L q
      | e :: r => (het ρ n e L q).bind fun b L q => if b then het ρ n (.an r) L q else .ok false L q
    | .or es => match es with
      | [] => .ok false L q
      | e :: r => (het ρ n e L q).bind fun b L q => if b then .ok true L q else het ρ n (.or r) L q
    | .cm op a b => (hev ρ n a L q).bind fun a L q => (hev ρ n b L q).bind fun b L q => ofO (cmpV op a b) L q
    | e => if plainT e then (hev ρ n e L q).bind fun v L q => ofO (onBool v some) L q else .bad
noncomputable def FxL (σ : St) (L : Rds) : Prop := ∀ x, x ∈ L → σ[x.1]? = some (.flds x.2)
noncomputable def FxQ (q : List (Nat × Nat)) : Prop := ∀ x, x ∈ q → x.1 = x.2
theorem bindO {α β : Type} {m : Out α} {f : α → Rds → List (Nat × Nat) → Out β} {b : β} {L : Rds} {q : List (Nat × Nat)} (h : m.bind f = .ok b L q) : ∃ a L' q', m = .ok a L' q' ∧ f a L' q' = .ok b L q := by
  cases m with
  | ok a L' q' => exact ⟨a, L', q', rfl, h⟩
  | need => first | exact none_k h | exact false_k h | exact some_k h | exact true_k h | cases h
  | bad => first | exact none_k h | exact false_k h | exact some_k h | exact true_k h | cases h
theorem ofO_i {α : Type} {o : Option α} {b : α} {L L' : Rds} {q q' : List (Nat × Nat)} (h : ofO o L q = .ok b L' q') : o = some b ∧ L = L' ∧ q = q' := by
  cases o with
  | none => first | exact none_k h | exact false_k h | exact some_k h | exact true_k h | cases h
  | some a => first | exact none_k h | exact false_k h | exact some_k h | exact true_k h | cases h; exact ⟨rfl, rfl, rfl⟩
theorem okO {α : Type} {a b : α} {L L' : Rds} {q q' : List (Nat × Nat)} (h : Out.ok a L q = .ok b L' q') : a = b ∧ L = L' ∧ q = q' := by first | exact none_k h | exact false_k h | exact some_k h | exact true_k h | cases h; exact ⟨rfl, rfl, rfl⟩
theorem bind_id {o : Option (Option AV)} {v : AV} (h : o.bind id = some v) : o = some (some v) := by
  cases o with
  | none => first | exact none_k h | exact false_k h | exact some_k h | exact true_k h | cases h
  | some a => exact congrArg some h
theorem or_l {α : Type} {a b : Option α} {r : α} (h : a = some r) : (a <|> b) = some r := by rw [h]; rfl
structure Go (σ : St) (L : Rds) (q : List (Nat × Nat)) (L' : Rds) (q' : List (Nat × Nat)) (P : Prop) : Prop where
  l : FxL σ L → FxL σ L'
  q : FxQ q' → FxQ q
  p : FxL σ L → FxQ q' → P
section
set_option compiler.extract_closed false
variable {d n : Nat} {ρ : Loc} {σ : St} {K : AV → St → Prop} {KT : Bool → St → Prop} {KV : List AV → St → Prop} {KS : Fl → Loc → St → Prop} {L L' L₁ L₂ : Rds} {q q' q₁ q₂ : List (Nat × Nat)}
theorem Go.seq {P Q R : Prop} (a : Go σ L q L₁ q₁ P) (b : Go σ L₁ q₁ L₂ q₂ Q) (f : P → Q → R) : Go σ L q L₂ q₂ R :=
  ⟨fun h => b.l (a.l h), fun h => a.q (b.q h), fun h k => f (a.p h (b.q k)) (b.p (a.l h) k)⟩
theorem Go.imp {P Q : Prop} (a : Go σ L q L₁ q₁ P) (f : P → Q) : Go σ L q L₁ q₁ Q := ⟨a.l, a.q, fun h k => f (a.p h k)⟩
theorem Go.id {P : Prop} (p : P) : Go σ L q L q P := ⟨fun h => h, fun h => h, fun _ _ => p⟩
noncomputable def HE (σ : St) (ρ : Loc) (e : ME) (v : AV) : Prop := ∀ (d : Nat) (K : AV → St → Prop), K v σ → RE d ρ e σ K
noncomputable def HEs (σ : St) (ρ : Loc) (es : List ME) (vs : List AV) : Prop := ∀ (d : Nat) (K : List AV → St → Prop), K vs σ → REs d ρ es σ K
noncomputable def HT (σ : St) (ρ : Loc) (e : ME) (b : Bool) : Prop := ∀ (d : Nat) (K : Bool → St → Prop), K b σ → RT d ρ e σ K
theorem small {n m : Nat} (h : n < m) (k : m ≤ 1000) : 0 ≤ (n : Int) ∧ (n : Int) < 1000000 := ⟨Int.natCast_nonneg n, Int.ofNat_lt.mpr (Nat.lt_of_lt_of_le h (Nat.le_trans k (by decide)))⟩
theorem itemT {vs : List AV} {i : Int} {v : AV} (hi : 0 ≤ i ∧ i < 1000000) (h : vs[i.toNat]? = some v) : itemR σ (.tup vs) (.int i) = some v := or_l (or_l ((if_pos hi).trans h))
theorem itemS {l : List Nat} {i : Int} {c : Nat} (hi : 0 ≤ i ∧ i < 1000000) (h : l[i.toNat]? = some c) : itemR σ (.str l) (.int i) = some (.str [c]) :=
  or_l (a := (if 0 ≤ i ∧ i < 1000000 then (l[i.toNat]?).map fun c => AV.str [c] else none) <|> none) (or_l ((if_pos hi).trans (by rw [h]; rfl)))
theorem itemP_R {o k v : AV} (h : itemP o k = some v) : itemR σ o k = some v := by
  obtain ⟨i, rfl, h⟩ := onInt_i h
  cases i with
  | negSucc => exact none_k h
  | ofNat n =>
    rcases or_i (a := onTup o _) h with h | h
    · obtain ⟨vs, rfl, h⟩ := onTup_i h
      obtain ⟨z, h⟩ := if_i h
      exact itemT (small (List.getElem?_eq_some_iff.mp h).1 z) h
    · obtain ⟨l, rfl, h⟩ := onStr_i h
      obtain ⟨z, h⟩ := if_i h
      obtain ⟨c, e, rfl⟩ := Option.map_eq_some_iff.mp h
      exact itemS (small (List.getElem?_eq_some_iff.mp e).1 z) e
theorem bad_k {α : Type} {P : Prop} {b : α} (h : Out.bad = .ok b L q) : P := by first | exact none_k h | exact false_k h | exact some_k h | exact true_k h | cases h
theorem go_b {α β : Type} {m : Out α} {f : α → Rds → List (Nat × Nat) → Out β} {b : β} {P : α → Prop} {R : Prop} (h : m.bind f = .ok b L' q') (A : ∀ {a : α} {L₁ : Rds} {q₁ : List (Nat × Nat)}, m = .ok a L₁ q₁ → Go σ L q L₁ q₁ (P a))
    (B : ∀ {a : α} {L₁ : Rds} {q₁ : List (Nat × Nat)}, f a L₁ q₁ = .ok b L' q' → Go σ L₁ q₁ L' q' (P a → R)) : Go σ L q L' q' R :=
  let ⟨_, _, _, h1, h2⟩ := bindO h
  (A h1).seq (B h2) fun a b => b a
theorem go_k {α : Type} {a b : α} {R : Prop} (h : Out.ok a L q = .ok b L' q') (p : a = b → R) : Go σ L q L' q' R := by
  obtain ⟨e, rfl, rfl⟩ := okO h; exact .id (p e)
theorem go_o {α : Type} {o : Option α} {b : α} {R : Prop} (h : ofO o L q = .ok b L' q') (p : o = some b → R) : Go σ L q L' q' R := by
  obtain ⟨e, rfl, rfl⟩ := ofO_i h; exact .id (p e)
theorem go_r {i f : Nat} {C : Nat} {v : AV} {R : Prop} (h : ((rdO i L q).bind fun es L q => ofO (es.lookup f) L q) = .ok v L' q') (p : getF σ (.inst C i) f = some v → R) : Go σ L q L' q' R := by
  obtain ⟨es, L₂, q₂, h2, h⟩ := bindO h
  obtain ⟨g, rfl, rfl⟩ := ofO_i h
  cases L with
  | nil => first | exact none_k h2 | exact false_k h2 | exact some_k h2 | exact true_k h2 | cases h2
  | cons y L₁ =>
    obtain ⟨h3, rfl, rfl⟩ := okO h2
    refine ⟨fun a x m => a x (.tail _ m), fun a x m => a x (.tail _ m), fun a b => p ?_⟩
    have e1 : i = y.1 := b _ (.head _)
    have e2 : σ[y.1]? = some (.flds y.2) := a _ (.head _)
    rw [← e1, h3] at e2
    show (match σ[i]? with | some (.flds es) => es.lookup f | _ => none) = some v
    rw [e2]; exact g
theorem hmap_ok {f : ME → Rds → List (Nat × Nat) → Out AV} (H : ∀ {e : ME} {L : Rds} {q : List (Nat × Nat)} {v : AV} {L' : Rds} {q' : List (Nat × Nat)}, f e L q = .ok v L' q' → Go σ L q L' q' (HE σ ρ e v)) {es : List ME} :
    ∀ {L : Rds} {q : List (Nat × Nat)} {vs : List AV} {L' : Rds} {q' : List (Nat × Nat)}, hmap f es L q = .ok vs L' q' → Go σ L q L' q' (HEs σ ρ es vs) := by
  induction es with
  | nil => intro L q vs L' q' h; exact go_k h fun e _ _ k => r_es0 (e ▸ k)
  | cons e r ih => intro L q vs L' q' h; exact go_b h H fun h => go_b h ih fun h => go_k h fun e b a d K k => r_es1 (a d _ (b d _ (e ▸ k)))
theorem insO_i {α : Type} {v : AV} {f : Nat → Out α} {b : α} (h : insO v f = .ok b L q) : ∃ C i, v = .inst C i ∧ f i = .ok b L q := by
  cases v with
  | inst C i => exact ⟨C, i, rfl, h⟩
  | _ => exact bad_k h
theorem hev_ok : ∀ {e : ME} {L : Rds} {q : List (Nat × Nat)} {v : AV} {L' : Rds} {q' : List (Nat × Nat)}, hev ρ n e L q = .ok v L' q' → Go σ L q L' q' (HE σ ρ e v) := by
  induction n with
  | zero => intro e L q v L' q' h; exact bad_k h
  | succ n ih =>
    intro e L q v L' q' h
    cases e with
    | c v => exact go_k h fun e _ _ k => r_c (e ▸ k)
    | x i => exact go_o h fun g _ _ k => r_x (bind_id g) k
    | g i => exact go_o h fun g _ _ k => r_g g k
    | «at» e f => exact go_b h ih fun h => (insO_i h).elim fun C h => h.elim fun i h => go_r h.2 fun g a d K k => r_at (a d _ ⟨_, h.1 ▸ g, k⟩)
    | tp es => exact go_b h (hmap_ok ih) fun h => go_k h fun e a d K k => r_tp (a d _ (e ▸ k))
    | ix o k => exact go_b h ih fun h => go_b h ih fun h => go_o h fun g b a d K k => r_ix (a d _ (b d _ ⟨_, itemP_R g, k⟩))
    | bo op a b => exact go_b h ih fun h => go_b h ih fun h => go_o h fun g b a d K k => r_bo (a d _ (b d _ ⟨_, g, k⟩))
    | cm op a b => exact go_b h ih fun h => go_b h ih fun h => go_b (P := fun r => cmpV op _ _ = some r) h (fun h => go_o h fun g => g) fun h => go_k h fun e g b a d K k => r_cm (a d _ (b d _ ⟨_, or_l g, e ▸ k⟩))
    | ii e c => exact go_b h ih fun h => go_b (P := fun r => isIn c _ = some r) h (fun h => go_o h fun g => g) fun h => go_k h fun e g a d K k => r_ii (a d _ ⟨_, g, e ▸ k⟩)
    | ie t x y =>
      cases t with
      | cm op a b =>
        refine go_b h ih fun h => go_b h ih fun h => go_b (P := fun r => cmpV op _ _ = some r) h (fun h => go_o h fun g => g) fun {r} _ _ h => ?_
        cases r with
        | true => exact (ih h).imp fun c g b a d K k => r_ie (r_tc (a d _ (b d _ ⟨_, or_l g, Sw.t (c d _ k)⟩)))
        | false => exact (ih h).imp fun c g b a d K k => r_ie (r_tc (a d _ (b d _ ⟨_, or_l g, Sw.f (c d _ k)⟩)))
      | _ => exact bad_k h
    | _ => exact bad_k h
theorem het_ok : ∀ {e : ME} {L : Rds} {q : List (Nat × Nat)} {v : Bool} {L' : Rds} {q' : List (Nat × Nat)}, het ρ n e L q = .ok v L' q' → Go σ L q L' q' (HT σ ρ e v) := by
  induction n with
  | zero => intro e L q v L' q' h; exact bad_k h
  | succ n ih =>
    intro e L q v L' q' h
    have pl : plainT e = true → ((hev ρ n e L q).bind fun v L q => ofO (onBool v some) L q) = .ok v L' q' → Go σ L q L' q' (HT σ ρ e v) := fun h1 h2 =>
      go_b h2 hev_ok fun h => go_o h fun g a d K k => (onBool_i g).elim fun y g => r_te h1 (a d _ ⟨_, g.1, by cases g.2; exact k⟩)
    cases e with
    | nt e => exact go_b h ih fun h => go_k h fun e a d K k => r_tn (a d _ (e ▸ k))
    | an es =>
      cases es with
      | nil => exact go_k h fun e _ _ k => r_ta0 (e ▸ k)
      | cons e r =>
        refine go_b h ih fun {b} _ _ h => ?_
        cases b with
        | false => exact go_k h fun e a d K k => r_ta1 (a d _ (Sw.f (e ▸ k)))
        | true => exact (ih h).imp fun b a d K k => r_ta1 (a d _ (Sw.t (b d _ k)))
    | or es =>
      cases es with
      | nil => exact go_k h fun e _ _ k => r_to0 (e ▸ k)
      | cons e r =>
        refine go_b h ih fun {b} _ _ h => ?_
        cases b with
        | true => exact go_k h fun e a d K k => r_to1 (a d _ (Sw.t (e ▸ k)))
        | false => exact (ih h).imp fun b a d K k => r_to1 (a d _ (Sw.f (b d _ k)))
    | cm op a b => exact go_b h hev_ok fun h => go_b h hev_ok fun h => go_o h fun g b a d K k => r_tc (a d _ (b d _ ⟨_, or_l g, k⟩))
    | bad => exact bad_k h
    | ie => exact bad_k h
    | _ => exact pl rfl h
theorem fx0 : FxL σ [] := fun _ h => nomatch h
theorem fq0 : FxQ [] := fun _ h => nomatch h
theorem fxc {a : Nat} {o : List (Nat × AV)} (h : σ[a]? = some (.flds o)) (k : FxL σ L) : FxL σ ((a, o) :: L) := fun x m => by
  rcases List.mem_cons.mp m with e | m
  · rw [e]; exact h
  · exact k x m
theorem fqc {a : Nat} (k : FxQ q) : FxQ ((a, a) :: q) := fun x m => by
  rcases List.mem_cons.mp m with e | m
  · rw [e]
  · exact k x m
section
set_option compiler.extract_closed false
variable {e : ME} {es : List ME} {v : AV} {vs : List AV} {r : Bool} {a b : Nat} {o o2 : List (Nat × AV)}
theorem he0 (h : hev ρ 8 e [] [] = .ok v [] []) : HE σ ρ e v := (hev_ok h).p fx0 fq0
theorem he1 (_ : hev ρ 8 e [] [] = .need a) (f : σ[a]? = some (.flds o)) (h : hev ρ 8 e [(a, o)] [] = .ok v [] [(a, a)]) : HE σ ρ e v := (hev_ok h).p (fxc f fx0) (fqc fq0)
theorem he2 (_ : hev ρ 8 e [] [] = .need a) (f : σ[a]? = some (.flds o)) (_ : hev ρ 8 e [(a, o)] [] = .need b) (f2 : σ[b]? = some (.flds o2)) (h : hev ρ 8 e [(a, o), (b, o2)] [] = .ok v [] [(b, b), (a, a)]) : HE σ ρ e v := (hev_ok h).p (fxc f (fxc f2 fx0)) (fqc (fqc fq0))
theorem hs0 (h : hmap (hev ρ 8) es [] [] = .ok vs [] []) : HEs σ ρ es vs := (hmap_ok hev_ok h).p fx0 fq0
theorem hs1 (_ : hmap (hev ρ 8) es [] [] = .need a) (f : σ[a]? = some (.flds o)) (h : hmap (hev ρ 8) es [(a, o)] [] = .ok vs [] [(a, a)]) : HEs σ ρ es vs := (hmap_ok hev_ok h).p (fxc f fx0) (fqc fq0)
theorem hs2 (_ : hmap (hev ρ 8) es [] [] = .need a) (f : σ[a]? = some (.flds o)) (_ : hmap (hev ρ 8) es [(a, o)] [] = .need b) (f2 : σ[b]? = some (.flds o2)) (h : hmap (hev ρ 8) es [(a, o), (b, o2)] [] = .ok vs [] [(b, b), (a, a)]) : HEs σ ρ es vs := (hmap_ok hev_ok h).p (fxc f (fxc f2 fx0)) (fqc (fqc fq0))
theorem ht0 (h : het ρ 8 e [] [] = .ok r [] []) : HT σ ρ e r := (het_ok h).p fx0 fq0
theorem ht1 (_ : het ρ 8 e [] [] = .need a) (f : σ[a]? = some (.flds o)) (h : het ρ 8 e [(a, o)] [] = .ok r [] [(a, a)]) : HT σ ρ e r := (het_ok h).p (fxc f fx0) (fqc fq0)
theorem ht2 (_ : het ρ 8 e [] [] = .need a) (f : σ[a]? = some (.flds o)) (_ : het ρ 8 e [(a, o)] [] = .need b) (f2 : σ[b]? = some (.flds o2)) (h : het ρ 8 e [(a, o), (b, o2)] [] = .ok r [] [(b, b), (a, a)]) : HT σ ρ e r := (het_ok h).p (fxc f (fxc f2 fx0)) (fqc (fqc fq0))
theorem r_he (h : HE σ ρ e v) (k : K v σ) : RE d ρ e σ K := h d K k
theorem r_hs (h : HEs σ ρ es vs) (k : KV vs σ) : REs d ρ es σ KV := h d KV k
theorem r_ht (h : HT σ ρ e r) (k : KT r σ) : RT d ρ e σ KT := h d KT k
end
section
set_option compiler.extract_closed false
variable {i f m C j : Nat} {e t o' : ME} {es : List ME} {o v : AV} {vs : List AV} {r A B : List MS}
theorem b_as (h : HE σ ρ e v) (k : RB d (ρ.set i (some v)) r σ KS) : RB d ρ (.as (.x i) e :: r) σ KS := r_b1 (r_sa (h d _ (r_ax k)))
theorem b_cf (h : HEs σ ρ es vs) (k : RC d f vs σ fun v σ₁ => RB d (ρ.set i (some v)) r σ₁ KS) : RB d ρ (.as (.x i) (.cf f es) :: r) σ KS :=
  r_b1 (r_sa (r_cf (h d _ (k.elim fun v k => k.elim fun σ₁ k => ⟨v, σ₁, k.1, r_ax k.2⟩))))
theorem b_mc (h : HE σ ρ e (.inst C j)) (h2 : HEs σ ρ es vs) (h3 : isFl σ j = true) (h4 : prog.meth C m = some f)
    (k : RC d f (.inst C j :: vs) σ fun v σ₁ => RB d (ρ.set i (some v)) r σ₁ KS) : RB d ρ (.as (.x i) (.mc e m es) :: r) σ KS :=
  r_b1 (r_sa (r_mc (h d _ (h2 d _ ⟨_, _, _, rfl, h3, h4, k.elim fun v k => k.elim fun σ₁ k => ⟨v, σ₁, k.1, r_ax k.2⟩⟩))))
theorem b_xm (h : HE σ ρ e (.inst C j)) (h2 : HEs σ ρ es vs) (h3 : isFl σ j = true) (h4 : prog.meth C m = some f)
    (k : RC d f (.inst C j :: vs) σ fun _ σ₁ => RB d ρ r σ₁ KS) : RB d ρ (.ex (.mc e m es) :: r) σ KS :=
  r_b1 (r_se (r_mc (h d _ (h2 d _ ⟨_, _, _, rfl, h3, h4, k⟩))))
theorem b_bm (h : HE σ ρ e o) (h2 : HEs σ ρ es vs) (k : bmK σ m o = true ∧ ∃ v σ₁, bmR σ m o vs = some (v, σ₁) ∧ RB d (ρ.set i (some v)) r σ₁ KS) : RB d ρ (.as (.x i) (.bm e m es) :: r) σ KS :=
  r_b1 (r_sa (r_bm (h d _ ⟨k.1, h2 d _ (k.2.elim fun v k => k.elim fun σ₁ k => ⟨v, σ₁, k.1, r_ax k.2⟩)⟩)))
theorem b_xb (h : HE σ ρ e o) (h2 : HEs σ ρ es vs) (k : bmK σ m o = true ∧ ∃ v σ₁, bmR σ m o vs = some (v, σ₁) ∧ RB d ρ r σ₁ KS) : RB d ρ (.ex (.bm e m es) :: r) σ KS :=
  r_b1 (r_se (r_bm (h d _ ⟨k.1, h2 d _ k.2⟩)))
theorem b_st (h : HE σ ρ o' v) (h2 : HE σ ρ e o) (k : ∃ σ₂, setF σ o f v = some σ₂ ∧ RB d ρ r σ₂ KS) : RB d ρ (.as (.at e f) o' :: r) σ KS :=
  r_b1 (r_sa (h d _ (r_aat (h2 d _ k))))
theorem b_it (h : HT σ ρ t true) (k : RB d ρ A σ (goOn d r KS)) : RB d ρ (.iff t A B :: r) σ KS := r_b1 (r_si (h d _ (Sw.t k)))
theorem b_if (h : HT σ ρ t false) (k : RB d ρ B σ (goOn d r KS)) : RB d ρ (.iff t A B :: r) σ KS := r_b1 (r_si (h d _ (Sw.f k)))
theorem b_if0 (h : HT σ ρ t false) (k : RB d ρ r σ KS) : RB d ρ (.iff t A [] :: r) σ KS := b_if h (r_b0 k)
theorem b_rt (h : HE σ ρ e v) (k : KS (.ret v) ρ σ) : RB d ρ (.rt e :: r) σ KS := r_b1 (r_sr1 (h d _ k))
theorem b_rcf (h : HEs σ ρ es vs) (k : RC d f vs σ fun v σ₁ => KS (.ret v) ρ σ₁) : RB d ρ (.rt (.cf f es) :: r) σ KS := r_b1 (r_sr1 (r_cf (h d _ k)))
theorem b_rmc (h : HE σ ρ e (.inst C j)) (h2 : HEs σ ρ es vs) (h3 : isFl σ j = true) (h4 : prog.meth C m = some f) (k : RC d f (.inst C j :: vs) σ fun v σ₁ => KS (.ret v) ρ σ₁) : RB d ρ (.rt (.mc e m es) :: r) σ KS :=
  r_b1 (r_sr1 (r_mc (h d _ (h2 d _ ⟨_, _, _, rfl, h3, h4, k⟩))))
theorem b_rb (h : HE σ ρ e o) (h2 : HEs σ ρ es vs) (k : bmK σ m o = true ∧ ∃ v σ₁, bmR σ m o vs = some (v, σ₁) ∧ KS (.ret v) ρ σ₁) : RB d ρ (.rt (.bm e m es) :: r) σ KS :=
  r_b1 (r_sr1 (r_bm (h d _ ⟨k.1, h2 d _ k.2⟩)))
theorem b_ls (h : HEs σ ρ es vs) (k : RB d (ρ.set i (some (.ref σ.length))) r (σ ++ [.list vs]) KS) : RB d ρ (.as (.x i) (.ls es) :: r) σ KS := r_b1 (r_sa (r_ls (h d _ (r_ax k))))
theorem b_rls (h : HEs σ ρ es vs) (k : KS (.ret (.ref σ.length)) ρ (σ ++ [.list vs])) : RB d ρ (.rt (.ls es) :: r) σ KS := r_b1 (r_sr1 (r_ls (h d _ k)))
theorem b_stl (h : HEs σ ρ es vs) (h2 : HE (σ ++ [.list vs]) ρ e o) (k : ∃ σ₂, setF (σ ++ [.list vs]) o f (.ref σ.length) = some σ₂ ∧ RB d ρ r σ₂ KS) : RB d ρ (.as (.at e f) (.ls es) :: r) σ KS :=
  r_b1 (r_sa (r_ls (h d _ (r_aat (h2 d _ k)))))
theorem b_nw (hi : prog.init C = some f) (h : HEs σ ρ es vs) (k : RC d f (.inst C σ.length :: vs) (σ ++ [.flds []]) fun x σ₂ => x = .none ∧ RB d (ρ.set i (some (.inst C σ.length))) r σ₂ KS) : RB d ρ (.as (.x i) (.nw C es) :: r) σ KS :=
  r_b1 (r_sa (r_nw hi (h d _ (k.elim fun v k => k.elim fun σ₁ k => ⟨v, σ₁, k.1, k.2.1, r_ax k.2.2⟩))))
theorem b_au {a b : Int} (h : HE σ ρ e o) (h1 : getF σ o f = some (.int a)) (h2 : HE σ ρ t (.int b)) (k : ∃ σ₃, setF σ o f (.int (a + b)) = some σ₃ ∧ RB d ρ r σ₃ KS) : RB d ρ (.au e f t :: r) σ KS :=
  k.elim fun σ₃ k => r_b1 (r_su (h d _ ⟨a, h1, h2 d _ ⟨b, σ₃, rfl, k.1, k.2⟩⟩))
theorem b_ix {w x : AV} (h : HE σ ρ o' v) (h1 : HE σ ρ e w) (h2 : HE σ ρ t x) (k : ∃ σ₃, storeR σ w x v = some σ₃ ∧ RB d ρ r σ₃ KS) : RB d ρ (.as (.ix e t) o' :: r) σ KS :=
  r_b1 (r_sa (h d _ (r_aix (h1 d _ (h2 d _ k)))))
theorem ags_ok {KA : Loc → St → Prop} : ∀ {xs : List Nat} {vs : List AV} {ρ : Loc}, xs.length = vs.length → KA (setL ρ xs vs) σ → RAs d ρ (xs.map .x) vs σ KA := fun {xs} => by
  induction xs with
  | nil => intro vs ρ h k; cases vs with
    | nil => exact r_ag0 k
    | cons => first | exact none_k h | exact false_k h | exact some_k h | exact true_k h | cases h
  | cons x xs ih => intro vs ρ h k; cases vs with
    | nil => first | exact none_k h | exact false_k h | exact some_k h | exact true_k h | cases h
    | cons v vs => exact r_ag1 (r_ax (ih (Nat.succ.inj h) k))
theorem b_tp {xs : List Nat} (hx : xs.length = vs.length) (h : HE σ ρ e (.tup vs)) (k : RB d (setL ρ xs vs) r σ KS) : RB d ρ (.as (.tup (xs.map .x)) e :: r) σ KS :=
  r_b1 (r_sa (h d _ (r_atp ((List.length_map ..).trans hx) (ags_ok hx k))))
theorem b_tp2 {x y : Nat} {v w : AV} (h : HE σ ρ e (.tup [v, w])) (k : RB d ((ρ.set x (some v)).set y (some w)) r σ KS) : RB d ρ (.as (.tup [.x x, .x y]) e :: r) σ KS := b_tp (xs := [x, y]) rfl h k
theorem b_tp3 {x y z : Nat} {v w u : AV} (h : HE σ ρ e (.tup [v, w, u])) (k : RB d (((ρ.set x (some v)).set y (some w)).set z (some u)) r σ KS) : RB d ρ (.as (.tup [.x x, .x y, .x z]) e :: r) σ KS := b_tp (xs := [x, y, z]) rfl h k
theorem b_sw {xs : List Nat} (h : HE σ ρ e (.tup vs)) (hx : xs.length = vs.length) (k : RB d (setL ρ xs.reverse vs.reverse) r σ KS) : RB d ρ (.asw xs e :: r) σ KS := r_b1 (r_sw (h d _ ⟨_, rfl, hx, k⟩))
theorem b_br (k : KS .brk ρ σ) : RB d ρ (.br :: r) σ KS := r_b1 (r_sb k)
theorem b_ct (k : KS .cont ρ σ) : RB d ρ (.ct :: r) σ KS := r_b1 (r_sc k)
end
end
section
set_option compiler.extract_closed false
variable {σ : St} {i j : Nat} {x y : AO} {l : List AO}
theorem lt_of_get (e : σ[i]? = some y) : i < σ.length := (List.getElem?_eq_some_iff.mp e).1
theorem g_eq (e : σ[i]? = some y) : (σ.set i x)[i]? = some x := List.getElem?_set_self (lt_of_get e)
theorem g_ne (e : σ[j]? = some y) (h : i ≠ j) : (σ.set i x)[j]? = some y := by rw [List.getElem?_set_ne h]; exact e
theorem g_app (e : σ[j]? = some y) : (σ ++ l)[j]? = some y := by rw [List.getElem?_append_left (lt_of_get e)]; exact e
theorem g_new : (σ ++ [y])[σ.length]? = some y := by rw [List.getElem?_append_right (Nat.le_refl _)]; simp
theorem getF_i {C f : Nat} {es : List (Nat × AV)} {v : AV} (h : σ[i]? = some (.flds es)) (e : es.lookup f = some v) : getF σ (.inst C i) f = some v := by
  show (match σ[i]? with | some (.flds es) => es.lookup f | _ => none) = _
  rw [h]; exact e
theorem setF_i {C f : Nat} {es : List (Nat × AV)} {v : AV} (h : σ[i]? = some (.flds es)) (e : es.length < 100) : setF σ (.inst C i) f v = some (σ.set i (.flds (putS f v es))) := by
  show (match σ[i]? with | some (.flds es) => if es.length < 100 then some (σ.set i (.flds (putS f v es))) else none | _ => none) = _
  rw [h]; exact if_pos e
theorem bmL {m : Nat} {vs : List AV} (hm : m ≤ 3) (h : σ[i]? = some (.list vs)) : bmK σ m (.ref i) = true := by
  match m, hm with
  | 0, _ => simp [bmK, isLstV, h]
  | 1, _ => simp [bmK, isLstV, h]
  | 2, _ => simp [bmK, isLstV, h]
  | 3, _ => simp [bmK, isLstV, h]
theorem bmD {es : List (List Nat × AV)} (h : σ[i]? = some (.dict es)) : bmK σ 4 (.ref i) = true := by
  simp [bmK, isDctV, h]
theorem bm_app {vs : List AV} {v : AV} (h : σ[i]? = some (.list vs)) (hz : vs.length < 100000) : bmR σ 0 (.ref i) [v] = some (.none, σ.set i (.list (vs ++ [v]))) := by
  show onList σ (.ref i) _ = _
  rw [onList_e h]; exact if_pos hz
theorem bm_pop {vs : List AV} {v : AV} (h : σ[i]? = some (.list (vs ++ [v]))) (hz : vs.length < 100000) : bmR σ 1 (.ref i) [] = some (v, σ.set i (.list vs)) := by
  show onList σ (.ref i) _ = _
  rw [onList_e h]
  have hz' : vs.length + 1 ≤ 1000000 := by lia
  simp [on0, hz']
theorem bm_get {es : List (List Nat × AV)} {n : List Nat} {v : AV} (h : σ[i]? = some (.dict es)) : bmR σ 4 (.ref i) [.str n, v] = some ((es.lookup n).getD v, σ) := by
  show onDict σ (.ref i) _ = _
  rw [onDict_e h]; rfl
theorem itemL {vs : List AV} {k : Nat} {v : AV} (h : σ[i]? = some (.list vs)) (e : vs[k]? = some v) (hk : k < 1000000) : itemR σ (.ref i) (.int k) = some v := by
  show ((onList σ (.ref i) fun q0 vs => if 0 ≤ (k : Int) ∧ (k : Int) < 1000000 then vs[(k : Int).toNat]? else none) <|> none) = some v
  rw [onList_e h, if_pos ⟨by lia, by lia⟩, Int.toNat_natCast, e]; rfl
theorem itemD {es : List (List Nat × AV)} {n : List Nat} {v : AV} (h : σ[i]? = some (.dict es)) (e : es.lookup n = some v) : itemR σ (.ref i) (.str n) = some v := by
  show onDict σ (.ref i) (fun q0 es => es.lookup n) = some v
  rw [onDict_e h]; exact e
theorem storeD {es : List (List Nat × AV)} {n : List Nat} {v : AV} (h : σ[i]? = some (.dict es)) (hz : es.length < 100000) : storeR σ (.ref i) (.str n) v = some (σ.set i (.dict (putS n v es))) := by
  show onDict σ (.ref i) (fun i es => if es.length < 100000 then some (σ.set i (.dict (putS n v es))) else none) = _
  rw [onDict_e h]; exact if_pos hz
theorem lenL {vs : List AV} (h : σ[i]? = some (.list vs)) (hz : vs.length < 1000000) : bfR σ 0 (.ref i) = some (.int vs.length) := by
  show onList σ (.ref i) (fun q0 l => if l.length < 1000000 then some (AV.int l.length) else none) = _
  rw [onList_e h]; exact if_pos hz
theorem in_none {n : List Nat} (h : σ[i]? = some (.list [])) : cmpR σ .isin (.str n) (.ref i) = some false := by
  show onList σ (.ref i) (fun q0 vs => on0 vs (some false)) = some false
  rw [onList_e h]; rfl
theorem isFl_i {es : List (Nat × AV)} (h : σ[i]? = some (.flds es)) : isFl σ i = true := by unfold isFl; rw [h]
end
local macro_rules | `(tactic| walk_at "st") => `(tactic| (first | assumption | exact g_new | (refine g_eq (y := ?_) ?_; rotate_left; walk_at "st") | (refine g_ne ?_ ?_; walk_at "st"; first | assumption | (apply Ne.symm; assumption) | lia) | (refine g_app ?_; walk_at "st")))
local macro_rules | `(tactic| walk_at "he") => `(tactic| (first | exact he0 rfl | exact he1 rfl (by walk_at "st") (by exact rfl) | exact he2 rfl (by walk_at "st") (by exact rfl) (by walk_at "st") (by exact rfl)))
local macro_rules | `(tactic| walk_at "hs") => `(tactic| (first | exact hs0 rfl | exact hs1 rfl (by walk_at "st") (by exact rfl) | exact hs2 rfl (by walk_at "st") (by exact rfl) (by walk_at "st") (by exact rfl)))
local macro_rules | `(tactic| walk_at "ht") => `(tactic| (first | exact ht0 rfl | exact ht1 rfl (by walk_at "st") (by exact rfl) | exact ht2 rfl (by walk_at "st") (by exact rfl) (by walk_at "st") (by exact rfl)))
local macro_rules | `(tactic| walk_at "rb") => `(tactic| (first
  | ((with_reducible first | apply b_cf | apply b_ls | apply b_rcf | apply b_rls); (walk_at "hs"))
  | ((with_reducible first | apply b_mc | apply b_xm | apply b_rmc); (walk_at "he"); (walk_at "hs"); exact isFl_i (by walk_at "st"); exact rfl)
  | ((with_reducible first | apply b_bm | apply b_xb | apply b_rb); (walk_at "he"); (walk_at "hs"))
  | ((with_reducible apply b_nw); exact rfl; (walk_at "hs"))
  | ((with_reducible first | apply b_as | apply b_tp2 | apply b_tp3 | apply b_rt); (walk_at "he"))
  | ((with_reducible apply b_stl); (walk_at "hs"); (walk_at "he"))
  | ((with_reducible apply b_st); (walk_at "he"); (walk_at "he"))
  | ((with_reducible apply b_ix); (walk_at "he"); (walk_at "he"); (walk_at "he"))
  | ((with_reducible apply b_au); (walk_at "he"); exact getF_i (by walk_at "st") rfl; (walk_at "he"))
  | ((with_reducible apply b_if0); (walk_at "ht"))
  | ((with_reducible apply b_if); (walk_at "ht"))
  | ((with_reducible apply b_it); (walk_at "ht"))
  | ((with_reducible apply b_sw); (walk_at "he"); exact rfl)
  | (with_reducible first | apply b_br | apply b_ct)
  | refine r_b1 ?_
  | refine r_b0 ?_))
local macro_rules | `(tactic| walk_at "ev0") => `(tactic| (first
  | guard_target =~ RB _ _ _ _ _; walk_at "rb"
  | (with_reducible apply r_he); walk_at "he"
  | (with_reducible apply r_hs); walk_at "hs"
  | (with_reducible apply r_ht (r := true)); walk_at "ht"
  | (with_reducible apply r_ht (r := false)); walk_at "ht"
  | (with_reducible apply r_ht); walk_at "ht"
  | with_reducible first
    | apply r_at | apply r_ix | apply r_cm | apply r_tc | apply r_es1 | apply r_tp | apply r_cf | apply r_mc | apply r_bm | apply r_ii | apply r_bf | apply r_ie | apply r_an | apply r_sa | apply r_su | apply r_se | apply r_sr1 | apply r_si
    | apply r_ax | apply r_aat | apply r_aix | apply r_ag0 | apply r_ag1 | (refine r_atp rfl ?_) | apply r_next | apply r_ret | apply r_brk | apply r_cont | apply rg_next | apply rg_cont | apply rg_brk | apply rg_ret | apply rf_next | apply rf_cont | apply rf_brk | apply rf_ret
    | apply Sw.t | apply Sw.f | apply r_tn | apply r_ta1 | apply r_to1 | apply rs_0 | apply rs_2 | apply r_sl1L | apply rs_r | apply slk_l | apply slk_r | apply r_sw | apply r_sb | apply r_sc
  | refine exI (getF_i (by walk_at "st") rfl) ?_
  | refine exI (setF_i (by walk_at "st") (Nat.le_of_ble_eq_true rfl)) ?_
  | refine exI (v := true) rfl ?_
  | refine exI (v := false) rfl ?_
  | refine exI rfl ?_
  | refine exAu rfl (setF_i (by walk_at "st") (Nat.le_of_ble_eq_true rfl)) ?_
  | refine exMc (isFl_i (by walk_at "st")) rfl ?_
  | refine ⟨rfl, ?_⟩
  | refine r_te rfl ?_
  | refine r_ag1 ?_
  | refine r_ag0 ?_))
local macro_rules | `(tactic| walk_at "ev1") => `(tactic| (first | with_reducible refine r_bo ?_ | walk_at "ev0"))

noncomputable def hostF (v r lg : Nat) (k : Int) : List (Nat × AV) := [(12, .ref v), (13, .int 9999), (14, .ref r), (15, .int 64), (16, .int k), (17, .ref lg)]
noncomputable def nameF (key : List Nat) : List (Nat × AV) := [(1, .str [118, 97, 114]), (2, .none), (3, .str key)]
section
set_option compiler.extract_closed false
variable {d : Nat} {σ : St} {K : AV → St → Prop}
theorem c_step {h v r lg : Nat} {k : Int} (hh : σ[h]? = some (.flds (hostF v r lg k))) (hk : k + 1 ≤ 9999) (q : K .none (σ.set h (.flds (hostF v r lg (k + 1))))) : RC (d + 1) 22 [.inst 3 h] σ K := by
  refine r_call rfl rfl (by decide) ?_
  repeat' walk_at "ev1"
  refine Sw.eqf (show decide (k + 1 > 9999) = false from by simp; lia) ?_
  repeat' walk_at "ev1"
  exact q
theorem c_is_fail {s : List Nat} (q : K (.bool false) σ) : RC (d + 1) 28 [.str s] σ K := by
  refine r_call rfl rfl (by decide) ?_
  repeat' walk_at "ev1"
  exact q
theorem c_to_text {s : List Nat} (q : K (.str s) σ) : RC (d + 1) 29 [.str s] σ K := by
  refine r_call rfl rfl (by decide) ?_
  repeat' walk_at "ev1"
  exact q
theorem c_pattern_of {s : List Nat} (q : K (.tup [.str [99, 104, 97, 114, 115], .str s]) σ) : RC (d + 2) 30 [.str s] σ K := by
  refine r_call rfl rfl (by decide) ?_
  repeat' walk_at "ev1"
  refine c_to_text ?_
  repeat' walk_at "ev1"
  exact q
theorem c_value_of {h v r lg : Nat} {k : Int} {n : List Nat} {es : List (List Nat × AV)} (hh : σ[h]? = some (.flds (hostF v r lg k))) (hv : σ[v]? = some (.dict es)) (q : K ((es.lookup n).getD (.str [])) σ) :
    RC (d + 1) 20 [.inst 3 h, .tup [.str [110, 97, 109, 101], .str n]] σ K := by
  refine r_call rfl rfl (by decide) ?_
  repeat' walk_at "ev1"
  refine ⟨bmD hv, ?_⟩
  repeat' walk_at "ev1"
  refine exI2 (bm_get hv) ?_
  repeat' walk_at "ev1"
  exact q
theorem c_assign {h v r lg i : Nat} {k : Int} {n : List Nat} {x : AV} {es : List (List Nat × AV)} {log : List AV} (hh : σ[h]? = some (.flds (hostF v r lg k))) (hv : σ[v]? = some (.dict es)) (hr : σ[r]? = some (.list [])) (hl : σ[lg]? = some (.list log)) (hi : σ[i]? = some (.flds (nameF n)))
    (hz : es.length < 100000) (hlz : log.length < 100000) (q : K (.bool true) ((σ.set v (.dict (putS n x es))).set lg (.list (log ++ [.tup [.str n, x]])))) :
    RC (d + 1) 21 [.inst 3 h, .inst 4 i, x] σ K := by
  have n1 : v ≠ h := ne_kd hv hh rfl
  have n2 : v ≠ i := ne_kd hv hi rfl
  have n3 : v ≠ lg := ne_kd hv hl rfl
  refine r_call rfl rfl (by decide) ?_
  repeat' walk_at "ev1"
  refine ⟨false, in_none hr, ?_⟩
  repeat' walk_at "ev1"
  refine exI (storeD hv hz) ?_
  repeat' walk_at "ev1"
  refine ⟨bmL (by lia) (g_ne hl n3), ?_⟩
  repeat' walk_at "ev1"
  refine exI2 (bm_app (g_ne hl n3) (by lia)) ?_
  repeat' walk_at "ev1"
  exact q
end

section
set_option compiler.extract_closed false
variable {σ : St} {i : Nat}
theorem lenS {l : List Nat} (h : l.length < 1000000) : bfR σ 0 (.str l) = some (.int l.length) := by
  show ((if l.length < 1000000 then some (AV.int l.length) else none) <|> none) = _
  rw [if_pos h]; rfl
theorem intOr_n {a : Nat} (ha : a < 1000000) : intOr 0 (some (.int (a : Int))) = some (a : Int) := by
  have h1 : (0 : Int) ≤ a ∧ (a : Int) < 1000000 := by lia
  simp only [intOr, h1, and_self, if_true]
theorem hiR_n {a : Nat} (ha : a < 1000000) : hiR (some (.int (a : Int))) = some (some a) := by
  have h1 : (0 : Int) ≤ a ∧ (a : Int) < 1000000 := by lia
  show (if 0 ≤ (a : Int) ∧ (a : Int) < 1000000 then some (some (a : Int).toNat) else none) = _
  rw [if_pos h1, Int.toNat_natCast]
theorem okLen_s {s : List Nat} (hs : s.length ≤ 100000) : okLen σ (.str s) = true := by simp only [okLen, decide_eq_true_eq]; exact hs
theorem sliceR_str {s : List Nat} {lo hi : Option AV} {x : Int} {y : Nat} (e0 : okLen σ (.str s) = true) (e1 : intOr 0 lo = some x) (e2 : hiR hi = some (some y)) : sliceR σ (.str s) lo hi = some (.inl (.str (cut x.toNat y s))) := by
  unfold sliceR
  rw [if_pos e0]
  unfold sliceR0
  rw [e1, e2]
  rfl
theorem sliceS {s : List Nat} {a b : Nat} (hs : s.length ≤ 100000) (ha : a < 1000000) (hb : b < 1000000) : sliceR σ (.str s) (some (.int a)) (some (.int b)) = some (.inl (.str (cut a b s))) := by
  have := sliceR_str (σ := σ) (okLen_s hs) (intOr_n ha) (hiR_n hb)
  rwa [Int.toNat_natCast] at this
end
section
set_option compiler.extract_closed false
variable {d : Nat} {σ : St} {K : AV → St → Prop}
theorem c_chars_end {s t : List Nat} {a : Nat} (hs : s.length ≤ 1000) (ht : t.length ≤ 1000) (ha : a ≤ 1000) (q1 : cut a (a + t.length) s = t → K (.int ((a + t.length : Nat) : Int)) σ) (q2 : cut a (a + t.length) s ≠ t → K .none σ) : RC (d + 1) 33 [.str s, .int (a : Int), .str t] σ K := by
  refine r_call rfl rfl (by decide) ?_
  repeat' walk_at "ev1"
  refine exI (lenS (by lia)) ?_
  repeat' walk_at "ev1"
  have e : ((a : Int) + (t.length : Int)) = ((a + t.length : Nat) : Int) := by lia
  rw [e]
  repeat' walk_at "ev1"
  refine exI (sliceS (by lia) (by lia) (by lia)) ?_
  repeat' walk_at "ev1"
  refine ⟨fun hc => ?_, fun hc => ?_⟩
  · repeat' walk_at "ev1"
    exact q1 (eq_of_beq hc)
  · repeat' walk_at "ev1"
    exact q2 (ne_of_beq_false hc)
theorem c_rpos_end {s : List Nat} {a : Nat} (hs : s.length ≤ 1000) (ha : a ≤ s.length) (q1 : a = s.length → K (.int (a : Int)) σ) (q2 : a ≠ s.length → K .none σ) : RC (d + 1) 34 [.str s, .int (a : Int), .int 0] σ K := by
  refine r_call rfl rfl (by decide) ?_
  repeat' walk_at "ev1"
  refine exI (lenS (by lia)) ?_
  repeat' walk_at "ev1"
  refine ⟨fun hc => ?_, fun hc => ?_⟩
  · repeat' walk_at "ev1"
    exact q1 (by have := eq_of_beq hc; lia)
  · repeat' walk_at "ev1"
    exact q2 (by have := ne_of_beq_false hc; lia)
noncomputable def cCHARS : List Nat := [99, 104, 97, 114, 115]
noncomputable def cRPOS : List Nat := [114, 112, 111, 115]
theorem c_one_chars {s t : List Nat} {a : Nat} (hs : s.length ≤ 1000) (ht : t.length ≤ 1000) (ha : a ≤ 1000) (q1 : cut a (a + t.length) s = t → K (.int ((a + t.length : Nat) : Int)) σ) (q2 : cut a (a + t.length) s ≠ t → K .none σ) : RC (d + 2) 35 [.str cCHARS, .str s, .int (a : Int), .str t] σ K := by
  refine r_call rfl rfl (by decide) ?_
  repeat' walk_at "ev1"
  refine c_chars_end hs ht ha (fun h => ?_) fun h => ?_
  · repeat' walk_at "ev1"
    exact q1 h
  · repeat' walk_at "ev1"
    exact q2 h
theorem c_one_rpos {s : List Nat} {a : Nat} (hs : s.length ≤ 1000) (ha : a ≤ s.length) (q1 : a = s.length → K (.int (a : Int)) σ) (q2 : a ≠ s.length → K .none σ) : RC (d + 2) 35 [.str cRPOS, .str s, .int (a : Int), .int 0] σ K := by
  refine r_call rfl rfl (by decide) ?_
  repeat' walk_at "ev1"
  refine c_rpos_end hs ha (fun h => ?_) fun h => ?_
  · repeat' walk_at "ev1"
    exact q1 h
  · repeat' walk_at "ev1"
    exact q2 h
theorem c_plain_chars {s t : List Nat} {a : Nat} (hs : s.length ≤ 1000) (ht : t.length ≤ 1000) (ha : a ≤ 1000) (q1 : cut a (a + t.length) s = t → K (.int ((a + t.length : Nat) : Int)) σ) (q2 : cut a (a + t.length) s ≠ t → K .none σ) : RC (d + 3) 36 [.tup [.str cCHARS, .str t], .str s, .int (a : Int)] σ K := by
  refine r_call rfl rfl (by decide) ?_
  repeat' walk_at "ev1"
  refine c_one_chars hs ht ha (fun h => ?_) fun h => ?_
  · repeat' walk_at "ev1"
    exact q1 h
  · repeat' walk_at "ev1"
    exact q2 h
theorem c_plain_rpos {s : List Nat} {a : Nat} (hs : s.length ≤ 1000) (ha : a ≤ s.length) (q1 : a = s.length → K (.int (a : Int)) σ) (q2 : a ≠ s.length → K .none σ) : RC (d + 3) 36 [.tup [.str cRPOS, .int 0], .str s, .int (a : Int)] σ K := by
  refine r_call rfl rfl (by decide) ?_
  repeat' walk_at "ev1"
  refine c_one_rpos hs ha (fun h => ?_) fun h => ?_
  · repeat' walk_at "ev1"
    exact q1 h
  · repeat' walk_at "ev1"
    exact q2 h
theorem c_settled {t : List Nat} {h : AV} (q : K (.tup [.str cCHARS, .str t]) σ) : RC (d + 2) 32 [.tup [.str cCHARS, .str t], h] σ K := by
  refine r_call rfl rfl (by decide) ?_
  repeat' walk_at "ev1"
  exact q
end

noncomputable def cCAT : List Nat := [99, 97, 116]
noncomputable def cALT : List Nat := [97, 108, 116]
noncomputable def cNOW : List Nat := [110, 111, 119]
noncomputable def cENDNOW : List Nat := [101, 110, 100, 32, 110, 111, 119]
noncomputable def cCURSOR : List Nat := [99, 117, 114, 115, 111, 114]
noncomputable def cDELAY : List Nat := [100, 101, 108, 97, 121]
noncomputable def cFAIL : List Nat := [102, 97, 105, 108]
noncomputable def cNAME : List Nat := [110, 97, 109, 101]
section
set_option compiler.extract_closed false
variable {d : Nat} {σ : St} {K : AV → St → Prop} {a b rest at_ nm sj pl ho : AV}
theorem a_cat (q : K (.tup [.tup [a, .tup [b, rest]], at_, nm]) σ) : RC (d + 5) 43 [.tup [.tup [.str cCAT, a, b], rest], at_, nm, sj, pl, ho] σ K := by
  refine r_call rfl rfl (by decide) ?_
  repeat' walk_at "ev1"
  refine r_call rfl rfl (by decide) ?_
  repeat' walk_at "ev1"
  exact q
theorem a_alt {p : Nat} {pile : List AV} (hp : σ[p]? = some (.list pile)) (hz : pile.length < 100000) (q : K (.tup [.tup [a, rest], at_, nm]) (σ.set p (.list (pile ++ [.tup [.tup [b, rest], at_, nm]])))) : RC (d + 5) 43 [.tup [.tup [.str cALT, a, b], rest], at_, nm, sj, .ref p, ho] σ K := by
  refine r_call rfl rfl (by decide) ?_
  repeat' walk_at "ev1"
  refine r_call rfl rfl (by decide) ?_
  repeat' walk_at "ev1"
  refine ⟨bmL (by lia) hp, ?_⟩
  repeat' walk_at "ev1"
  refine exI2 (bm_app hp (by lia)) ?_
  repeat' walk_at "ev1"
  exact q
theorem a_now (q : K (.tup [.tup [a, .tup [.tup [.str cENDNOW, b, at_], rest]], at_, nm]) σ) : RC (d + 5) 43 [.tup [.tup [.str cNOW, a, b], rest], at_, nm, sj, pl, ho] σ K := by
  refine r_call rfl rfl (by decide) ?_
  repeat' walk_at "ev1"
  refine r_call rfl rfl (by decide) ?_
  repeat' walk_at "ev1"
  exact q
theorem a_endnow {h v r lg i : Nat} {k : Int} {n : List Nat} {es : List (List Nat × AV)} {log : List AV} {x y : Nat} {su : List Nat} (hh : σ[h]? = some (.flds (hostF v r lg k))) (hv : σ[v]? = some (.dict es)) (hr : σ[r]? = some (.list [])) (hl : σ[lg]? = some (.list log)) (hi : σ[i]? = some (.flds (nameF n)))
    (hz : es.length < 100000) (hlz : log.length < 100000) (hs : su.length ≤ 1000) (hx : x ≤ 1000) (hy : y ≤ 1000)
    (q : K (.tup [rest, .int (y : Int), nm]) ((σ.set v (.dict (putS n (.str (cut x y su)) es))).set lg (.list (log ++ [.tup [.str n, .str (cut x y su)]])))) :
    RC (d + 5) 43 [.tup [.tup [.str cENDNOW, .inst 4 i, .int (x : Int)], rest], .int (y : Int), nm, .str su, pl, .inst 3 h] σ K := by
  refine r_call rfl rfl (by decide) ?_
  repeat' walk_at "ev1"
  refine r_call rfl rfl (by decide) ?_
  repeat' walk_at "ev1"
  refine exI (sliceS (by lia) (by lia) (by lia)) ?_
  repeat' walk_at "ev1"
  refine c_assign hh hv hr hl hi hz hlz ?_
  repeat' walk_at "ev1"
  exact q
theorem a_cursor {h v r lg i : Nat} {k : Int} {n : List Nat} {es : List (List Nat × AV)} {log : List AV} (hh : σ[h]? = some (.flds (hostF v r lg k))) (hv : σ[v]? = some (.dict es)) (hr : σ[r]? = some (.list [])) (hl : σ[lg]? = some (.list log)) (hi : σ[i]? = some (.flds (nameF n)))
    (hz : es.length < 100000) (hlz : log.length < 100000) (q : K (.tup [rest, at_, nm]) ((σ.set v (.dict (putS n at_ es))).set lg (.list (log ++ [.tup [.str n, at_]])))) :
    RC (d + 5) 43 [.tup [.tup [.str cCURSOR, .inst 4 i], rest], at_, nm, sj, pl, .inst 3 h] σ K := by
  refine r_call rfl rfl (by decide) ?_
  repeat' walk_at "ev1"
  refine c_assign hh hv hr hl hi hz hlz ?_
  repeat' walk_at "ev1"
  exact q
theorem a_delay {h v r lg : Nat} {k : Int} {n t : List Nat} {es : List (List Nat × AV)} (hh : σ[h]? = some (.flds (hostF v r lg k))) (hv : σ[v]? = some (.dict es)) (ht : (es.lookup n).getD (.str []) = .str t)
    (q : K (.tup [.tup [.tup [.str cCHARS, .str t], rest], at_, nm]) σ) : RC (d + 5) 43 [.tup [.tup [.str cDELAY, .tup [.str cNAME, .str n]], rest], at_, nm, sj, pl, .inst 3 h] σ K := by
  refine r_call rfl rfl (by decide) ?_
  repeat' walk_at "ev1"
  refine c_value_of hh hv ?_
  rw [ht]
  repeat' walk_at "ev1"
  refine c_is_fail ?_
  repeat' walk_at "ev1"
  refine c_pattern_of ?_
  repeat' walk_at "ev1"
  exact q
theorem a_fail (q : K .none σ) : RC (d + 5) 43 [.tup [.tup [.str cFAIL], rest], at_, nm, sj, pl, ho] σ K := by
  refine r_call rfl rfl (by decide) ?_
  repeat' walk_at "ev1"
  refine r_call rfl rfl (by decide) ?_
  repeat' walk_at "ev1"
  exact q
theorem a_chars {t su : List Nat} {x : Nat} (hs : su.length ≤ 1000) (ht : t.length ≤ 1000) (hx : x ≤ 1000) (q1 : cut x (x + t.length) su = t → K (.tup [rest, .int ((x + t.length : Nat) : Int), nm]) σ) (q2 : cut x (x + t.length) su ≠ t → K .none σ) :
    RC (d + 5) 43 [.tup [.tup [.str cCHARS, .str t], rest], .int (x : Int), nm, .str su, pl, ho] σ K := by
  refine r_call rfl rfl (by decide) ?_
  repeat' walk_at "ev1"
  refine r_call rfl rfl (by decide) ?_
  repeat' walk_at "ev1"
  refine c_settled ?_
  repeat' walk_at "ev1"
  refine c_plain_chars hs ht hx (fun h => ?_) fun h => ?_
  · repeat' walk_at "ev1"
    exact q1 h
  · repeat' walk_at "ev1"
    exact q2 h
end

noncomputable abbrev tIt : ME := .cm .isn (.x 6) (.c AV.none)
noncomputable abbrev tIb : List MS := [(.ex (.mc (.x 3) 17 [])), (.as (.x 5) (.cf 43 [(.x 6), (.x 7), (.x 8), (.x 1), (.x 4), (.x 3)])), (.iff (.cm .is (.x 5) (.c AV.none)) [.br] []), (.iff (.cm .eq (.x 5) (.g 27)) [(.rt (.g 27))] []), (.as (.tup [(.x 6), (.x 7), (.x 8)]) (.x 5))]
noncomputable abbrev tOt : ME := .cm .gt (.bf 0 (.x 4)) (.c (AV.int 0))
noncomputable def tOr : List MS := [(.iff (.cm .is (.x 6) (.c AV.none)) [MS.bad] [])]
noncomputable abbrev tOb : List MS := [(.as (.x 5) (.bm (.x 4) 1 [])), (.iff (.cm .is (.x 5) (.c AV.none)) [(.rt (.g 27))] []), (.as (.tup [(.x 6), (.x 7), (.x 8)]) (.x 5)), .wh tIt tIb, (.iff (.cm .is (.x 6) (.c AV.none)) [MS.bad] [])]
structure TX where
  d : Nat
  node : AV
  su : List Nat
  bg : AV
  p : Nat
  h : Nat
  v : Nat
  r : Nat
  lg : Nat
  σ₀ : St
  KS : Fl → Loc → St → Prop
noncomputable abbrev TX.ρ (T : TX) (x5 x6 x7 x8 : Option AV) : Loc := [some T.node, some (.str T.su), some T.bg, some (.inst 3 T.h), some (.ref T.p), x5, x6, x7, x8]
structure TX.Ok (T : TX) : Prop where
  hr : T.σ₀[T.r]? = some (.list [])
  rp : T.r ≠ T.p
  rh : T.r ≠ T.h
  rv : T.r ≠ T.v
  rl : T.r ≠ T.lg
  pl : T.p ≠ T.lg
  su : T.su.length ≤ 1000
structure TC (T : TX) (pile log : List AV) (es : List (List Nat × AV)) (k : Nat) (σ : St) : Prop where
  hp : σ[T.p]? = some (.list pile)
  hh : σ[T.h]? = some (.flds (hostF T.v T.r T.lg (k : Int)))
  hv : σ[T.v]? = some (.dict es)
  hl : σ[T.lg]? = some (.list log)
  fr : ∀ j, j ≠ T.p → j ≠ T.h → j ≠ T.v → j ≠ T.lg → σ[j]? = T.σ₀[j]?
  es : es.length ≤ k
  log : log.length ≤ k
  pile : pile.length ≤ k + 1
noncomputable def TX.Out (T : TX) (pile log : List AV) (es : List (List Nat × AV)) (k : Nat) : Prop := ∀ σ x5 x6 x7 x8, TC T pile log es k σ → RW (T.d + 5) (T.ρ x5 x6 x7 x8) tOt tOb σ T.KS
noncomputable def TX.Inn (T : TX) (c : AV) (a : Nat) (pile log : List AV) (es : List (List Nat × AV)) (k : Nat) : Prop :=
  ∀ σ x5, TC T pile log es k σ → RW (T.d + 5) (T.ρ x5 (some c) (some (.int (a : Int))) (some (.tup []))) tIt tIb σ (goOn (T.d + 5) tOr (again (T.d + 5) tOt tOb T.KS))
section
set_option compiler.extract_closed false
variable {T : TX} {pile log pile' log' : List AV} {es es' : List (List Nat × AV)} {k : Nat} {σ σ' : St}
theorem TC.hr (C : TC T pile log es k σ) (O : T.Ok) : σ[T.r]? = some (.list []) := (C.fr _ O.rp O.rh O.rv O.rl).trans O.hr
theorem TC.nph (C : TC T pile log es k σ) : T.p ≠ T.h := ne_kd C.hp C.hh rfl
theorem TC.npv (C : TC T pile log es k σ) : T.p ≠ T.v := ne_kd C.hp C.hv rfl
theorem TC.nhv (C : TC T pile log es k σ) : T.h ≠ T.v := ne_kd C.hh C.hv rfl
theorem TC.nhl (C : TC T pile log es k σ) : T.h ≠ T.lg := ne_kd C.hh C.hl rfl
theorem TC.nvl (C : TC T pile log es k σ) : T.v ≠ T.lg := ne_kd C.hv C.hl rfl
theorem TC.step (C : TC T pile log es k σ) : TC T pile log es (k + 1) (σ.set T.h (.flds (hostF T.v T.r T.lg ((k : Int) + 1)))) where
  hp := g_ne C.hp C.nph.symm
  hh := g_eq C.hh
  hv := g_ne C.hv C.nhv
  hl := g_ne C.hl C.nhl
  fr j a b c d := (List.getElem?_set_ne (Ne.symm b)).trans (C.fr j a b c d)
  es := by have := C.es; lia
  log := by have := C.log; lia
  pile := by have := C.pile; lia
theorem TC.setPile (C : TC T pile log es k σ) (O : T.Ok) (hz : pile'.length ≤ k + 1) : TC T pile' log es k (σ.set T.p (.list pile')) where
  hp := g_eq C.hp
  hh := g_ne C.hh C.nph
  hv := g_ne C.hv C.npv
  hl := g_ne C.hl O.pl
  fr j a b c d := (List.getElem?_set_ne (Ne.symm a)).trans (C.fr j a b c d)
  es := C.es
  log := C.log
  pile := hz
theorem TC.assign (C : TC T pile log es k σ) (O : T.Ok) {x : AV} (hz : es'.length ≤ k) (hl : log.length + 1 ≤ k) : TC T pile (log ++ [x]) es' k ((σ.set T.v (.dict es')).set T.lg (.list (log ++ [x]))) where
  hp := g_ne (g_ne C.hp C.npv.symm) O.pl.symm
  hh := g_ne (g_ne C.hh C.nhv.symm) C.nhl.symm
  hv := g_ne (g_eq C.hv) C.nvl.symm
  hl := g_eq (g_ne C.hl C.nvl)
  fr j a b c d := (List.getElem?_set_ne (Ne.symm d)).trans ((List.getElem?_set_ne (Ne.symm c)).trans (C.fr j a b c d))
  es := hz
  log := by simp; lia
  pile := C.pile

theorem inn_step (O : T.Ok) {l : List AV} {a : Nat} (hk : k + 1 ≤ 9999)
    (h : ∀ σ₁, TC T pile log es (k + 1) σ₁ → RC (T.d + 5) 43 [.tup l, .int (a : Int), .tup [], .str T.su, .ref T.p, .inst 3 T.h] σ₁ fun r σ₂ =>
      (∃ c' a', r = .tup [c', .int (Nat.cast a' : Int), .tup []] ∧ ∃ pile' log' es', TC T pile' log' es' (k + 1) σ₂ ∧ T.Inn c' a' pile' log' es' (k + 1)) ∨ (r = .none ∧ ∃ pile' log' es', TC T pile' log' es' (k + 1) σ₂ ∧ T.Out pile' log' es' (k + 1))) :
    T.Inn (.tup l) a pile log es k := by
  intro σ x5 C
  refine r_w ?_
  repeat' walk_at "ev1"
  refine ⟨_, _, _, rfl, isFl_i C.hh, rfl, ?_⟩
  refine c_step C.hh (by lia) ?_
  repeat' walk_at "ev1"
  obtain ⟨r, σ₂, e1, e2⟩ := h _ C.step
  refine ⟨r, σ₂, e1, ?_⟩
  rcases e2 with ⟨c', a', rfl, pile', log', es', C', I'⟩ | ⟨rfl, pile', log', es', C', I'⟩
  · repeat' walk_at "ev1"
    exact I' σ₂ _ C'
  · repeat' walk_at "ev1"
    exact I' σ₂ _ _ _ _ C'

theorem inn_cat (O : T.Ok) {a b rest : AV} {x : Nat} (hk : k + 1 ≤ 9999) (h : T.Inn (.tup [a, .tup [b, rest]]) x pile log es (k + 1)) : T.Inn (.tup [.tup [.str cCAT, a, b], rest]) x pile log es k :=
  inn_step O hk fun σ₁ C => a_cat (.inl ⟨_, _, rfl, _, _, _, C, h⟩)
theorem TX.Inn.by_ {c : AV} {a : Nat} (h : es.length ≤ k → log.length ≤ k → pile.length ≤ k + 1 → T.Inn c a pile log es k) : T.Inn c a pile log es k := fun σ x5 C => h C.es C.log C.pile σ x5 C
theorem inn_alt (O : T.Ok) {a b rest : AV} {x : Nat} (hk : k + 1 ≤ 9999) (h : T.Inn (.tup [a, rest]) x (pile ++ [.tup [.tup [b, rest], .int (x : Int), .tup []]]) log es (k + 1)) : T.Inn (.tup [.tup [.str cALT, a, b], rest]) x pile log es k :=
  .by_ fun _ _ hp => inn_step O hk fun σ₁ C => a_alt C.hp (by lia) (.inl ⟨_, _, rfl, _, _, _, C.setPile O (by simp; lia), h⟩)
theorem inn_now (O : T.Ok) {a b rest : AV} {x : Nat} (hk : k + 1 ≤ 9999) (h : T.Inn (.tup [a, .tup [.tup [.str cENDNOW, b, .int (x : Int)], rest]]) x pile log es (k + 1)) : T.Inn (.tup [.tup [.str cNOW, a, b], rest]) x pile log es k :=
  inn_step O hk fun σ₁ C => a_now (.inl ⟨_, _, rfl, _, _, _, C, h⟩)
theorem putS_le {α : Type} [BEq α] (k : α) (v : AV) : ∀ es : List (α × AV), (putS k v es).length ≤ es.length + 1
  | [] => by simp [putS]
  | e :: r => by unfold putS; split; simp; have := putS_le k v r; simp; lia
theorem inn_endnow (O : T.Ok) {rest : AV} {x y i : Nat} {n : List Nat} (hk : k + 1 ≤ 9999) (hi : T.σ₀[i]? = some (.flds (nameF n))) (ip : i ≠ T.p) (ih : i ≠ T.h) (iv : i ≠ T.v) (il : i ≠ T.lg) (hx : x ≤ 1000) (hy : y ≤ 1000)
    (h : T.Inn rest y pile (log ++ [.tup [.str n, .str (cut x y T.su)]]) (putS n (.str (cut x y T.su)) es) (k + 1)) : T.Inn (.tup [.tup [.str cENDNOW, .inst 4 i, .int (x : Int)], rest]) y pile log es k :=
  .by_ fun he hl _ => inn_step O hk fun σ₁ C => a_endnow C.hh C.hv (C.hr O) C.hl ((C.fr i ip ih iv il).trans hi) (by lia) (by lia) O.su hx hy
    (.inl ⟨_, _, rfl, _, _, _, C.assign O (by have := putS_le n (.str (cut x y T.su)) es; lia) (by lia), h⟩)
theorem inn_cursor (O : T.Ok) {rest : AV} {y i : Nat} {n : List Nat} (hk : k + 1 ≤ 9999) (hi : T.σ₀[i]? = some (.flds (nameF n))) (ip : i ≠ T.p) (ih : i ≠ T.h) (iv : i ≠ T.v) (il : i ≠ T.lg)
    (h : T.Inn rest y pile (log ++ [.tup [.str n, .int (y : Int)]]) (putS n (.int (y : Int)) es) (k + 1)) : T.Inn (.tup [.tup [.str cCURSOR, .inst 4 i], rest]) y pile log es k :=
  .by_ fun he hl _ => inn_step O hk fun σ₁ C => a_cursor C.hh C.hv (C.hr O) C.hl ((C.fr i ip ih iv il).trans hi) (by lia) (by lia)
    (.inl ⟨_, _, rfl, _, _, _, C.assign O (by have := putS_le n (.int (y : Int)) es; lia) (by lia), h⟩)
theorem inn_delay (O : T.Ok) {rest : AV} {y : Nat} {n t : List Nat} (hk : k + 1 ≤ 9999) (ht : (es.lookup n).getD (.str []) = .str t) (h : T.Inn (.tup [.tup [.str cCHARS, .str t], rest]) y pile log es (k + 1)) : T.Inn (.tup [.tup [.str cDELAY, .tup [.str cNAME, .str n]], rest]) y pile log es k :=
  inn_step O hk fun σ₁ C => a_delay C.hh C.hv ht (.inl ⟨_, _, rfl, _, _, _, C, h⟩)
theorem inn_fail (O : T.Ok) {rest : AV} {y : Nat} (hk : k + 1 ≤ 9999) (h : T.Out pile log es (k + 1)) : T.Inn (.tup [.tup [.str cFAIL], rest]) y pile log es k :=
  inn_step O hk fun σ₁ C => a_fail (.inr ⟨rfl, _, _, _, C, h⟩)
theorem inn_chars (O : T.Ok) {rest : AV} {y : Nat} {t : List Nat} (hk : k + 1 ≤ 9999) (ht : t.length ≤ 1000) (hy : y ≤ 1000) (h1 : cut y (y + t.length) T.su = t → T.Inn rest (y + t.length) pile log es (k + 1)) (h2 : cut y (y + t.length) T.su ≠ t → T.Out pile log es (k + 1)) :
    T.Inn (.tup [.tup [.str cCHARS, .str t], rest]) y pile log es k :=
  inn_step O hk fun σ₁ C => a_chars O.su ht hy (fun q => .inl ⟨_, _, rfl, _, _, _, C, h1 q⟩) fun q => .inr ⟨rfl, _, _, _, C, h2 q⟩
theorem out_nil (h : ∀ σ ρ, TC T [] log es k σ → T.KS .next ρ σ) : T.Out [] log es k := by
  intro σ x5 x6 x7 x8 C
  refine r_w ?_
  repeat' walk_at "ev1"
  refine exI (lenL C.hp (by simp)) ?_
  repeat' walk_at "ev1"
  exact h _ _ C
theorem out_pop (O : T.Ok) {c : AV} {x : Nat} (hk : k ≤ 9999) (h : T.Inn c x pile log es k) : T.Out (pile ++ [.tup [c, .int (x : Int), .tup []]]) log es k := by
  intro σ x5 x6 x7 x8 C
  have hz := C.pile
  simp at hz
  refine r_w ?_
  repeat' walk_at "ev1"
  refine exI (lenL C.hp (by simp; lia)) ?_
  repeat' walk_at "ev1"
  refine Sw.eqt (show decide (((pile ++ [AV.tup [c, .int (x : Int), .tup []]]).length : Int) > 0) = true from by simp) ?_
  repeat' walk_at "ev1"
  refine ⟨bmL (by lia) C.hp, ?_⟩
  repeat' walk_at "ev1"
  refine exI2 (bm_pop C.hp (by lia)) ?_
  repeat' walk_at "ev1"
  refine r_sh ?_
  exact h _ _ (C.setPile O (by lia))
end

noncomputable def trW (node : AV) (bg : Nat) : AV := .tup [.tup [node, .none], .int (bg : Int), .tup []]
noncomputable def trT (d : Nat) (node : AV) (su : List Nat) (bg h v r lg : Nat) (σ : St) (K : AV → St → Prop) : TX :=
  ⟨d, node, su, .int (bg : Int), σ.length, h, v, r, lg, σ ++ [.list [trW node bg]], goOn (d + 5) [.rt (.c .none)] fun fl q0 σ' => K (flOf fl) σ'⟩
section
set_option compiler.extract_closed false
variable {d : Nat} {node : AV} {su : List Nat} {bg h v r lg : Nat} {σ σ' : St} {K : AV → St → Prop} {ρ : Loc} {log : List AV} {es : List (List Nat × AV)} {k : Nat}
theorem trKS (q : K .none σ') : (trT d node su bg h v r lg σ K).KS .next ρ σ' := by
  show goOn (d + 5) [.rt (.c .none)] _ .next ρ σ'
  repeat' walk_at "ev1"
  exact q
theorem trC (hh : σ[h]? = some (.flds (hostF v r lg (k : Int)))) (hv : σ[v]? = some (.dict es)) (hl : σ[lg]? = some (.list log)) (he : es.length ≤ k) (hg : log.length ≤ k) : TC (trT d node su bg h v r lg σ K) [trW node bg] log es k (σ ++ [.list [trW node bg]]) :=
  ⟨g_new, g_app hh, g_app hv, g_app hl, fun q0 q0 q0 q0 q0 => rfl, he, hg, by simp⟩
theorem trOk (hr : σ[r]? = some (.list [])) (hh : σ[h]? = some (.flds (hostF v r lg (k : Int)))) (hv : σ[v]? = some (.dict es)) (hl : σ[lg]? = some (.list log)) (n : r ≠ lg) (hs : su.length ≤ 1000) : (trT d node su bg h v r lg σ K).Ok where
  hr := g_app hr
  rp := Nat.ne_of_lt (lt_of_get hr)
  rh := ne_kd hr hh rfl
  rv := ne_kd hr hv rfl
  rl := n
  pl := (Nat.ne_of_lt (lt_of_get hl)).symm
  su := hs
theorem c_tried (hh : σ[h]? = some (.flds (hostF v r lg (k : Int)))) (hv : σ[v]? = some (.dict es)) (hl : σ[lg]? = some (.list log)) (he : es.length ≤ k) (hg : log.length ≤ k)
    (q : (trT d node su bg h v r lg σ K).Out [trW node bg] log es k) : RC (d + 6) 42 [node, .str su, .int (bg : Int), .inst 3 h] σ K := by
  refine r_call rfl rfl (by decide) ?_
  repeat' walk_at "ev1"
  try refine r_ls ?_
  repeat' walk_at "ev1"
  refine r_sh ?_
  exact q _ _ _ _ _ (trC hh hv hl he hg)
theorem c_match_at (q : RC (d + 6) 42 [node, .str su, .int (bg : Int), .inst 3 h] σ fun a σ' => a = .none ∧ K .none σ') : RC (d + 7) 41 [node, .str su, .int (bg : Int), .inst 3 h] σ K := by
  refine r_call rfl rfl (by decide) ?_
  repeat' walk_at "ev1"
  obtain ⟨a, σ', e1, rfl, q⟩ := q
  refine ⟨_, σ', e1, ?_⟩
  repeat' walk_at "ev1"
  exact q
theorem c_match_plain (q : RC (d + 7) 41 [node, .str su, .int 0, .inst 3 h] σ fun a σ' => a = .none ∧ K .none σ') : RC (d + 8) 40 [node, .str su, .bool true, .inst 3 h] σ K := by
  refine r_call rfl rfl (by decide) ?_
  repeat' walk_at "ev1"
  refine r_sf ?_
  refine r_itR ?_
  repeat' walk_at "ev1"
  refine ⟨by decide, by decide, ?_⟩
  refine r_f1 (v := .int 0) (src' := .rng 1 0) rfl ?_
  repeat' walk_at "ev1"
  obtain ⟨a, σ', e1, rfl, q⟩ := q
  refine ⟨_, σ', e1, ?_⟩
  repeat' walk_at "ev1"
  refine r_fE rfl ?_
  repeat' walk_at "ev1"
  exact q
end

noncomputable def wONE : AV := .str [111, 110, 101]
noncomputable def wSPLIT : AV := .str [115, 112, 108, 105, 116]
noncomputable def wJUMP : AV := .str [106, 117, 109, 112]
noncomputable def wMARK : AV := .str [109, 97, 114, 107]
noncomputable def wSET : AV := .str [115, 101, 116]
noncomputable def wASK : AV := .str [97, 115, 107]
noncomputable def wDONE : AV := .str [100, 111, 110, 101]
noncomputable def wPUT : AV := .str [112, 117, 116]
noncomputable def wEMIT : AV := .str [101, 109, 105, 116]
noncomputable def wOPEN : AV := .str [111, 112, 101, 110]
noncomputable def wSHUT : AV := .str [115, 104, 117, 116]
noncomputable def wMEET : AV := .str [109, 101, 101, 116]
noncomputable def oONE (kind told : AV) : AV := .tup [wONE, kind, told]
noncomputable def oASK (t : AV) : AV := .tup [wASK, t]
noncomputable def oMARK : AV := .tup [wMARK]
noncomputable def oSET (r : AV) : AV := .tup [wSET, r]
noncomputable def oSPLIT (n : Nat) : AV := .tup [wSPLIT, .int (n : Int)]
noncomputable def oJUMP (n : Nat) : AV := .tup [wJUMP, .int (n : Int)]
noncomputable def oDONE : AV := .tup [wDONE]
section
set_option compiler.extract_closed false
variable {d i o : Nat} {σ : St} {K : AV → St → Prop} {ol : List AV}
theorem c_emit {x : AV} (hp : σ[i]? = some (.flds [(0, .ref o)])) (ho : σ[o]? = some (.list ol)) (hz : ol.length < 90000) (q : K (.int (ol.length : Int)) (σ.set o (.list (ol ++ [x])))) : RC (d + 1) 1 [.inst 0 i, x] σ K := by
  have ni : o ≠ i := ne_kd ho hp rfl
  refine r_call rfl rfl (by decide) ?_
  repeat' walk_at "ev1"
  refine ⟨bmL (by lia) ho, ?_⟩
  repeat' walk_at "ev1"
  refine exI2 (bm_app ho (by lia)) ?_
  repeat' walk_at "ev1"
  refine exI (lenL (g_eq ho) (by simp; lia)) ?_
  repeat' walk_at "ev1"
  rw [show ((((ol ++ [x]).length : Nat) : Int) - 1) = (ol.length : Int) from by simp]
  exact q
theorem c_begun_chars {t : AV} (hp : σ[i]? = some (.flds [(0, .ref o)])) (ho : σ[o]? = some (.list ol)) (hz : ol.length < 90000) (q : K (.ref (σ.set o (.list (ol ++ [oONE (.str cCHARS) t]))).length) ((σ.set o (.list (ol ++ [oONE (.str cCHARS) t]))) ++ [.list []])) : RC (d + 2) 3 [.inst 0 i, .tup [.str cCHARS, t]] σ K := by
  refine r_call rfl rfl (by decide) ?_
  repeat' walk_at "ev1"
  refine c_emit hp ho hz ?_
  repeat' walk_at "ev1"
  try refine r_ls ?_
  repeat' walk_at "ev1"
  exact q
theorem c_begun_rpos (hp : σ[i]? = some (.flds [(0, .ref o)])) (ho : σ[o]? = some (.list ol)) (hz : ol.length < 90000) (q : K (.ref (σ.set o (.list (ol ++ [oONE (.str cRPOS) (.int 0)]))).length) ((σ.set o (.list (ol ++ [oONE (.str cRPOS) (.int 0)]))) ++ [.list []])) : RC (d + 2) 3 [.inst 0 i, .tup [.str cRPOS, .int 0]] σ K := by
  refine r_call rfl rfl (by decide) ?_
  repeat' walk_at "ev1"
  refine c_emit hp ho hz ?_
  repeat' walk_at "ev1"
  try refine r_ls ?_
  repeat' walk_at "ev1"
  exact q
theorem c_begun_delay {t : AV} (hp : σ[i]? = some (.flds [(0, .ref o)])) (ho : σ[o]? = some (.list ol)) (hz : ol.length < 90000) (q : K (.ref (σ.set o (.list (ol ++ [oASK t]))).length) ((σ.set o (.list (ol ++ [oASK t]))) ++ [.list []])) : RC (d + 2) 3 [.inst 0 i, .tup [.str cDELAY, t]] σ K := by
  refine r_call rfl rfl (by decide) ?_
  repeat' walk_at "ev1"
  refine c_emit hp ho hz ?_
  repeat' walk_at "ev1"
  try refine r_ls ?_
  repeat' walk_at "ev1"
  exact q
theorem c_begun_now {a b : AV} (hp : σ[i]? = some (.flds [(0, .ref o)])) (ho : σ[o]? = some (.list ol)) (hz : ol.length < 90000) (q : K (.ref (σ.set o (.list (ol ++ [oMARK]))).length) ((σ.set o (.list (ol ++ [oMARK]))) ++ [.list [.tup [wPUT, a], .tup [wEMIT, oSET b]]])) : RC (d + 2) 3 [.inst 0 i, .tup [.str cNOW, a, b]] σ K := by
  refine r_call rfl rfl (by decide) ?_
  repeat' walk_at "ev1"
  refine c_emit hp ho hz ?_
  repeat' walk_at "ev1"
  try refine r_ls ?_
  repeat' walk_at "ev1"
  exact q
end

section
set_option compiler.extract_closed false
variable {σ : St} {i j : Nat}
theorem bm_ext {a b : List AV} (h : σ[i]? = some (.list a)) (h2 : σ[j]? = some (.list b)) (n : i ≠ j) (hz : a.length + b.length < 100000) : bmR σ 2 (.ref i) [.ref j] = some (.none, σ.set i (.list (a ++ b))) := by
  show onList σ (.ref i) _ = _
  rw [onList_e h]
  show onList σ (.ref j) _ = _
  rw [onList_e h2]; exact if_pos ⟨n, hz⟩
end
inductive Flat (c : List Nat) : AV → List AV → Prop
  | cat {a b la lb} : Flat c a la → Flat c b lb → Flat c (.tup [.str c, a, b]) (la ++ lb)
  | leaf {k rest} : k ≠ c → Flat c (.tup (.str k :: rest)) [.tup (.str k :: rest)]
theorem Flat.pos {c : List Nat} {a : AV} {l : List AV} (h : Flat c a l) : 1 ≤ l.length := by
  induction h with
  | cat _ _ h1 h2 => simp; lia
  | leaf _ => simp
noncomputable abbrev rowT : ME := .cm .gt (.bf 0 (.x 3)) (.c (AV.int 0))
noncomputable abbrev rowB : List MS := [(.as (.x 4) (.bm (.x 3) 1 [])), (.iff (.cm .eq (.ix (.x 4) (.c (AV.int 0))) (.x 1)) [(.ex (.bm (.x 3) 2 [(.ls [(.ix (.x 4) (.c (AV.int 2))), (.ix (.x 4) (.c (AV.int 1)))])]))] [(.ex (.bm (.x 2) 0 [(.x 4)]))])]
structure RowC (σ₀ : St) (f w : Nat) (W Fd : List AV) (σ : St) : Prop where
  hw : σ[w]? = some (.list W)
  hf : σ[f]? = some (.list Fd)
  fr : ∀ j, j < σ₀.length → σ[j]? = σ₀[j]?
  ne : f ≠ w
  lf : σ₀.length ≤ f
  lw : σ₀.length ≤ w
section
set_option compiler.extract_closed false
variable {d : Nat} {σ₀ : St} {f w : Nat} {node : AV} {c : List Nat} {KS : Fl → Loc → St → Prop}
noncomputable def RowW (d : Nat) (σ₀ : St) (f w : Nat) (node : AV) (c : List Nat) (KS : Fl → Loc → St → Prop) (W Fd : List AV) : Prop :=
  ∀ σ x4, RowC σ₀ f w W Fd σ → RW d [some node, some (.str c), some (.ref f), some (.ref w), x4] rowT rowB σ KS
theorem frame_set {σ σ₀ : St} {w : Nat} {x : AO} (fr : ∀ j, j < σ₀.length → σ[j]? = σ₀[j]?) (lw : σ₀.length ≤ w) : ∀ j, j < σ₀.length → (σ.set w x)[j]? = σ₀[j]? := fun j hj => by
  rw [List.getElem?_set_ne (by lia)]; exact fr j hj
theorem frame_app {σ σ₀ l : St} (fr : ∀ j, j < σ₀.length → σ[j]? = σ₀[j]?) : ∀ j, j < σ₀.length → (σ ++ l)[j]? = σ₀[j]? := fun j hj => by
  have := fr j hj
  rw [List.getElem?_eq_getElem hj] at this
  rw [g_app this, List.getElem?_eq_getElem hj]
theorem row_leaf {k : List Nat} {rest : List AV} {W Fd : List AV} (hk : k ≠ c) (hz : W.length + Fd.length ≤ 2000) (h : RowW d σ₀ f w node c KS W (Fd ++ [.tup (.str k :: rest)])) : RowW d σ₀ f w node c KS (W ++ [.tup (.str k :: rest)]) Fd := by
  intro σ x4 C
  refine r_w ?_
  repeat' walk_at "ev1"
  refine exI (lenL C.hw (by simp; lia)) ?_
  repeat' walk_at "ev1"
  refine Sw.eqt (show decide (((W ++ [AV.tup (AV.str k :: rest)]).length : Int) > 0) = true from by simp) ?_
  repeat' walk_at "ev1"
  refine ⟨bmL (by lia) C.hw, ?_⟩
  repeat' walk_at "ev1"
  refine exI2 (bm_pop C.hw (by lia)) ?_
  repeat' walk_at "ev1"
  refine Sw.eqf (show (k == c) = false from by simp [hk]) ?_
  repeat' walk_at "ev1"
  refine ⟨bmL (by lia) (g_ne C.hf C.ne.symm), ?_⟩
  repeat' walk_at "ev1"
  refine exI2 (bm_app (g_ne C.hf C.ne.symm) (by lia)) ?_
  repeat' walk_at "ev1"
  exact h _ _ ⟨g_ne (g_eq C.hw) C.ne, g_eq (g_ne C.hf C.ne.symm), frame_set (frame_set C.fr C.lw) C.lf, C.ne, C.lf, C.lw⟩
theorem row_cat {a b : AV} {W Fd : List AV} (hz : W.length + Fd.length ≤ 2000) (h : RowW d σ₀ f w node c KS (W ++ [b] ++ [a]) Fd) : RowW d σ₀ f w node c KS (W ++ [.tup [.str c, a, b]]) Fd := by
  intro σ x4 C
  refine r_w ?_
  repeat' walk_at "ev1"
  refine exI (lenL C.hw (by simp; lia)) ?_
  repeat' walk_at "ev1"
  refine Sw.eqt (show decide (((W ++ [AV.tup [AV.str c, a, b]]).length : Int) > 0) = true from by simp) ?_
  repeat' walk_at "ev1"
  refine ⟨bmL (by lia) C.hw, ?_⟩
  repeat' walk_at "ev1"
  refine exI2 (bm_pop C.hw (by lia)) ?_
  repeat' walk_at "ev1"
  refine Sw.eqt (show (c == c) = true from by simp) ?_
  repeat' walk_at "ev1"
  refine ⟨bmL (by lia) (g_eq C.hw), ?_⟩
  repeat' walk_at "ev1"
  try refine r_ls ?_
  repeat' walk_at "ev1"
  have hlt := lt_of_get C.hw
  have n : w ≠ (σ.set w (.list W)).length := by simp; lia
  refine exI2 (bm_ext (g_app (g_eq C.hw)) g_new n (by simp; lia)) ?_
  repeat' walk_at "ev1"
  rw [show W ++ [b, a] = W ++ [b] ++ [a] from by simp]
  exact h _ _ ⟨g_eq (g_app (g_eq C.hw)), g_ne (g_app (g_ne C.hf C.ne.symm)) C.ne.symm, frame_set (frame_app (frame_set C.fr C.lw)) C.lw, C.ne, C.lf, C.lw⟩
theorem row_flat {a : AV} {la : List AV} (h : Flat c a la) : ∀ {W Fd : List AV}, W.length + Fd.length + la.length ≤ 2000 → RowW d σ₀ f w node c KS W (Fd ++ la) → RowW d σ₀ f w node c KS (W ++ [a]) Fd := by
  induction h with
  | cat h1 h2 ih1 ih2 =>
    intro W Fd hz h
    have p1 := h1.pos
    have p2 := h2.pos
    simp at hz
    refine row_cat (by lia) (ih1 (by simp; lia) (ih2 (by simp; lia) ?_))
    rw [List.append_assoc]; exact h
  | leaf hk =>
    intro W Fd hz h
    simp at hz
    exact row_leaf hk (by lia) h
theorem c_row_of {σ : St} {K : AV → St → Prop} {a : AV} {la : List AV} (h : Flat c a la) (hz : la.length ≤ 1000) (q : ∀ σ' f, (∀ j, j < σ.length → σ'[j]? = σ[j]?) → σ.length ≤ f → σ'[f]? = some (.list la) → K (.ref f) σ') : RC (d + 1) 23 [a, .str c] σ K := by
  refine r_call rfl rfl (by decide) ?_
  repeat' walk_at "ev1"
  try refine r_ls ?_
  repeat' walk_at "ev1"
  try refine r_ls ?_
  repeat' walk_at "ev1"
  refine r_sh ?_
  have e : (σ ++ [AO.list []]).length = σ.length + 1 := by simp
  have key : RowW d σ σ.length (σ.length + 1) a c (goOn d [.rt (.x 2)] fun fl q0 σ' => K (flOf fl) σ') [a] [] := by
    have := row_flat (d := d) (σ₀ := σ) (f := σ.length) (w := σ.length + 1) (node := a) (KS := goOn d [.rt (.x 2)] fun fl q0 σ' => K (flOf fl) σ') h (W := []) (Fd := []) (by simp; lia) ?_
    · simpa using this
    · intro σ' x4 C
      refine r_w ?_
      repeat' walk_at "ev1"
      refine exI (lenL C.hw (by simp)) ?_
      repeat' walk_at "ev1"
      exact q σ' _ C.fr (Nat.le_refl _) (by simpa using C.hf)
  have h2 := key ((σ ++ [AO.list []]) ++ [AO.list [a]]) none ⟨?_, g_app g_new, frame_app (frame_app fun q0 q0 => rfl), by lia, Nat.le_refl _, by lia⟩
  · rw [e]
    exact h2
  · have := g_new (σ := σ ++ [AO.list []]) (y := AO.list [a])
    rw [e] at this
    exact this
end

section
set_option compiler.extract_closed false
variable {σ : St} {i k : Nat}
theorem nx_item {vs : List AV} {v : AV} (h : σ[i]? = some (.list vs)) (e : vs[k]? = some v) : (Src.lst i k).next σ = some (some (v, .lst i (k + 1))) := by simp [Src.next, h, e]
theorem nx_end {vs : List AV} (h : σ[i]? = some (.list vs)) (e : vs[k]? = none) : (Src.lst i k).next σ = some none := by simp only [Src.next, h, e]
end
inductive Pt where
  | t (s : List Nat)
  | o (v : AV)
noncomputable def Pt.av : Pt → AV
  | .t s => .tup [.str cCHARS, .str s]
  | .o v => v
noncomputable def Pt.ok : Pt → Prop
  | .t s => s ≠ [] ∧ s.length ≤ 10
  | .o v => ∃ k rest, v = .tup (.str k :: rest) ∧ k ≠ cCHARS
noncomputable def jn : List Pt → List Pt → List Pt
  | acc, [] => acc
  | acc, .o v :: r => jn (acc ++ [.o v]) r
  | acc, .t s :: r => match acc.getLast? with
    | some (.t u) => jn (acc.dropLast ++ [.t (u ++ s)]) r
    | _ => jn (acc ++ [.t s]) r
section
set_option compiler.extract_closed false
variable {d : Nat} {σ : St} {K : AV → St → Prop}
theorem c_ipt_t {s : List Nat} (q : K (.bool true) σ) : RC (d + 1) 24 [.tup [.str cCHARS, .str s]] σ K := by
  refine r_call rfl rfl (by decide) ?_
  repeat' walk_at "ev1"
  exact q
theorem c_ipt_o {k : List Nat} {rest : List AV} (hk : k ≠ cCHARS) (q : K (.bool false) σ) : RC (d + 1) 24 [.tup (.str k :: rest)] σ K := by
  refine r_call rfl rfl (by decide) ?_
  repeat' walk_at "ev1"
  refine Sw.eqf (show (k == [99, 104, 97, 114, 115]) = false from by simp; exact hk) ?_
  repeat' walk_at "ev1"
  exact q
theorem addS {a b : List Nat} (h : a.length + b.length ≤ 1000) : binV .add (.str a) (.str b) = some (.str (a ++ b)) := by
  show (if a.length + b.length ≤ 1000 then some (AV.str (a ++ b)) else none) = _
  exact if_pos h
end
noncomputable abbrev jnB : List MS := [(.iff (.cf 24 [(.x 2)]) [(.iff (.cm .eq (.ix (.x 2) (.c (AV.int 1))) (.c (AV.str []))) [.ct] []), (.iff (.an [(.cm .gt (.bf 0 (.x 1)) (.c (AV.int 0))), (.cf 24 [(.ix (.x 1) (.bo .sub (.bf 0 (.x 1)) (.c (AV.int 1))))])]) [(.as (.x 2) (.tp [(.c (AV.str [99, 104, 97, 114, 115])), (.bo .add (.ix (.bm (.x 1) 1 []) (.c (AV.int 1))) (.ix (.x 2) (.c (AV.int 1))))]))] [])] []), (.ex (.bm (.x 1) 0 [(.x 2)]))]
structure JnC (σ₀ : St) (f : Nat) (acc : List Pt) (σ : St) : Prop where
  hf : σ[f]? = some (.list (acc.map Pt.av))
  fr : ∀ j, j < σ₀.length → σ[j]? = σ₀[j]?
  lf : σ₀.length ≤ f
section
set_option compiler.extract_closed false
variable {d : Nat} {σ₀ : St} {f i : Nat} {parts : List Pt} {KS : Fl → Loc → St → Prop}
noncomputable def JnW (d : Nat) (σ₀ : St) (f i : Nat) (KS : Fl → Loc → St → Prop) (acc : List Pt) (k : Nat) : Prop := ∀ σ x2, JnC σ₀ f acc σ → RF d [some (.ref i), some (.ref f), x2] (.x 2) (.lst i k) jnB σ KS
theorem pt_ok_t {s : List Nat} (h : Pt.ok (.t s)) : s ≠ [] ∧ s.length ≤ 10 := h
noncomputable def Short (n : Nat) (l : List Pt) : Prop := ∀ s, Pt.t s ∈ l → s.length ≤ n
theorem jn_o {k : Nat} {v : AV} {acc : List Pt} (hp : σ₀[i]? = some (.list (parts.map Pt.av))) (hk : parts[k]? = some (.o v)) (ok : Pt.ok (.o v)) (hz : acc.length ≤ 5000) (h : JnW (d + 1) σ₀ f i KS (acc ++ [.o v]) (k + 1)) : JnW (d + 1) σ₀ f i KS acc k := by
  intro σ x2 C
  obtain ⟨kd, rest, rfl, hkd⟩ := ok
  have hi : σ[i]? = some (.list (parts.map Pt.av)) := (C.fr i (lt_of_get hp)).trans hp
  have hn : (Src.lst i k).next σ = some (some (.tup (.str kd :: rest), .lst i (k + 1))) := nx_item hi (by simp [hk, Pt.av])
  refine r_f1 hn ?_
  repeat' walk_at "ev1"
  refine c_ipt_o hkd ?_
  repeat' walk_at "ev1"
  refine ⟨bmL (by lia) C.hf, ?_⟩
  repeat' walk_at "ev1"
  refine exI2 (bm_app C.hf (by simp; lia)) ?_
  repeat' walk_at "ev1"
  refine h _ _ ⟨?_, frame_set C.fr C.lf, C.lf⟩
  rw [g_eq C.hf]; simp [Pt.av]
theorem jn_t0 {k : Nat} {s : List Nat} (hp : σ₀[i]? = some (.list (parts.map Pt.av))) (hk : parts[k]? = some (.t s)) (h0 : s ≠ []) (h : JnW (d + 1) σ₀ f i KS [.t s] (k + 1)) : JnW (d + 1) σ₀ f i KS [] k := by
  intro σ x2 C
  have hi : σ[i]? = some (.list (parts.map Pt.av)) := (C.fr i (lt_of_get hp)).trans hp
  have hn : (Src.lst i k).next σ = some (some (.tup [.str cCHARS, .str s], .lst i (k + 1))) := nx_item hi (by simp [hk, Pt.av])
  refine r_f1 hn ?_
  repeat' walk_at "ev1"
  refine c_ipt_t ?_
  repeat' walk_at "ev1"
  refine Sw.eqf (show (s == []) = false from by simp; exact h0) ?_
  repeat' walk_at "ev1"
  refine exI (lenL C.hf (by simp)) ?_
  repeat' walk_at "ev1"
  refine ⟨bmL (by lia) C.hf, ?_⟩
  repeat' walk_at "ev1"
  refine exI2 (bm_app C.hf (by simp)) ?_
  repeat' walk_at "ev1"
  exact h _ _ ⟨g_eq C.hf, frame_set C.fr C.lf, C.lf⟩
theorem jn_t1 {k : Nat} {s : List Nat} {v : AV} {acc : List Pt} (hp : σ₀[i]? = some (.list (parts.map Pt.av))) (hk : parts[k]? = some (.t s)) (h0 : s ≠ []) (hz : acc.length ≤ 5000) (ov : Pt.ok (.o v)) (h : JnW (d + 1) σ₀ f i KS (acc ++ [.o v] ++ [.t s]) (k + 1)) : JnW (d + 1) σ₀ f i KS (acc ++ [.o v]) k := by
  intro σ x2 C
  obtain ⟨kd, rest, rfl, hkd⟩ := ov
  have hi : σ[i]? = some (.list (parts.map Pt.av)) := (C.fr i (lt_of_get hp)).trans hp
  have hn : (Src.lst i k).next σ = some (some (.tup [.str cCHARS, .str s], .lst i (k + 1))) := nx_item hi (by simp [hk, Pt.av])
  have hf := C.hf
  rw [List.map_append] at hf
  have hlen : ((acc.map Pt.av ++ [Pt.o (.tup (.str kd :: rest))].map Pt.av).length : Int) - 1 = ((acc.length : Nat) : Int) := by simp
  refine r_f1 hn ?_
  repeat' walk_at "ev1"
  refine c_ipt_t ?_
  repeat' walk_at "ev1"
  refine Sw.eqf (show (s == []) = false from by simp; exact h0) ?_
  repeat' walk_at "ev1"
  refine exI (lenL hf (by simp; lia)) ?_
  repeat' walk_at "ev1"
  refine Sw.eqt (show decide (((acc.map Pt.av ++ [Pt.o (.tup (.str kd :: rest))].map Pt.av).length : Int) > 0) = true from by simp) ?_
  repeat' walk_at "ev1"
  refine exI (lenL hf (by simp; lia)) ?_
  repeat' walk_at "ev1"
  rw [hlen]
  refine exI (itemL hf (v := .tup (.str kd :: rest)) (by simp [Pt.av]) (by lia)) ?_
  repeat' walk_at "ev1"
  refine c_ipt_o hkd ?_
  repeat' walk_at "ev1"
  refine ⟨bmL (by lia) hf, ?_⟩
  repeat' walk_at "ev1"
  refine exI2 (bm_app hf (by simp; lia)) ?_
  repeat' walk_at "ev1"
  refine h _ _ ⟨?_, frame_set C.fr C.lf, C.lf⟩
  rw [g_eq hf]; simp [Pt.av]
theorem jn_tt {k : Nat} {s u : List Nat} {acc : List Pt} (hp : σ₀[i]? = some (.list (parts.map Pt.av))) (hk : parts[k]? = some (.t s)) (h0 : s ≠ []) (hz : acc.length ≤ 5000) (hu : u.length + s.length ≤ 1000) (h : JnW (d + 1) σ₀ f i KS (acc ++ [.t (u ++ s)]) (k + 1)) : JnW (d + 1) σ₀ f i KS (acc ++ [.t u]) k := by
  intro σ x2 C
  have hi : σ[i]? = some (.list (parts.map Pt.av)) := (C.fr i (lt_of_get hp)).trans hp
  have hn : (Src.lst i k).next σ = some (some (.tup [.str cCHARS, .str s], .lst i (k + 1))) := nx_item hi (by simp [hk, Pt.av])
  have hf : σ[f]? = some (.list (acc.map Pt.av ++ [.tup [.str cCHARS, .str u]])) := by rw [C.hf]; simp [Pt.av]
  have hlen : ((acc.map Pt.av ++ [AV.tup [.str cCHARS, .str u]]).length : Int) - 1 = ((acc.length : Nat) : Int) := by simp
  refine r_f1 hn ?_
  repeat' walk_at "ev1"
  refine c_ipt_t ?_
  repeat' walk_at "ev1"
  refine Sw.eqf (show (s == []) = false from by simp; exact h0) ?_
  repeat' walk_at "ev1"
  refine exI (lenL hf (by simp; lia)) ?_
  repeat' walk_at "ev1"
  refine Sw.eqt (show decide (((acc.map Pt.av ++ [AV.tup [.str cCHARS, .str u]]).length : Int) > 0) = true from by simp) ?_
  repeat' walk_at "ev1"
  refine exI (lenL hf (by simp; lia)) ?_
  repeat' walk_at "ev1"
  rw [hlen]
  refine exI (itemL hf (v := .tup [.str cCHARS, .str u]) (by simp) (by lia)) ?_
  repeat' walk_at "ev1"
  refine c_ipt_t ?_
  repeat' walk_at "ev1"
  refine ⟨bmL (by lia) hf, ?_⟩
  repeat' walk_at "ev1"
  refine exI2 (bm_pop hf (by simp; lia)) ?_
  repeat' walk_at "ev1"
  refine exI (addS hu) ?_
  repeat' walk_at "ev1"
  have hf2 : (σ.set f (.list (acc.map Pt.av)))[f]? = some (.list (acc.map Pt.av)) := g_eq hf
  refine ⟨bmL (by lia) hf2, ?_⟩
  repeat' walk_at "ev1"
  refine exI2 (bm_app hf2 (by simp; lia)) ?_
  repeat' walk_at "ev1"
  refine h _ _ ⟨?_, frame_set (frame_set C.fr C.lf) C.lf, C.lf⟩
  rw [g_eq hf2]; simp [Pt.av]; rfl
theorem jn_end {k : Nat} {acc : List Pt} (hp : σ₀[i]? = some (.list (parts.map Pt.av))) (hk : parts[k]? = none) (h : ∀ σ x2, JnC σ₀ f acc σ → KS .next [some (.ref i), some (.ref f), x2] σ) : JnW d σ₀ f i KS acc k := by
  intro σ x2 C
  have hi : σ[i]? = some (.list (parts.map Pt.av)) := (C.fr i (lt_of_get hp)).trans hp
  exact r_fE (nx_end hi (by simp [hk])) (h σ x2 C)
end

noncomputable def PtB (n : Nat) : Pt → Prop
  | .o v => Pt.ok (.o v)
  | .t u => u.length ≤ n
theorem PtB.mono {n m : Nat} (h : n ≤ m) : ∀ {p : Pt}, PtB n p → PtB m p
  | .o _, q => q
  | .t _, q => Nat.le_trans q h
theorem drop_cons {α : Type} {l : List α} {k : Nat} {p : α} {r : List α} (h : l.drop k = p :: r) : l[k]? = some p ∧ l.drop (k + 1) = r := by
  refine ⟨?_, ?_⟩
  · have := congrArg (fun x => x[0]?) h
    simpa [List.getElem?_drop] using this
  · rw [show l.drop (k + 1) = (l.drop k).drop 1 from by rw [List.drop_drop], h]; rfl
theorem drop_nil {α : Type} {l : List α} {k : Nat} (h : l.drop k = []) : l[k]? = none := by
  rw [List.getElem?_eq_none_iff]; exact List.drop_eq_nil_iff.mp h
theorem jn_go {d : Nat} {σ₀ : St} {f i : Nat} {ps : List Pt} {KS : Fl → Loc → St → Prop} (hok : ∀ p ∈ ps, p.ok) (hz : ps.length ≤ 90) (hp : σ₀[i]? = some (.list (ps.map Pt.av))) : ∀ (r : List Pt) (k : Nat) (acc : List Pt), ps.drop k = r → (∀ p ∈ acc, PtB (10 * k) p) → acc.length ≤ k →
    (∀ σ x2, JnC σ₀ f (jn acc r) σ → KS .next [some (.ref i), some (.ref f), x2] σ) → JnW (d + 1) σ₀ f i KS acc k
  | [], k, acc, hd, hb, hl, h => jn_end hp (drop_nil hd) h
  | p :: r, k, acc, hd, hb, hl, h => by
    obtain ⟨e1, e2⟩ := drop_cons hd
    have hk : k < ps.length := (List.getElem?_eq_some_iff.mp e1).1
    have hpo := hok p (List.mem_of_getElem? e1)
    have mono : ∀ p ∈ acc, PtB (10 * (k + 1)) p := fun p hp => (hb p hp).mono (by lia)
    cases p with
    | o v =>
      refine jn_o hp e1 hpo (by lia) (jn_go hok hz hp r (k + 1) _ e2 ?_ (by simp; lia) ?_)
      · intro p hp'
        rcases List.mem_append.mp hp' with q | q
        · exact mono p q
        · rw [List.mem_singleton.mp q]; exact hpo
      · unfold jn at h; exact h
    | t s =>
      obtain ⟨h0, h10⟩ := pt_ok_t hpo
      rcases List.eq_nil_or_concat acc with rfl | ⟨init, last, rfl⟩
      · refine jn_t0 hp e1 h0 (jn_go hok hz hp r (k + 1) _ e2 ?_ (by simp) ?_)
        · intro p hp'
          rw [List.mem_singleton.mp hp']
          show s.length ≤ _; lia
        · unfold jn at h; exact h
      · rw [List.concat_eq_append] at *
        simp at hl
        cases last with
        | o v =>
          have ov : Pt.ok (.o v) := hb (.o v) (by simp)
          refine jn_t1 hp e1 h0 (by lia) ov (jn_go hok hz hp r (k + 1) _ e2 ?_ (by simp; lia) ?_)
          · intro p hp'
            rcases List.mem_append.mp hp' with q | q
            · exact mono p q
            · rw [List.mem_singleton.mp q]; show s.length ≤ _; lia
          · unfold jn at h; simpa using h
        | t u =>
          have hu : u.length ≤ 10 * k := hb (.t u) (by simp)
          refine jn_tt hp e1 h0 (by lia) (by lia) (jn_go hok hz hp r (k + 1) _ e2 ?_ (by simp; lia) ?_)
          · intro p hp'
            rcases List.mem_append.mp hp' with q | q
            · exact mono p (by simp [q])
            · rw [List.mem_singleton.mp q]; show (u ++ s).length ≤ _; simp; lia
          · unfold jn at h; simpa using h
section
set_option compiler.extract_closed false
variable {d i : Nat} {σ : St} {K : AV → St → Prop} {ps : List Pt}
theorem c_join (hok : ∀ p ∈ ps, p.ok) (hz : ps.length ≤ 90) (hp : σ[i]? = some (.list (ps.map Pt.av))) (q : ∀ σ' f, (∀ j, j < σ.length → σ'[j]? = σ[j]?) → σ.length ≤ f → σ'[f]? = some (.list ((jn [] ps).map Pt.av)) → K (.ref f) σ') : RC (d + 2) 25 [.ref i] σ K := by
  refine r_call rfl rfl (by decide) ?_
  repeat' walk_at "ev1"
  try refine r_ls ?_
  repeat' walk_at "ev1"
  refine r_sf ?_
  refine r_itL ?_
  repeat' walk_at "ev1"
  refine ⟨_, _, rfl, g_app hp, ?_⟩
  have key : JnW (d + 1) σ σ.length i (goOn (d + 1) [.rt (.x 1)] fun fl q0 σ' => K (flOf fl) σ') [] 0 := by
    refine jn_go hok hz hp ps 0 [] rfl (by simp) (by simp) fun σ' x2 C => ?_
    repeat' walk_at "ev1"
    exact q σ' _ C.fr (Nat.le_refl _) C.hf
  exact key _ none ⟨g_new, frame_app fun q0 q0 => rfl, Nat.le_refl _⟩
end

theorem lc_map {d i acc : Nat} {e : ME} {g : AV → AV} {vs : List AV} {σ₀ : St} {KL : St → Prop} (he : ∀ v ∈ vs, ∀ σ (K : AV → St → Prop), (∀ j, j ≠ acc → σ[j]? = σ₀[j]?) → K (g v) σ → RE d [some v] e σ K) (hi : σ₀[i]? = some (.list vs)) (n : i ≠ acc) (hz : vs.length ≤ 5000)
    (h : ∀ σ, σ[acc]? = some (.list (vs.map g)) → (∀ j, j ≠ acc → σ[j]? = σ₀[j]?) → σ.length = σ₀.length → KL σ) : ∀ (r : List AV) (k : Nat) (σ : St) (x : Option AV), vs.drop k = r → σ[acc]? = some (.list ((vs.take k).map g)) → (∀ j, j ≠ acc → σ[j]? = σ₀[j]?) → σ.length = σ₀.length → k ≤ vs.length → RL d [x] [0] false (.lst i k) none e acc σ KL
  | [], k, σ, x, hd, ha, fr, hl, hk => by
    have hi' : σ[i]? = some (.list vs) := (fr i n).trans hi
    refine r_lE (nx_end hi' (drop_nil hd)) (h σ ?_ fr hl)
    have : vs.length ≤ k := List.drop_eq_nil_iff.mp hd
    rw [ha, List.take_of_length_le this]
  | v :: r, k, σ, x, hd, ha, fr, hl, hk => by
    obtain ⟨e1, e2⟩ := drop_cons hd
    have hi' : σ[i]? = some (.list vs) := (fr i n).trans hi
    have hlt : k < vs.length := (List.getElem?_eq_some_iff.mp e1).1
    refine r_lN (nx_item hi' e1) ?_
    refine ⟨_, rfl, rfl, ?_⟩
    refine he v (List.mem_of_getElem? e1) σ _ fr ?_
    refine ⟨_, ha, by simp; lia, ?_⟩
    refine lc_map he hi n hz h r (k + 1) _ _ e2 ?_ (fun j hj => (List.getElem?_set_ne (Ne.symm hj)).trans (fr j hj)) (by simp [hl]) (by lia)
    rw [g_eq ha, List.take_add_one, e1]
    simp
noncomputable def wput (p : Pt) : AV := .tup [wPUT, p.av]
section
set_option compiler.extract_closed false
variable {d i o : Nat} {σ : St} {K : AV → St → Prop} {ol : List AV}
theorem c_begun_cat {a b : AV} {ps : List Pt} (hf : Flat cCAT (.tup [.str cCAT, a, b]) (ps.map Pt.av)) (hok : ∀ p ∈ ps, p.ok) (hz : ps.length ≤ 90) (hj : (jn [] ps).length ≤ 90)
    (q : ∀ σ' w, (∀ j, j < σ.length → σ'[j]? = σ[j]?) → σ.length ≤ w → σ'[w]? = some (.list ((jn [] ps).map wput)) → K (.ref w) σ') : RC (d + 3) 3 [.inst 0 i, .tup [.str cCAT, a, b]] σ K := by
  refine r_call rfl rfl (by decide) ?_
  repeat' walk_at "ev1"
  refine r_lc (r_itL ?_)
  repeat' walk_at "ev1"
  refine c_row_of hf (by simp; lia) fun σ₁ f fr lf hf₁ => ?_
  repeat' walk_at "ev1"
  refine c_join hok hz hf₁ fun σ₂ f₂ fr₂ lf₂ hf₂ => ?_
  refine ⟨_, _, rfl, hf₂, ?_⟩
  have hl := lt_of_get hf₂
  have hlen1 := lt_of_get hf₁
  refine lc_map (σ₀ := σ₂ ++ [.list []]) (vs := (jn [] ps).map Pt.av) (g := fun v => .tup [wPUT, v]) (fun v q0 σ' K' q0 q' => ?_) (g_app hf₂) (by lia) (by simp; lia) (fun σ₃ h3 fr₃ l3 => ?_) _ 0 _ _ rfl ?_ (fun q0 q0 => rfl) rfl (by lia)
  · repeat' walk_at "ev1"
    exact q'
  · repeat' walk_at "ev1"
    have l2 : σ.length ≤ σ₂.length := by lia
    refine q σ₃ _ (fun j hj => ?_) l2 ?_
    · have e0 : σ[j]? = some σ[j] := List.getElem?_eq_getElem hj
      rw [fr₃ j (by lia), g_app ((fr₂ j (by lia)).trans ((fr j hj).trans e0)), e0]
    · rw [h3, List.map_map]; rfl
  · rw [g_new]; rfl
end

section
set_option compiler.extract_closed false
variable {σ : St} {i j : Nat}
theorem sliceR_list {vs : List AV} {o : AV} {lo hi : Option AV} {x : Int} {y : Option Nat} (h : σ[i]? = some (.list vs)) (hz : vs.length ≤ 100000) (e1 : intOr 0 lo = some x) (e2 : hiR hi = some y) : sliceR σ (.ref i) lo hi = some (.inr (cut x.toNat (y.getD vs.length) vs)) := by
  unfold sliceR
  have e0 : okLen σ (.ref i) = true := by simp only [okLen, h, decide_eq_true_eq]; exact hz
  rw [if_pos e0]
  unfold sliceR0
  rw [e1, e2]
  simp only [h]
theorem sliceL0 {vs : List AV} {b : Nat} (h : σ[i]? = some (.list vs)) (hz : vs.length ≤ 100000) (hb : b < 1000000) : sliceR σ (.ref i) none (some (.int b)) = some (.inr (vs.take b)) := by
  have := sliceR_list (o := .none) (lo := none) (x := 0) h hz rfl (hiR_n hb)
  rw [this]; simp [cut]
theorem sliceL1 {vs : List AV} {b : Nat} (h : σ[i]? = some (.list vs)) (hz : vs.length ≤ 100000) (hb : b < 1000000) : sliceR σ (.ref i) (some (.int b)) none = some (.inr (vs.drop b)) := by
  have := sliceR_list (o := .none) (hi := none) (y := none) h hz (intOr_n hb) rfl
  rw [this]; simp [cut]
theorem addL {a b : List AV} (h : σ[i]? = some (.list a)) (h2 : σ[j]? = some (.list b)) (hz : a.length + b.length ≤ 100000) : binL σ .add (.ref i) (.ref j) = some (a ++ b) := by
  show onList σ (.ref i) _ = _
  rw [onList_e h]
  show onList σ (.ref j) _ = _
  rw [onList_e h2]; exact if_pos hz
end
section
set_option compiler.extract_closed false
variable {d i : Nat} {σ : St} {K : AV → St → Prop} {self : AV}
theorem c_choice2 {a b : AV} (hi : σ[i]? = some (.list [a, b]))
    (q : ∀ σ' w e l, (∀ j, j < σ.length → σ'[j]? = σ[j]?) → σ.length ≤ w → σ.length ≤ e → σ.length ≤ l → e ≠ l → w ≠ e → w ≠ l → σ'[w]? = some (.list [.tup [wOPEN, .ref e], .tup [wPUT, a], .tup [wSHUT, .ref e], .tup [wPUT, b], .tup [wMEET, .ref e]]) →
      σ'[e]? = some (.list [.int (-1), .ref l]) → σ'[l]? = some (.list []) → K (.ref w) σ') : RC (d + 1) 4 [self, .ref i] σ K := by
  refine r_call rfl rfl (by decide) ?_
  repeat' walk_at "ev0"
  try refine r_ls ?_
  repeat' walk_at "ev0"
  try refine r_ls ?_
  repeat' walk_at "ev0"
  refine r_ng ?_
  repeat' walk_at "ev0"
  try refine r_ls ?_
  repeat' walk_at "ev0"
  have L1 : (σ ++ [AO.list []]).length = σ.length + 1 := by simp
  have L2 : (σ ++ [AO.list []] ++ [AO.list []]).length = σ.length + 2 := by simp
  have L3 : (σ ++ [AO.list []] ++ [AO.list []] ++ [AO.list [AV.int (-((1 : Nat) : Int)), AV.ref (σ.length + 1)]]).length = σ.length + 3 := by simp
  rw [L1, L2]
  have f1 : (σ ++ [AO.list []] ++ [AO.list []] ++ [AO.list [AV.int (-((1 : Nat) : Int)), AV.ref (σ.length + 1)]])[σ.length]? = some (.list []) := g_app (g_app g_new)
  have f2 : (σ ++ [AO.list []] ++ [AO.list []] ++ [AO.list [AV.int (-((1 : Nat) : Int)), AV.ref (σ.length + 1)]])[σ.length + 1]? = some (.list []) := by
    have := g_new (σ := σ ++ [AO.list []]) (y := AO.list [])
    rw [L1] at this; exact g_app this
  have f3 : (σ ++ [AO.list []] ++ [AO.list []] ++ [AO.list [AV.int (-((1 : Nat) : Int)), AV.ref (σ.length + 1)]])[σ.length + 2]? = some (.list [.int (-1), .ref (σ.length + 1)]) := by
    have := g_new (σ := σ ++ [AO.list []] ++ [AO.list []]) (y := AO.list [AV.int (-((1 : Nat) : Int)), AV.ref (σ.length + 1)])
    rw [L2] at this; exact this
  have f4 : (σ ++ [AO.list []] ++ [AO.list []] ++ [AO.list [AV.int (-((1 : Nat) : Int)), AV.ref (σ.length + 1)]])[i]? = some (.list [a, b]) := g_app (g_app (g_app hi))
  have f5 : ∀ j, j < σ.length → (σ ++ [AO.list []] ++ [AO.list []] ++ [AO.list [AV.int (-((1 : Nat) : Int)), AV.ref (σ.length + 1)]])[j]? = σ[j]? := frame_app (frame_app (frame_app fun q0 q0 => rfl))
  have hil := lt_of_get hi
  generalize (σ ++ [AO.list []] ++ [AO.list []] ++ [AO.list [AV.int (-((1 : Nat) : Int)), AV.ref (σ.length + 1)]]) = σ₁ at *
  refine r_sf (r_itL ?_)
  repeat' walk_at "ev0"
  refine r_bo ?_
  repeat' walk_at "ev0"
  refine exI (lenL f4 (by simp)) ?_
  repeat' walk_at "ev0"
  refine exI (sliceL0 (b := 1) f4 (by simp) (by lia)) ?_
  repeat' walk_at "ev0"
  refine ⟨_, _, rfl, g_new, ?_⟩
  refine r_f1 (v := a) (nx_item g_new rfl) ?_
  have f1' : (σ₁ ++ [AO.list (List.take 1 [a, b])])[σ.length]? = some (.list []) := g_app f1
  repeat' walk_at "ev0"
  refine ⟨bmL (by lia) f1', ?_⟩
  repeat' walk_at "ev0"
  try refine r_ls ?_
  repeat' walk_at "ev0"
  have hlt := lt_of_get f1'
  refine exI2 (bm_ext (g_app f1') g_new (by lia) (by simp)) ?_
  repeat' walk_at "ev0"
  refine r_fE (nx_end (vs := [a]) (g_ne (g_app g_new) (by have := lt_of_get f1; lia)) rfl) ?_
  repeat' walk_at "ev0"
  refine r_boL ?_
  repeat' walk_at "ev0"
  try refine r_ls ?_
  repeat' walk_at "ev0"
  refine r_bo ?_
  repeat' walk_at "ev0"
  have ne1 : σ.length ≠ i := by lia
  refine exI (lenL (g_ne (g_app (g_app f4)) ne1) (by simp)) ?_
  repeat' walk_at "ev0"
  refine exI (itemL (k := 1) (v := b) (g_ne (g_app (g_app f4)) ne1) rfl (by lia)) ?_
  repeat' walk_at "ev0"
  have hF := g_eq (x := AO.list ([] ++ [AV.tup [AV.str [111, 112, 101, 110], AV.ref (σ.length + 2)], AV.tup [AV.str [112, 117, 116], a], AV.tup [AV.str [115, 104, 117, 116], AV.ref (σ.length + 2)]])) (g_app (l := [AO.list [AV.tup [AV.str [111, 112, 101, 110], AV.ref (σ.length + 2)], AV.tup [AV.str [112, 117, 116], a], AV.tup [AV.str [115, 104, 117, 116], AV.ref (σ.length + 2)]]]) f1')
  refine exI (addL (g_app hF) g_new (by simp)) ?_
  repeat' walk_at "ev0"
  have lt1 := lt_of_get f1
  have lt2 := lt_of_get f2
  have lt3 := lt_of_get f3
  refine q _ _ (σ.length + 2) (σ.length + 1) (frame_app (frame_app (frame_set (frame_app (frame_app f5)) (Nat.le_refl _)))) ?_ (by lia) (by lia) (by lia) ?_ ?_ g_new ?_ ?_
  · simp; lia
  · simp; lia
  · simp; lia
  · exact g_app (g_app (g_ne (g_app (g_app f3)) (by lia)))
  · exact g_app (g_app (g_ne (g_app (g_app f2)) (by lia)))
end

section
set_option compiler.extract_closed false
variable {σ : St} {i j : Nat}
theorem storeL {vs : List AV} {k : Nat} {v : AV} (h : σ[i]? = some (.list vs)) (hk : k < vs.length) (hz : k < 1000000) : storeR σ (.ref i) (.int (k : Int)) v = some (σ.set i (.list (vs.set k v))) := by
  show ((onList σ (.ref i) fun i vs => if 0 ≤ (k : Int) ∧ (k : Int) < 1000000 ∧ (k : Int).toNat < vs.length then some (σ.set i (.list (vs.set (k : Int).toNat v))) else none) <|> none) = _
  rw [onList_e h, if_pos ⟨by lia, by lia, by simpa using hk⟩]; rfl
theorem revL {vs : List AV} (h : σ[i]? = some (.list vs)) (hz : vs.length ≤ 100000) : revR σ (.ref i) = some (.inr vs.reverse) := by
  simp [revR, okLen, revR0, h, hz]
end
section
set_option compiler.extract_closed false
variable {d i o e l : Nat} {σ : St} {K : AV → St → Prop} {ol : List AV}
theorem c_begun_alt {a b : AV} (hf : Flat cALT (.tup [.str cALT, a, b]) [a, b])
    (q : ∀ σ' w e l, (∀ j, j < σ.length → σ'[j]? = σ[j]?) → σ.length ≤ w → σ.length ≤ e → σ.length ≤ l → e ≠ l → w ≠ e → w ≠ l → σ'[w]? = some (.list [.tup [wOPEN, .ref e], .tup [wPUT, a], .tup [wSHUT, .ref e], .tup [wPUT, b], .tup [wMEET, .ref e]]) →
      σ'[e]? = some (.list [.int (-1), .ref l]) → σ'[l]? = some (.list []) → K (.ref w) σ') (hp : σ[i]? = some (.flds [(0, .ref o)])) : RC (d + 3) 3 [.inst 0 i, .tup [.str cALT, a, b]] σ K := by
  refine r_call rfl rfl (by decide) ?_
  repeat' walk_at "ev0"
  refine c_row_of hf (by simp) fun σ₁ f fr lf hf₁ => ?_
  repeat' walk_at "ev0"
  refine c_choice2 (d := d + 1) hf₁ fun σ₂ w e l fr₂ h1 h2 h3 h4 h5 h6 h7 h8 h9 => ?_
  have hlt := lt_of_get hf₁
  have hlen : σ.length ≤ σ₁.length := by lia
  repeat' walk_at "ev0"
  exact q σ₂ w e l (fun j hj => (fr₂ j (by lia)).trans (fr j hj)) (by lia) (by lia) (by lia) h4 h5 h6 h7 h8 h9
theorem c_bound_open {x : AV} (hp : σ[i]? = some (.flds [(0, .ref o)])) (ho : σ[o]? = some (.list ol)) (hz : ol.length < 90000) (he : σ[e]? = some (.list [x, .ref l])) (n : o ≠ e)
    (q : K .none ((σ.set o (.list (ol ++ [AV.none]))).set e (.list [.int (ol.length : Int), .ref l]))) : RC (d + 2) 6 [.inst 0 i, wOPEN, .ref e] σ K := by
  have ni : o ≠ i := ne_kd ho hp rfl
  refine r_call rfl rfl (by decide) ?_
  repeat' walk_at "ev0"
  refine c_emit hp ho hz ?_
  repeat' walk_at "ev0"
  refine exI (storeL (k := 0) (g_ne he n) (by simp) (by lia)) ?_
  repeat' walk_at "ev0"
  exact q
theorem c_bound_shut {at_ : Nat} {ll : List AV} (hp : σ[i]? = some (.flds [(0, .ref o)])) (ho : σ[o]? = some (.list ol)) (hz : ol.length < 90000) (he : σ[e]? = some (.list [.int (at_ : Int), .ref l])) (hl : σ[l]? = some (.list ll)) (n : o ≠ e) (n2 : o ≠ l) (n3 : e ≠ l) (ha : at_ < ol.length) (hlz : ll.length < 1000)
    (q : K .none (((σ.set o (.list (ol ++ [AV.none]))).set l (.list (ll ++ [.int (ol.length : Int)]))).set o (.list ((ol ++ [AV.none]).set at_ (oSPLIT (ol.length + 1)))))) : RC (d + 2) 6 [.inst 0 i, wSHUT, .ref e] σ K := by
  have ni : o ≠ i := ne_kd ho hp rfl
  have nl : l ≠ i := ne_kd hl hp rfl
  refine r_call rfl rfl (by decide) ?_
  repeat' walk_at "ev0"
  refine exI (itemL (k := 1) (v := .ref l) he rfl (by lia)) ?_
  refine ⟨bmL (by lia) hl, ?_⟩
  repeat' walk_at "ev0"
  refine c_emit hp ho hz ?_
  repeat' walk_at "ev0"
  refine exI2 (bm_app (g_ne hl n2) (by lia)) ?_
  repeat' walk_at "ev0"
  have ho2 : ((σ.set o (.list (ol ++ [AV.none]))).set l (.list (ll ++ [.int (ol.length : Int)])))[o]? = some (.list (ol ++ [AV.none])) := g_ne (g_eq ho) n2.symm
  refine exI (lenL ho2 (by simp; lia)) ?_
  repeat' walk_at "ev0"
  refine exI (itemL (k := 0) (v := .int (at_ : Int)) (g_ne (g_ne he n) n3.symm) rfl (by lia)) ?_
  refine exI (storeL ho2 (by simp; lia) (by lia)) ?_
  repeat' walk_at "ev0"
  have e1 : (((ol ++ [AV.none]).length : Nat) : Int) = ((ol.length + 1 : Nat) : Int) := by simp
  rw [e1]
  exact q
theorem c_bound_meet {x : AV} {at_ : Nat} (hp : σ[i]? = some (.flds [(0, .ref o)])) (ho : σ[o]? = some (.list ol)) (hz : ol.length < 90000) (he : σ[e]? = some (.list [x, .ref l])) (hl : σ[l]? = some (.list [.int (at_ : Int)])) (n2 : o ≠ l) (ha : at_ < ol.length)
    (q : K .none (σ.set o (.list (ol.set at_ (oJUMP ol.length))))) : RC (d + 2) 6 [.inst 0 i, wMEET, .ref e] σ K := by
  have ni : o ≠ i := ne_kd ho hp rfl
  refine r_call rfl rfl (by decide) ?_
  repeat' walk_at "ev0"
  refine r_sf (r_itL ?_)
  repeat' walk_at "ev0"
  refine exI (itemL (k := 1) (v := .ref l) he rfl (by lia)) ?_
  refine ⟨_, _, rfl, hl, ?_⟩
  refine r_f1 (v := .int (at_ : Int)) (nx_item hl rfl) ?_
  repeat' walk_at "ev0"
  refine exI (lenL ho (by lia)) ?_
  repeat' walk_at "ev0"
  refine exI (storeL ho ha (by lia)) ?_
  repeat' walk_at "ev0"
  refine r_fE (nx_end (g_ne hl n2) rfl) ?_
  repeat' walk_at "ev0"
  exact q
end

noncomputable abbrev putT : ME := .cm .gt (.bf 0 (.x 2)) (.c (AV.int 0))
noncomputable abbrev putB : List MS := [(.as (.tup [(.x 3), (.x 4)]) (.bm (.x 2) 1 [])), (.iff (.cm .eq (.x 3) (.g 15)) [(.ex (.bm (.x 2) 2 [(.sr (.mc (.x 0) 2 [(.x 4)]))]))] [(.iff (.cm .eq (.x 3) (.g 16)) [(.ex (.mc (.x 0) 0 [(.x 4)]))] [(.ex (.mc (.x 0) 5 [(.x 3), (.x 4)]))])])]
structure PX where
  d : Nat
  σ₀ : St
  i : Nat
  o : Nat
  w : Nat
  node : AV
  KS : Fl → Loc → St → Prop
structure PutC (P : PX) (KP : List (Nat × AO)) (W O : List AV) (σ : St) : Prop where
  hp : σ[P.i]? = some (.flds [(0, .ref P.o)])
  ho : σ[P.o]? = some (.list O)
  hw : σ[P.w]? = some (.list W)
  kp : ∀ x ∈ KP, σ[x.1]? = some x.2
  kn : ∀ x ∈ KP, x.1 ≠ P.o ∧ x.1 ≠ P.w ∧ P.σ₀.length ≤ x.1
  fr : ∀ j, j < P.σ₀.length → j ≠ P.o → σ[j]? = P.σ₀[j]?
  ow : P.o ≠ P.w
  lw : P.σ₀.length ≤ P.w
noncomputable def PX.Go (P : PX) (KP : List (Nat × AO)) (W O : List AV) : Prop := ∀ σ x3 x4, PutC P KP W O σ → RW (P.d + 3) [some (.inst 0 P.i), some P.node, some (.ref P.w), x3, x4] putT putB σ P.KS
section
set_option compiler.extract_closed false
variable {P : PX} {KP KP' : List (Nat × AO)} {W O W' O' : List AV} {σ σ' : St}
theorem PutC.now (C : PutC P KP W O σ) : P.w ≠ P.i := ne_kd C.hw C.hp rfl
theorem PutC.noi (C : PutC P KP W O σ) : P.o ≠ P.i := ne_kd C.ho C.hp rfl
theorem PutC.setW (C : PutC P KP W O σ) : PutC P KP W' O (σ.set P.w (.list W')) where
  hp := g_ne C.hp C.now
  ho := g_ne C.ho C.ow.symm
  hw := g_eq C.hw
  kp x hx := g_ne (C.kp x hx) (C.kn x hx).2.1.symm
  kn := C.kn
  fr j hj ho := (List.getElem?_set_ne (by have := C.lw; lia)).trans (C.fr j hj ho)
  ow := C.ow
  lw := C.lw
theorem PutC.setO (C : PutC P KP W O σ) : PutC P KP W O' (σ.set P.o (.list O')) where
  hp := g_ne C.hp C.noi
  ho := g_eq C.ho
  hw := g_ne C.hw C.ow
  kp x hx := g_ne (C.kp x hx) (C.kn x hx).1.symm
  kn := C.kn
  fr j hj ho := (List.getElem?_set_ne (Ne.symm ho)).trans (C.fr j hj ho)
  ow := C.ow
  lw := C.lw
theorem PutC.app {l : St} (C : PutC P KP W O σ) : PutC P KP W O (σ ++ l) where
  hp := g_app C.hp
  ho := g_app C.ho
  hw := g_app C.hw
  kp x hx := g_app (C.kp x hx)
  kn := C.kn
  fr j hj ho := by
    have := C.fr j hj ho
    rw [List.getElem?_eq_getElem hj] at this
    rw [g_app this, List.getElem?_eq_getElem hj]
  ow := C.ow
  lw := C.lw
theorem PutC.more (C : PutC P KP W O σ) (h : ∀ j, j < σ.length → σ'[j]? = σ[j]?) : PutC P KP W O σ' where
  hp := (h _ (lt_of_get C.hp)).trans C.hp
  ho := (h _ (lt_of_get C.ho)).trans C.ho
  hw := (h _ (lt_of_get C.hw)).trans C.hw
  kp x hx := (h _ (lt_of_get (C.kp x hx))).trans (C.kp x hx)
  kn := C.kn
  fr j hj ho := by
    have hlt := lt_of_get C.hw
    have := C.lw
    exact (h j (by lia)).trans (C.fr j hj ho)
  ow := C.ow
  lw := C.lw
theorem put_put {p : AV} (hz : W.length ≤ 2000) (hb : ∀ σ, PutC P KP W O σ → RC (P.d + 3) 3 [.inst 0 P.i, p] σ fun r σ' => ∃ u items KP' O', r = .ref u ∧ σ'[u]? = some (.list items) ∧ PutC P KP' W O' σ' ∧ items.length ≤ 200 ∧ P.Go KP' (W ++ items.reverse) O') :
    P.Go KP (W ++ [.tup [wPUT, p]]) O := by
  intro σ x3 x4 C
  refine r_w ?_
  repeat' walk_at "ev0"
  refine exI (lenL C.hw (by simp; lia)) ?_
  repeat' walk_at "ev0"
  refine Sw.eqt (show decide (((W ++ [AV.tup [wPUT, p]]).length : Int) > 0) = true from by simp) ?_
  repeat' walk_at "ev0"
  refine ⟨bmL (by lia) C.hw, ?_⟩
  repeat' walk_at "ev0"
  refine exI2 (bm_pop C.hw (by lia)) ?_
  repeat' walk_at "ev0"
  have C1 : PutC P KP W O (σ.set P.w (.list W)) := C.setW
  refine ⟨bmL (by lia) C1.hw, ?_⟩
  repeat' walk_at "ev0"
  refine ⟨_, _, _, rfl, isFl_i C1.hp, rfl, ?_⟩
  obtain ⟨r, σ', e1, u, items, KP', O', rfl, hu, C2, hi, go⟩ := hb _ C1
  refine ⟨_, σ', e1, ?_⟩
  refine exI (revL hu (by lia)) ?_
  repeat' walk_at "ev0"
  have hlt := lt_of_get C2.hw
  refine exI2 (bm_ext (g_app C2.hw) g_new (by lia) (by simp; lia)) ?_
  repeat' walk_at "ev0"
  exact go _ _ _ C2.app.setW
theorem put_emit {x : AV} (hz : W.length ≤ 2000) (ho : O.length ≤ 5000) (h : P.Go KP W (O ++ [x])) : P.Go KP (W ++ [.tup [wEMIT, x]]) O := by
  intro σ x3 x4 C
  refine r_w ?_
  repeat' walk_at "ev0"
  refine exI (lenL C.hw (by simp; lia)) ?_
  repeat' walk_at "ev0"
  refine Sw.eqt (show decide (((W ++ [AV.tup [wEMIT, x]]).length : Int) > 0) = true from by simp) ?_
  repeat' walk_at "ev0"
  refine ⟨bmL (by lia) C.hw, ?_⟩
  repeat' walk_at "ev0"
  refine exI2 (bm_pop C.hw (by lia)) ?_
  repeat' walk_at "ev0"
  have C1 : PutC P KP W O (σ.set P.w (.list W)) := C.setW
  refine ⟨_, _, _, rfl, isFl_i C1.hp, rfl, ?_⟩
  refine c_emit C1.hp C1.ho (by lia) ?_
  repeat' walk_at "ev0"
  exact h _ _ _ C1.setO
end

section
set_option compiler.extract_closed false
variable {P : PX} {KP KP' : List (Nat × AO)} {W O W' O' : List AV} {σ σ' : St}
theorem put_chars {t : AV} (hz : W.length ≤ 2000) (ho : O.length ≤ 5000) (h : P.Go KP W (O ++ [oONE (.str cCHARS) t])) : P.Go KP (W ++ [.tup [wPUT, .tup [.str cCHARS, t]]]) O :=
  put_put hz fun σ C => c_begun_chars C.hp C.ho (by lia) ⟨_, _, KP, _, rfl, g_new, C.setO.app, by simp, by simpa using h⟩
theorem put_rpos (hz : W.length ≤ 2000) (ho : O.length ≤ 5000) (h : P.Go KP W (O ++ [oONE (.str cRPOS) (.int 0)])) : P.Go KP (W ++ [.tup [wPUT, .tup [.str cRPOS, .int 0]]]) O :=
  put_put hz fun σ C => c_begun_rpos C.hp C.ho (by lia) ⟨_, _, KP, _, rfl, g_new, C.setO.app, by simp, by simpa using h⟩
theorem put_delay {t : AV} (hz : W.length ≤ 2000) (ho : O.length ≤ 5000) (h : P.Go KP W (O ++ [oASK t])) : P.Go KP (W ++ [.tup [wPUT, .tup [.str cDELAY, t]]]) O :=
  put_put hz fun σ C => c_begun_delay C.hp C.ho (by lia) ⟨_, _, KP, _, rfl, g_new, C.setO.app, by simp, by simpa using h⟩
theorem put_now {a b : AV} (hz : W.length ≤ 2000) (ho : O.length ≤ 5000) (h : P.Go KP (W ++ [.tup [wEMIT, oSET b]] ++ [.tup [wPUT, a]]) (O ++ [oMARK])) : P.Go KP (W ++ [.tup [wPUT, .tup [.str cNOW, a, b]]]) O :=
  put_put hz fun σ C => c_begun_now C.hp C.ho (by lia) ⟨_, _, KP, _, rfl, g_new, C.setO.app, by simp, by simpa using h⟩
theorem put_cat {a b : AV} {ps : List Pt} (hz : W.length ≤ 2000) (hf : Flat cCAT (.tup [.str cCAT, a, b]) (ps.map Pt.av)) (hok : ∀ p ∈ ps, p.ok) (hz2 : ps.length ≤ 90) (hj : (jn [] ps).length ≤ 90) (h : P.Go KP (W ++ ((jn [] ps).map wput).reverse) O) : P.Go KP (W ++ [.tup [wPUT, .tup [.str cCAT, a, b]]]) O :=
  put_put hz fun σ C => c_begun_cat hf hok hz2 hj fun σ' w fr lw hw => ⟨_, _, KP, _, rfl, hw, C.more fr, by simp; lia, h⟩
theorem put_open {x : AV} {e l : Nat} (hz : W.length ≤ 2000) (ho : O.length ≤ 5000) (n : e ≠ l) (h : P.Go ((e, .list [.int (O.length : Int), .ref l]) :: (l, .list []) :: KP) W (O ++ [AV.none])) (hk : ∀ x ∈ KP, x.1 ≠ e) :
    P.Go ((e, .list [x, .ref l]) :: (l, .list []) :: KP) (W ++ [.tup [wOPEN, .ref e]]) O := by
  intro σ x3 x4 C
  refine r_w ?_
  repeat' walk_at "ev0"
  refine exI (lenL C.hw (by simp; lia)) ?_
  repeat' walk_at "ev0"
  refine Sw.eqt (show decide (((W ++ [AV.tup [wOPEN, .ref e]]).length : Int) > 0) = true from by simp) ?_
  repeat' walk_at "ev0"
  refine ⟨bmL (by lia) C.hw, ?_⟩
  repeat' walk_at "ev0"
  refine exI2 (bm_pop C.hw (by lia)) ?_
  repeat' walk_at "ev0"
  have C1 : PutC P ((e, .list [x, .ref l]) :: (l, .list []) :: KP) W O (σ.set P.w (.list W)) := C.setW
  refine ⟨_, _, _, rfl, isFl_i C1.hp, rfl, ?_⟩
  have he := C1.kp _ (List.mem_cons_self (a := (e, AO.list [x, .ref l])) (l := (l, .list []) :: KP))
  have hn := C1.kn _ (List.mem_cons_self (a := (e, AO.list [x, .ref l])) (l := (l, .list []) :: KP))
  refine c_bound_open C1.hp C1.ho (by lia) he hn.1.symm ?_
  repeat' walk_at "ev0"
  have C2 := C1.setO (O' := O ++ [AV.none])
  refine h _ _ _ ⟨g_ne C2.hp (fun q => by have a := C2.kp _ List.mem_cons_self; have b := C2.hp; dsimp only at a; rw [q, b] at a; cases a), g_ne C2.ho hn.1, g_ne C2.hw hn.2.1, fun y hy => ?_, fun y hy => ?_, fun j hj hjo => ?_, C2.ow, C2.lw⟩
  · rcases List.mem_cons.mp hy with rfl | hy
    · exact g_eq (C2.kp _ List.mem_cons_self)
    · have hy' := C2.kp y (List.mem_cons_of_mem _ hy)
      refine g_ne hy' fun q => ?_
      rcases List.mem_cons.mp hy with rfl | hy
      · exact n q
      · exact hk y hy q.symm
  · rcases List.mem_cons.mp hy with rfl | hy
    · exact hn
    · exact C2.kn y (List.mem_cons_of_mem _ hy)
  · exact (List.getElem?_set_ne (by have := hn.2.2; lia)).trans (C2.fr j hj hjo)
theorem put_shut {e l at_ : Nat} {ll : List AV} (hz : W.length ≤ 2000) (ho : O.length ≤ 5000) (n : e ≠ l) (ha : at_ < O.length) (hl : ll.length < 1000) (hk : ∀ x ∈ KP, x.1 ≠ l)
    (h : P.Go ((e, .list [.int (at_ : Int), .ref l]) :: (l, .list (ll ++ [.int (O.length : Int)])) :: KP) W ((O ++ [AV.none]).set at_ (oSPLIT (O.length + 1)))) :
    P.Go ((e, .list [.int (at_ : Int), .ref l]) :: (l, .list ll) :: KP) (W ++ [.tup [wSHUT, .ref e]]) O := by
  intro σ x3 x4 C
  refine r_w ?_
  repeat' walk_at "ev0"
  refine exI (lenL C.hw (by simp; lia)) ?_
  repeat' walk_at "ev0"
  refine Sw.eqt (show decide (((W ++ [AV.tup [wSHUT, .ref e]]).length : Int) > 0) = true from by simp) ?_
  repeat' walk_at "ev0"
  refine ⟨bmL (by lia) C.hw, ?_⟩
  repeat' walk_at "ev0"
  refine exI2 (bm_pop C.hw (by lia)) ?_
  repeat' walk_at "ev0"
  have C1 : PutC P ((e, .list [.int (at_ : Int), .ref l]) :: (l, .list ll) :: KP) W O (σ.set P.w (.list W)) := C.setW
  refine ⟨_, _, _, rfl, isFl_i C1.hp, rfl, ?_⟩
  have he := C1.kp _ (List.mem_cons_self (a := (e, AO.list [.int (at_ : Int), .ref l])) (l := (l, .list ll) :: KP))
  have hn := C1.kn _ (List.mem_cons_self (a := (e, AO.list [.int (at_ : Int), .ref l])) (l := (l, .list ll) :: KP))
  have hle := C1.kp _ (List.mem_cons_of_mem (e, AO.list [.int (at_ : Int), .ref l]) (List.mem_cons_self (a := (l, AO.list ll)) (l := KP)))
  have hln := C1.kn _ (List.mem_cons_of_mem (e, AO.list [.int (at_ : Int), .ref l]) (List.mem_cons_self (a := (l, AO.list ll)) (l := KP)))
  refine c_bound_shut C1.hp C1.ho (by lia) he hle hn.1.symm hln.1.symm n ha hl ?_
  repeat' walk_at "ev0"
  have C2 := C1.setO (O' := O ++ [AV.none])
  have hle2 := C2.kp _ (List.mem_cons_of_mem (e, AO.list [.int (at_ : Int), .ref l]) (List.mem_cons_self (a := (l, AO.list ll)) (l := KP)))
  have C3 : PutC P ((e, .list [.int (at_ : Int), .ref l]) :: (l, .list (ll ++ [.int (O.length : Int)])) :: KP) W (O ++ [AV.none]) (((σ.set P.w (.list W)).set P.o (.list (O ++ [AV.none]))).set l (.list (ll ++ [.int (O.length : Int)]))) := by
    refine ⟨g_ne C2.hp (fun q => by have a := hle2; have b := C2.hp; dsimp only at a; rw [q, b] at a; cases a), g_ne C2.ho hln.1, g_ne C2.hw hln.2.1, fun y hy => ?_, fun y hy => ?_, fun j hj hjo => ?_, C2.ow, C2.lw⟩
    · rcases List.mem_cons.mp hy with rfl | hy
      · exact g_ne (C2.kp _ List.mem_cons_self) n.symm
      · rcases List.mem_cons.mp hy with rfl | hy
        · exact g_eq hle2
        · exact g_ne (C2.kp y (List.mem_cons_of_mem _ (List.mem_cons_of_mem _ hy))) (Ne.symm (hk y hy))
    · rcases List.mem_cons.mp hy with rfl | hy
      · exact hn
      · rcases List.mem_cons.mp hy with rfl | hy
        · exact hln
        · exact C2.kn y (List.mem_cons_of_mem _ (List.mem_cons_of_mem _ hy))
    · exact (List.getElem?_set_ne (by have := hln.2.2; lia)).trans (C2.fr j hj hjo)
  exact h _ _ _ C3.setO
theorem put_meet {x : AV} {e l at_ : Nat} (hz : W.length ≤ 2000) (ho : O.length ≤ 5000) (ha : at_ < O.length) (h : P.Go KP W (O.set at_ (oJUMP O.length))) :
    P.Go ((e, .list [x, .ref l]) :: (l, .list [.int (at_ : Int)]) :: KP) (W ++ [.tup [wMEET, .ref e]]) O := by
  intro σ x3 x4 C
  refine r_w ?_
  repeat' walk_at "ev0"
  refine exI (lenL C.hw (by simp; lia)) ?_
  repeat' walk_at "ev0"
  refine Sw.eqt (show decide (((W ++ [AV.tup [wMEET, .ref e]]).length : Int) > 0) = true from by simp) ?_
  repeat' walk_at "ev0"
  refine ⟨bmL (by lia) C.hw, ?_⟩
  repeat' walk_at "ev0"
  refine exI2 (bm_pop C.hw (by lia)) ?_
  repeat' walk_at "ev0"
  have C1 : PutC P ((e, .list [x, .ref l]) :: (l, .list [.int (at_ : Int)]) :: KP) W O (σ.set P.w (.list W)) := C.setW
  refine ⟨_, _, _, rfl, isFl_i C1.hp, rfl, ?_⟩
  have he := C1.kp _ (List.mem_cons_self (a := (e, AO.list [x, .ref l])) (l := (l, .list [.int (at_ : Int)]) :: KP))
  have hle := C1.kp _ (List.mem_cons_of_mem (e, AO.list [x, .ref l]) (List.mem_cons_self (a := (l, AO.list [.int (at_ : Int)])) (l := KP)))
  have hln := C1.kn _ (List.mem_cons_of_mem (e, AO.list [x, .ref l]) (List.mem_cons_self (a := (l, AO.list [.int (at_ : Int)])) (l := KP)))
  refine c_bound_meet C1.hp C1.ho (by lia) he hle hln.1.symm ha ?_
  repeat' walk_at "ev0"
  have C2 := C1.setO (O' := O.set at_ (oJUMP O.length))
  exact h _ _ _ ⟨C2.hp, C2.ho, C2.hw, fun y hy => C2.kp y (List.mem_cons_of_mem _ (List.mem_cons_of_mem _ hy)), fun y hy => C2.kn y (List.mem_cons_of_mem _ (List.mem_cons_of_mem _ hy)), C2.fr, C2.ow, C2.lw⟩
end

theorem set_mid {α : Type} {x y : α} {r : List α} : ∀ {l : List α}, (l ++ x :: r).set l.length y = l ++ y :: r
  | [] => rfl
  | a :: l => by simp only [List.cons_append, List.length_cons, List.set_cons_succ, set_mid (l := l)]
section
set_option compiler.extract_closed false
variable {P : PX} {KP KP' : List (Nat × AO)} {W O W' O' : List AV} {σ σ' : St}
theorem put_alt0 {a b : AV} (hz : W.length ≤ 2000) (hf : Flat cALT (.tup [.str cALT, a, b]) [a, b]) (h : ∀ e l, e ≠ l → (∀ x ∈ KP, x.1 ≠ e) → (∀ x ∈ KP, x.1 ≠ l) →
    P.Go ((e, .list [.int (-1), .ref l]) :: (l, .list []) :: KP) (W ++ [.tup [wMEET, .ref e]] ++ [.tup [wPUT, b]] ++ [.tup [wSHUT, .ref e]] ++ [.tup [wPUT, a]] ++ [.tup [wOPEN, .ref e]]) O) : P.Go KP (W ++ [.tup [wPUT, .tup [.str cALT, a, b]]]) O := by
  refine put_put hz fun σ C => c_begun_alt hf (fun σ' w e l fr h1 h2 h3 h4 h5 h6 h7 h8 h9 => ?_) C.hp
  have C2 := C.more fr
  have hlt := lt_of_get C.hw
  have hlw := C.lw
  have hlo := lt_of_get C.ho
  refine ⟨_, _, (e, .list [.int (-1), .ref l]) :: (l, .list []) :: KP, O, rfl, h7, ⟨C2.hp, C2.ho, C2.hw, fun x hx => ?_, fun x hx => ?_, C2.fr, C2.ow, C2.lw⟩, by simp, ?_⟩
  · rcases List.mem_cons.mp hx with rfl | hx
    · exact h8
    · rcases List.mem_cons.mp hx with rfl | hx
      · exact h9
      · exact C2.kp x hx
  · rcases List.mem_cons.mp hx with rfl | hx
    · exact ⟨by show e ≠ _; lia, by show e ≠ _; lia, by show _ ≤ e; lia⟩
    · rcases List.mem_cons.mp hx with rfl | hx
      · exact ⟨by show l ≠ _; lia, by show l ≠ _; lia, by show _ ≤ l; lia⟩
      · exact C2.kn x hx
  · have := h e l h4 (fun x hx => by have := lt_of_get (C.kp x hx); lia) (fun x hx => by have := lt_of_get (C.kp x hx); lia)
    simpa using this
noncomputable def PX.Lays (P : PX) (a : AV) (ca : List AV) : Prop := ∀ KP W O, W.length ≤ 1500 → O.length ≤ 1500 → P.Go KP W (O ++ ca) → P.Go KP (W ++ [.tup [wPUT, a]]) O
noncomputable def altCode (n : Nat) (ca cb : List AV) : List AV := [oSPLIT (n + ca.length + 2)] ++ ca ++ [oJUMP (n + ca.length + cb.length + 2)] ++ cb
theorem put_alt {a b : AV} {ca cb : List AV} (ha : P.Lays a ca) (hb : P.Lays b cb) (la : ca.length ≤ 100) (lb : cb.length ≤ 100) (hf : Flat cALT (.tup [.str cALT, a, b]) [a, b]) (hz : W.length ≤ 1000) (ho : O.length ≤ 1000)
    (h : P.Go KP W (O ++ altCode O.length ca cb)) : P.Go KP (W ++ [.tup [wPUT, .tup [.str cALT, a, b]]]) O := by
  refine put_alt0 (by lia) hf fun e l n ke kl => ?_
  refine put_open (by simp; lia) (by lia) n ?_ ke
  refine ha _ _ _ (by simp; lia) (by simp; lia) ?_
  refine put_shut (by simp; lia) (by simp; lia) n (by simp <;> lia) (by simp) kl ?_
  refine hb _ _ _ (by simp; lia) (by simp; lia) ?_
  refine put_meet (at_ := (O ++ [AV.none] ++ ca).length) (by lia) (by simp; lia) (by simp <;> lia) ?_
  have s1 : (O ++ [AV.none] ++ ca ++ [AV.none]).set O.length (oSPLIT ((O ++ [AV.none] ++ ca).length + 1)) = O ++ [oSPLIT (O.length + ca.length + 2)] ++ ca ++ [AV.none] := by
    rw [show O ++ [AV.none] ++ ca ++ [AV.none] = O ++ AV.none :: (ca ++ [AV.none]) from by simp, set_mid]
    rw [show (O ++ [AV.none] ++ ca).length + 1 = O.length + ca.length + 2 from by simp; lia]
    simp
  have e1 : ((O ++ [AV.none] ++ ca ++ [AV.none]).set O.length (oSPLIT ((O ++ [AV.none] ++ ca).length + 1)) ++ cb).set (O ++ [AV.none] ++ ca).length (oJUMP ((O ++ [AV.none] ++ ca ++ [AV.none]).set O.length (oSPLIT ((O ++ [AV.none] ++ ca).length + 1)) ++ cb).length) = O ++ altCode O.length ca cb := by
    rw [s1]
    rw [show O ++ [oSPLIT (O.length + ca.length + 2)] ++ ca ++ [AV.none] ++ cb = (O ++ [oSPLIT (O.length + ca.length + 2)] ++ ca) ++ AV.none :: cb from by simp]
    rw [show (O ++ [AV.none] ++ ca).length = (O ++ [oSPLIT (O.length + ca.length + 2)] ++ ca).length from by simp, set_mid]
    rw [show ((O ++ [oSPLIT (O.length + ca.length + 2)] ++ ca) ++ AV.none :: cb).length = O.length + ca.length + cb.length + 2 from by simp; lia]
    unfold altCode
    simp
  rw [e1]
  exact h
end

noncomputable def tT : AV := .tup [.str cCHARS, .str [116]]
noncomputable def tF : AV := .tup [.str cCHARS, .str [102]]
noncomputable def dl (n : List Nat) : AV := .tup [.str cDELAY, .tup [.str cNAME, .str n]]
noncomputable def ct (a b : AV) : AV := .tup [.str cCAT, a, b]
noncomputable def al (a b : AV) : AV := .tup [.str cALT, a, b]
noncomputable def nw_ (a r : AV) : AV := .tup [.str cNOW, a, r]
noncomputable def rpos0 : AV := .tup [.str cRPOS, .int 0]
noncomputable abbrev Cl := List Nat × Bool
noncomputable def Cl.av (c : Cl) : AV := if c.2 then ct (dl c.1) tF else ct tT (dl c.1)
noncomputable def Cl.code (c : Cl) : List AV := if c.2 then [oASK (.tup [.str cNAME, .str c.1]), oONE (.str cCHARS) (.str [102])] else [oONE (.str cCHARS) (.str [116]), oASK (.tup [.str cNAME, .str c.1])]
noncomputable def varA (r : AV) : AV := ct (nw_ tT r) tF
noncomputable def varB (r : AV) : AV := ct tT (nw_ tF r)
noncomputable def varAc (r : AV) : List AV := [oMARK, oONE (.str cCHARS) (.str [116]), oSET r, oONE (.str cCHARS) (.str [102])]
noncomputable def varBc (r : AV) : List AV := [oONE (.str cCHARS) (.str [116]), oMARK, oONE (.str cCHARS) (.str [102]), oSET r]
section
set_option compiler.extract_closed false
variable {P : PX}
theorem ne_cat1 : cNOW ≠ cCAT := by decide
theorem ne_cat2 : cCHARS ≠ cCAT := by decide
theorem ne_cat3 : cDELAY ≠ cCAT := by decide
theorem ne_cat4 : cALT ≠ cCAT := by decide
theorem ne_cat5 : cRPOS ≠ cCAT := by decide
theorem ok_now {a r : AV} : Pt.ok (.o (nw_ a r)) := ⟨_, _, rfl, by decide⟩
theorem ok_dl {n : List Nat} : Pt.ok (.o (dl n)) := ⟨_, _, rfl, by decide⟩
theorem ok_t {s : List Nat} (h : s ≠ []) (h2 : s.length ≤ 10) : Pt.ok (.t s) := ⟨h, h2⟩
theorem lays_varA {r : AV} : P.Lays (varA r) (varAc r) := fun KP W O hz ho h => by
  refine put_cat (ps := [.o (nw_ tT r), .t [102]]) (by lia) (.cat (la := [nw_ tT r]) (lb := [tF]) (.leaf ne_cat1) (.leaf ne_cat2)) (fun p hp => ?_) (by simp) (by simp [jn]) ?_
  · simp at hp; rcases hp with rfl | rfl
    · exact ok_now
    · exact ok_t (by simp) (by simp)
  · show P.Go KP (W ++ [wput (.t [102]), wput (.o (nw_ tT r))]) O
    rw [show W ++ [wput (.t [102]), wput (.o (nw_ tT r))] = W ++ [wput (.t [102])] ++ [.tup [wPUT, .tup [.str cNOW, tT, r]]] from by simp [wput, Pt.av, nw_]]
    refine put_now (by simp; lia) (by lia) ?_
    refine put_chars (by simp; lia) (by simp; lia) ?_
    refine put_emit (by simp; lia) (by simp; lia) ?_
    refine put_chars (by lia) (by simp; lia) ?_
    simpa [varAc] using h
theorem lays_varB {r : AV} : P.Lays (varB r) (varBc r) := fun KP W O hz ho h => by
  refine put_cat (ps := [.t [116], .o (nw_ tF r)]) (by lia) (.cat (la := [tT]) (lb := [nw_ tF r]) (.leaf ne_cat2) (.leaf ne_cat1)) (fun p hp => ?_) (by simp) (by simp [jn]) ?_
  · simp at hp; rcases hp with rfl | rfl
    · exact ok_t (by simp) (by simp)
    · exact ok_now
  · show P.Go KP (W ++ [wput (.o (nw_ tF r)), wput (.t [116])]) O
    rw [show W ++ [wput (.o (nw_ tF r)), wput (.t [116])] = W ++ [.tup [wPUT, .tup [.str cNOW, tF, r]]] ++ [.tup [wPUT, .tup [.str cCHARS, .str [116]]]] from by simp [wput, Pt.av, nw_]]
    refine put_chars (by simp; lia) (by lia) ?_
    refine put_now (by lia) (by simp; lia) ?_
    refine put_chars (by simp; lia) (by simp; lia) ?_
    refine put_emit (by lia) (by simp; lia) ?_
    simpa [varBc] using h
theorem lays_cl {c : Cl} : P.Lays c.av c.code := fun KP W O hz ho h => by
  obtain ⟨n, b⟩ := c
  cases b with
  | true =>
    refine put_cat (ps := [.o (dl n), .t [102]]) (by lia) (.cat (la := [dl n]) (lb := [tF]) (.leaf ne_cat3) (.leaf ne_cat2)) (fun p hp => ?_) (by simp) (by simp [jn]) ?_
    · simp at hp; rcases hp with rfl | rfl
      · exact ok_dl
      · exact ok_t (by simp) (by simp)
    · show P.Go KP (W ++ [wput (.t [102]), wput (.o (dl n))]) O
      rw [show W ++ [wput (.t [102]), wput (.o (dl n))] = W ++ [.tup [wPUT, .tup [.str cCHARS, .str [102]]]] ++ [.tup [wPUT, .tup [.str cDELAY, .tup [.str cNAME, .str n]]]] from by simp [wput, Pt.av, dl]]
      refine put_delay (by simp; lia) (by lia) ?_
      refine put_chars (by lia) (by simp; lia) ?_
      simpa [Cl.code] using h
  | false =>
    refine put_cat (ps := [.t [116], .o (dl n)]) (by lia) (.cat (la := [tT]) (lb := [dl n]) (.leaf ne_cat2) (.leaf ne_cat3)) (fun p hp => ?_) (by simp) (by simp [jn]) ?_
    · simp at hp; rcases hp with rfl | rfl
      · exact ok_t (by simp) (by simp)
      · exact ok_dl
    · show P.Go KP (W ++ [wput (.o (dl n)), wput (.t [116])]) O
      rw [show W ++ [wput (.o (dl n)), wput (.t [116])] = W ++ [.tup [wPUT, .tup [.str cDELAY, .tup [.str cNAME, .str n]]]] ++ [.tup [wPUT, .tup [.str cCHARS, .str [116]]]] from by simp [wput, Pt.av, dl]]
      refine put_chars (by simp; lia) (by lia) ?_
      refine put_delay (by lia) (by simp; lia) ?_
      simpa [Cl.code] using h
end
inductive Q where
  | t (s : List Nat)
  | d (n : List Nat)
  | v (r : AV)
  | c2 (a b : Cl)
  | e
noncomputable def Q.pt : Q → Pt
  | .t s => .t s
  | .d n => .o (dl n)
  | .v r => .o (al (varA r) (varB r))
  | .c2 a b => .o (al a.av b.av)
  | .e => .o rpos0
noncomputable def jnQ : List Q → List Q → List Q
  | acc, [] => acc
  | acc, .t s :: r => match acc.getLast? with
    | some (.t u) => jnQ (acc.dropLast ++ [.t (u ++ s)]) r
    | _ => jnQ (acc ++ [.t s]) r
  | acc, q :: r => jnQ (acc ++ [q]) r
noncomputable def Q.code : Q → Nat → List AV
  | .t s, _ => [oONE (.str cCHARS) (.str s)]
  | .d n, _ => [oASK (.tup [.str cNAME, .str n])]
  | .v r, k => altCode k (varAc r) (varBc r)
  | .c2 a b, k => altCode k a.code b.code
  | .e, _ => [oONE (.str cRPOS) (.int 0)]
noncomputable def codes : Nat → List Q → List AV
  | _, [] => []
  | n, q :: r => q.code n ++ codes (n + (q.code n).length) r
section
set_option compiler.extract_closed false
variable {P : PX} {KP : List (Nat × AO)} {W O : List AV}
theorem cl_flat {a : Cl} : ∃ k rest, a.av = .tup (.str k :: rest) ∧ k ≠ cALT := by
  obtain ⟨n, b⟩ := a
  cases b <;> exact ⟨_, _, rfl, by decide⟩
theorem cl_len {a : Cl} : a.code.length = 2 := by obtain ⟨n, b⟩ := a; cases b <;> rfl
theorem q_put {q : Q} (hz : W.length ≤ 1000) (ho : O.length ≤ 1000) (h : P.Go KP W (O ++ q.code O.length)) : P.Go KP (W ++ [wput q.pt]) O := by
  cases q with
  | t s => exact put_chars (by lia) (by lia) h
  | d n => exact put_delay (by lia) (by lia) h
  | v r => exact put_alt lays_varA lays_varB (by simp [varAc]) (by simp [varBc]) (.cat (la := [varA r]) (lb := [varB r]) (.leaf (by decide)) (.leaf (by decide))) hz ho h
  | c2 a b =>
    obtain ⟨k, rest, e1, n1⟩ := cl_flat (a := a)
    obtain ⟨k2, rest2, e2, n2⟩ := cl_flat (a := b)
    refine put_alt lays_cl lays_cl (by rw [cl_len]; lia) (by rw [cl_len]; lia) (.cat (la := [a.av]) (lb := [b.av]) ?_ ?_) hz ho h
    · rw [e1]; exact .leaf n1
    · rw [e2]; exact .leaf n2
  | e => exact put_rpos (by lia) (by lia) h
theorem qs_put : ∀ (l : List Q) (O : List AV), W.length + l.length ≤ 900 → O.length + 20 * l.length ≤ 900 → P.Go KP W (O ++ codes O.length l) → P.Go KP (W ++ (l.map fun q => wput q.pt).reverse) O
  | [], O, h1, h2, h => by simpa [codes] using h
  | q :: r, O, h1, h2, h => by
    simp at h1 h2
    rw [List.map_cons, List.reverse_cons, ← List.append_assoc]
    refine q_put (by simp; lia) (by lia) ?_
    have hl : (q.code O.length).length ≤ 20 := by
      cases q with
      | t s => simp [Q.code]
      | d n => simp [Q.code]
      | v r => simp [Q.code, altCode, varAc, varBc]
      | c2 a b => simp only [Q.code, altCode, List.length_append, cl_len, List.length_cons, List.length_nil]; lia
      | e => simp [Q.code]
    refine qs_put r _ (by lia) (by simp; lia) ?_
    simpa [codes] using h
end

theorem jnQ_pt : ∀ (r acc : List Q), (jnQ acc r).map Q.pt = jn (acc.map Q.pt) (r.map Q.pt)
  | [], acc => by simp [jnQ, jn]
  | .d n :: r, acc => by rw [show jnQ acc (.d n :: r) = jnQ (acc ++ [.d n]) r from rfl, jnQ_pt r]; simp [jn, Q.pt]
  | .v x :: r, acc => by rw [show jnQ acc (.v x :: r) = jnQ (acc ++ [.v x]) r from rfl, jnQ_pt r]; simp [jn, Q.pt]
  | .c2 a b :: r, acc => by rw [show jnQ acc (.c2 a b :: r) = jnQ (acc ++ [.c2 a b]) r from rfl, jnQ_pt r]; simp [jn, Q.pt]
  | .e :: r, acc => by rw [show jnQ acc (.e :: r) = jnQ (acc ++ [.e]) r from rfl, jnQ_pt r]; simp [jn, Q.pt]
  | .t s :: r, acc => by
    rcases List.eq_nil_or_concat acc with rfl | ⟨init, last, rfl⟩
    · have := jnQ_pt r [.t s]
      simp only [jnQ, jn, List.map_cons, Q.pt, List.map_nil, List.getLast?_nil, List.nil_append] at this ⊢
      exact this
    · rw [List.concat_eq_append]
      cases last with
      | t u =>
        have := jnQ_pt r (init ++ [.t (u ++ s)])
        simp only [jnQ, jn, List.map_cons, List.map_append, Q.pt, List.map_nil, List.getLast?_append, List.getLast?_singleton, Option.some_or, List.dropLast_concat] at this ⊢
        exact this
      | d x => have := jnQ_pt r (init ++ [.d x] ++ [.t s]); simpa [jnQ, jn, Q.pt] using this
      | v x => have := jnQ_pt r (init ++ [.v x] ++ [.t s]); simpa [jnQ, jn, Q.pt] using this
      | c2 a b => have := jnQ_pt r (init ++ [.c2 a b] ++ [.t s]); simpa [jnQ, jn, Q.pt] using this
      | e => have := jnQ_pt r (init ++ [.e] ++ [.t s]); simpa [jnQ, jn, Q.pt] using this
inductive Itm where
  | v (r : AV)
  | c1 (a : Cl)
  | c2 (a b : Cl)
noncomputable def Itm.av : Itm → AV
  | .v r => al (varA r) (varB r)
  | .c1 a => a.av
  | .c2 a b => al a.av b.av
noncomputable def nodeOf (last : AV) : List Itm → AV
  | [] => last
  | x :: r => ct x.av (nodeOf last r)
noncomputable def Cl.qs (c : Cl) : List Q := if c.2 then [.d c.1, .t [102]] else [.t [116], .d c.1]
noncomputable def Itm.qs : Itm → List Q
  | .v r => [.v r]
  | .c1 a => a.qs
  | .c2 a b => [.c2 a b]
noncomputable def qsOf (l : List Itm) : List Q := l.flatMap Itm.qs ++ [.e]
theorem itm_flat {x : Itm} : Flat cCAT x.av ((x.qs.map Q.pt).map Pt.av) := by
  cases x with
  | v r => exact .leaf ne_cat4
  | c1 a =>
    obtain ⟨n, b⟩ := a
    cases b with
    | true => exact .cat (la := [dl n]) (lb := [tF]) (.leaf ne_cat3) (.leaf ne_cat2)
    | false => exact .cat (la := [tT]) (lb := [dl n]) (.leaf ne_cat2) (.leaf ne_cat3)
  | c2 a b => exact .leaf ne_cat4
theorem node_flat : ∀ l : List Itm, Flat cCAT (nodeOf rpos0 l) (((qsOf l).map Q.pt).map Pt.av)
  | [] => .leaf ne_cat5
  | x :: r => by
    have := Flat.cat (c := cCAT) (itm_flat (x := x)) (node_flat r)
    simpa [nodeOf, qsOf, ct] using this
theorem qs_ok (l : List Itm) : ∀ p ∈ (qsOf l).map Q.pt, p.ok := by
  intro p hp
  obtain ⟨q, hq, rfl⟩ := List.mem_map.mp hp
  unfold qsOf at hq
  rcases List.mem_append.mp hq with hq | hq
  · obtain ⟨x, _, hx⟩ := List.mem_flatMap.mp hq
    cases x with
    | v r => simp [Itm.qs] at hx; subst hx; exact ⟨_, _, rfl, by decide⟩
    | c1 a =>
      obtain ⟨n, b⟩ := a
      cases b <;> (simp [Itm.qs, Cl.qs] at hx; rcases hx with rfl | rfl) <;> first | exact ok_dl | exact ok_t (by simp) (by simp)
    | c2 a b => simp [Itm.qs] at hx; subst hx; exact ⟨_, _, rfl, by decide⟩
  · rw [List.mem_singleton.mp hq]; exact ⟨_, _, rfl, by decide⟩

section
set_option compiler.extract_closed false
variable {d i o : Nat} {σ : St} {K : AV → St → Prop} {node : AV} {O : List AV}
theorem c_put (hp : σ[i]? = some (.flds [(0, .ref o)])) (ho : σ[o]? = some (.list [])) (go : ∀ P : PX, P.Go [] [] O → P.Go [] ([] ++ [.tup [wPUT, node]]) [])
    (q : ∀ σ', (∀ j, j < σ.length → j ≠ o → σ'[j]? = σ[j]?) → σ'[o]? = some (.list O) → σ.length ≤ σ'.length → K .none σ') : RC (d + 4) 2 [.inst 0 i, node] σ K := by
  refine r_call rfl rfl (by decide) ?_
  repeat' walk_at "ev0"
  try refine r_ls ?_
  repeat' walk_at "ev0"
  refine r_sh ?_
  have hlo := lt_of_get ho
  have key : (⟨d, σ, i, o, σ.length, node, goOn (d + 3) [] fun fl q0 σ' => K (flOf fl) σ'⟩ : PX).Go [] ([] ++ [.tup [wPUT, node]]) [] := by
    refine go _ fun σ' x3 x4 C => ?_
    refine r_w ?_
    repeat' walk_at "ev0"
    refine exI (lenL C.hw (by simp)) ?_
    repeat' walk_at "ev0"
    have hlt := lt_of_get C.hw
    exact q σ' C.fr C.ho (Nat.le_of_lt hlt)
  exact key (σ ++ [.list [.tup [wPUT, node]]]) none none ⟨g_app hp, g_app ho, g_new, by simp, by simp, fun j hj q0 => by
    have e : σ[j]? = some σ[j] := List.getElem?_eq_getElem hj
    show (σ ++ _)[j]? = σ[j]?
    rw [g_app e, e], by show o ≠ σ.length; lia, Nat.le_refl _⟩
theorem c_put_node {l : List Itm} {x : Itm} (hz : (qsOf (x :: l)).length ≤ 40) (hj : (jnQ [] (qsOf (x :: l))).length ≤ 40) (hp : σ[i]? = some (.flds [(0, .ref o)])) (ho : σ[o]? = some (.list []))
    (q : ∀ σ', (∀ j, j < σ.length → j ≠ o → σ'[j]? = σ[j]?) → σ'[o]? = some (.list (codes 0 (jnQ [] (qsOf (x :: l))))) → σ.length ≤ σ'.length → K .none σ') : RC (d + 4) 2 [.inst 0 i, nodeOf rpos0 (x :: l)] σ K := by
  refine c_put hp ho (fun P h => ?_) q
  have e := jnQ_pt (qsOf (x :: l)) []
  refine put_cat (ps := (qsOf (x :: l)).map Q.pt) (by simp) (node_flat (x :: l)) (qs_ok _) (by simp; lia) (by rw [show jn [] ((qsOf (x :: l)).map Q.pt) = (jnQ [] (qsOf (x :: l))).map Q.pt from by rw [e]; rfl]; simp; lia) ?_
  rw [show jn [] ((qsOf (x :: l)).map Q.pt) = (jnQ [] (qsOf (x :: l))).map Q.pt from by rw [e]; rfl, List.map_map]
  exact qs_put _ [] (by simp; lia) (by simp; lia) (by simpa using h)
theorem c_put_chars {s : AV} (hp : σ[i]? = some (.flds [(0, .ref o)])) (ho : σ[o]? = some (.list []))
    (q : ∀ σ', (∀ j, j < σ.length → j ≠ o → σ'[j]? = σ[j]?) → σ'[o]? = some (.list [oONE (.str cCHARS) s]) → σ.length ≤ σ'.length → K .none σ') : RC (d + 4) 2 [.inst 0 i, .tup [.str cCHARS, s]] σ K :=
  c_put hp ho (fun P h => put_chars (by simp) (by simp) (by simpa using h)) q
end

noncomputable def sJUMP : List Nat := [106, 117, 109, 112]
noncomputable def sSPLIT : List Nat := [115, 112, 108, 105, 116]
noncomputable def StOk (O : List AV) (x : AV) : Prop := ∃ k rest, x = .tup (.str k :: rest) ∧ ((k = sJUMP ∨ k = sSPLIT) → ∃ n : Nat, rest = [.int (n : Int)] ∧ n < 900 ∧ ∃ k' rest', O[n]? = some (.tup (.str k' :: rest')) ∧ k' ≠ sJUMP)
noncomputable abbrev stB : List MS := [(.iff (.cm .isin (.ix (.x 2) (.c (AV.int 0))) (.tp [(.g 3), (.g 2)])) [(.as (.x 3) (.ix (.x 2) (.c (AV.int 1)))), (.wh (.cm .eq (.ix (.ix (.x 0) (.x 3)) (.c (AV.int 0))) (.g 3)) [(.as (.x 3) (.ix (.ix (.x 0) (.x 3)) (.c (AV.int 1))))]), (.as (.x 2) (.tp [(.ix (.x 2) (.c (AV.int 0))), (.x 3)]))] []), (.ex (.bm (.x 1) 0 [(.x 2)]))]
structure StC (σ₀ : St) (f : Nat) (acc : List AV) (σ : St) : Prop where
  hf : σ[f]? = some (.list acc)
  fr : ∀ j, j < σ₀.length → σ[j]? = σ₀[j]?
  lf : σ₀.length ≤ f
section
set_option compiler.extract_closed false
variable {d : Nat} {σ₀ : St} {f i : Nat} {O : List AV} {KS : Fl → Loc → St → Prop}
theorem isin_ok {k : List Nat} {σ : St} : cmpR σ .isin (.str k) (.tup [.str sJUMP, .str sSPLIT]) = some (decide (k = sJUMP ∨ k = sSPLIT)) := by
  show some ([sJUMP, sSPLIT].contains k) = _
  congr 1
  rw [Bool.eq_iff_iff]
  simp
theorem st_go (hi : σ₀[i]? = some (.list O)) (hz : O.length ≤ 900) (ok : ∀ x ∈ O, StOk O x) (h : ∀ σ ρ, StC σ₀ f O σ → (∃ x2 x3, ρ = [some (.ref i), some (.ref f), x2, x3]) → KS .next ρ σ) :
    ∀ (r : List AV) (k : Nat) (x2 x3 : Option AV) (σ : St), O.drop k = r → StC σ₀ f (O.take k) σ → RF d [some (.ref i), some (.ref f), x2, x3] (.x 2) (.lst i k) stB σ KS
  | [], k, x2, x3, σ, hd, C => by
    have hi' : σ[i]? = some (.list O) := (C.fr i (lt_of_get hi)).trans hi
    refine r_fE (nx_end hi' (drop_nil hd)) (h σ _ ?_ ⟨_, _, rfl⟩)
    have : O.length ≤ k := List.drop_eq_nil_iff.mp hd
    rw [List.take_of_length_le this] at C; exact C
  | x :: r, k, x2, x3, σ, hd, C => by
    obtain ⟨e1, e2⟩ := drop_cons hd
    have hi' : σ[i]? = some (.list O) := (C.fr i (lt_of_get hi)).trans hi
    obtain ⟨kd, rest, rfl, hj⟩ := ok x (List.mem_of_getElem? e1)
    have hlt := (List.getElem?_eq_some_iff.mp e1).1
    have next : ∀ x3', RF d [some (.ref i), some (.ref f), some (.tup (.str kd :: rest)), x3'] (.x 2) (.lst i (k + 1)) stB (σ.set f (.list (O.take k ++ [.tup (.str kd :: rest)]))) KS := fun x3' =>
      st_go hi hz ok h r (k + 1) _ _ _ e2 ⟨by rw [g_eq C.hf, List.take_add_one, e1]; rfl, frame_set C.fr C.lf, C.lf⟩
    refine r_f1 (nx_item hi' e1) ?_
    repeat' walk_at "ev0"
    refine ⟨fun hc => ?_, fun hc => ?_⟩
    · have hc' : kd = sJUMP ∨ kd = sSPLIT := by
        have : ([sJUMP, sSPLIT] : List (List Nat)).contains kd = true := hc
        simpa using this
      obtain ⟨n, rfl, hn, k', rest', e3, hk'⟩ := hj hc'
      repeat' walk_at "ev0"
      refine r_sh (r_w ?_)
      repeat' walk_at "ev0"
      refine exI (itemL hi' e3 (by lia)) ?_
      repeat' walk_at "ev0"
      refine Sw.eqf (show (k' == [106, 117, 109, 112]) = false from by simp; exact hk') ?_
      repeat' walk_at "ev0"
      refine ⟨bmL (by lia) C.hf, ?_⟩
      repeat' walk_at "ev0"
      refine exI2 (bm_app C.hf (by simp; lia)) ?_
      repeat' walk_at "ev0"
      exact next _
    · repeat' walk_at "ev0"
      refine ⟨bmL (by lia) C.hf, ?_⟩
      repeat' walk_at "ev0"
      refine exI2 (bm_app C.hf (by simp; lia)) ?_
      repeat' walk_at "ev0"
      exact next _
theorem c_straight {σ : St} {K : AV → St → Prop} (hi : σ[i]? = some (.list O)) (hz : O.length ≤ 900) (ok : ∀ x ∈ O, StOk O x) (q : ∀ σ' f, (∀ j, j < σ.length → σ'[j]? = σ[j]?) → σ.length ≤ f → σ'[f]? = some (.list O) → K (.ref f) σ') : RC (d + 1) 26 [.ref i] σ K := by
  refine r_call rfl rfl (by decide) ?_
  repeat' walk_at "ev0"
  try refine r_ls ?_
  repeat' walk_at "ev0"
  refine r_sf (r_itL ?_)
  repeat' walk_at "ev0"
  refine ⟨_, _, rfl, g_app hi, ?_⟩
  refine st_go (σ₀ := σ) (f := σ.length) hi hz ok (fun σ' ρ C hρ => ?_) O 0 _ _ _ rfl ⟨g_new, frame_app fun q0 q0 => rfl, Nat.le_refl _⟩
  obtain ⟨x2, x3, rfl⟩ := hρ
  repeat' walk_at "ev0"
  exact q σ' _ C.fr (Nat.le_refl _) C.hf
end

section
set_option compiler.extract_closed false
variable {d : Nat} {σ : St} {K : AV → St → Prop} {node : AV} {O : List AV}
theorem c_compile (hput : ∀ σ (K : AV → St → Prop) i o, σ[i]? = some (.flds [(0, .ref o)]) → σ[o]? = some (.list []) → (∀ σ', (∀ j, j < σ.length → j ≠ o → σ'[j]? = σ[j]?) → σ'[o]? = some (.list O) → σ.length ≤ σ'.length → K .none σ') → RC (d + 4) 2 [.inst 0 i, node] σ K)
    (hz : O.length ≤ 800) (ok : ∀ x ∈ O ++ [oDONE], StOk (O ++ [oDONE]) x) (q : ∀ σ' f, (∀ j, j < σ.length → σ'[j]? = σ[j]?) → σ.length ≤ f → σ'[f]? = some (.list (O ++ [oDONE])) → K (.ref f) σ') : RC (d + 5) 27 [node] σ K := by
  refine r_call rfl rfl (by decide) ?_
  repeat' walk_at "ev0"
  try refine r_nw rfl ?_
  repeat' walk_at "ev0"
  refine r_call rfl rfl (by decide) ?_
  repeat' walk_at "ev0"
  try refine r_ls ?_
  repeat' walk_at "ev0"
  have L1 : (σ ++ [AO.flds []]).length = σ.length + 1 := by simp
  rw [L1]
  have h1 : (((σ ++ [AO.flds []]) ++ [AO.list []]).set σ.length (.flds (putS 0 (.ref (σ.length + 1)) [])))[σ.length]? = some (.flds [(0, .ref (σ.length + 1))]) := g_eq (g_app g_new)
  have h2 : (((σ ++ [AO.flds []]) ++ [AO.list []]).set σ.length (.flds (putS 0 (.ref (σ.length + 1)) [])))[σ.length + 1]? = some (.list []) := by
    have := g_new (σ := σ ++ [AO.flds []]) (y := AO.list [])
    rw [L1] at this
    exact g_ne this (by lia)
  have fr0 : ∀ j, j < σ.length → (((σ ++ [AO.flds []]) ++ [AO.list []]).set σ.length (.flds (putS 0 (.ref (σ.length + 1)) [])))[j]? = σ[j]? := frame_set (frame_app (frame_app fun q0 q0 => rfl)) (Nat.le_refl _)
  have L2 : (((σ ++ [AO.flds []]) ++ [AO.list []]).set σ.length (.flds (putS 0 (.ref (σ.length + 1)) []))).length = σ.length + 2 := by simp
  generalize (((σ ++ [AO.flds []]) ++ [AO.list []]).set σ.length (.flds (putS 0 (.ref (σ.length + 1)) []))) = σ₁ at *
  refine hput σ₁ _ σ.length (σ.length + 1) h1 h2 fun σ₂ fr2 ho hl => ?_
  have hp2 : σ₂[σ.length]? = some (.flds [(0, .ref (σ.length + 1))]) := (fr2 _ (by lia) (by lia)).trans h1
  repeat' walk_at "ev0"
  refine c_emit (d := d + 3) hp2 ho (by lia) ?_
  repeat' walk_at "ev0"
  have hp3 : (σ₂.set (σ.length + 1) (.list (O ++ [oDONE])))[σ.length]? = some (.flds [(0, .ref (σ.length + 1))]) := g_ne hp2 (by lia)
  have ho3 : (σ₂.set (σ.length + 1) (.list (O ++ [oDONE])))[σ.length + 1]? = some (.list (O ++ [oDONE])) := g_eq ho
  refine c_straight (d := d + 3) ho3 (by simp; lia) ok fun σ₃ f fr3 lf hf => ?_
  repeat' walk_at "ev0"
  have L3 : (σ₂.set (σ.length + 1) (.list (O ++ [oDONE]))).length = σ₂.length := by simp
  rw [List.length_set] at lf
  refine q σ₃ f (fun j hj => ?_) (by lia) hf
  rw [fr3 j (by rw [List.length_set]; lia), List.getElem?_set_ne (by lia), fr2 j (by lia) (by lia), fr0 j hj]
end

noncomputable def wayF (o pc at_ nm mk cl : AV) : List (Nat × AV) := [(0, o), (4, pc), (5, at_), (6, nm), (7, mk), (8, cl)]
noncomputable def matF (su : List Nat) (h hist : Nat) : List (Nat × AV) := [(9, .str su), (10, .inst 3 h), (11, .ref hist)]
section
set_option compiler.extract_closed false
variable {d i w m h hist : Nat} {σ : St} {K : AV → St → Prop} {o pc at_ nm mk cl : AV}
theorem c_way_init (hi : σ[i]? = some (.flds [])) (q : ∀ σ', (∀ j, j ≠ i → σ'[j]? = σ[j]?) → σ'[i]? = some (.flds (wayF o pc at_ nm mk cl)) → σ'.length = σ.length → K .none σ') : RC (d + 1) 8 [.inst 1 i, o, pc, at_, nm, mk, cl] σ K := by
  refine r_call rfl rfl (by decide) ?_
  repeat' walk_at "ev0"
  refine q _ (fun j hj => ?_) (g_eq (g_eq (g_eq (g_eq (g_eq (g_eq hi)))))) (by simp)
  rw [List.getElem?_set_ne (Ne.symm hj), List.getElem?_set_ne (Ne.symm hj), List.getElem?_set_ne (Ne.symm hj), List.getElem?_set_ne (Ne.symm hj), List.getElem?_set_ne (Ne.symm hj), List.getElem?_set_ne (Ne.symm hj)]
theorem c_copied {pc' : AV} (hw : σ[w]? = some (.flds (wayF o pc at_ nm mk cl))) (q : ∀ σ', (∀ j, j < σ.length → σ'[j]? = σ[j]?) → σ'[σ.length]? = some (.flds (wayF o pc' at_ nm mk cl)) → σ'.length = σ.length + 1 → K (.inst 1 σ.length) σ') : RC (d + 2) 9 [.inst 1 w, pc'] σ K := by
  refine r_call rfl rfl (by decide) ?_
  repeat' walk_at "ev0"
  try refine r_nw rfl ?_
  repeat' walk_at "ev0"
  refine c_way_init g_new fun σ' fr hn hl => ⟨rfl, ?_⟩
  repeat' walk_at "ev0"
  refine q σ' (fun j hj => ?_) hn (by rw [hl]; simp)
  rw [fr j (by lia), List.getElem?_append_left hj]
theorem c_match_init {su : List Nat} (hi : σ[m]? = some (.flds [])) (q : ∀ σ' hist, (∀ j, j < σ.length → j ≠ m → σ'[j]? = σ[j]?) → hist = σ.length → σ'[m]? = some (.flds (matF su h hist)) → σ'[hist]? = some (.list []) → σ'.length = σ.length + 1 → K .none σ') : RC (d + 1) 10 [.inst 2 m, .str su, .inst 3 h] σ K := by
  have hlt := lt_of_get hi
  refine r_call rfl rfl (by decide) ?_
  repeat' walk_at "ev0"
  try refine r_ls ?_
  repeat' walk_at "ev0"
  have L : ((σ.set m (.flds (putS 9 (.str su) []))).set m (.flds (putS 10 (.inst 3 h) (putS 9 (.str su) [])))).length = σ.length := by simp
  refine q _ σ.length (fun j hj hm => ?_) rfl ?_ ?_ (by simp)
  · rw [List.getElem?_set_ne (Ne.symm hm), List.getElem?_append_left (by rw [L]; exact hj), List.getElem?_set_ne (Ne.symm hm), List.getElem?_set_ne (Ne.symm hm)]
  · rw [g_eq (g_app (g_eq (g_eq hi)))]
    rw [L]; rfl
  · have := g_new (σ := (σ.set m (.flds (putS 9 (.str su) []))).set m (.flds (putS 10 (.inst 3 h) (putS 9 (.str su) [])))) (y := AO.list [])
    rw [L] at this
    exact g_ne this (by lia)
theorem c_way_back0 {su : List Nat} (hm : σ[m]? = some (.flds (matF su h hist))) (hh : σ[hist]? = some (.list [])) (q : K .none σ) : RC (d + 1) 12 [.inst 2 m] σ K := by
  refine r_call rfl rfl (by decide) ?_
  repeat' walk_at "ev0"
  refine exI (lenL hh (by simp)) ?_
  repeat' walk_at "ev0"
  exact q
theorem c_way_back1 {su : List Nat} {H : List AV} {x : AV} (hm : σ[m]? = some (.flds (matF su h hist))) (hh : σ[hist]? = some (.list (H ++ [x]))) (hz : H.length ≤ 5000) (q : K x (σ.set hist (.list H))) : RC (d + 1) 12 [.inst 2 m] σ K := by
  refine r_call rfl rfl (by decide) ?_
  repeat' walk_at "ev0"
  refine exI (lenL hh (by simp; lia)) ?_
  repeat' walk_at "ev0"
  refine Sw.eqt (show decide (((H ++ [x]).length : Int) > 0) = true from by simp) ?_
  repeat' walk_at "ev0"
  refine ⟨bmL (by lia) hh, ?_⟩
  repeat' walk_at "ev0"
  refine exI2 (bm_pop hh (by lia)) ?_
  repeat' walk_at "ev0"
  exact q
end

section
set_option compiler.extract_closed false
variable {d w m h hist pc a : Nat} {σ : St} {K : AV → St → Prop} {o nm mk cl : AV} {su : List Nat}
theorem m_one_chars {t : List Nat} (hm : σ[m]? = some (.flds (matF su h hist))) (hw : σ[w]? = some (.flds (wayF o (.int (pc : Int)) (.int (a : Int)) nm mk cl))) (hs : su.length ≤ 1000) (ht : t.length ≤ 1000) (ha : a ≤ 1000)
    (q1 : cut a (a + t.length) su = t → K (.bool true) ((σ.set w (.flds (wayF o (.int (pc : Int)) (.int ((a + t.length : Nat) : Int)) nm mk cl))).set w (.flds (wayF o (.int ((pc : Int) + 1)) (.int ((a + t.length : Nat) : Int)) nm mk cl)))) (q2 : cut a (a + t.length) su ≠ t → K (.bool false) σ) :
    RC (d + 5) 13 [.inst 2 m, oONE (.str cCHARS) (.str t), .inst 1 w] σ K := by
  refine r_call rfl rfl (by decide) ?_
  repeat' walk_at "ev0"
  refine r_call rfl rfl (by decide) ?_
  repeat' walk_at "ev0"
  refine c_plain_chars hs ht ha (fun hc => ?_) fun hc => ?_
  · repeat' walk_at "ev0"
    exact q1 hc
  · repeat' walk_at "ev0"
    exact q2 hc
theorem m_one_rpos (hm : σ[m]? = some (.flds (matF su h hist))) (hw : σ[w]? = some (.flds (wayF o (.int (pc : Int)) (.int (a : Int)) nm mk cl))) (hs : su.length ≤ 1000) (ha : a ≤ su.length)
    (q1 : a = su.length → K (.bool true) ((σ.set w (.flds (wayF o (.int (pc : Int)) (.int (a : Int)) nm mk cl))).set w (.flds (wayF o (.int ((pc : Int) + 1)) (.int (a : Int)) nm mk cl)))) (q2 : a ≠ su.length → K (.bool false) σ) :
    RC (d + 5) 13 [.inst 2 m, oONE (.str cRPOS) (.int 0), .inst 1 w] σ K := by
  refine r_call rfl rfl (by decide) ?_
  repeat' walk_at "ev0"
  refine r_call rfl rfl (by decide) ?_
  repeat' walk_at "ev0"
  refine c_plain_rpos hs ha (fun hc => ?_) fun hc => ?_
  · repeat' walk_at "ev0"
    exact q1 hc
  · repeat' walk_at "ev0"
    exact q2 hc
theorem m_jump {n : Nat} (hw : σ[w]? = some (.flds (wayF o (.int (pc : Int)) (.int (a : Int)) nm mk cl))) (q : K (.bool true) (σ.set w (.flds (wayF o (.int (n : Int)) (.int (a : Int)) nm mk cl)))) : RC (d + 5) 13 [.inst 2 m, oJUMP n, .inst 1 w] σ K := by
  refine r_call rfl rfl (by decide) ?_
  repeat' walk_at "ev0"
  exact q
theorem m_mark (hw : σ[w]? = some (.flds (wayF o (.int (pc : Int)) (.int (a : Int)) nm mk cl)))
    (q : K (.bool true) ((σ.set w (.flds (wayF o (.int (pc : Int)) (.int (a : Int)) nm (.tup [mk, .int (a : Int)]) cl))).set w (.flds (wayF o (.int ((pc : Int) + 1)) (.int (a : Int)) nm (.tup [mk, .int (a : Int)]) cl)))) : RC (d + 5) 13 [.inst 2 m, oMARK, .inst 1 w] σ K := by
  refine r_call rfl rfl (by decide) ?_
  repeat' walk_at "ev0"
  exact q
theorem m_split {n : Nat} {H : List AV} (hm : σ[m]? = some (.flds (matF su h hist))) (hh : σ[hist]? = some (.list H)) (hz : H.length ≤ 5000) (hw : σ[w]? = some (.flds (wayF o (.int (pc : Int)) (.int (a : Int)) nm mk cl)))
    (q : ∀ σ', (∀ j, j < σ.length → j ≠ w → j ≠ hist → σ'[j]? = σ[j]?) → σ'[w]? = some (.flds (wayF o (.int ((pc : Int) + 1)) (.int (a : Int)) nm mk cl)) → σ'[hist]? = some (.list (H ++ [.inst 1 σ.length])) → σ'[σ.length]? = some (.flds (wayF o (.int (n : Int)) (.int (a : Int)) nm mk cl)) → σ'.length = σ.length + 1 → K (.bool true) σ') :
    RC (d + 5) 13 [.inst 2 m, oSPLIT n, .inst 1 w] σ K := by
  have hltw := lt_of_get hw
  have hlth := lt_of_get hh
  have nwh : w ≠ hist := ne_kd hw hh rfl
  refine r_call rfl rfl (by decide) ?_
  repeat' walk_at "ev0"
  refine ⟨bmL (by lia) hh, ?_⟩
  repeat' walk_at "ev0"
  refine c_copied hw fun σ' fr hn hl => ?_
  have hh' : σ'[hist]? = some (.list H) := (fr _ hlth).trans hh
  have hw' : σ'[w]? = some (.flds (wayF o (.int (pc : Int)) (.int (a : Int)) nm mk cl)) := (fr _ hltw).trans hw
  repeat' walk_at "ev0"
  refine exI2 (bm_app hh' (by lia)) ?_
  repeat' walk_at "ev0"
  have hw2 : (σ'.set hist (.list (H ++ [.inst 1 σ.length])))[w]? = some (.flds (wayF o (.int (pc : Int)) (.int (a : Int)) nm mk cl)) := g_ne hw' nwh.symm
  refine q _ (fun j hj h1 h2 => ?_) (g_eq hw2) (g_ne (g_eq hh') nwh) (g_ne (g_ne hn (by lia)) (by lia)) (by simp [hl])
  rw [List.getElem?_set_ne (Ne.symm h1), List.getElem?_set_ne (Ne.symm h2), fr j hj]
end

section
set_option compiler.extract_closed false
variable {d w m h hist pc a : Nat} {σ : St} {K : AV → St → Prop} {o nm mk cl : AV} {su : List Nat}
theorem m_set {v r lg i b : Nat} {k : Int} {n : List Nat} {es : List (List Nat × AV)} {log : List AV} (hm : σ[m]? = some (.flds (matF su h hist))) (hw : σ[w]? = some (.flds (wayF o (.int (pc : Int)) (.int (a : Int)) nm (.tup [mk, .int (b : Int)]) cl)))
    (hh : σ[h]? = some (.flds (hostF v r lg k))) (hv : σ[v]? = some (.dict es)) (hr : σ[r]? = some (.list [])) (hl : σ[lg]? = some (.list log)) (hi : σ[i]? = some (.flds (nameF n))) (hz : es.length < 100000) (hlz : log.length < 100000)
    (nwh : w ≠ h) (nwi : w ≠ i) (hs : su.length ≤ 1000) (ha : a ≤ 1000) (hb : b ≤ 1000)
    (q : K (.bool true) ((((σ.set w (.flds (wayF o (.int (pc : Int)) (.int (a : Int)) nm mk cl))).set v (.dict (putS n (.str (cut b a su)) es))).set lg (.list (log ++ [.tup [.str n, .str (cut b a su)]]))).set w (.flds (wayF o (.int ((pc : Int) + 1)) (.int (a : Int)) nm mk cl)))) :
    RC (d + 5) 13 [.inst 2 m, oSET (.inst 4 i), .inst 1 w] σ K := by
  have nwv : w ≠ v := ne_kd hw hv rfl
  have nwr : w ≠ r := ne_kd hw hr rfl
  have nwl : w ≠ lg := ne_kd hw hl rfl
  have nwm : w ≠ m := fun e => by
    rw [e, hm] at hw; cases hw
  refine r_call rfl rfl (by decide) ?_
  repeat' walk_at "ev0"
  refine r_call rfl rfl (by decide) ?_
  repeat' walk_at "ev0"
  refine exI (sliceS (by lia) (by lia) (by lia)) ?_
  repeat' walk_at "ev0"
  have w1 : (σ.set w (.flds (wayF o (.int (pc : Int)) (.int (a : Int)) nm mk cl)))[w]? = some (.flds (wayF o (.int (pc : Int)) (.int (a : Int)) nm mk cl)) := g_eq hw
  refine c_assign (v := v) (r := r) (lg := lg) (es := es) (log := log) (n := n) (g_ne hh nwh) (g_ne hv nwv) (g_ne hr nwr) (g_ne hl nwl) (g_ne hi nwi) hz hlz ?_
  have w2 : (((σ.set w (.flds (wayF o (.int (pc : Int)) (.int (a : Int)) nm mk cl))).set v (.dict (putS n (.str (cut b a su)) es))).set lg (.list (log ++ [.tup [.str n, .str (cut b a su)]])))[w]? = some (.flds (wayF o (.int (pc : Int)) (.int (a : Int)) nm mk cl)) := g_ne (g_ne w1 nwv.symm) nwl.symm
  repeat' walk_at "ev0"
  refine Sw.f ?_
  repeat' walk_at "ev0"
  exact q
end

section
set_option compiler.extract_closed false
variable {d w m h hist pc a : Nat} {σ : St} {K : AV → St → Prop} {o nm mk cl : AV} {su : List Nat}
theorem c_compile_chars {t : List Nat} (q : ∀ σ' f, (∀ j, j < σ.length → σ'[j]? = σ[j]?) → σ.length ≤ f → σ'[f]? = some (.list [oONE (.str cCHARS) (.str t), oDONE]) → K (.ref f) σ') : RC (d + 5) 27 [.tup [.str cCHARS, .str t]] σ K := by
  refine c_compile (O := [oONE (.str cCHARS) (.str t)]) (fun σ K i o hp ho q => c_put_chars hp ho q) (by simp) (fun x hx => ?_) q
  simp at hx
  rcases hx with rfl | rfl
  · exact ⟨_, _, rfl, fun h => by rcases h with h | h <;> exact absurd h (by decide)⟩
  · exact ⟨_, _, rfl, fun h => by rcases h with h | h <;> exact absurd h (by decide)⟩
theorem m_ask {v r lg : Nat} {k : Int} {n t : List Nat} {es : List (List Nat × AV)} (hm : σ[m]? = some (.flds (matF su h hist))) (hw : σ[w]? = some (.flds (wayF o (.int (pc : Int)) (.int (a : Int)) nm mk cl)))
    (hh : σ[h]? = some (.flds (hostF v r lg k))) (hv : σ[v]? = some (.dict es)) (ht : (es.lookup n).getD (.str []) = .str t)
    (q : ∀ σ' u, (∀ j, j < σ.length → j ≠ w → σ'[j]? = σ[j]?) → σ.length ≤ u → σ'[u]? = some (.list [oONE (.str cCHARS) (.str t), oDONE]) → σ.length ≤ σ'.length → σ'[w]? = some (.flds (wayF (.ref u) (.int 0) (.int (a : Int)) nm mk (.tup [cl, .tup [o, .int ((pc : Int) + 1)]]))) → K (.bool true) σ') :
    RC (d + 9) 13 [.inst 2 m, oASK (.tup [.str cNAME, .str n]), .inst 1 w] σ K := by
  have hltw := lt_of_get hw
  refine r_call rfl rfl (by decide) ?_
  repeat' walk_at "ev0"
  refine r_call rfl rfl (by decide) ?_
  repeat' walk_at "ev0"
  refine r_call rfl rfl (by decide) ?_
  repeat' walk_at "ev0"
  refine c_value_of hh hv ?_
  rw [ht]
  repeat' walk_at "ev0"
  refine c_is_fail ?_
  repeat' walk_at "ev1"
  refine c_pattern_of ?_
  repeat' walk_at "ev1"
  refine c_compile_chars fun σ' u fr lu hu => ?_
  have hw1 : σ'[w]? = some (.flds (wayF o (.int (pc : Int)) (.int (a : Int)) nm mk (.tup [cl, .tup [o, .int ((pc : Int) + 1)]]))) := (fr w (by simp; lia)).trans (g_eq hw)
  have nuw : u ≠ w := ne_kd hu hw1 rfl
  repeat' walk_at "ev1"
  rw [List.length_set] at lu
  refine q _ u (fun j hj h1 => ?_) lu (g_ne (g_ne hu nuw.symm) nuw.symm) ?_ (g_eq (g_eq hw1))
  · rw [List.getElem?_set_ne (Ne.symm h1), List.getElem?_set_ne (Ne.symm h1), fr j (by simp; exact hj), List.getElem?_set_ne (Ne.symm h1)]
  · have := lt_of_get hu
    simp; lia
theorem m_back {o' pc' cl' : AV} (hm : σ[m]? = some (.flds (matF su h hist))) (hw : σ[w]? = some (.flds (wayF o (.int (pc : Int)) (.int (a : Int)) nm mk (.tup [cl', .tup [o', pc']])))) (q : ∀ σ', (∀ j, j ≠ w → σ'[j]? = σ[j]?) → σ'.length = σ.length → σ'[w]? = some (.flds (wayF o' pc' (.int (a : Int)) nm mk cl')) → K (.bool true) σ') :
    RC (d + 9) 13 [.inst 2 m, oDONE, .inst 1 w] σ K := by
  refine r_call rfl rfl (by decide) ?_
  repeat' walk_at "ev0"
  refine r_call rfl rfl (by decide) ?_
  repeat' walk_at "ev0"
  refine q _ (fun j hj => ?_) (by simp) (g_eq (g_eq (g_eq hw)))
  rw [List.getElem?_set_ne (Ne.symm hj), List.getElem?_set_ne (Ne.symm hj), List.getElem?_set_ne (Ne.symm hj)]
end

noncomputable def Still (x : AV) : Prop := ∃ k rest, x = .tup (.str k :: rest) ∧ k ≠ sJUMP ∧ k ≠ sSPLIT
theorem Still.ok {O : List AV} {x : AV} (h : Still x) : StOk O x := by
  obtain ⟨k, rest, rfl, h1, h2⟩ := h
  exact ⟨k, rest, rfl, fun q => by rcases q with q | q; exact absurd q h1; exact absurd q h2⟩
theorem still_one {a b : AV} : Still (oONE a b) := ⟨_, _, rfl, by decide, by decide⟩
theorem still_ask {a : AV} : Still (oASK a) := ⟨_, _, rfl, by decide, by decide⟩
theorem still_mark : Still oMARK := ⟨_, _, rfl, by decide, by decide⟩
theorem still_set {a : AV} : Still (oSET a) := ⟨_, _, rfl, by decide, by decide⟩
theorem still_done : Still oDONE := ⟨_, _, rfl, by decide, by decide⟩
theorem still_varA {r : AV} : ∀ x ∈ varAc r, Still x := by
  intro x hx; simp [varAc] at hx
  rcases hx with rfl | rfl | rfl | rfl
  · exact still_mark
  · exact still_one
  · exact still_set
  · exact still_one
theorem still_varB {r : AV} : ∀ x ∈ varBc r, Still x := by
  intro x hx; simp [varBc] at hx
  rcases hx with rfl | rfl | rfl | rfl
  · exact still_one
  · exact still_mark
  · exact still_one
  · exact still_set
theorem still_cl {c : Cl} : ∀ x ∈ c.code, Still x := by
  obtain ⟨n, b⟩ := c
  intro x hx
  cases b <;> (simp [Cl.code] at hx; rcases hx with rfl | rfl) <;> first | exact still_ask | exact still_one
noncomputable def Head (l : List AV) : Prop := ∃ k rest l', l = .tup (.str k :: rest) :: l' ∧ k ≠ sJUMP
theorem Still.head {x : AV} {l : List AV} (h : Still x) : Head (x :: l) := by
  obtain ⟨k, rest, rfl, h1, _⟩ := h; exact ⟨k, rest, l, rfl, h1⟩
theorem code_head {q : Q} {n : Nat} {l : List AV} : Head (q.code n ++ l) := by
  cases q with
  | t s => exact still_one.head
  | d n => exact still_ask.head
  | v r => exact ⟨_, _, _, rfl, by decide⟩
  | c2 a b => exact ⟨_, _, _, rfl, by decide⟩
  | e => exact still_one.head
theorem codes_head : ∀ {l : List Q} {n : Nat} {post : List AV}, Head post → Head (codes n l ++ post)
  | [], n, post, h => h
  | q :: r, n, post, h => by rw [codes, List.append_assoc]; exact code_head
theorem head_at {pre l : List AV} {n : Nat} (h : Head l) (e : n = pre.length) : ∃ k rest, (pre ++ l)[n]? = some (.tup (.str k :: rest)) ∧ k ≠ sJUMP := by
  obtain ⟨k, rest, l', rfl, h1⟩ := h
  subst e
  exact ⟨k, rest, by simp, h1⟩
theorem alt_ok {pre ca cb post : List AV} (hca : ∀ x ∈ ca, Still x) (hcb : ∀ x ∈ cb, Still x) (hb : Head cb) (hp : Head post) (hz : (pre ++ altCode pre.length ca cb ++ post).length ≤ 900) : ∀ x ∈ altCode pre.length ca cb, StOk (pre ++ altCode pre.length ca cb ++ post) x := by
  intro x hx
  have hz' := hz
  simp [altCode] at hz'
  unfold altCode at hx
  simp only [List.mem_append, List.mem_singleton] at hx
  rcases hx with ((rfl | hx) | rfl) | hx
  · have hcl : 1 ≤ cb.length := by obtain ⟨k, rest, l', rfl, h1⟩ := hb; simp
    refine ⟨sSPLIT, _, rfl, fun q0 => ⟨pre.length + ca.length + 2, rfl, by lia, ?_⟩⟩
    have := head_at (pre := pre ++ [oSPLIT (pre.length + ca.length + 2)] ++ ca ++ [oJUMP (pre.length + ca.length + cb.length + 2)]) (l := cb ++ post) (n := pre.length + ca.length + 2) (by obtain ⟨k, rest, l', rfl, h1⟩ := hb; exact ⟨k, rest, _, rfl, h1⟩) (by simp; lia)
    obtain ⟨k, rest, e1, e2⟩ := this
    refine ⟨k, rest, ?_, e2⟩
    rw [← e1]; congr 1; simp [altCode]
  · exact (hca x hx).ok
  · refine ⟨sJUMP, _, rfl, fun q0 => ⟨pre.length + ca.length + cb.length + 2, rfl, ?_, ?_⟩⟩
    · obtain ⟨k, rest, l', rfl, h1⟩ := hp
      simp at hz'; lia
    · have := head_at (pre := pre ++ altCode pre.length ca cb) (l := post) (n := pre.length + ca.length + cb.length + 2) hp (by simp [altCode]; lia)
      exact this
  · exact (hcb x hx).ok


theorem code_len {q : Q} {n m : Nat} : (q.code n).length = (q.code m).length := by
  cases q <;> simp [Q.code, altCode]
theorem cl_head {c : Cl} : Head c.code := by
  obtain ⟨n, b⟩ := c
  cases b
  · exact still_one.head
  · exact still_ask.head
theorem q_ok {pre post : List AV} {q : Q} (hp : Head post) (hz : (pre ++ q.code pre.length ++ post).length ≤ 900) : ∀ x ∈ q.code pre.length, StOk (pre ++ q.code pre.length ++ post) x := by
  cases q with
  | t s => intro x hx; rw [List.mem_singleton.mp hx]; exact still_one.ok
  | d n => intro x hx; rw [List.mem_singleton.mp hx]; exact still_ask.ok
  | v r => exact alt_ok still_varA still_varB still_one.head hp hz
  | c2 a b => exact alt_ok still_cl still_cl cl_head hp hz
  | e => intro x hx; rw [List.mem_singleton.mp hx]; exact still_one.ok
theorem codes_ok {post : List AV} (hp : Head post) : ∀ (l : List Q) (pre : List AV), (pre ++ codes pre.length l ++ post).length ≤ 900 → ∀ x ∈ codes pre.length l, StOk (pre ++ codes pre.length l ++ post) x
  | [], pre, hz => fun x hx => by simp [codes] at hx
  | q :: r, pre, hz => fun x hx => by
    have e : pre ++ codes pre.length (q :: r) ++ post = pre ++ q.code pre.length ++ (codes (pre.length + (q.code pre.length).length) r ++ post) := by simp [codes]
    have e2 : pre ++ codes pre.length (q :: r) ++ post = (pre ++ q.code pre.length) ++ codes (pre ++ q.code pre.length).length r ++ post := by simp [codes]
    rw [codes, List.mem_append] at hx
    rcases hx with hx | hx
    · rw [e] at hz ⊢
      exact q_ok (codes_head hp) hz x hx
    · rw [e2] at hz ⊢
      exact codes_ok hp r (pre ++ q.code pre.length) hz x (by simpa using hx)
theorem done_ok {O : List AV} : StOk O oDONE := still_done.ok
noncomputable def codeOf (l : List Itm) : List AV := codes 0 (jnQ [] (qsOf l)) ++ [oDONE]
section
set_option compiler.extract_closed false
variable {d : Nat} {σ : St} {K : AV → St → Prop}
theorem c_compile_node {l : List Itm} {x : Itm} (hz : (qsOf (x :: l)).length ≤ 40) (hj : (jnQ [] (qsOf (x :: l))).length ≤ 40) (hc : (codes 0 (jnQ [] (qsOf (x :: l)))).length ≤ 800)
    (q : ∀ σ' f, (∀ j, j < σ.length → σ'[j]? = σ[j]?) → σ.length ≤ f → σ'[f]? = some (.list (codeOf (x :: l))) → K (.ref f) σ') : RC (d + 5) 27 [nodeOf rpos0 (x :: l)] σ K := by
  refine c_compile (O := codes 0 (jnQ [] (qsOf (x :: l)))) (fun σ K i o hp ho q => c_put_node hz hj hp ho q) hc (fun y hy => ?_) q
  rcases List.mem_append.mp hy with hy | hy
  · have := codes_ok (post := [oDONE]) still_done.head (jnQ [] (qsOf (x :: l))) [] (by simp; lia)
    simpa using this y hy
  · rw [List.mem_singleton.mp hy]; exact done_ok
end


noncomputable abbrev rIt : ME := .cm .isn (.x 3) (.c AV.none)
noncomputable abbrev rBk : List MS := [(.as (.x 3) (.mc (.x 0) 8 [])), (.iff (.an [(.cm .isn (.x 3) (.c AV.none)), (.cm .is (.at (.x 3) 0) (.c AV.none))]) [(.rt (.tp [(.g 26), (.c AV.none)]))] [])]
noncomputable abbrev rIb : List MS := [(.ex (.mc (.at (.x 0) 10) 17 [])), (.as (.x 4) (.ix (.at (.x 3) 0) (.at (.x 3) 4))), (.iff (.an [(.cm .eq (.ix (.x 4) (.c (AV.int 0))) (.g 14)), (.cm .is (.at (.x 3) 8) (.c AV.none))]) [(.rt (.tp [(.g 24), (.x 3)]))] []), (.iff (.cm .eq (.ix (.x 4) (.c (AV.int 0))) (.g 12)) [(.rt (.tp [(.g 26), (.c AV.none)]))] []), (.iff (.nt (.mc (.x 0) 9 [(.x 4), (.x 3)])) rBk [])]
noncomputable def sDONE : List Nat := [100, 111, 110, 101]
noncomputable def sABORT : List Nat := [97, 98, 111, 114, 116]
noncomputable abbrev rρ (m ords : Nat) (bg x3 : AV) (x4 : Option AV) : Loc := [some (.inst 2 m), some (.ref ords), some bg, some x3, x4]
section
set_option compiler.extract_closed false
variable {d w m h hist pc a u v r lg ords : Nat} {σ : St} {o nm mk cl bg : AV} {su : List Nat} {x4 : Option AV} {k : Int} {os : List AV} {kd : List Nat} {rest : List AV} {KS : Fl → Loc → St → Prop}
theorem m_loop (hm : σ[m]? = some (.flds (matF su h hist))) (hw : σ[w]? = some (.flds (wayF (.ref u) (.int (pc : Int)) (.int (a : Int)) nm mk cl))) (hh : σ[h]? = some (.flds (hostF v r lg k))) (hu : σ[u]? = some (.list os)) (ho : os[pc]? = some (.tup (.str kd :: rest))) (hk : k + 1 ≤ 9999) (hz : pc < 1000000) (wh : w ≠ h) (hd : kd = sDONE → isNone cl = false) (ha : kd ≠ sABORT)
    (q : RC (d + 9) 13 [.inst 2 m, .tup (.str kd :: rest), .inst 1 w] (σ.set h (.flds (hostF v r lg (k + 1)))) fun x σ' => (x = .bool true ∧ RW (d + 9) (rρ m ords bg (.inst 1 w) (some (.tup (.str kd :: rest)))) rIt rIb σ' KS) ∨ (x = .bool false ∧ RB (d + 9) (rρ m ords bg (.inst 1 w) (some (.tup (.str kd :: rest)))) rBk σ' (goOn (d + 9) [] (again (d + 9) rIt rIb KS)))) :
    RW (d + 9) (rρ m ords bg (.inst 1 w) x4) rIt rIb σ KS := by
  have mh : m ≠ h := ne_kd hm hh rfl
  have uh : u ≠ h := ne_kd hu hh rfl
  refine r_w ?_
  repeat' walk_at "ev1"
  refine c_step hh hk ?_
  repeat' walk_at "ev1"
  refine exI (itemL (g_ne hu uh.symm) ho hz) ?_
  repeat' walk_at "ev1"
  obtain ⟨x, σ', e1, e2⟩ := q
  refine ⟨fun hc => ?_, fun hc => ?_⟩
  · repeat' walk_at "ev1"
    rw [hd (eq_of_beq hc)]
    repeat' walk_at "ev1"
    refine Sw.eqf (show (kd == [97, 98, 111, 114, 116]) = false from by simp; exact ha) ?_
    repeat' walk_at "ev1"
    refine ⟨x, σ', e1, ?_⟩
    rcases e2 with ⟨rfl, e2⟩ | ⟨rfl, e2⟩
    · refine exI (rfl) ?_
      refine Sw.f ?_
      repeat' walk_at "ev1"
      exact e2
    · refine exI (rfl) ?_
      refine Sw.t ?_
      exact e2
  · repeat' walk_at "ev1"
    refine Sw.eqf (show (kd == [97, 98, 111, 114, 116]) = false from by simp; exact ha) ?_
    repeat' walk_at "ev1"
    refine ⟨x, σ', e1, ?_⟩
    rcases e2 with ⟨rfl, e2⟩ | ⟨rfl, e2⟩
    · refine exI (rfl) ?_
      refine Sw.f ?_
      repeat' walk_at "ev1"
      exact e2
    · refine exI (rfl) ?_
      refine Sw.t ?_
      exact e2
end


structure MX where
  d : Nat
  m : Nat
  h : Nat
  v : Nat
  r : Nat
  lg : Nat
  hist : Nat
  ords : Nat
  base : Nat
  su : List Nat
  code : List AV
  bg : AV
  σ₀ : St
  KS : Fl → Loc → St → Prop
structure MX.Ok (M : MX) : Prop where
  h : M.h < M.base
  v : M.v < M.base
  lg : M.lg < M.base
  r : M.r < M.base
  o : M.ords < M.base
  m : M.base ≤ M.m
  hist : M.base ≤ M.hist
  hr : M.σ₀[M.r]? = some (.list [])
  rh : M.r ≠ M.h
  rv : M.r ≠ M.v
  rl : M.r ≠ M.lg
  ho : M.σ₀[M.ords]? = some (.list M.code)
  oh : M.ords ≠ M.h
  ov : M.ords ≠ M.v
  ol : M.ords ≠ M.lg
  su : M.su.length ≤ 1000
  code : M.code.length ≤ 900
noncomputable def wayO (o pc a : Nat) (mk : AV) : List (Nat × AV) := wayF (.ref o) (.int (pc : Int)) (.int (a : Int)) .none mk .none
noncomputable def HistOk (o : Nat) (σ : St) : List Nat → List (Nat × Nat) → Prop
  | [], [] => True
  | w :: ws, (pc, a) :: H => σ[w]? = some (.flds (wayO o pc a .none)) ∧ HistOk o σ ws H
  | _, _ => False
theorem HistOk.keep {o : Nat} {σ σ' : St} : ∀ {ws : List Nat} {H : List (Nat × Nat)}, HistOk o σ ws H → (∀ j ∈ ws, j < σ.length → σ'[j]? = σ[j]?) → HistOk o σ' ws H
  | [], [], _, _ => trivial
  | w :: ws, (pc, a) :: H, h, f => ⟨(f w (by simp) (lt_of_get h.1)).trans h.1, HistOk.keep h.2 fun j hj hl => f j (by simp [hj]) hl⟩
  | [], _ :: _, h, _ => h.elim
  | _ :: _, [], h, _ => h.elim
theorem HistOk.lt {o : Nat} {σ : St} : ∀ {ws : List Nat} {H : List (Nat × Nat)}, HistOk o σ ws H → ∀ j ∈ ws, j < σ.length
  | [], [], _, j, hj => by simp at hj
  | w :: ws, (pc, a) :: H, h, j, hj => by
    rcases List.mem_cons.mp hj with rfl | hj
    · exact lt_of_get h.1
    · exact HistOk.lt h.2 j hj
  | [], _ :: _, h, _, _ => h.elim
  | _ :: _, [], h, _, _ => h.elim
theorem HistOk.way {o : Nat} {σ : St} : ∀ {ws : List Nat} {H : List (Nat × Nat)}, HistOk o σ ws H → ∀ j ∈ ws, ∃ pc a, σ[j]? = some (.flds (wayO o pc a .none))
  | [], [], _, j, hj => by simp at hj
  | w :: ws, (pc, a) :: H, h, j, hj => by
    rcases List.mem_cons.mp hj with rfl | hj
    · exact ⟨_, _, h.1⟩
    · exact HistOk.way h.2 j hj
  | [], _ :: _, h, _, _ => h.elim
  | _ :: _, [], h, _, _ => h.elim
theorem HistOk.len {o : Nat} {σ : St} : ∀ {ws : List Nat} {H : List (Nat × Nat)}, HistOk o σ ws H → ws.length = H.length
  | [], [], _ => rfl
  | w :: ws, (pc, a) :: H, h => by simp [HistOk.len h.2]
  | [], _ :: _, h => h.elim
  | _ :: _, [], h => h.elim
noncomputable def histL (ws : List Nat) : List AV := (ws.map (AV.inst 1)).reverse
structure MC (M : MX) (ws : List Nat) (H : List (Nat × Nat)) (es : List (List Nat × AV)) (log : List AV) (k : Nat) (σ : St) : Prop where
  hm : σ[M.m]? = some (.flds (matF M.su M.h M.hist))
  hh : σ[M.h]? = some (.flds (hostF M.v M.r M.lg (k : Int)))
  hv : σ[M.v]? = some (.dict es)
  hl : σ[M.lg]? = some (.list log)
  hs : σ[M.hist]? = some (.list (histL ws))
  hH : HistOk M.ords σ ws H
  fr : ∀ j, j < M.base → j ≠ M.h → j ≠ M.v → j ≠ M.lg → σ[j]? = M.σ₀[j]?
  nd : ws.Nodup
  lo : ∀ w ∈ ws, M.base ≤ w
  es : es.length ≤ k
  log : log.length ≤ k
  hz : H.length ≤ k
noncomputable def MX.Run (M : MX) (pc a : Nat) (mk : AV) (H : List (Nat × Nat)) (es : List (List Nat × AV)) (log : List AV) (k : Nat) : Prop :=
  ∀ σ ws w x4, MC M ws H es log k σ → M.base ≤ w → w ∉ ws → σ[w]? = some (.flds (wayO M.ords pc a mk)) → RW (M.d + 9) (rρ M.m M.ords M.bg (.inst 1 w) x4) rIt rIb σ M.KS
noncomputable def MX.Back (M : MX) (H : List (Nat × Nat)) (es : List (List Nat × AV)) (log : List AV) (k : Nat) : Prop :=
  ∀ σ ws w x4, MC M ws H es log k σ → RB (M.d + 9) (rρ M.m M.ords M.bg (.inst 1 w) x4) rBk σ (goOn (M.d + 9) [] (again (M.d + 9) rIt rIb M.KS))
section
set_option compiler.extract_closed false
variable {M : MX} {ws : List Nat} {H : List (Nat × Nat)} {es : List (List Nat × AV)} {log : List AV} {k w : Nat} {σ σ' : St} {o pc at_ nm mk cl : AV}
theorem MC.hr (C : MC M ws H es log k σ) (O : M.Ok) : σ[M.r]? = some (.list []) := (C.fr _ O.r O.rh O.rv O.rl).trans O.hr
theorem MC.ho (C : MC M ws H es log k σ) (O : M.Ok) : σ[M.ords]? = some (.list M.code) := (C.fr _ O.o O.oh O.ov O.ol).trans O.ho
theorem MC.nhv (C : MC M ws H es log k σ) : M.h ≠ M.v := ne_kd C.hh C.hv rfl
theorem MC.nhl (C : MC M ws H es log k σ) : M.h ≠ M.lg := ne_kd C.hh C.hl rfl
theorem MC.nvl (C : MC M ws H es log k σ) : M.v ≠ M.lg := ne_kd C.hv C.hl rfl
theorem MC.wnm (C : MC M ws H es log k σ) (hw : σ[w]? = some (.flds (wayF o pc at_ nm mk cl))) : w ≠ M.m := ne_kd hw C.hm rfl
theorem MC.wns (C : MC M ws H es log k σ) (hw : σ[w]? = some (.flds (wayF o pc at_ nm mk cl))) : w ≠ M.hist := ne_kd hw C.hs rfl
theorem MC.wsm (C : MC M ws H es log k σ) : ∀ j ∈ ws, j ≠ M.m ∧ j ≠ M.hist := fun j hj => by
  obtain ⟨pc, a, h⟩ := C.hH.way j hj
  exact ⟨C.wnm h, C.wns h⟩
theorem MC.step (C : MC M ws H es log k σ) (O : M.Ok) : MC M ws H es log (k + 1) (σ.set M.h (.flds (hostF M.v M.r M.lg ((k : Int) + 1)))) where
  hm := g_ne C.hm (by have := O.h; have := O.m; lia)
  hh := g_eq C.hh
  hv := g_ne C.hv C.nhv
  hl := g_ne C.hl C.nhl
  hs := g_ne C.hs (by have := O.h; have := O.hist; lia)
  hH := C.hH.keep fun j hj q0 => List.getElem?_set_ne (by have := O.h; have := C.lo j hj; lia)
  fr j a b c e := (List.getElem?_set_ne (Ne.symm b)).trans (C.fr j a b c e)
  nd := C.nd
  lo := C.lo
  es := by have := C.es; lia
  log := by have := C.log; lia
  hz := by have := C.hz; lia
theorem MC.keep (C : MC M ws H es log k σ) (O : M.Ok) (hb : M.base ≤ w) (hn : w ∉ ws) (hm : w ≠ M.m) (hs : w ≠ M.hist) (f : ∀ j, j < σ.length → j ≠ w → σ'[j]? = σ[j]?) (hl : σ.length ≤ σ'.length) (hbl : M.base ≤ σ.length) : MC M ws H es log k σ' where
  hm := (f _ (lt_of_get C.hm) hm.symm).trans C.hm
  hh := (f _ (lt_of_get C.hh) (by have := O.h; lia)).trans C.hh
  hv := (f _ (lt_of_get C.hv) (by have := O.v; lia)).trans C.hv
  hl := (f _ (lt_of_get C.hl) (by have := O.lg; lia)).trans C.hl
  hs := (f _ (lt_of_get C.hs) hs.symm).trans C.hs
  hH := C.hH.keep fun j hj hl => f j hl (fun e => hn (e ▸ hj))
  fr j a b c e := (f j (by lia) (by lia)).trans (C.fr j a b c e)
  nd := C.nd
  lo := C.lo
  es := C.es
  log := C.log
  hz := C.hz
theorem MC.bl (C : MC M ws H es log k σ) (O : M.Ok) : M.base ≤ σ.length := by have := lt_of_get C.hm; have := O.m; lia
end


section
set_option compiler.extract_closed false
variable {M : MX} {ws : List Nat} {H : List (Nat × Nat)} {es es' : List (List Nat × AV)} {log : List AV} {k w pc a : Nat} {σ σ' : St} {mk : AV} {kd : List Nat} {rest : List AV}
theorem run_step (O : M.Ok) (ho : M.code[pc]? = some (.tup (.str kd :: rest))) (hk : k + 1 ≤ 9999) (hd : kd ≠ sDONE) (ha : kd ≠ sABORT)
    (q : ∀ σ ws w, MC M ws H es log (k + 1) σ → M.base ≤ w → w ∉ ws → σ[w]? = some (.flds (wayO M.ords pc a mk)) → RC (M.d + 9) 13 [.inst 2 M.m, .tup (.str kd :: rest), .inst 1 w] σ fun x σ' =>
      (x = .bool true ∧ ∃ ws' H' pc' a' mk' es' log', MC M ws' H' es' log' (k + 1) σ' ∧ w ∉ ws' ∧ σ'[w]? = some (.flds (wayO M.ords pc' a' mk')) ∧ M.Run pc' a' mk' H' es' log' (k + 1)) ∨
      (x = .bool false ∧ ∃ ws' H' es' log', MC M ws' H' es' log' (k + 1) σ' ∧ M.Back H' es' log' (k + 1))) : M.Run pc a mk H es log k := by
  intro σ ws w x4 C hb hn hw
  have hlt : pc < M.code.length := (List.getElem?_eq_some_iff.mp ho).1
  have wh : w ≠ M.h := by have := O.h; lia
  refine m_loop C.hm hw C.hh (C.ho O) ho (by lia) (by have := O.code; lia) wh (fun e => absurd e hd) ha ?_
  obtain ⟨x, σ', e1, e2⟩ := q _ ws w (C.step O) hb hn (g_ne hw wh.symm)
  refine ⟨x, σ', e1, ?_⟩
  rcases e2 with ⟨rfl, ws', H', pc', a', mk', es', log', C', n', w', R⟩ | ⟨rfl, ws', H', es', log', C', R⟩
  · exact .inl ⟨rfl, R σ' ws' w _ C' hb n' w'⟩
  · exact .inr ⟨rfl, R σ' ws' w _ C'⟩
theorem fr2 {x y : AO} {j : Nat} (h : j ≠ w) : ((σ.set w x).set w y)[j]? = σ[j]? := by
  rw [List.getElem?_set_ne (Ne.symm h), List.getElem?_set_ne (Ne.symm h)]
theorem run_one {t : List Nat} (O : M.Ok) (ho : M.code[pc]? = some (oONE (.str cCHARS) (.str t))) (hk : k + 1 ≤ 9999) (ht : t.length ≤ 1000) (ha : a ≤ 1000)
    (h1 : cut a (a + t.length) M.su = t → M.Run (pc + 1) (a + t.length) mk H es log (k + 1)) (h2 : cut a (a + t.length) M.su ≠ t → M.Back H es log (k + 1)) : M.Run pc a mk H es log k :=
  run_step O ho hk (by decide) (by decide) fun σ ws w C hb hn hw =>
    m_one_chars (d := M.d + 4) C.hm hw O.su ht ha
      (fun e => .inl ⟨rfl, ws, H, pc + 1, a + t.length, mk, es, log, C.keep O hb hn (C.wnm hw) (C.wns hw) (fun j q0 hj => fr2 hj) (by simp) (C.bl O), hn, g_eq (g_eq hw), h1 e⟩)
      (fun e => .inr ⟨rfl, ws, H, es, log, C, h2 e⟩)
theorem run_rpos (O : M.Ok) (ho : M.code[pc]? = some (oONE (.str cRPOS) (.int 0))) (hk : k + 1 ≤ 9999) (ha : a ≤ M.su.length)
    (h1 : a = M.su.length → M.Run (pc + 1) a mk H es log (k + 1)) (h2 : a ≠ M.su.length → M.Back H es log (k + 1)) : M.Run pc a mk H es log k :=
  run_step O ho hk (by decide) (by decide) fun σ ws w C hb hn hw =>
    m_one_rpos (d := M.d + 4) C.hm hw O.su ha
      (fun e => .inl ⟨rfl, ws, H, pc + 1, a, mk, es, log, C.keep O hb hn (C.wnm hw) (C.wns hw) (fun j q0 hj => fr2 hj) (by simp) (C.bl O), hn, g_eq (g_eq hw), h1 e⟩)
      (fun e => .inr ⟨rfl, ws, H, es, log, C, h2 e⟩)
theorem run_jump {n : Nat} (O : M.Ok) (ho : M.code[pc]? = some (oJUMP n)) (hk : k + 1 ≤ 9999) (h : M.Run n a mk H es log (k + 1)) : M.Run pc a mk H es log k :=
  run_step O ho hk (by decide) (by decide) fun σ ws w C hb hn hw =>
    m_jump (d := M.d + 4) hw (.inl ⟨rfl, ws, H, n, a, mk, es, log, C.keep O hb hn (C.wnm hw) (C.wns hw) (fun j q0 hj => List.getElem?_set_ne (Ne.symm hj)) (by simp) (C.bl O), hn, g_eq hw, h⟩)
theorem run_mark (O : M.Ok) (ho : M.code[pc]? = some oMARK) (hk : k + 1 ≤ 9999) (h : M.Run (pc + 1) a (.tup [mk, .int (a : Int)]) H es log (k + 1)) : M.Run pc a mk H es log k :=
  run_step O ho hk (by decide) (by decide) fun σ ws w C hb hn hw =>
    m_mark (d := M.d + 4) hw (.inl ⟨rfl, ws, H, pc + 1, a, _, es, log, C.keep O hb hn (C.wnm hw) (C.wns hw) (fun j q0 hj => fr2 hj) (by simp) (C.bl O), hn, g_eq (g_eq hw), h⟩)
theorem MX.Run.by_ (h : es.length ≤ k → log.length ≤ k → H.length ≤ k → M.Run pc a mk H es log k) : M.Run pc a mk H es log k := fun σ ws w x4 C => h C.es C.log C.hz σ ws w x4 C
theorem run_split {n : Nat} (O : M.Ok) (ho : M.code[pc]? = some (oSPLIT n)) (hk : k + 1 ≤ 4999) (h : M.Run (pc + 1) a .none ((n, a) :: H) es log (k + 1)) : M.Run pc a .none H es log k :=
  .by_ fun _ _ hz => run_step O ho (by lia) (by decide) (by decide) fun σ ws w C hb hn hw => by
    have hwl : ws.length = H.length := C.hH.len
    have hcz := hz
    refine m_split (d := M.d + 4) C.hm C.hs (by unfold histL; simp; lia) hw fun σ' fr w' s' n' l' => ?_
    have bl := C.bl O
    have hlw := lt_of_get hw
    refine .inl ⟨rfl, σ.length :: ws, (n, a) :: H, pc + 1, a, .none, es, log, ?_, ?_, w', h⟩
    · have nw := C.wnm hw
      have nh : M.m ≠ M.hist := ne_kd C.hm C.hs rfl
      have k1 := O.h; have k2 := O.v; have k3 := O.lg; have k4 := O.hist
      exact {
        hm := (fr _ (lt_of_get C.hm) nw.symm nh).trans C.hm
        hh := (fr _ (lt_of_get C.hh) (by lia) (by lia)).trans C.hh
        hv := (fr _ (lt_of_get C.hv) (by lia) (by lia)).trans C.hv
        hl := (fr _ (lt_of_get C.hl) (by lia) (by lia)).trans C.hl
        hs := by rw [s']; simp [histL]
        hH := ⟨n', C.hH.keep fun j hj hl => fr j hl (fun e => hn (e ▸ hj)) (C.wsm j hj).2⟩
        fr := fun j a b c e => (fr j (by lia) (by lia) (by lia)).trans (C.fr j a b c e)
        nd := List.nodup_cons.mpr ⟨fun e => absurd (C.hH.lt _ e) (by lia), C.nd⟩
        lo := fun j hj => by
          rcases List.mem_cons.mp hj with rfl | hj
          · exact bl
          · exact C.lo j hj
        es := C.es
        log := C.log
        hz := by simp; lia }
    · intro e
      rcases List.mem_cons.mp e with e | e
      · lia
      · exact hn e
theorem run_set {i b : Nat} {n : List Nat} (O : M.Ok) (ho : M.code[pc]? = some (oSET (.inst 4 i))) (hk : k + 1 ≤ 9999) (hi : M.σ₀[i]? = some (.flds (nameF n))) (il : i < M.base) (ih : i ≠ M.h) (iv : i ≠ M.v) (ig : i ≠ M.lg) (ha : a ≤ 1000) (hb : b ≤ 1000)
    (h : M.Run (pc + 1) a mk H (putS n (.str (cut b a M.su)) es) (log ++ [.tup [.str n, .str (cut b a M.su)]]) (k + 1)) : M.Run pc a (.tup [mk, .int (b : Int)]) H es log k :=
  .by_ fun he hg _ => run_step O ho hk (by decide) (by decide) fun σ ws w C hwb hn hw => by
    have k1 := O.h; have k2 := O.v; have k3 := O.lg; have k4 := O.hist; have k5 := O.m
    have wh : w ≠ M.h := by lia
    have wv : w ≠ M.v := by lia
    have wl : w ≠ M.lg := by lia
    have hi' : σ[i]? = some (.flds (nameF n)) := (C.fr i il ih iv ig).trans hi
    refine m_set (d := M.d + 4) (v := M.v) (r := M.r) (lg := M.lg) C.hm hw C.hh C.hv (C.hr O) C.hl hi' (by lia) (by lia) wh (by lia) O.su ha hb ?_
    refine .inl ⟨rfl, ws, H, pc + 1, a, mk, putS n (.str (cut b a M.su)) es, _, ?_, hn, g_eq (g_ne (g_ne (g_eq hw) wv.symm) wl.symm), h⟩
    have C1 := C.keep O (σ' := σ.set w (.flds (wayF (.ref M.ords) (.int (pc : Int)) (.int (a : Int)) .none mk .none))) hwb hn (C.wnm hw) (C.wns hw) (fun j q0 hj => List.getElem?_set_ne (Ne.symm hj)) (by simp) (C.bl O)
    have C2 : MC M ws H (putS n (.str (cut b a M.su)) es) (log ++ [.tup [.str n, .str (cut b a M.su)]]) (k + 1) (((σ.set w (.flds (wayF (.ref M.ords) (.int (pc : Int)) (.int (a : Int)) .none mk .none))).set M.v (.dict (putS n (.str (cut b a M.su)) es))).set M.lg (.list (log ++ [.tup [.str n, .str (cut b a M.su)]]))) := {
        hm := g_ne (g_ne C1.hm (by lia)) (by lia)
        hh := g_ne (g_ne C1.hh C.nhv.symm) C.nhl.symm
        hv := g_ne (g_eq C1.hv) C.nvl.symm
        hl := g_eq (g_ne C1.hl C.nvl)
        hs := g_ne (g_ne C1.hs (by lia)) (by lia)
        hH := C1.hH.keep fun j hj hl => by
          have := C.lo j hj
          rw [List.getElem?_set_ne (by lia), List.getElem?_set_ne (by lia)]
        fr := fun j a b c e => by
          rw [List.getElem?_set_ne (Ne.symm e), List.getElem?_set_ne (Ne.symm c)]
          exact C1.fr j a b c e
        nd := C.nd
        lo := C.lo
        es := Nat.le_trans (putS_le _ _ _) (by lia)
        log := by simp; lia
        hz := C.hz }
    exact C2.keep O hwb hn (C.wnm hw) (C.wns hw) (fun j q0 hj => List.getElem?_set_ne (Ne.symm hj)) (by simp) (C2.bl O)
end


section
set_option compiler.extract_closed false
variable {M : MX} {ws : List Nat} {H : List (Nat × Nat)} {es es' : List (List Nat × AV)} {log : List AV} {k w pc a : Nat} {σ σ' : St} {mk : AV} {kd : List Nat} {rest : List AV}
theorem run_ask {n t : List Nat} (O : M.Ok) (ho : M.code[pc]? = some (oASK (.tup [.str cNAME, .str n]))) (hk : k + 3 ≤ 9999) (ht : (es.lookup n).getD (.str []) = .str t) (hz : t.length ≤ 1000) (ha : a ≤ 1000)
    (h1 : cut a (a + t.length) M.su = t → M.Run (pc + 1) (a + t.length) mk H es log (k + 3)) (h2 : cut a (a + t.length) M.su ≠ t → M.Back H es log (k + 2)) : M.Run pc a mk H es log k := by
  intro σ ws w x4 C hb hn hw
  have hlt : pc < M.code.length := (List.getElem?_eq_some_iff.mp ho).1
  have k1 := O.h
  have wh : w ≠ M.h := by lia
  refine m_loop C.hm hw C.hh (C.ho O) ho (by lia) (by have := O.code; lia) wh (fun e => absurd e (by decide)) (by decide) ?_
  have C1 := C.step O
  have hw1 : (σ.set M.h (.flds (hostF M.v M.r M.lg ((k : Int) + 1))))[w]? = _ := g_ne hw wh.symm
  refine m_ask (d := M.d) C1.hm hw1 C1.hh C1.hv ht fun σ' u fr lu hu ll w' => ?_
  refine .inl ⟨rfl, ?_⟩
  have bl := C1.bl O
  have C1' : MC M ws H es log (k + 1) σ' := C1.keep O hb hn (C1.wnm hw1) (C1.wns hw1) fr ll bl
  have uw : u ≠ w := fun e => by rw [e, w'] at hu; cases hu
  refine m_loop (k := ((k + 1 : Nat) : Int)) (pc := 0) C1'.hm w' C1'.hh hu rfl (by lia) (by lia) wh (fun e => absurd e (by decide)) (by decide) ?_
  have C2 := C1'.step O
  have w2 := g_ne (x := .flds (hostF M.v M.r M.lg (((k + 1 : Nat) : Int) + 1))) w' wh.symm
  have u2 := g_ne (x := .flds (hostF M.v M.r M.lg (((k + 1 : Nat) : Int) + 1))) hu (by lia : M.h ≠ u)
  refine m_one_chars (d := M.d + 4) (pc := 0) C2.hm w2 O.su hz ha (fun e => ?_) (fun e => ?_)
  · refine .inl ⟨rfl, ?_⟩
    have C3 := C2.keep O hb hn (C2.wnm w2) (C2.wns w2) (σ' := _) (fun j q0 hj => fr2 (x := .flds (wayF (.ref u) (.int ((0 : Nat) : Int)) (.int ((a + t.length : Nat) : Int)) .none mk (.tup [.none, .tup [.ref M.ords, .int ((pc : Int) + 1)]]))) (y := .flds (wayF (.ref u) (.int (((0 : Nat) : Int) + 1)) (.int ((a + t.length : Nat) : Int)) .none mk (.tup [.none, .tup [.ref M.ords, .int ((pc : Int) + 1)]]))) hj) (by simp) (C2.bl O)
    have u3 := (fr2 (x := .flds (wayF (.ref u) (.int ((0 : Nat) : Int)) (.int ((a + t.length : Nat) : Int)) .none mk (.tup [.none, .tup [.ref M.ords, .int ((pc : Int) + 1)]]))) (y := .flds (wayF (.ref u) (.int (((0 : Nat) : Int) + 1)) (.int ((a + t.length : Nat) : Int)) .none mk (.tup [.none, .tup [.ref M.ords, .int ((pc : Int) + 1)]]))) uw).trans u2
    have w3 := g_eq (x := .flds (wayF (.ref u) (.int (((0 : Nat) : Int) + 1)) (.int ((a + t.length : Nat) : Int)) .none mk (.tup [.none, .tup [.ref M.ords, .int ((pc : Int) + 1)]]))) (g_eq (x := .flds (wayF (.ref u) (.int ((0 : Nat) : Int)) (.int ((a + t.length : Nat) : Int)) .none mk (.tup [.none, .tup [.ref M.ords, .int ((pc : Int) + 1)]]))) w2)
    refine m_loop (k := ((k + 1 + 1 : Nat) : Int)) (pc := 1) C3.hm w3 C3.hh u3 rfl (by lia) (by lia) wh (fun q0 => rfl) (by decide) ?_
    have C4 := C3.step O
    have w4 := g_ne (x := .flds (hostF M.v M.r M.lg (((k + 1 + 1 : Nat) : Int) + 1))) w3 wh.symm
    refine m_back (d := M.d) C4.hm w4 fun σ4 fr4 l4 w5 => ?_
    exact .inl ⟨rfl, h1 e σ4 ws w _ (C4.keep O hb hn (C4.wnm w4) (C4.wns w4) (fun j q0 hj => fr4 j hj) (by lia) (C4.bl O)) hb hn w5⟩
  · exact .inr ⟨rfl, h2 e _ ws w _ C2⟩
theorem run_met (O : M.Ok) (ho : M.code[pc]? = some oDONE) (hk : k + 1 ≤ 9999)
    (h : ∀ σ ws w ρ, MC M ws H es log (k + 1) σ → σ[w]? = some (.flds (wayO M.ords pc a mk)) → M.KS (.ret (.tup [.int 0, .inst 1 w])) ρ σ) : M.Run pc a mk H es log k := by
  intro σ ws w x4 C hb hn hw
  have hlt : pc < M.code.length := (List.getElem?_eq_some_iff.mp ho).1
  have k1 := O.h
  have wh : w ≠ M.h := by lia
  have C1 := C.step O
  have hw1 := g_ne (x := .flds (hostF M.v M.r M.lg ((k : Int) + 1))) hw wh.symm
  have ho1 := C1.ho O
  have hm := C.hm
  have hh := C.hh
  refine r_w ?_
  repeat' walk_at "ev1"
  refine c_step C.hh (by lia) ?_
  repeat' walk_at "ev1"
  refine exI (itemL ho1 ho (by have := O.code; lia)) ?_
  repeat' walk_at "ev1"
  exact h _ ws w _ C1 hw1
theorem back_nil (h : ∀ σ ρ ws, MC M ws [] es log k σ → M.KS .next ρ σ) : M.Back [] es log k := by
  intro σ ws w x4 C
  have e : ws = [] := by
    have := C.hH.len
    cases ws with
    | nil => rfl
    | cons => simp at this
  subst e
  have hm := C.hm
  repeat' walk_at "ev1"
  refine c_way_back0 C.hm C.hs ?_
  repeat' walk_at "ev1"
  refine r_w ?_
  repeat' walk_at "ev1"
  exact h _ _ _ C
theorem back_pop (O : M.Ok) (hk : k ≤ 4999) (h : M.Run pc a .none H es log k) : M.Back ((pc, a) :: H) es log k := by
  intro σ ws w x4 C
  obtain ⟨w', ws', rfl⟩ : ∃ w' ws', ws = w' :: ws' := by
    have := C.hH.len
    cases ws with
    | nil => simp at this
    | cons a b => exact ⟨a, b, rfl⟩
  have hlen := C.hH.len
  simp at hlen
  have hz := C.hz
  simp at hz
  have hs : σ[M.hist]? = some (.list (histL ws' ++ [.inst 1 w'])) := by rw [C.hs]; simp [histL]
  have hw : σ[w']? = some (.flds (wayO M.ords pc a .none)) := C.hH.1
  have nh : w' ≠ M.hist := C.wns hw
  have k1 := O.h; have k2 := O.v; have k3 := O.lg; have k4 := O.hist
  have nm : M.m ≠ M.hist := ne_kd C.hm C.hs rfl
  have hm := C.hm
  repeat' walk_at "ev1"
  refine c_way_back1 C.hm hs (by unfold histL; simp; lia) ?_
  have hw' := g_ne (x := .list (histL ws')) hw nh.symm
  repeat' walk_at "ev1"
  have nd := List.nodup_cons.mp C.nd
  refine h _ ws' w' _ ?_ (C.lo w' (by simp)) nd.1 hw'
  exact {
    hm := g_ne C.hm nm.symm
    hh := g_ne C.hh (by lia)
    hv := g_ne C.hv (by lia)
    hl := g_ne C.hl (by lia)
    hs := g_eq C.hs
    hH := HistOk.keep C.hH.2 fun j hj hl => List.getElem?_set_ne (Ne.symm (C.wsm j (by simp [hj])).2)
    fr := fun j a b c e => (List.getElem?_set_ne (by lia)).trans (C.fr j a b c e)
    nd := nd.2
    lo := fun j hj => C.lo j (by simp [hj])
    es := C.es
    log := C.log
    hz := by have := C.hz; simp at this; lia }
end


section
set_option compiler.extract_closed false
variable {d : Nat} {σ : St} {K : AV → St → Prop}
theorem c_named_rows (q : K (.ref σ.length) (σ ++ [.list []])) : RC (d + 1) 37 [.none] σ K := by
  refine r_call rfl rfl (by decide) ?_
  repeat' walk_at "ev0"
  try refine r_ls ?_
  repeat' walk_at "ev0"
  refine r_sh (r_w ?_)
  repeat' walk_at "ev0"
  refine ⟨bmL (by lia) g_new, ?_⟩
  repeat' walk_at "ev0"
  refine ⟨.none, _, show bmR (σ ++ [.list []]) 3 (.ref σ.length) [] = some (.none, σ ++ [.list []]) from by show onList _ _ _ = _; rw [onList_e g_new]; rfl, ?_⟩
  repeat' walk_at "ev0"
  exact q
end
noncomputable def runM (d m h v r lg hist ords base : Nat) (su : List Nat) (code : List AV) (σ₀ : St) (K : AV → St → Prop) : MX :=
  ⟨d, m, h, v, r, lg, hist, ords, base, su, code, .int 0, σ₀, goOn (d + 9) [.rt (.tp [.g 25, .c .none])] fun fl q0 σ' => K (flOf fl) σ'⟩
section
set_option compiler.extract_closed false
variable {d m h v r lg hist ords base k : Nat} {su : List Nat} {code : List AV} {σ₀ σ : St} {K : AV → St → Prop} {es : List (List Nat × AV)} {log : List AV} {ρ : Loc}
theorem runM_met {w : Nat} (q : K (.tup [.int 0, .inst 1 w]) σ) : (runM d m h v r lg hist ords base su code σ₀ K).KS (.ret (.tup [.int 0, .inst 1 w])) ρ σ := by
  show goOn (d + 9) [.rt (.tp [.g 25, .c .none])] _ (.ret (.tup [.int 0, .inst 1 w])) ρ σ
  repeat' walk_at "ev1"
  exact q
theorem runM_none (q : K (.tup [.int 1, .none]) σ) : (runM d m h v r lg hist ords base su code σ₀ K).KS .next ρ σ := by
  show goOn (d + 9) [.rt (.tp [.g 25, .c .none])] _ .next ρ σ
  repeat' walk_at "ev1"
  exact q
theorem c_run (O : (runM d m h v r lg hist ords base su code σ₀ K).Ok) (C : MC (runM d m h v r lg hist ords base su code σ₀ K) [] [] es log k σ)
    (q : (runM d m h v r lg hist ords base su code σ₀ K).Run 0 0 .none [] es log k) : RC (d + 10) 11 [.inst 2 m, .ref ords, .int 0] σ K := by
  refine r_call rfl rfl (by decide) ?_
  repeat' walk_at "ev0"
  try refine r_nw rfl ?_
  repeat' walk_at "ev0"
  refine c_way_init g_new fun σ' fr hn hl => ⟨rfl, ?_⟩
  repeat' walk_at "ev0"
  refine r_sh ?_
  have bl := C.bl O
  have n1 : σ.length ≠ m := fun e => by have := lt_of_get C.hm; rw [← show m = _ from rfl] at *; exact absurd (show m < σ.length from this) (by lia)
  have n2 : σ.length ≠ hist := fun e => by have := lt_of_get C.hs; exact absurd (show hist < σ.length from this) (by lia)
  refine q σ' [] σ.length none (C.keep O bl (by simp) n1 n2 (fun j hj hne => ?_) (by rw [hl]; simp) bl) bl (by simp) hn
  rw [fr j hne, List.getElem?_append_left hj]
end


section
set_option compiler.extract_closed false
variable {d h v r lg ords k : Nat} {su : List Nat} {code : List AV} {σ : St} {K : AV → St → Prop} {es : List (List Nat × AV)} {log : List AV}
theorem c_match_orders {Pm : Nat → List (List Nat × AV) → Prop} {Pf : Prop} (hh : σ[h]? = some (.flds (hostF v r lg (k : Int)))) (hv : σ[v]? = some (.dict es)) (hl : σ[lg]? = some (.list log)) (hr : σ[r]? = some (.list [])) (ho : σ[ords]? = some (.list code))
    (he : es.length ≤ k) (hg : log.length ≤ k) (hs : su.length ≤ 1000) (hc : code.length ≤ 900) (rl : r ≠ lg) (ol : ords ≠ lg)
    (q0 : ∀ M : MX, M.Ok → M.su = su → M.code = code → M.h = h → M.v = v → M.r = r → M.lg = lg → M.base = σ.length → M.σ₀ = σ →
      (∀ σ' ws H es' log' k' w pc a mk ρ, MC M ws H es' log' k' σ' → σ'[w]? = some (.flds (wayO M.ords pc a mk)) → Pm a es' → M.KS (.ret (.tup [.int 0, .inst 1 w])) ρ σ') →
      (∀ σ' ws H es' log' k' ρ, MC M ws H es' log' k' σ' → Pf → M.KS .next ρ σ') → M.Run 0 0 .none [] es log k)
    (q1 : ∀ σ' f a es', Pm a es' → (∀ j, j < σ.length → j ≠ h → j ≠ v → j ≠ lg → σ'[j]? = σ[j]?) → σ'[v]? = some (.dict es') → (∃ k' : Int, σ'[h]? = some (.flds (hostF v r lg k'))) → σ'[f]? = some (.list []) → K (.tup [.int 0, .int (a : Int), .ref f]) σ')
    (q2 : ∀ σ', Pf → (∀ j, j < σ.length → j ≠ h → j ≠ v → j ≠ lg → σ'[j]? = σ[j]?) → K .none σ') : RC (d + 11) 38 [.ref ords, .str su, .bool true, .inst 3 h] σ K := by
  have lh := lt_of_get hh
  have lv := lt_of_get hv
  have ll := lt_of_get hl
  have lr := lt_of_get hr
  have lo := lt_of_get ho
  have rh : r ≠ h := ne_kd hr hh rfl
  have rv : r ≠ v := ne_kd hr hv rfl
  have oh : ords ≠ h := ne_kd ho hh rfl
  have ov : ords ≠ v := ne_kd ho hv rfl
  refine r_call rfl rfl (by decide) ?_
  repeat' walk_at "ev1"
  refine r_sf ?_
  refine r_itR ?_
  repeat' walk_at "ev1"
  refine ⟨by decide, by decide, ?_⟩
  refine r_f1 (v := .int 0) (src' := .rng 1 0) rfl ?_
  repeat' walk_at "ev1"
  try refine r_nw rfl ?_
  repeat' walk_at "ev1"
  refine c_match_init g_new fun σ' hist fr eh hm hhs hlen => ⟨rfl, ?_⟩
  have Lh : hist = σ.length + 1 := by rw [eh]; simp
  have L' : σ'.length = σ.length + 2 := by rw [hlen]; simp
  have fr' : ∀ j, j < σ.length → σ'[j]? = σ[j]? := fun j hj => by
    rw [fr j (by simp; lia) (by lia), List.getElem?_append_left hj]
  repeat' walk_at "ev1"
  subst Lh
  refine c_run (d := d) (v := v) (r := r) (lg := lg) (base := σ.length) (su := su) (code := code) (σ₀ := σ) (hist := σ.length + 1) (m := σ.length) (h := h) (es := es) (log := log) (k := k) ?_ ?_ ?_
  · exact ⟨lh, lv, ll, lr, lo, Nat.le_refl _, Nat.le_succ _, hr, rh, rv, rl, ho, oh, ov, ol, hs, hc⟩
  · exact { hm := hm, hh := (fr' _ lh).trans hh, hv := (fr' _ lv).trans hv, hl := (fr' _ ll).trans hl, hs := hhs, hH := trivial, fr := fun j a b c e => fr' j a, nd := List.nodup_nil, lo := fun w hw => by simp at hw, es := he, log := hg, hz := Nat.zero_le _ }
  · refine q0 _ ⟨lh, lv, ll, lr, lo, Nat.le_refl _, Nat.le_succ _, hr, rh, rv, rl, ho, oh, ov, ol, hs, hc⟩ rfl rfl rfl rfl rfl rfl rfl rfl ?_ ?_
    · intro σ2 ws H es' log' k' w pc a mk ρ C hw hP
      refine runM_met ?_
      have hw' : σ2[w]? = some (.flds (wayF (.ref ords) (.int (pc : Int)) (.int (a : Int)) .none mk .none)) := hw
      repeat' walk_at "ev1"
      refine c_named_rows ?_
      repeat' walk_at "ev1"
      refine q1 _ _ a es' hP (fun j hj a b c => ?_) (g_app C.hv) ⟨_, g_app C.hh⟩ g_new
      have := C.fr j hj a b c
      rw [List.getElem?_append_left (by have := lt_of_get (this.trans (List.getElem?_eq_getElem hj)); exact this)]
      exact this
    · intro σ2 ws H es' log' k' ρ C hP
      refine runM_none ?_
      repeat' walk_at "ev1"
      refine r_fE rfl ?_
      repeat' walk_at "ev1"
      exact q2 _ hP fun j hj a b c => C.fr j hj a b c
theorem c_match_compiled {l : List Itm} {x : Itm} {Pm : Nat → List (List Nat × AV) → Prop} {Pf : Prop} (hh : σ[h]? = some (.flds (hostF v r lg (k : Int)))) (hv : σ[v]? = some (.dict es)) (hl : σ[lg]? = some (.list log)) (hr : σ[r]? = some (.list []))
    (he : es.length ≤ k) (hg : log.length ≤ k) (hs : su.length ≤ 1000) (rl : r ≠ lg)
    (hz : (qsOf (x :: l)).length ≤ 40) (hj : (jnQ [] (qsOf (x :: l))).length ≤ 40) (hc : (codes 0 (jnQ [] (qsOf (x :: l)))).length ≤ 800)
    (q0 : ∀ M : MX, M.Ok → M.su = su → M.code = codeOf (x :: l) → M.h = h → M.v = v → M.r = r → M.lg = lg → σ.length ≤ M.base → (∀ j, j < σ.length → M.σ₀[j]? = σ[j]?) →
      (∀ σ' ws H es' log' k' w pc a mk ρ, MC M ws H es' log' k' σ' → σ'[w]? = some (.flds (wayO M.ords pc a mk)) → Pm a es' → M.KS (.ret (.tup [.int 0, .inst 1 w])) ρ σ') →
      (∀ σ' ws H es' log' k' ρ, MC M ws H es' log' k' σ' → Pf → M.KS .next ρ σ') → M.Run 0 0 .none [] es log k)
    (q1 : ∀ σ' f a es', Pm a es' → (∀ j, j < σ.length → j ≠ h → j ≠ v → j ≠ lg → σ'[j]? = σ[j]?) → σ'[v]? = some (.dict es') → (∃ k' : Int, σ'[h]? = some (.flds (hostF v r lg k'))) → σ'[f]? = some (.list []) → K (.tup [.int 0, .int (a : Int), .ref f]) σ')
    (q2 : ∀ σ', Pf → (∀ j, j < σ.length → j ≠ h → j ≠ v → j ≠ lg → σ'[j]? = σ[j]?) → K .none σ') : RC (d + 12) 39 [nodeOf rpos0 (x :: l), .str su, .bool true, .inst 3 h] σ K := by
  have lh := lt_of_get hh
  have lv := lt_of_get hv
  have ll := lt_of_get hl
  have lr := lt_of_get hr
  refine r_call rfl rfl (by decide) ?_
  repeat' walk_at "ev1"
  refine c_compile_node (d := d + 6) hz hj hc fun σ' f fr lf hf => ?_
  repeat' walk_at "ev1"
  have L : σ.length ≤ σ'.length := by have := lt_of_get hf; lia
  refine c_match_orders (Pm := Pm) (Pf := Pf) (d := d) (k := k) (es := es) (log := log) (v := v) (r := r) (lg := lg) (code := codeOf (x :: l)) ((fr _ lh).trans hh) ((fr _ lv).trans hv) ((fr _ ll).trans hl) ((fr _ lr).trans hr) hf he hg hs (by simp [codeOf]; lia) rl (by lia) ?_ ?_ ?_
  · intro M O e1 e2 e3 e4 e5 e6 e7 e8 m1 m2
    exact q0 M O e1 e2 e3 e4 e5 e6 (by lia) (fun j hj => by rw [e8]; exact fr j hj) m1 m2
  · intro σ2 f2 a es' hP fr2 hv2 hh2 hf2
    repeat' walk_at "ev1"
    exact q1 σ2 f2 a es' hP (fun j hj a b c => (fr2 j (by lia) a b c).trans (fr j hj)) hv2 hh2 hf2
  · intro σ2 hP fr2
    repeat' walk_at "ev1"
    exact q2 σ2 hP fun j hj a b c => (fr2 j (by lia) a b c).trans (fr j hj)
end


noncomputable def chB (b : Bool) : Nat := if b then 116 else 102
noncomputable abbrev Asg := List Nat → Bool
noncomputable def upd (f : Asg) (n : List Nat) (b : Bool) : Asg := fun m => if m = n then b else f m
noncomputable def EnvOk (names : List (List Nat)) (es : List (List Nat × AV)) (f : Asg) : Prop := ∀ n ∈ names, es.lookup n = some (.str [chB (f n)])
noncomputable def Cl.ok (c : Cl) (f : Asg) : Bool := f c.1 == c.2
theorem lk_eq {n : List Nat} {v : AV} : ∀ es : List (List Nat × AV), (putS n v es).lookup n = some v
  | [] => by simp [putS]
  | e :: r => by
    unfold putS
    split
    · simp
    · next h =>
      have h' : (n == e.1) = false := by
        rw [beq_eq_false_iff_ne]
        intro q; exact h (by rw [q]; simp)
      obtain ⟨e1, e2⟩ := e
      rw [List.lookup_cons, h']
      exact lk_eq r
theorem lk_ne {n m : List Nat} {v : AV} (h : m ≠ n) : ∀ es : List (List Nat × AV), (putS n v es).lookup m = es.lookup m
  | [] => by
    have h' : (m == n) = false := beq_eq_false_iff_ne.mpr h
    simp [putS, List.lookup_cons, h']
  | (e1, e2) :: r => by
    unfold putS
    split
    · next q =>
      have q : e1 = n := eq_of_beq q
      have h' : (m == n) = false := beq_eq_false_iff_ne.mpr h
      rw [List.lookup_cons, List.lookup_cons, q, h']
    · rw [List.lookup_cons, List.lookup_cons, lk_ne h r]
theorem EnvOk.put {names : List (List Nat)} {es : List (List Nat × AV)} {f : Asg} {n : List Nat} {v : AV} (h : EnvOk names es f) (hn : n ∉ names) : EnvOk names (putS n v es) f := fun m hm => by
  rw [lk_ne (show m ≠ n from fun e => hn (e ▸ hm))]; exact h m hm
theorem EnvOk.upd {names : List (List Nat)} {es : List (List Nat × AV)} {f : Asg} {n : List Nat} {b : Bool} (h : EnvOk names es f) (hn : n ∉ names) : EnvOk (n :: names) (putS n (.str [chB b]) es) (upd f n b) := fun m hm => by
  by_cases e : m = n
  · subst e; rw [lk_eq]; simp [Mine.upd]
  · rw [lk_ne e, h m (by rcases List.mem_cons.mp hm with q | q; exact absurd q e; exact q)]; simp [Mine.upd, e]
theorem EnvOk.pop {names : List (List Nat)} {es : List (List Nat × AV)} {f : Asg} {n : List Nat} {b : Bool} (h : EnvOk (n :: names) es (Mine.upd f n b)) (hn : n ∉ names) : EnvOk names es f := fun m hm => by
  rw [h m (List.mem_cons_of_mem _ hm)]; simp [Mine.upd, show m ≠ n from fun e => hn (e ▸ hm)]
noncomputable def tfs (n : Nat) : List Nat := (List.replicate n [116, 102]).flatten
theorem tfs_len (n : Nat) : (tfs n).length = 2 * n := by simp [tfs]; lia
theorem tfs_t : ∀ (n i : Nat), i < n → cut (2 * i) (2 * i + 1) (tfs n) = [116]
  | n + 1, 0, _ => by simp [tfs, List.replicate_succ, cut]
  | n + 1, i + 1, h => by
    have := tfs_t n i (by lia)
    rw [show 2 * (i + 1) = 2 * i + 1 + 1 from by lia]
    simpa [tfs, List.replicate_succ, cut] using this
theorem tfs_f : ∀ (n i : Nat), i < n → cut (2 * i + 1) (2 * i + 2) (tfs n) = [102]
  | n + 1, 0, _ => by simp [tfs, List.replicate_succ, cut]
  | n + 1, i + 1, h => by
    have := tfs_f n i (by lia)
    rw [show 2 * (i + 1) = 2 * i + 1 + 1 from by lia]
    simpa [tfs, List.replicate_succ, cut] using this
noncomputable def refN (nm : Nat → List Nat) : AV → List Nat
  | .inst _ i => nm i
  | _ => []
noncomputable def leaves (nm : Nat → List Nat) : List Itm → Asg → List Asg
  | [], f => [f]
  | .c1 a :: l, f => if a.ok f then leaves nm l f else []
  | .c2 a b :: l, f => (if a.ok f then leaves nm l f else []) ++ (if b.ok f then leaves nm l f else [])
  | .v r :: l, f => leaves nm l (upd f (refN nm r) true) ++ leaves nm l (upd f (refN nm r) false)
inductive LE where
  | set (n : List Nat) (b : Bool)
  | hit
noncomputable def LE.av (len : Nat) : LE → AV
  | .set n b => .tup [.str n, .str [chB b]]
  | .hit => .tup [.str [69], .int (len : Int)]
noncomputable def tlog (nm : Nat → List Nat) : List Itm → Asg → List LE
  | [], f => [.hit]
  | .c1 a :: l, f => if a.ok f then tlog nm l f else []
  | .c2 a b :: l, f => (if a.ok f then tlog nm l f else []) ++ (if b.ok f then tlog nm l f else [])
  | .v r :: l, f => (.set (refN nm r) true :: tlog nm l (upd f (refN nm r) true)) ++ (.set (refN nm r) false :: tlog nm l (upd f (refN nm r) false))
noncomputable def WI (nm : Nat → List Nat) (R : Nat → Prop) : List (List Nat) → List Itm → Prop
  | _, [] => True
  | names, .v r :: l => (∃ i, r = .inst 4 i ∧ R i) ∧ refN nm r ∉ names ∧ refN nm r ≠ [69] ∧ WI nm R (refN nm r :: names) l
  | names, .c1 a :: l => a.1 ∈ names ∧ WI nm R names l
  | names, .c2 a b :: l => a.1 ∈ names ∧ b.1 ∈ names ∧ WI nm R names l
noncomputable def cost : List Itm → Nat
  | [] => 3
  | .c1 _ :: l => 5 + cost l
  | .c2 _ _ :: l => 10 + 2 * cost l
  | .v _ :: l => 12 + 2 * cost l
noncomputable def lastE (i : Nat) : AV := ct (.tup [.str cCURSOR, .inst 4 i]) (.tup [.str cFAIL])
theorem chB_t {b : Bool} : chB b = 116 ↔ b = true := by cases b <;> decide
theorem chB_f {b : Bool} : chB b = 102 ↔ b = false := by cases b <;> decide
structure TB (pile log : List AV) (es : List (List Nat × AV)) (k : Nat) : Prop where
  p : pile.length ≤ k
  l : log.length ≤ k
  e : es.length ≤ k
section
set_option compiler.extract_closed false
variable {T : TX} {pile log : List AV} {es : List (List Nat × AV)} {k a : Nat} {rest : AV} {f : Asg}
theorem trial_cl {c : Cl} (O : T.Ok) (hk : k + 4 ≤ 9999) (hn : es.lookup c.1 = some (.str [chB (f c.1)])) (s1 : cut a (a + 1) T.su = [116]) (s2 : cut (a + 1) (a + 2) T.su = [102]) (ha : a + 2 ≤ 1000)
    (h1 : c.ok f = true → T.Inn rest (a + 2) pile log es (k + 4)) (h2 : c.ok f = false → ∀ k', k ≤ k' → k' ≤ k + 4 → T.Out pile log es k') : T.Inn (.tup [c.av, rest]) a pile log es k := by
  obtain ⟨n, b⟩ := c
  cases b with
  | true =>
    refine inn_cat O (by lia) ?_
    refine inn_delay O (by lia) (t := [chB (f n)]) (by rw [hn]; rfl) ?_
    refine inn_chars O (by lia) (by simp) (by lia) (fun e => ?_) (fun e => ?_)
    · rw [show a + [chB (f n)].length = a + 1 from rfl, s1] at e
      have e' : f n = true := chB_t.mp (by simpa using e.symm)
      refine inn_chars O (by lia) (by simp) (by simp; lia) (fun q0 => h1 (by simp [Cl.ok, e'])) (fun e2 => absurd s2 e2)
    · refine h2 ?_ _ (by lia) (by lia)
      have : f n ≠ true := fun q => e (by rw [q]; exact s1)
      simp [Cl.ok, this]
  | false =>
    refine inn_cat O (by lia) ?_
    refine inn_chars O (by lia) (by simp) (by lia) (fun q0 => ?_) (fun e => absurd s1 e)
    refine inn_delay O (by lia) (t := [chB (f n)]) (by rw [hn]; rfl) ?_
    refine inn_chars O (by lia) (by simp) (by simp; lia) (fun e => ?_) (fun e => ?_)
    · have e : cut (a + 1) (a + 2) T.su = [chB (f n)] := e
      rw [s2] at e
      have e' : f n = false := chB_f.mp (by simpa using e.symm)
      exact h1 (by simp [Cl.ok, e'])
    · refine h2 ?_ _ (by lia) (by lia)
      have : f n ≠ false := fun q => e (by rw [q]; exact s2)
      simp at this
      simp [Cl.ok, this]
end


section
set_option compiler.extract_closed false
variable {T : TX} {nm : Nat → List Nat}
noncomputable def RefT (T : TX) (nm : Nat → List Nat) (i : Nat) : Prop := T.σ₀[i]? = some (.flds (nameF (nm i))) ∧ i ≠ T.p ∧ i ≠ T.h ∧ i ≠ T.v ∧ i ≠ T.lg
noncomputable def TG (T : TX) (N : Nat) (ns : List (List Nat)) (f : Asg) (pile log : List AV) (L : List LE) (K : Nat) (R : Prop) : Prop :=
  (∀ es k, k ≤ K → EnvOk ns es f → T.Out pile (log ++ L.map (LE.av (2 * N))) es k) → R
noncomputable def TR (T : TX) (nm : Nat → List Nat) (N iE : Nat) (l : List Itm) : Prop :=
  ∀ (i : Nat) (pile log : List AV) (es : List (List Nat × AV)) (k K : Nat) (ns : List (List Nat)) (f : Asg),
    WI nm (RefT T nm) ns l → [69] ∉ ns → i + l.length = N → EnvOk ns es f → k + cost l ≤ K → K ≤ 9000 →
    TG T N ns f pile log (tlog nm l f) K (T.Inn (.tup [nodeOf (lastE iE) l, .none]) (2 * i) pile log es k)
variable {N iE : Nat} {ns : List (List Nat)} {f : Asg} {pile log : List AV} {L L1 L2 : List LE} {K K1 k n c i x : Nat} {es : List (List Nat × AV)} {R R' : Prop} {a b rest : AV} {l : List Itm}
theorem TG.map (r : R → R') (g : TG T N ns f pile log L K R) : TG T N ns f pile log L K R' := fun q => r (g q)
theorem TG.upd {n : List Nat} {b : Bool} (hn : n ∉ ns) (g : TG T N (n :: ns) (Mine.upd f n b) pile log L K R) : TG T N ns f pile log L K R := fun q => g fun es k hk E => q es k hk (E.pop hn)
theorem TG.cons {e : LE} (g : TG T N ns f pile (log ++ [e.av (2 * N)]) L K R) : TG T N ns f pile log (e :: L) K R := fun q => g fun es k hk E => by
  rw [List.append_assoc]; exact q es k hk E
theorem TG.alt (O : T.Ok) (hk : k + 1 ≤ 9000) (hK : K1 ≤ 9000)
    (h1 : TG T N ns f (pile ++ [.tup [.tup [b, rest], .int (x : Int), .tup []]]) log L1 K1 (T.Inn (.tup [a, rest]) x (pile ++ [.tup [.tup [b, rest], .int (x : Int), .tup []]]) log es (k + 1)))
    (h2 : ∀ log es k, k ≤ K1 → EnvOk ns es f → TG T N ns f pile log L2 K (T.Inn (.tup [b, rest]) x pile log es k)) :
    TG T N ns f pile log (L1 ++ L2) K (T.Inn (.tup [.tup [.str cALT, a, b], rest]) x pile log es k) := fun q =>
  inn_alt O (Nat.le_trans hk (by decide)) (h1 fun es1 k1 hk1 E1 => out_pop O (Nat.le_trans hk1 (Nat.le_trans hK (by decide))) (h2 _ es1 k1 hk1 E1 fun es2 k2 hk2 E2 => by
    have := q es2 k2 hk2 E2
    rw [List.map_append, ← List.append_assoc] at this
    exact this))
theorem TG.cl {c : Cl} (O : T.Ok) (hk : k + 4 ≤ K) (hK : K ≤ 9000) (hn : c.1 ∈ ns) (E : EnvOk ns es f) (s1 : cut x (x + 1) T.su = [116]) (s2 : cut (x + 1) (x + 2) T.su = [102]) (ha : x + 2 ≤ 1000)
    (h : TG T N ns f pile log L K (T.Inn rest (x + 2) pile log es (k + 4))) : TG T N ns f pile log (if c.ok f then L else []) K (T.Inn (.tup [c.av, rest]) x pile log es k) := by
  intro q
  refine trial_cl (f := f) O (Nat.le_trans hk (Nat.le_trans hK (by decide))) (E _ hn) s1 s2 ha (fun e => ?_) (fun e k' q0 h2 => ?_)
  · rw [if_pos e] at q; exact h q
  · have := q es k' (Nat.le_trans h2 hk) E
    rw [if_neg (ne_true_of_eq_false e), List.map_nil, List.append_nil] at this
    exact this
theorem tk1 (h : k + (n + c) ≤ K) : k + n ≤ K := Nat.le_trans (Nat.add_le_add_left (Nat.le_add_right n c) k) h
theorem tk2 (h : k + (n + c) ≤ K) : k + n + c ≤ K := Nat.add_assoc k n c ▸ h
theorem tk3 {m : Nat} (h : k + n ≤ K) (hK : K ≤ 9000) (hm : m ≤ n) : k + m ≤ 9999 := Nat.le_trans (Nat.add_le_add_left hm k) (Nat.le_trans h (Nat.le_trans hK (by decide)))
theorem tk4 (h : k + (n + 2 * c) ≤ K) {m : Nat} (hm : m ≤ n) : k + m + c ≤ K := by lia
theorem tk5 (h : k + (n + 2 * c) ≤ K) {m j k' : Nat} (h' : k' ≤ k + m + c) (hm : m + j ≤ n) : k' + (j + c) ≤ K := by lia
theorem su1 (hN : N ≤ 400) (hi : i + (n + 1) = N) : i < N ∧ 2 * i + 2 ≤ 1000 ∧ i + 1 + n = N := by lia
theorem tr_nil (O : T.Ok) (hE : RefT T nm iE) (nE : nm iE = [69]) : TR T nm N iE [] := by
  intro i pile log es k K ns f W nn hi E hk hK q
  have hi : i = N := hi
  subst hi
  have e := q _ (k + 3) hk (E.put (v := .int ((2 * i : Nat) : Int)) nn)
  rw [← nE] at e
  exact inn_cat O (tk3 hk hK (by decide)) (inn_cursor O (tk3 hk hK (m := 2) (by decide)) hE.1 hE.2.1 hE.2.2.1 hE.2.2.2.1 hE.2.2.2.2 (inn_fail O (tk3 hk hK (m := 3) (by decide)) (by
    rw [nE] at e ⊢; exact e)))
theorem tr_c1 {x : Cl} (O : T.Ok) (hN : N ≤ 400) (hs : T.su = tfs N) (h : TR T nm N iE l) : TR T nm N iE (.c1 x :: l) := by
  intro i pile log es k K ns f W nn hi E hk hK
  obtain ⟨u1, u2, u3⟩ := su1 hN hi
  exact TG.map (inn_cat O (tk3 (tk1 hk) hK (by decide))) (TG.cl O (k := k + 1) (tk1 (n := 5) hk) hK W.1 E (hs ▸ tfs_t _ _ u1) (hs ▸ tfs_f _ _ u1) u2 (h (i + 1) pile log es (k + 5) K ns f W.2 nn u3 E (tk2 hk) hK))
theorem tr_c2 {x y : Cl} (O : T.Ok) (hN : N ≤ 400) (hs : T.su = tfs N) (h : TR T nm N iE l) : TR T nm N iE (.c2 x y :: l) := by
  intro i pile log es k K ns f W nn hi E hk hK
  obtain ⟨u1, u2, u3⟩ := su1 hN hi
  have s1 : cut (2 * i) (2 * i + 1) T.su = [116] := hs ▸ tfs_t _ _ u1
  have s2 : cut (2 * i + 1) (2 * i + 2) T.su = [102] := hs ▸ tfs_f _ _ u1
  have k6 := tk4 hk (m := 6) (by decide)
  refine TG.map (inn_cat O (tk3 (tk1 hk) hK (by decide))) (TG.alt (k := k + 1) O (Nat.le_trans (Nat.add_le_add_left (by decide : 2 ≤ 10) k) (Nat.le_trans (tk1 hk) hK)) (Nat.le_trans k6 hK) ?_ fun log es2 k2 h2 E2 => ?_)
  · exact TG.cl O (k := k + 2) (Nat.le_add_right _ _) (Nat.le_trans k6 hK) W.1 E s1 s2 u2 (h (i + 1) _ log es (k + 6) _ ns f W.2.2 nn u3 E (Nat.le_refl _) (Nat.le_trans k6 hK))
  · have k4 := tk5 hk h2 (j := 4) (by decide)
    exact TG.cl O (tk1 k4) hK W.2.1 E2 s1 s2 u2 (h (i + 1) _ log es2 (k2 + 4) K ns f W.2.2 nn u3 E2 (tk2 k4) hK)
theorem tr_v {r : AV} (O : T.Ok) (hN : N ≤ 400) (hs : T.su = tfs N) (h : TR T nm N iE l) : TR T nm N iE (.v r :: l) := by
  intro i pile log es k K ns f W nn hi E hk hK
  obtain ⟨u1, u2, u3⟩ := su1 hN hi
  obtain ⟨⟨ir, er, hr⟩, n1, n2, W'⟩ := W
  subst er
  have s1 : cut (2 * i) (2 * i + 1) T.su = [116] := hs ▸ tfs_t _ _ u1
  have s2 : cut (2 * i + 1) (2 * i + 2) T.su = [102] := hs ▸ tfs_f _ _ u1
  have v1 : 2 * i + 1 ≤ 1000 := Nat.le_of_succ_le u2
  have v0 : 2 * i ≤ 1000 := Nat.le_of_succ_le v1
  have nn' : [69] ∉ nm ir :: ns := fun h => (List.mem_cons.mp h).elim (fun h => n2 h.symm) nn
  have k7 := tk4 hk (m := 7) (by decide)
  have b : ∀ {m : Nat}, m ≤ 12 → k + m ≤ 9999 := fun e => tk3 (tk1 hk) hK e
  refine TG.map (inn_cat O (b (by decide))) (TG.alt (k := k + 1) O (Nat.le_trans (Nat.add_le_add_left (by decide : 2 ≤ 12) k) (Nat.le_trans (tk1 hk) hK)) (Nat.le_trans k7 hK) ?_ fun log es2 k2 h2 E2 => ?_)
  · refine TG.cons (e := .set (nm ir) true) (TG.map (fun R => ?_) (TG.upd (b := true) n1 (h (i + 1) _ (log ++ [LE.av (2 * N) (LE.set (nm ir) true)]) (putS (nm ir) (.str [116]) es) (k + 7) _ (nm ir :: ns) _ W' nn' u3 (E.upd (b := true) n1) (Nat.le_refl _) (Nat.le_trans k7 hK))))
    refine inn_cat O (b (m := 3) (by decide)) ?_
    refine inn_now O (b (m := 4) (by decide)) ?_
    refine inn_chars O (b (m := 5) (by decide)) (by decide) v0 (fun q0 => ?_) (fun e => absurd s1 e)
    refine inn_endnow O (b (m := 6) (by decide)) hr.1 hr.2.1 hr.2.2.1 hr.2.2.2.1 hr.2.2.2.2 v0 v1 ?_
    rw [show cut (2 * i) (2 * i + [116].length) T.su = [116] from s1]
    exact inn_chars O (b (m := 7) (by decide)) (by decide) v1 (fun q0 => R) (fun e => absurd s2 e)
  · have k5 := tk5 hk h2 (j := 5) (by decide)
    have b2 : ∀ {m : Nat}, m ≤ 5 → k2 + m ≤ 9999 := fun e => tk3 (tk1 k5) hK e
    refine TG.cons (e := .set (nm ir) false) (TG.map (fun R => ?_) (TG.upd (b := false) n1 (h (i + 1) pile (log ++ [LE.av (2 * N) (LE.set (nm ir) false)]) (putS (nm ir) (.str [102]) es2) (k2 + 5) K (nm ir :: ns) _ W' nn' u3 (E2.upd (b := false) n1) (tk2 k5) hK)))
    refine inn_cat O (b2 (m := 1) (by decide)) ?_
    refine inn_chars O (b2 (m := 2) (by decide)) (by decide) v0 (fun q0 => ?_) (fun e => absurd s1 e)
    refine inn_now O (b2 (m := 3) (by decide)) ?_
    refine inn_chars O (b2 (m := 4) (by decide)) (by decide) v1 (fun q0 => ?_) (fun e => absurd s2 e)
    refine inn_endnow O (b2 (m := 5) (by decide)) hr.1 hr.2.1 hr.2.2.1 hr.2.2.2.1 hr.2.2.2.2 v1 u2 ?_
    rw [show cut (2 * i + [116].length) (2 * i + [116].length + [102].length) T.su = [102] from s2]
    exact R
theorem trial (O : T.Ok) (hN : N ≤ 400) (hs : T.su = tfs N) (hE : RefT T nm iE) (nE : nm iE = [69]) (l : List Itm) : TR T nm N iE l := by
  induction l with
  | nil => exact tr_nil O hE nE
  | cons x l ih => cases x with
    | v r => exact tr_v O hN hs ih
    | c1 x => exact tr_c1 O hN hs ih
    | c2 x y => exact tr_c2 O hN hs ih
end


noncomputable def leavesQ (nm : Nat → List Nat) (su : List Nat) : List Q → Nat → Asg → List (Nat × Asg)
  | [], a, f => [(a, f)]
  | .t s :: l, a, f => if cut a (a + s.length) su = s then leavesQ nm su l (a + s.length) f else []
  | .d n :: l, a, f => if cut a (a + 1) su = [chB (f n)] then leavesQ nm su l (a + 1) f else []
  | .v r :: l, a, f => leavesQ nm su l (a + 2) (upd f (refN nm r) true) ++ leavesQ nm su l (a + 2) (upd f (refN nm r) false)
  | .c2 x y :: l, a, f => (if x.ok f then leavesQ nm su l (a + 2) f else []) ++ (if y.ok f then leavesQ nm su l (a + 2) f else [])
  | .e :: l, a, f => if a = su.length then leavesQ nm su l a f else []
noncomputable def WQ (nm : Nat → List Nat) (R : Nat → Prop) (su : List Nat) : List (List Nat) → Nat → List Q → Prop
  | _, _, [] => True
  | ns, a, .t s :: l => s ≠ [] ∧ a + s.length ≤ su.length ∧ WQ nm R su ns (a + s.length) l
  | ns, a, .d n :: l => n ∈ ns ∧ a + 1 ≤ su.length ∧ WQ nm R su ns (a + 1) l
  | ns, a, .v r :: l => (∃ i, r = .inst 4 i ∧ R i) ∧ refN nm r ∉ ns ∧ cut a (a + 1) su = [116] ∧ cut (a + 1) (a + 2) su = [102] ∧ a + 2 ≤ su.length ∧ WQ nm R su (refN nm r :: ns) (a + 2) l
  | ns, a, .c2 x y :: l => x.1 ∈ ns ∧ y.1 ∈ ns ∧ cut a (a + 1) su = [116] ∧ cut (a + 1) (a + 2) su = [102] ∧ a + 2 ≤ su.length ∧ WQ nm R su ns (a + 2) l
  | ns, a, .e :: l => a ≤ su.length ∧ WQ nm R su ns a l
noncomputable def costQ : List Q → Nat
  | [] => 1
  | .t s :: l => s.length + costQ l
  | .d _ :: l => 3 + costQ l
  | .v _ :: l => 12 + 2 * costQ l
  | .c2 _ _ :: l => 12 + 2 * costQ l
  | .e :: l => 1 + costQ l
noncomputable def allN (nm : Nat → List Nat) : List (List Nat) → List Q → List (List Nat)
  | ns, [] => ns
  | ns, .v r :: l => allN nm (refN nm r :: ns) l
  | ns, _ :: l => allN nm ns l
structure MB (H : List (Nat × Nat)) (es : List (List Nat × AV)) (log : List AV) (k : Nat) : Prop where
  h : H.length ≤ k
  l : log.length ≤ k
  e : es.length ≤ k
noncomputable def RefM (M : MX) (nm : Nat → List Nat) (i : Nat) : Prop := M.σ₀[i]? = some (.flds (nameF (nm i))) ∧ i < M.base ∧ i ≠ M.h ∧ i ≠ M.v ∧ i ≠ M.lg
theorem code_at {C pre X post : List AV} {j : Nat} {x : AV} (h : C = pre ++ X ++ post) (e : X[j]? = some x) : C[pre.length + j]? = some x := by
  subst h
  have hj : j < X.length := (List.getElem?_eq_some_iff.mp e).1
  rw [List.getElem?_append_left (by simp; lia), List.getElem?_append_right (by lia), Nat.add_sub_cancel_left]
  exact e
section
set_option compiler.extract_closed false
variable {M : MX} {nm : Nat → List Nat} {H : List (Nat × Nat)} {es : List (List Nat × AV)} {log : List AV} {k pc a : Nat} {mk : AV} {f : Asg}
theorem run_cl {c : Cl} {o0 o1 : AV} (O : M.Ok) (hc : c.code = [o0, o1]) (h0 : M.code[pc]? = some o0) (h1 : M.code[pc + 1]? = some o1) (hk : k + 4 ≤ 9999) (hn : es.lookup c.1 = some (.str [chB (f c.1)])) (s1 : cut a (a + 1) M.su = [116]) (s2 : cut (a + 1) (a + 2) M.su = [102]) (ha : a + 2 ≤ 1000)
    (q1 : c.ok f = true → M.Run (pc + 2) (a + 2) mk H es log (k + 4)) (q2 : c.ok f = false → ∀ k', k ≤ k' → k' ≤ k + 4 → M.Back H es log k') : M.Run pc a mk H es log k := by
  obtain ⟨n, b⟩ := c
  cases b with
  | true =>
    simp only [Cl.code, if_pos, List.cons.injEq, and_true] at hc
    obtain ⟨rfl, rfl⟩ := hc
    refine run_ask O h0 (by lia) (t := [chB (f n)]) (by rw [hn]; rfl) (by simp) (by lia) (fun e => ?_) (fun e => ?_)
    · have e : cut a (a + 1) M.su = [chB (f n)] := e
      rw [s1] at e
      have e' : f n = true := chB_t.mp (by simpa using e.symm)
      refine run_one O h1 (by lia) (by simp) (by simp; lia) (fun q0 => q1 (by simp [Cl.ok, e'])) (fun e2 => absurd s2 e2)
    · refine q2 ?_ _ (by lia) (by lia)
      have : f n ≠ true := fun q => e (by rw [q]; exact s1)
      simp [Cl.ok, this]
  | false =>
    simp only [Cl.code, Bool.false_eq_true, if_false, List.cons.injEq, and_true] at hc
    obtain ⟨rfl, rfl⟩ := hc
    refine run_one O h0 (by lia) (by simp) (by lia) (fun q0 => ?_) (fun e => absurd s1 e)
    refine run_ask O h1 (by lia) (t := [chB (f n)]) (by rw [hn]; rfl) (by simp) (by simp; lia) (fun e => ?_) (fun e => ?_)
    · have e : cut (a + 1) (a + 2) M.su = [chB (f n)] := e
      rw [s2] at e
      have e' : f n = false := chB_f.mp (by simpa using e.symm)
      exact q1 (by simp [Cl.ok, e'])
    · refine q2 ?_ _ (by lia) (by lia)
      have : f n ≠ false := fun q => e (by rw [q]; exact s2)
      simp at this
      simp [Cl.ok, this]
theorem cl_two (c : Cl) : ∃ o0 o1, c.code = [o0, o1] := by
  obtain ⟨n, b⟩ := c
  cases b <;> exact ⟨_, _, rfl⟩
end


noncomputable def QB (M : MX) (ns : List (List Nat)) (f : Asg) (H : List (Nat × Nat)) (K : Nat) : Prop := ∀ es log k, k ≤ K → EnvOk ns es f → M.Back H es log k
noncomputable def QM (Pm : Nat → List (List Nat × AV) → Prop) (ns : List (List Nat)) (L : List (Nat × Asg)) : Prop := ∀ a f es, L.head? = some (a, f) → EnvOk ns es f → Pm a es
noncomputable def GoQ (M : MX) (Pm : Nat → List (List Nat × AV) → Prop) (ns ns' : List (List Nat)) (f : Asg) (L : List (Nat × Asg)) (H : List (Nat × Nat)) (K : Nat) (R : Prop) : Prop :=
  QM Pm ns' L → (L = [] → QB M ns f H K) → R
noncomputable def RQ (M : MX) (nm : Nat → List Nat) (Pm : Nat → List (List Nat × AV) → Prop) (l : List Q) : Prop :=
  ∀ (pre : List AV) (a : Nat) (f : Asg) (es : List (List Nat × AV)) (log : List AV) (k K : Nat) (H : List (Nat × Nat)) (ns : List (List Nat)), M.code = pre ++ codes pre.length l ++ [oDONE] → WQ nm (RefM M nm) M.su ns a l → EnvOk ns es f → k + costQ l ≤ K → K ≤ 4900 →
    GoQ M Pm ns (allN nm ns l) f (leavesQ nm M.su l a f) H K (M.Run pre.length a .none H es log k)
section
set_option compiler.extract_closed false
variable {M : MX} {nm : Nat → List Nat} {Pm : Nat → List (List Nat × AV) → Prop} {l : List Q} {x : Q} {pre : List AV} {ns ns' : List (List Nat)} {f : Asg} {L L1 L2 : List (Nat × Asg)} {H : List (Nat × Nat)} {k n c a pc K K1 : Nat} {es : List (List Nat × AV)} {log : List AV} {mk : AV} {R R' : Prop}
theorem GoQ.map (r : R → R') (g : GoQ M Pm ns ns' f L H K R) : GoQ M Pm ns ns' f L H K R' := fun qm qb => r (g qm qb)
theorem GoQ.upd {n : List Nat} {b : Bool} (hn : n ∉ ns) (g : GoQ M Pm (n :: ns) ns' (Mine.upd f n b) L H K R) : GoQ M Pm ns ns' f L H K R := fun qm qb => g qm fun e es log k hk E => qb e es log k hk (E.pop hn)
theorem GoQ.nil (hk : k ≤ K) (E : EnvOk ns es f) : GoQ M Pm ns ns' f [] H K (M.Back H es log k) := fun _ qb => qb rfl es log k hk E
theorem GoQ.iff {p : Prop} [Decidable p] (h1 : p → GoQ M Pm ns ns' f L H K R) (h2 : ¬ p → GoQ M Pm ns ns' f [] H K R) : GoQ M Pm ns ns' f (if p then L else []) H K R := by
  by_cases h : p
  · rw [if_pos h]; exact h1 h
  · rw [if_neg h]; exact h2 h
theorem GoQ.alt (O : M.Ok) (g0 : M.code[pc]? = some (oSPLIT n)) (hk : k + 1 ≤ 4900) (hK : K1 ≤ 4900)
    (h1 : GoQ M Pm ns ns' f L1 ((n, a) :: H) K1 (M.Run (pc + 1) a .none ((n, a) :: H) es log (k + 1)))
    (h2 : ∀ es log k, k ≤ K1 → EnvOk ns es f → GoQ M Pm ns ns' f L2 H K (M.Run n a .none H es log k)) :
    GoQ M Pm ns ns' f (L1 ++ L2) H K (M.Run pc a .none H es log k) := fun qm qb =>
  run_split O g0 (Nat.le_trans hk (by decide)) (h1 (fun a' f' es' h e => qm a' f' es' (by rw [List.head?_append, h]; rfl) e)
    fun e1 es1 log1 k1 hk1 E1 => back_pop O (Nat.le_trans hk1 (Nat.le_trans hK (by decide))) (h2 es1 log1 k1 hk1 E1 (by rw [e1] at qm; exact qm) fun e2 => qb (by rw [e1, e2]; rfl)))
theorem GoQ.cl {c : Cl} {o0 o1 : AV} (O : M.Ok) (hc : c.code = [o0, o1]) (h0 : M.code[pc]? = some o0) (h1 : M.code[pc + 1]? = some o1) (hk : k + 4 ≤ K) (hK : K ≤ 4900) (hn : c.1 ∈ ns) (E : EnvOk ns es f) (s1 : cut a (a + 1) M.su = [116]) (s2 : cut (a + 1) (a + 2) M.su = [102]) (ha : a + 2 ≤ M.su.length)
    (h : GoQ M Pm ns ns' f L H K (M.Run (pc + 2) (a + 2) mk H es log (k + 4))) : GoQ M Pm ns ns' f (if c.ok f = true then L else []) H K (M.Run pc a mk H es log k) := by
  intro qm qb
  refine run_cl (f := f) O hc h0 h1 (Nat.le_trans hk (Nat.le_trans hK (by decide))) (E _ hn) s1 s2 (Nat.le_trans ha O.su) (fun e => ?_) (fun e k' q0 h2 => ?_)
  · rw [if_pos e] at qm qb; exact h qm qb
  · exact qb (if_neg (ne_true_of_eq_false e)) es log k' (Nat.le_trans h2 hk) E
theorem at_code {j : Nat} {o : AV} (hc : M.code = pre ++ codes pre.length (x :: l) ++ [oDONE]) (e : (x.code pre.length)[j]? = some o) : M.code[pre.length + j]? = some o :=
  code_at (post := codes (pre.length + (x.code pre.length).length) l ++ [oDONE]) (by rw [hc, codes, List.append_assoc, List.append_assoc, List.append_assoc]) e
theorem RQ.at_ (h : RQ M nm Pm l) (hc : M.code = pre ++ codes pre.length (x :: l) ++ [oDONE]) (W : WQ nm (RefM M nm) M.su ns a l) (E : EnvOk ns es f) (hk : k + costQ l ≤ K) (hK : K ≤ 4900) :
    GoQ M Pm ns (allN nm ns l) f (leavesQ nm M.su l a f) H K (M.Run (pre.length + (x.code pre.length).length) a .none H es log k) := by
  have := h (pre ++ x.code pre.length) a f es log k K H ns (by rw [hc, List.length_append, codes, ← List.append_assoc]) W E hk hK
  rw [List.length_append] at this
  exact this
theorem rk1 (h : k + (n + c) ≤ K) : k + n ≤ K := Nat.le_trans (Nat.add_le_add_left (Nat.le_add_right n c) k) h
theorem rk2 (h : k + (n + c) ≤ K) : k + n + c ≤ K := Nat.add_assoc k n c ▸ h
theorem rk3 (h : k + n ≤ K) (hK : K ≤ 4900) : k + n ≤ 9999 := Nat.le_trans h (Nat.le_trans hK (by decide))
theorem rq_nil (O : M.Ok) (hKS : ∀ σ' ws H es' log' k' w pc a mk ρ, MC M ws H es' log' k' σ' → σ'[w]? = some (.flds (wayO M.ords pc a mk)) → Pm a es' → M.KS (.ret (.tup [.int 0, .inst 1 w])) ρ σ') : RQ M nm Pm [] := by
  intro pre a f es log k K H ns hc W E hk hK qm qb
  exact run_met O (by rw [hc]; simp [codes]) (rk3 hk hK) fun σ ws w ρ C hw => hKS σ ws H es log (k + 1) w _ _ _ ρ C hw (qm a f es rfl E)
theorem rq_t {s : List Nat} (O : M.Ok) (h : RQ M nm Pm l) : RQ M nm Pm (.t s :: l) := by
  intro pre a f es log k K H ns hc W E hk hK
  have hl : 1 ≤ s.length := by cases s with | nil => exact absurd rfl W.1 | cons => exact Nat.succ_le_succ (Nat.zero_le _)
  have hk : k + (1 + costQ l) ≤ K := Nat.le_trans (Nat.add_le_add_left (Nat.add_le_add_right hl _) k) hk
  have h1 : a + s.length ≤ 1000 := Nat.le_trans W.2.1 O.su
  intro qm qb
  refine run_one O (at_code (j := 0) hc rfl) (rk3 (rk1 hk) hK) (Nat.le_trans (Nat.le_add_left _ _) h1) (Nat.le_trans (Nat.le_add_right _ _) h1) (fun e => ?_) (fun e => ?_)
  · simp only [leavesQ, if_pos e] at qm qb
    exact h.at_ hc W.2.2 E (rk2 hk) hK qm qb
  · exact qb (if_neg e) es log (k + 1) (rk1 hk) E
theorem rq_d {n : List Nat} (O : M.Ok) (h : RQ M nm Pm l) : RQ M nm Pm (.d n :: l) := by
  intro pre a f es log k K H ns hc W E hk hK qm qb
  refine run_ask O (at_code (j := 0) hc rfl) (rk3 (rk1 hk) hK) (t := [chB (f n)]) (by rw [E _ W.1]; rfl) (Nat.succ_le_succ (Nat.zero_le _)) (Nat.le_trans (Nat.le_add_right a 1) (Nat.le_trans W.2.1 O.su)) (fun e => ?_) (fun e => ?_)
  · rw [show leavesQ nm M.su (.d n :: l) a f = _ from if_pos e] at qm qb
    exact h.at_ hc W.2.2 E (rk2 hk) hK qm qb
  · exact qb (if_neg e) es log (k + 2) (Nat.le_trans (Nat.le_succ _) (rk1 hk)) E
theorem rq_e (O : M.Ok) (h : RQ M nm Pm l) : RQ M nm Pm (.e :: l) := by
  intro pre a f es log k K H ns hc W E hk hK qm qb
  refine run_rpos O (at_code (j := 0) hc rfl) (rk3 (rk1 hk) hK) W.1 (fun e => ?_) (fun e => ?_)
  · rw [show leavesQ nm M.su (.e :: l) a f = _ from if_pos e] at qm qb
    exact h.at_ hc W.2 E (rk2 hk) hK qm qb
  · exact qb (if_neg e) es log (k + 1) (rk1 hk) E
theorem rk4 (h : k + (12 + 2 * c) ≤ K) (hK : K ≤ 4900) : k + 6 + c ≤ 4900 := by lia
theorem rk5 (h : k + (12 + 2 * c) ≤ K) {k' : Nat} (h' : k' ≤ k + 6 + c) : k' + (4 + c) ≤ K := by lia
theorem rq_c2 {x y : Cl} (O : M.Ok) (h : RQ M nm Pm l) : RQ M nm Pm (.c2 x y :: l) := by
  intro pre a f es log k K H ns hc W E hk hK
  obtain ⟨w1, w2, s1, s2, w3, w4⟩ := W
  obtain ⟨x0, x1, ex⟩ := cl_two x
  obtain ⟨y0, y1, ey⟩ := cl_two y
  have hk4 := rk4 hk hK
  have hX : (Q.c2 x y).code pre.length = altCode pre.length [x0, x1] [y0, y1] := by rw [← ex, ← ey]; rfl
  have g : ∀ {j : Nat} {o : AV}, (altCode pre.length [x0, x1] [y0, y1])[j]? = some o → M.code[pre.length + j]? = some o := fun e => at_code hc (hX ▸ e)
  have IH : ∀ {H es log k K}, EnvOk ns es f → k + costQ l ≤ K → K ≤ 4900 → GoQ M Pm ns (allN nm ns l) f (leavesQ nm M.su l (a + 2) f) H K (M.Run (pre.length + 6) (a + 2) .none H es log k) := fun {H es log k K} E hk hK => by
    have := h.at_ (H := H) (log := log) hc w4 E hk hK
    rw [hX] at this
    exact this
  refine GoQ.alt O (g (j := 0) rfl) (Nat.le_trans (Nat.add_le_add_left (by decide : 1 ≤ 6) k) (Nat.le_trans (Nat.le_add_right _ _) hk4)) hk4 ?_ fun es2 log2 k2 h2 E2 => ?_
  · exact GoQ.cl O ex (g (j := 1) rfl) (g (j := 2) rfl) (Nat.le_trans (Nat.le_succ _) (Nat.le_add_right _ _)) hk4 w1 E s1 s2 w3 (GoQ.map (run_jump O (g (j := 3) rfl) (Nat.le_trans (Nat.le_add_right _ _) (Nat.le_trans hk4 (by decide)))) (IH E (Nat.le_refl _) hk4))
  · exact GoQ.cl O ey (g (j := 4) rfl) (g (j := 5) rfl) (rk1 (rk5 hk h2)) hK w2 E2 s1 s2 w3 (IH E2 (rk2 (rk5 hk h2)) hK)
theorem rq_v {r : AV} (O : M.Ok) (h : RQ M nm Pm l) : RQ M nm Pm (.v r :: l) := by
  intro pre a f es log k K H ns hc W E hk hK
  obtain ⟨⟨ir, er, hr⟩, n1, s1, s2, w3, w4⟩ := W
  subst er
  have hk4 := rk4 hk hK
  have ha2 : a + 2 ≤ 1000 := Nat.le_trans w3 O.su
  have ha1 : a + 1 ≤ 1000 := Nat.le_of_succ_le ha2
  have ha : a ≤ 1000 := Nat.le_of_succ_le ha1
  have g : ∀ {j : Nat} {o : AV}, ((Q.v (.inst 4 ir)).code pre.length)[j]? = some o → M.code[pre.length + j]? = some o := fun e => at_code hc e
  have b : ∀ {n : Nat}, n ≤ 6 + costQ l → k + n ≤ 9999 := fun e => Nat.le_trans (Nat.add_le_add_left e k) (by rw [← Nat.add_assoc]; exact Nat.le_trans hk4 (by decide))
  have IH : ∀ {b H es log k K}, EnvOk (nm ir :: ns) es (upd f (nm ir) b) → k + costQ l ≤ K → K ≤ 4900 → GoQ M Pm ns (allN nm (nm ir :: ns) l) f (leavesQ nm M.su l (a + 2) (upd f (nm ir) b)) H K (M.Run (pre.length + 10) (a + 2) .none H es log k) := fun E hk hK => (h.at_ hc w4 E hk hK).upd n1
  refine GoQ.alt O (g (j := 0) rfl) (Nat.le_trans (Nat.add_le_add_left (by decide : 1 ≤ 6) k) (Nat.le_trans (Nat.le_add_right _ _) hk4)) hk4 ?_ fun es2 log2 k2 h2 E2 => ?_
  · refine GoQ.map (fun R => ?_) (IH (b := true) (k := k + 6) (log := log ++ [.tup [.str (nm ir), .str [116]]]) (E.upd n1) (Nat.le_refl _) hk4)
    refine run_mark O (g (j := 1) rfl) (b (n := 2) (Nat.le_trans (by decide) (Nat.le_add_right _ _))) ?_
    refine run_one O (g (j := 2) rfl) (b (n := 3) (Nat.le_trans (by decide) (Nat.le_add_right _ _))) (by decide) ha (fun q0 => ?_) (fun e => absurd s1 e)
    refine run_set O (g (j := 3) rfl) (b (n := 4) (Nat.le_trans (by decide) (Nat.le_add_right _ _))) hr.1 hr.2.1 hr.2.2.1 hr.2.2.2.1 hr.2.2.2.2 ha1 ha ?_
    rw [show cut a (a + [116].length) M.su = [116] from s1]
    refine run_one O (g (j := 4) rfl) (b (n := 5) (Nat.le_trans (by decide) (Nat.le_add_right _ _))) (by decide) ha1 (fun q0 => ?_) (fun e => absurd s2 e)
    exact run_jump O (g (j := 5) rfl) (b (n := 6) (Nat.le_add_right _ _)) R
  · have k4 := rk5 hk h2
    have b2 : ∀ {n : Nat}, n ≤ 4 → k2 + n ≤ 9999 := fun e => Nat.le_trans (Nat.add_le_add_left e k2) (rk3 (rk1 k4) hK)
    refine GoQ.map (fun R => ?_) (IH (b := false) (k := k2 + 4) (log := log2 ++ [.tup [.str (nm ir), .str [102]]]) (E2.upd n1) (rk2 k4) hK)
    refine run_one O (g (j := 6) rfl) (b2 (n := 1) (by decide)) (by decide) ha (fun q0 => ?_) (fun e => absurd s1 e)
    refine run_mark O (g (j := 7) rfl) (b2 (n := 2) (by decide)) ?_
    refine run_one O (g (j := 8) rfl) (b2 (n := 3) (by decide)) (by decide) ha1 (fun q0 => ?_) (fun e => absurd s2 e)
    refine run_set O (g (j := 9) rfl) (b2 (n := 4) (by decide)) hr.1 hr.2.1 hr.2.2.1 hr.2.2.2.1 hr.2.2.2.2 ha2 ha1 ?_
    rw [show cut (a + [116].length) (a + [116].length + [102].length) M.su = [102] from s2]
    exact R
theorem run_qs (O : M.Ok) (hKS : ∀ σ' ws H es' log' k' w pc a mk ρ, MC M ws H es' log' k' σ' → σ'[w]? = some (.flds (wayO M.ords pc a mk)) → Pm a es' → M.KS (.ret (.tup [.int 0, .inst 1 w])) ρ σ') (l : List Q) : RQ M nm Pm l := by
  induction l with
  | nil => exact rq_nil O hKS
  | cons x l ih => cases x with
    | t s => exact rq_t O ih
    | d n => exact rq_d O ih
    | v r => exact rq_v O ih
    | c2 x y => exact rq_c2 O ih
    | e => exact rq_e O ih
end


section
set_option compiler.extract_closed false
variable {nm : Nat → List Nat} {R : Nat → Prop} {su : List Nat}
structure Mrg (nm : Nat → List Nat) (R : Nat → Prop) (su : List Nat) (l1 l2 : List Q) : Prop where
  w : ∀ ns a, WQ nm R su ns a l1 → WQ nm R su ns a l2
  lv : ∀ a f, leavesQ nm su l2 a f = leavesQ nm su l1 a f
  c : costQ l2 = costQ l1
  n : ∀ ns, allN nm ns l2 = allN nm ns l1
theorem Mrg.refl {l : List Q} : Mrg nm R su l l := ⟨fun q0 q0 h => h, fun q0 q0 => rfl, rfl, fun q0 => rfl⟩
theorem Mrg.trans {a b c : List Q} (h : Mrg nm R su a b) (g : Mrg nm R su b c) : Mrg nm R su a c := ⟨fun q0 q0 x => g.w _ _ (h.w _ _ x), fun q0 q0 => (g.lv _ _).trans (h.lv _ _), g.c.trans h.c, fun q0 => (g.n _).trans (h.n _)⟩
theorem Mrg.cons {q : Q} {a b : List Q} (h : Mrg nm R su a b) : Mrg nm R su (q :: a) (q :: b) := by
  cases q with
  | t s => exact ⟨fun ns x w => ⟨w.1, w.2.1, h.w _ _ w.2.2⟩, fun x f => by simp only [leavesQ, h.lv], by simp only [costQ, h.c], fun ns => by simp only [allN, h.n]⟩
  | d n => exact ⟨fun ns x w => ⟨w.1, w.2.1, h.w _ _ w.2.2⟩, fun x f => by simp only [leavesQ, h.lv], by simp only [costQ, h.c], fun ns => by simp only [allN, h.n]⟩
  | e => exact ⟨fun ns x w => ⟨w.1, h.w _ _ w.2⟩, fun x f => by simp only [leavesQ, h.lv], by simp only [costQ, h.c], fun ns => by simp only [allN, h.n]⟩
  | v r => exact ⟨fun ns x w => ⟨w.1, w.2.1, w.2.2.1, w.2.2.2.1, w.2.2.2.2.1, h.w _ _ w.2.2.2.2.2⟩, fun x f => by simp only [leavesQ, h.lv], by simp only [costQ, h.c], fun ns => by simp only [allN, h.n]⟩
  | c2 y z => exact ⟨fun ns x w => ⟨w.1, w.2.1, w.2.2.1, w.2.2.2.1, w.2.2.2.2.1, h.w _ _ w.2.2.2.2.2⟩, fun x f => by simp only [leavesQ, h.lv], by simp only [costQ, h.c], fun ns => by simp only [allN, h.n]⟩
theorem Mrg.pre {a b : List Q} (h : Mrg nm R su a b) : ∀ p : List Q, Mrg nm R su (p ++ a) (p ++ b)
  | [] => h
  | q :: p => (h.pre p).cons
theorem cut_len {a b : Nat} {l : List Nat} : (cut a b l).length = min b l.length - a := by simp [cut]
theorem cut_cat {a m n : Nat} {l : List Nat} : cut a (a + (m + n)) l = cut a (a + m) l ++ cut (a + m) (a + m + n) l := by
  unfold cut
  rw [← List.take_append_drop m ((l.take (a + (m + n))).drop a)]
  congr 1
  · rw [List.take_drop, List.take_take, show min (a + m) (a + (m + n)) = a + m from by lia]
  · rw [List.drop_drop]
    rw [Nat.add_assoc]
theorem cut_two {a : Nat} {u s l : List Nat} : cut a (a + (u ++ s).length) l = u ++ s ↔ cut a (a + u.length) l = u ∧ cut (a + u.length) (a + u.length + s.length) l = s := by
  rw [List.length_append, cut_cat]
  constructor
  · intro h
    have hl : (cut a (a + u.length) l).length = u.length := by
      have := congrArg List.length h
      simp only [List.length_append, cut_len] at this ⊢
      lia
    exact List.append_inj h hl
  · rintro ⟨h1, h2⟩
    rw [h1, h2]
theorem Mrg.tt {u s : List Nat} {r : List Q} : Mrg nm R su (.t u :: .t s :: r) (.t (u ++ s) :: r) where
  w ns a w := by
    obtain ⟨w1, w2, w3, w4, w5⟩ := w
    refine ⟨by simp [w1], by simp; lia, ?_⟩
    rw [List.length_append, ← Nat.add_assoc]; exact w5
  lv a f := by
    simp only [leavesQ]
    by_cases h : cut a (a + (u ++ s).length) su = u ++ s
    · obtain ⟨h1, h2⟩ := cut_two.mp h
      rw [if_pos h, if_pos h1, if_pos h2, List.length_append, Nat.add_assoc]
    · rw [if_neg h]
      by_cases h1 : cut a (a + u.length) su = u
      · rw [if_pos h1, if_neg (fun h2 => h (cut_two.mpr ⟨h1, h2⟩))]
      · rw [if_neg h1]
  c := by simp only [costQ, List.length_append]; lia
  n ns := by simp only [allN]
theorem Mrg.jn : ∀ (l acc : List Q), Mrg nm R su (acc ++ l) (jnQ acc l)
  | [], acc => by rw [List.append_nil]; exact .refl
  | .d n :: r, acc => by
    have := Mrg.jn r (acc ++ [.d n])
    rw [List.append_assoc] at this; exact this
  | .v n :: r, acc => by
    have := Mrg.jn r (acc ++ [.v n])
    rw [List.append_assoc] at this; exact this
  | .c2 x y :: r, acc => by
    have := Mrg.jn r (acc ++ [.c2 x y])
    rw [List.append_assoc] at this; exact this
  | .e :: r, acc => by
    have := Mrg.jn r (acc ++ [.e])
    rw [List.append_assoc] at this; exact this
  | .t s :: r, acc => by
    have dflt := Mrg.jn r (acc ++ [.t s])
    rw [List.append_assoc] at dflt
    rcases List.eq_nil_or_concat acc with rfl | ⟨init, last, rfl⟩
    · exact dflt
    · rw [List.concat_eq_append] at dflt ⊢
      cases last with
      | t u =>
        have h := Mrg.jn r (init ++ [.t (u ++ s)])
        rw [List.append_assoc] at h ⊢
        have e : jnQ (init ++ [.t u]) (.t s :: r) = jnQ (init ++ [.t (u ++ s)]) r := by simp [jnQ]
        rw [e]
        exact ((Mrg.tt (r := r)).pre init).trans h
      | d x =>
        have e : jnQ (init ++ [.d x]) (.t s :: r) = jnQ (init ++ [.d x] ++ [.t s]) r := by simp [jnQ]
        rw [e]; exact dflt
      | v x =>
        have e : jnQ (init ++ [.v x]) (.t s :: r) = jnQ (init ++ [.v x] ++ [.t s]) r := by simp [jnQ]
        rw [e]; exact dflt
      | c2 x y =>
        have e : jnQ (init ++ [.c2 x y]) (.t s :: r) = jnQ (init ++ [.c2 x y] ++ [.t s]) r := by simp [jnQ]
        rw [e]; exact dflt
      | e =>
        have e : jnQ (init ++ [.e]) (.t s :: r) = jnQ (init ++ [.e] ++ [.t s]) r := by simp [jnQ]
        rw [e]; exact dflt
set_option tactic.hygienic true in
theorem jnQ_len : ∀ (l acc : List Q), (jnQ acc l).length ≤ acc.length + l.length
  | [], acc => by simp [jnQ]
  | .d n :: r, acc => by have := jnQ_len r (acc ++ [.d n]); simp at this ⊢; simp only [jnQ]; lia
  | .v n :: r, acc => by have := jnQ_len r (acc ++ [.v n]); simp at this ⊢; simp only [jnQ]; lia
  | .c2 x y :: r, acc => by have := jnQ_len r (acc ++ [.c2 x y]); simp at this ⊢; simp only [jnQ]; lia
  | .e :: r, acc => by have := jnQ_len r (acc ++ [.e]); simp at this ⊢; simp only [jnQ]; lia
  | .t s :: r, acc => by
    simp only [jnQ]
    split
    · next u _ => have := jnQ_len r (acc.dropLast ++ [.t (u ++ s)]); simp at this ⊢; lia
    · have := jnQ_len r (acc ++ [.t s]); simp at this ⊢; lia
theorem codes_len : ∀ (l : List Q) (n : Nat), (codes n l).length ≤ 10 * l.length
  | [], n => by simp [codes]
  | q :: r, n => by
    have := codes_len r (n + (q.code n).length)
    have h : (q.code n).length ≤ 10 := by
      cases q with
      | t s => simp [Q.code]
      | d n => simp [Q.code]
      | v r => simp [Q.code, altCode, varAc, varBc]
      | c2 a b => simp only [Q.code, altCode, List.length_append, cl_len, List.length_cons, List.length_nil]; lia
      | e => simp [Q.code]
    simp only [codes, List.length_append, List.length_cons]; lia
theorem qs_len : ∀ l : List Itm, (qsOf l).length ≤ 2 * l.length + 1
  | [] => by simp [qsOf]
  | x :: l => by
    have := qs_len l
    have h : x.qs.length ≤ 2 := by
      cases x with
      | v r => simp [Itm.qs]
      | c1 a => obtain ⟨n, b⟩ := a; cases b <;> simp [Itm.qs, Cl.qs]
      | c2 a b => simp [Itm.qs]
    simp only [qsOf, List.flatMap_cons, List.length_append, List.length_cons, List.length_nil] at this ⊢
    lia
end


section
set_option compiler.extract_closed false
variable {nm : Nat → List Nat} {R R' : Nat → Prop}
theorem WI.mono (hR : ∀ i, R i → R' i) : ∀ {l : List Itm} {ns : List (List Nat)}, WI nm R ns l → WI nm R' ns l
  | [], _, _ => trivial
  | .v r :: l, ns, h => by
    obtain ⟨⟨i, e, hi⟩, h2, h3, h4⟩ := h
    exact ⟨⟨i, e, hR i hi⟩, h2, h3, WI.mono hR h4⟩
  | .c1 a :: l, ns, h => ⟨h.1, WI.mono hR h.2⟩
  | .c2 a b :: l, ns, h => ⟨h.1, h.2.1, WI.mono hR h.2.2⟩
noncomputable def allI (nm : Nat → List Nat) : List (List Nat) → List Itm → List (List Nat)
  | ns, [] => ns
  | ns, .v r :: l => allI nm (refN nm r :: ns) l
  | ns, _ :: l => allI nm ns l
theorem qsOf_cons {x : Itm} {l : List Itm} : qsOf (x :: l) = x.qs ++ qsOf l := by simp [qsOf]
theorem allN_qs : ∀ (l : List Itm) (ns : List (List Nat)), allN nm ns (qsOf l) = allI nm ns l
  | [], ns => rfl
  | .v r :: l, ns => by rw [qsOf_cons]; exact allN_qs l _
  | .c1 (n, true) :: l, ns => by rw [qsOf_cons]; exact allN_qs l _
  | .c1 (n, false) :: l, ns => by rw [qsOf_cons]; exact allN_qs l _
  | .c2 a b :: l, ns => by rw [qsOf_cons]; exact allN_qs l _
theorem costQ_qs : ∀ (l : List Itm), costQ (qsOf l) ≤ 2 * cost l
  | [] => by decide
  | .v r :: l => by have := costQ_qs l; rw [qsOf_cons]; simp only [Itm.qs, List.cons_append, List.nil_append, costQ, cost]; lia
  | .c1 (n, true) :: l => by have := costQ_qs l; rw [qsOf_cons]; simp only [Itm.qs, Cl.qs, if_true, List.cons_append, List.nil_append, costQ, cost, List.length_cons, List.length_nil]; lia
  | .c1 (n, false) :: l => by have := costQ_qs l; rw [qsOf_cons]; simp only [Itm.qs, Cl.qs, Bool.false_eq_true, if_false, List.cons_append, List.nil_append, costQ, cost, List.length_cons, List.length_nil]; lia
  | .c2 a b :: l => by have := costQ_qs l; rw [qsOf_cons]; simp only [Itm.qs, List.cons_append, List.nil_append, costQ, cost]; lia
theorem WQ_qs {N : Nat} : ∀ (l : List Itm) (i : Nat) (ns : List (List Nat)), i + l.length = N → WI nm R ns l → WQ nm R (tfs N) ns (2 * i) (qsOf l)
  | [], i, ns, h, W => by
    simp at h; subst h
    exact ⟨by rw [tfs_len]; lia, trivial⟩
  | .v r :: l, i, ns, h, W => by
    simp only [List.length_cons] at h
    rw [qsOf_cons]
    exact ⟨W.1, W.2.1, tfs_t _ _ (by lia), tfs_f _ _ (by lia), by rw [tfs_len]; lia, WQ_qs l (i + 1) _ (by lia) W.2.2.2⟩
  | .c1 (n, true) :: l, i, ns, h, W => by
    simp only [List.length_cons] at h
    rw [qsOf_cons]
    exact ⟨W.1, by rw [tfs_len]; lia, by simp, by rw [tfs_len]; simp; lia, WQ_qs l (i + 1) _ (by lia) W.2⟩
  | .c1 (n, false) :: l, i, ns, h, W => by
    simp only [List.length_cons] at h
    rw [qsOf_cons]
    exact ⟨by simp, by rw [tfs_len]; simp; lia, W.1, by rw [tfs_len]; simp; lia, WQ_qs l (i + 1) _ (by lia) W.2⟩
  | .c2 a b :: l, i, ns, h, W => by
    simp only [List.length_cons] at h
    rw [qsOf_cons]
    exact ⟨W.1, W.2.1, tfs_t _ _ (by lia), tfs_f _ _ (by lia), by rw [tfs_len]; lia, WQ_qs l (i + 1) _ (by lia) W.2.2⟩
theorem leavesQ_qs {N : Nat} : ∀ (l : List Itm) (i : Nat) (f : Asg), i + l.length = N → leavesQ nm (tfs N) (qsOf l) (2 * i) f = (leaves nm l f).map fun f' => (2 * N, f')
  | [], i, f, h => by
    simp at h; subst h
    simp [qsOf, leavesQ, leaves, tfs_len]
  | .v r :: l, i, f, h => by
    simp only [List.length_cons] at h
    rw [qsOf_cons]
    simp only [Itm.qs, List.cons_append, List.nil_append, leavesQ, leaves, List.map_append]
    rw [show 2 * i + 2 = 2 * (i + 1) from by lia, leavesQ_qs l (i + 1) _ (by lia), leavesQ_qs l (i + 1) _ (by lia)]
  | .c1 (n, true) :: l, i, f, h => by
    simp only [List.length_cons] at h
    rw [qsOf_cons]
    have t := tfs_t N i (by lia)
    have g := tfs_f N i (by lia)
    simp only [Itm.qs, Cl.qs, if_true, List.cons_append, List.nil_append, leavesQ, leaves, Cl.ok]
    rw [t, show (2 * i + 1) + [102].length = 2 * i + 2 from rfl, if_pos g, show 2 * i + 2 = 2 * (i + 1) from by lia, leavesQ_qs l (i + 1) _ (by lia)]
    rcases Bool.eq_false_or_eq_true (f n) with e | e <;> simp [e, chB]
  | .c1 (n, false) :: l, i, f, h => by
    simp only [List.length_cons] at h
    rw [qsOf_cons]
    have t := tfs_t N i (by lia)
    have g := tfs_f N i (by lia)
    simp only [Itm.qs, Cl.qs, Bool.false_eq_true, if_false, List.cons_append, List.nil_append, leavesQ, leaves, Cl.ok]
    rw [show (2 * i) + [116].length = 2 * i + 1 from rfl, if_pos t, show 2 * i + 1 + 1 = 2 * i + 2 from rfl, g, show 2 * i + 2 = 2 * (i + 1) from by lia, leavesQ_qs l (i + 1) _ (by lia)]
    rcases Bool.eq_false_or_eq_true (f n) with e | e <;> simp [e, chB]
  | .c2 a b :: l, i, f, h => by
    simp only [List.length_cons] at h
    rw [qsOf_cons]
    simp only [Itm.qs, List.cons_append, List.nil_append, leavesQ, leaves, List.map_append]
    rw [show 2 * i + 2 = 2 * (i + 1) from by lia, leavesQ_qs l (i + 1) _ (by lia)]
    congr 1 <;> split <;> rfl
end
noncomputable def RefS (σ : St) (h v lg : Nat) (nm : Nat → List Nat) (i : Nat) : Prop := σ[i]? = some (.flds (nameF (nm i))) ∧ i ≠ h ∧ i ≠ v ∧ i ≠ lg
section
set_option compiler.extract_closed false
variable {d h v r lg N : Nat} {σ : St} {K : AV → St → Prop} {nm : Nat → List Nat}
theorem c_machine {x : Itm} {l : List Itm} (hh : σ[h]? = some (.flds (hostF v r lg 0))) (hv : σ[v]? = some (.dict [])) (hl : σ[lg]? = some (.list [])) (hr : σ[r]? = some (.list [])) (rl : r ≠ lg)
    (hN : N ≤ 10) (W : WI nm (RefS σ h v lg nm) [] (x :: l)) (hL : (x :: l).length = N) (hc : cost (x :: l) ≤ 2400) (f : Asg)
    (q1 : ∀ σ' o f' es', (leaves nm (x :: l) f).head? = some f' → EnvOk (allI nm [] (x :: l)) es' f' → (∀ j, j < σ.length → j ≠ h → j ≠ v → j ≠ lg → σ'[j]? = σ[j]?) → σ'[v]? = some (.dict es') → (∃ k' : Int, σ'[h]? = some (.flds (hostF v r lg k'))) → σ'[o]? = some (.list []) → K (.tup [.int 0, .int ((2 * N : Nat) : Int), .ref o]) σ')
    (q2 : ∀ σ', leaves nm (x :: l) f = [] → (∀ j, j < σ.length → j ≠ h → j ≠ v → j ≠ lg → σ'[j]? = σ[j]?) → K .none σ') : RC (d + 12) 39 [nodeOf rpos0 (x :: l), .str (tfs N), .bool true, .inst 3 h] σ K := by
  have b1 := qs_len (x :: l)
  have b2 := jnQ_len (qsOf (x :: l)) []
  have b3 := codes_len (jnQ [] (qsOf (x :: l))) 0
  simp only [List.length_nil] at b2
  refine c_match_compiled (Pm := fun a es' => ∃ f', (leaves nm (x :: l) f).head? = some f' ∧ a = 2 * N ∧ EnvOk (allI nm [] (x :: l)) es' f') (Pf := leaves nm (x :: l) f = []) (k := 0) (d := d) hh hv hl hr (by simp) (by simp) (by rw [tfs_len]; lia) rl (by lia) (by lia) (by lia) ?_ ?_ ?_
  · intro M O e1 e2 e3 e4 e5 e6 e7 e8 m1 m2
    have mg : Mrg nm (RefM M nm) (tfs N) (qsOf (x :: l)) (jnQ [] (qsOf (x :: l))) := Mrg.jn (qsOf (x :: l)) []
    have hk := costQ_qs (x :: l)
    refine run_qs O (nm := nm) (Pm := fun a es' => ∃ f', (leaves nm (x :: l) f).head? = some f' ∧ a = 2 * N ∧ EnvOk (allI nm [] (x :: l)) es' f') m1 (jnQ [] (qsOf (x :: l))) [] 0 f [] [] 0 4900 [] [] (by rw [e2]; rfl) ?_ (by intro n hn; simp at hn) (by rw [mg.c]; lia) (Nat.le_refl _) ?_ ?_
    · rw [e1]
      refine mg.w _ _ (WQ_qs (x :: l) 0 [] (by lia) (W.mono fun i hi => ?_))
      refine ⟨?_, ?_, by rw [e3]; exact hi.2.1, by rw [e4]; exact hi.2.2.1, by rw [e6]; exact hi.2.2.2⟩
      · rw [e8 i (lt_of_get hi.1)]; exact hi.1
      · have := lt_of_get hi.1; lia
    · rw [e1]
      intro a' f' es' h1 h2
      rw [mg.lv, show (0 : Nat) = 2 * 0 from rfl, leavesQ_qs (x :: l) 0 f (by lia), List.head?_map] at h1
      rw [mg.n, allN_qs] at h2
      obtain ⟨f2, h3, h4⟩ := Option.map_eq_some_iff.mp h1
      injection h4 with h4 h5
      subst h5
      exact ⟨f2, h3, h4.symm, h2⟩
    · rw [e1]
      intro h1 es' log' k' _ _
      rw [mg.lv, show (0 : Nat) = 2 * 0 from rfl, leavesQ_qs (x :: l) 0 f (by lia)] at h1
      have h2 : leaves nm (x :: l) f = [] := List.map_eq_nil_iff.mp h1
      exact back_nil fun σ' ρ ws C => m2 σ' ws [] es' log' k' ρ C h2
  · rintro σ' o a es' ⟨f', h1, rfl, h2⟩ fr hv' hh' ho'
    exact q1 σ' o f' es' h1 h2 fr hv' hh' ho'
  · exact q2
theorem c_trial {l : List Itm} {iE : Nat} (hh : σ[h]? = some (.flds (hostF v r lg 0))) (hv : σ[v]? = some (.dict [])) (hl : σ[lg]? = some (.list [])) (hr : σ[r]? = some (.list [])) (rl : r ≠ lg)
    (hN : N ≤ 10) (W : WI nm (RefS σ h v lg nm) [] l) (hE : RefS σ h v lg nm iE) (nE : nm iE = [69]) (hL : l.length = N) (hc : cost l ≤ 8999) (f : Asg)
    (q : ∀ σ', (∀ j, j < σ.length → j ≠ h → j ≠ v → j ≠ lg → σ'[j]? = σ[j]?) → σ'[lg]? = some (.list ((tlog nm l f).map (LE.av (2 * N)))) → (∃ k' : Int, σ'[h]? = some (.flds (hostF v r lg k'))) → K .none σ') :
    RC (d + 8) 40 [nodeOf (lastE iE) l, .str (tfs N), .bool true, .inst 3 h] σ K := by
  refine c_match_plain (d := d) (c_match_at (bg := 0) ?_)
  refine c_tried (k := 0) (v := v) (r := r) (lg := lg) (es := []) (log := []) hh hv hl (by simp) (by simp) ?_
  have O : ∀ K', (trT d (nodeOf (lastE iE) l) (tfs N) 0 h v r lg σ K').Ok := fun K' => trOk (k := 0) hr hh hv hl rl (by rw [tfs_len]; lia)
  have tr : ∀ K' i, RefS σ h v lg nm i → RefT (trT d (nodeOf (lastE iE) l) (tfs N) 0 h v r lg σ K') nm i := fun K' i hi =>
    ⟨g_app hi.1, Nat.ne_of_lt (lt_of_get hi.1), hi.2.1, hi.2.2.1, hi.2.2.2⟩
  refine out_pop (pile := []) (x := 0) (O _) (by lia) ?_
  refine trial (O _) (N := N) (by lia) rfl (tr _ _ hE) nE l 0 [] [] [] 0 9000 [] f (W.mono (tr _)) (by simp) (by lia) (by intro n hn; simp at hn) (by lia) (Nat.le_refl _) ?_
  intro es' k' _ _
  refine out_nil fun σ' ρ C => trKS ⟨rfl, rfl, q σ' (fun j hj a b c => ?_) C.hl ⟨_, C.hh⟩⟩
  exact (C.fr j (Nat.ne_of_lt hj) a b c).trans (List.getElem?_append_left hj)
end


noncomputable abbrev LPart := Nat × Bool
noncomputable def pav (p : LPart) : AV := .tup [.int (p.1 : Int), .bool p.2]
noncomputable def pcl (p : LPart) : Cl := ([88 + p.1], p.2)
noncomputable def cItm : List LPart → Itm
  | [] => .c1 ([], false)
  | [p] => .c1 (pcl p)
  | p :: q :: _ => .c2 (pcl p) (pcl q)
noncomputable def nPe : ME := .ie (.x 7) (.tp [(.c (AV.str [99, 97, 116])), (.x 8), (.tp [(.c (AV.str [99, 104, 97, 114, 115])), (.c (AV.str [102]))])]) (.tp [(.c (AV.str [99, 97, 116])), (.tp [(.c (AV.str [99, 104, 97, 114, 115])), (.c (AV.str [116]))]), (.x 8)])
noncomputable abbrev nIb : List MS := [(.as (.x 8) (.tp [(.c (AV.str [100, 101, 108, 97, 121])), (.tp [(.c (AV.str [110, 97, 109, 101])), (.ix (.c (AV.str [88, 89, 90])) (.x 6))])])), (.ex (.bm (.x 5) 0 [nPe]))]
noncomputable abbrev nCb : List MS := [(.as (.x 5) (.ls [])), (.fr (.tup [(.x 6), (.x 7)]) (.x 4) nIb), (.as (.x 9) (.ix (.x 5) (.c (AV.int 0)))), (.fr (.x 10) (.sl (.x 5) (some (.c (AV.int 1))) none) [(.as (.x 9) (.tp [(.c (AV.str [97, 108, 116])), (.x 9), (.x 10)]))]), (.as (.x 3) (.tp [(.c (AV.str [99, 97, 116])), (.x 9), (.x 3)]))]
noncomputable abbrev nVb : List MS := [(.as (.x 12) (.nw 4 [(.c (AV.str [118, 97, 114])), (.c AV.none), (.x 11)])), (.as (.x 13) (.tp [(.c (AV.str [99, 97, 116])), (.tp [(.c (AV.str [110, 111, 119])), (.tp [(.c (AV.str [99, 104, 97, 114, 115])), (.c (AV.str [116]))]), (.x 12)]), (.tp [(.c (AV.str [99, 104, 97, 114, 115])), (.c (AV.str [102]))])])), (.as (.x 3) (.tp [(.c (AV.str [99, 97, 116])), (.tp [(.c (AV.str [97, 108, 116])), (.x 13), (.tp [(.c (AV.str [99, 97, 116])), (.tp [(.c (AV.str [99, 104, 97, 114, 115])), (.c (AV.str [116]))]), (.tp [(.c (AV.str [110, 111, 119])), (.tp [(.c (AV.str [99, 104, 97, 114, 115])), (.c (AV.str [102]))]), (.x 12)])])]), (.x 3)]))]
noncomputable abbrev nρ (mn cs la nd : AV) (x4 x5 x6 x7 x8 x9 x10 x11 x12 x13 : Option AV) : Loc := [some mn, some cs, some la, some nd, x4, x5, x6, x7, x8, x9, x10, x11, x12, x13]
section
set_option compiler.extract_closed false
variable {d : Nat} {ρ : Loc} {σ : St} {K : AV → St → Prop} {KS : Fl → Loc → St → Prop} {mn cs la nd : AV} {x4 x5 x6 x7 x8 x9 x10 x11 x12 x13 : Option AV}
theorem itXYZ {a : Nat} (h : a < 3) : itemR σ (.str [88, 89, 90]) (.int (a : Int)) = some (.str [88 + a]) := by
  match a, h with
  | 0, _ => rfl
  | 1, _ => rfl
  | 2, _ => rfl
theorem part_e {n : List Nat} {b : Bool} (h7 : ρ[7]? = some (some (.bool b))) (h8 : ρ[8]? = some (some (dl n))) (q : K (Cl.av (n, b)) σ) : RE d ρ nPe σ K := by
  cases b with
  | true =>
    refine r_ie (r_te rfl (r_x h7 ⟨_, rfl, Sw.t ?_⟩))
    repeat' walk_at "ev1"
    refine r_x h8 ?_
    repeat' walk_at "ev1"
    exact q
  | false =>
    refine r_ie (r_te rfl (r_x h7 ⟨_, rfl, Sw.f ?_⟩))
    repeat' walk_at "ev1"
    refine r_x h8 ?_
    repeat' walk_at "ev1"
    exact q
theorem part_step {ci k P a : Nat} {b : Bool} {vs acc : List AV} (hc : σ[ci]? = some (.list vs)) (hk : vs[k]? = some (pav (a, b))) (ha : a < 3) (hP : σ[P]? = some (.list acc)) (hz : acc.length < 100)
    (h : ∀ x6 x7 x8, RF d (nρ mn cs la nd x4 (some (.ref P)) x6 x7 x8 x9 x10 x11 x12 x13) (.tup [.x 6, .x 7]) (.lst ci (k + 1)) nIb (σ.set P (.list (acc ++ [Cl.av ([88 + a], b)]))) KS) :
    RF d (nρ mn cs la nd x4 (some (.ref P)) x6 x7 x8 x9 x10 x11 x12 x13) (.tup [.x 6, .x 7]) (.lst ci k) nIb σ KS := by
  refine r_f1 (nx_item hc hk) ?_
  unfold nρ nIb pav
  repeat' (first | with_reducible refine ⟨_, itXYZ ha, ?_⟩ | walk_at "ev1")
  refine ⟨bmL (by lia) hP, ?_⟩
  repeat' walk_at "ev1"
  refine part_e rfl rfl ?_
  repeat' walk_at "ev1"
  refine exI2 (bm_app hP (by lia)) ?_
  repeat' walk_at "ev1"
  exact h _ _ _
theorem c_clause {ci : Nat} {p : List LPart} (hc : σ[ci]? = some (.list (p.map pav))) (h12 : p.length = 1 ∨ p.length = 2) (hp : ∀ e ∈ p, e.1 < 3)
    (q : ∀ σ' x5 x6 x7 x8 x9 x10, (∀ j, j < σ.length → σ'[j]? = σ[j]?) → σ.length ≤ σ'.length → KS .next (nρ mn cs la (ct (cItm p).av nd) (some (.ref ci)) x5 x6 x7 x8 x9 x10 x11 x12 x13) σ') :
    RB d (nρ mn cs la nd (some (.ref ci)) x5 x6 x7 x8 x9 x10 x11 x12 x13) nCb σ KS := by
  have lc := lt_of_get hc
  repeat' walk_at "ev1"
  try refine r_ls ?_
  repeat' walk_at "ev1"
  refine r_sf (r_itL ?_)
  repeat' walk_at "ev1"
  refine ⟨_, _, rfl, g_app hc, ?_⟩
  match p, h12 with
  | [(a, b)], _ =>
    refine part_step (mn := mn) (cs := cs) (la := la) (nd := nd) (x4 := some (.ref ci)) (acc := []) (k := 0) (a := a) (b := b) (g_app hc) rfl (hp (a, b) (by simp)) g_new (by simp) fun x6' x7' x8' => ?_
    refine r_fE (nx_end (g_ne (g_app hc) (by lia)) rfl) ?_
    have gP := g_eq (x := .list ([] ++ [Cl.av ([88 + a], b)])) (g_new (σ := σ) (y := .list []))
    repeat' walk_at "ev1"
    refine exI (itemL (k := 0) gP rfl (by lia)) ?_
    repeat' walk_at "ev1"
    refine r_sf (r_itL ?_)
    repeat' walk_at "ev1"
    refine exI (sliceL1 (b := 1) gP (by simp) (by lia)) ?_
    refine ⟨_, _, rfl, g_new, ?_⟩
    refine r_fE (nx_end g_new rfl) ?_
    repeat' walk_at "ev1"
    refine q _ _ _ _ _ _ _ (fun j hj => ?_) (by simp)
    rw [List.getElem?_append_left (by simp; lia), List.getElem?_set_ne (by lia), List.getElem?_append_left hj]
  | [(a, b), (a2, b2)], _ =>
    refine part_step (mn := mn) (cs := cs) (la := la) (nd := nd) (x4 := some (.ref ci)) (acc := []) (k := 0) (a := a) (b := b) (g_app hc) rfl (hp (a, b) (by simp)) g_new (by simp) fun x6' x7' x8' => ?_
    have gP := g_eq (x := .list ([] ++ [Cl.av ([88 + a], b)])) (g_new (σ := σ) (y := .list []))
    refine part_step (a := a2) (b := b2) (g_ne (g_app hc) (by lia)) rfl (hp (a2, b2) (by simp)) gP (by simp) fun x6' x7' x8' => ?_
    refine r_fE (nx_end (g_ne (g_ne (g_app hc) (by lia)) (by lia)) rfl) ?_
    have gP2 := g_eq (x := .list ([] ++ [Cl.av ([88 + a], b)] ++ [Cl.av ([88 + a2], b2)])) gP
    repeat' walk_at "ev1"
    refine exI (itemL (k := 0) gP2 rfl (by lia)) ?_
    repeat' walk_at "ev1"
    refine r_sf (r_itL ?_)
    repeat' walk_at "ev1"
    refine exI (sliceL1 (b := 1) gP2 (by simp) (by lia)) ?_
    refine ⟨_, _, rfl, g_new, ?_⟩
    refine r_f1 (nx_item g_new rfl) ?_
    repeat' walk_at "ev1"
    refine r_fE (nx_end g_new rfl) ?_
    repeat' walk_at "ev1"
    refine q _ _ _ _ _ _ _ (fun j hj => ?_) (by simp)
    rw [List.getElem?_append_left (by simp; lia), List.getElem?_set_ne (by lia), List.getElem?_set_ne (by lia), List.getElem?_append_left hj]
end


noncomputable def VOk (σ : St) : List Nat → List Nat → Prop
  | [], [] => True
  | i :: is, c :: cs => σ[i]? = some (.flds (nameF [c])) ∧ VOk σ is cs
  | _, _ => False
theorem VOk.keep {σ σ' : St} : ∀ {is cs : List Nat}, VOk σ is cs → (∀ j, j < σ.length → σ'[j]? = σ[j]?) → VOk σ' is cs
  | [], [], _, _ => trivial
  | i :: is, c :: cs, h, f => ⟨(f i (lt_of_get h.1)).trans h.1, VOk.keep h.2 f⟩
  | [], _ :: _, h, _ => h.elim
  | _ :: _, [], h, _ => h.elim
theorem VOk.snoc {σ : St} {i c : Nat} : ∀ {is cs : List Nat}, VOk σ is cs → σ[i]? = some (.flds (nameF [c])) → VOk σ (is ++ [i]) (cs ++ [c])
  | [], [], _, h => ⟨h, trivial⟩
  | i :: is, c :: cs, h, g => ⟨h.1, VOk.snoc h.2 g⟩
  | [], _ :: _, h, _ => h.elim
  | _ :: _, [], h, _ => h.elim
noncomputable def vItm (i : Nat) : Itm := .v (.inst 4 i)
section
set_option compiler.extract_closed false
variable {d : Nat} {ρ : Loc} {σ : St} {K : AV → St → Prop} {KS : Fl → Loc → St → Prop} {mn cs la nd : AV} {x4 x5 x6 x7 x8 x9 x10 x11 x12 x13 : Option AV}
theorem c_name_init {i : Nat} {n : List Nat} (hi : σ[i]? = some (.flds [])) (q : ∀ σ', (∀ j, j ≠ i → σ'[j]? = σ[j]?) → σ'[i]? = some (.flds (nameF n)) → σ'.length = σ.length → K .none σ') : RC (d + 1) 7 [.inst 4 i, .str [118, 97, 114], .none, .str n] σ K := by
  refine r_call rfl rfl (by decide) ?_
  repeat' walk_at "ev0"
  refine q _ (fun j hj => ?_) (g_eq (g_eq (g_eq hi))) (by simp)
  rw [List.getElem?_set_ne (Ne.symm hj), List.getElem?_set_ne (Ne.symm hj), List.getElem?_set_ne (Ne.symm hj)]
theorem n_clauses {L : Nat} : ∀ (todo dn : List (Nat × List LPart)) (items : List Itm) (σ : St) (x4 x5 x6 x7 x8 x9 x10 : Option AV), σ[L]? = some (.list ((dn ++ todo).map fun e => .ref e.1)) →
    (∀ e ∈ todo, σ[e.1]? = some (.list (e.2.map pav)) ∧ (e.2.length = 1 ∨ e.2.length = 2) ∧ ∀ p ∈ e.2, p.1 < 3) →
    (∀ σ' x4 x5 x6 x7 x8 x9 x10, (∀ j, j < σ.length → σ'[j]? = σ[j]?) → σ.length ≤ σ'.length → KS .next (nρ mn cs la (nodeOf la ((todo.map fun e => cItm e.2).reverse ++ items)) x4 x5 x6 x7 x8 x9 x10 x11 x12 x13) σ') →
    RF d (nρ mn cs la (nodeOf la items) x4 x5 x6 x7 x8 x9 x10 x11 x12 x13) (.x 4) (.lst L dn.length) nCb σ KS
  | [], dn, items, σ, x4, x5, x6, x7, x8, x9, x10, hL, ho, q => by
    refine r_fE (nx_end hL (by simp)) ?_
    exact q σ _ _ _ _ _ _ _ (fun q0 q0 => rfl) (Nat.le_refl _)
  | e :: todo, dn, items, σ, x4, x5, x6, x7, x8, x9, x10, hL, ho, q => by
    have lL := lt_of_get hL
    obtain ⟨h1, h2, h3⟩ := ho e (by simp)
    refine r_f1 (nx_item (v := .ref e.1) hL (by simp)) ?_
    refine r_ax ?_
    refine c_clause (mn := mn) (cs := cs) (la := la) (nd := nodeOf la items) h1 h2 h3 fun σ' x5' x6' x7' x8' x9' x10' fr hl => ?_
    refine rf_next ?_
    have IH := n_clauses todo (dn ++ [e]) (cItm e.2 :: items) σ' (some (.ref e.1)) x5' x6' x7' x8' x9' x10' (by rw [fr L lL, hL]; simp) (fun e' he' => by
      obtain ⟨g1, g2, g3⟩ := ho e' (by simp [he'])
      exact ⟨(fr _ (lt_of_get g1)).trans g1, g2, g3⟩) (fun σ2 y4 y5 y6 y7 y8 y9 y10 fr2 hl2 => by
        have := q σ2 y4 y5 y6 y7 y8 y9 y10 (fun j hj => (fr2 j (by lia)).trans (fr j hj)) (by lia)
        simpa using this)
    rw [List.length_append] at IH
    exact IH
theorem n_vars : ∀ (todo : List Nat) (items : List Itm) (σ : St) (x11 x12 x13 : Option AV),
    (∀ σ' is x11 x12 x13, (∀ j, j < σ.length → σ'[j]? = σ[j]?) → σ.length ≤ σ'.length → VOk σ' is todo.reverse → (∀ i ∈ is, σ.length ≤ i) → KS .next (nρ mn cs la (nodeOf la (is.map vItm ++ items)) x4 x5 x6 x7 x8 x9 x10 x11 x12 x13) σ') →
    RF (d + 1) (nρ mn cs la (nodeOf la items) x4 x5 x6 x7 x8 x9 x10 x11 x12 x13) (.x 11) (.chs todo) nVb σ KS
  | [], items, σ, x11, x12, x13, q => by
    refine r_fE rfl ?_
    exact q σ [] _ _ _ (fun q0 q0 => rfl) (Nat.le_refl _) trivial (fun i hi => by simp at hi)
  | c :: todo, items, σ, x11, x12, x13, q => by
    refine r_f1 (v := .str [c]) (src' := .chs todo) rfl ?_
    repeat' walk_at "ev0"
    try refine r_nw rfl ?_
    repeat' walk_at "ev0"
    refine c_name_init g_new fun σ' fr hi hl => ⟨rfl, ?_⟩
    repeat' walk_at "ev0"
    have hl' : σ'.length = σ.length + 1 := by rw [hl]; simp
    have fr' : ∀ j, j < σ.length → σ'[j]? = σ[j]? := fun j hj => by rw [fr j (by lia), List.getElem?_append_left hj]
    refine n_vars todo (vItm σ.length :: items) σ' _ _ _ fun σ2 is y11 y12 y13 fr2 hl2 hv hge => ?_
    have := q σ2 (is ++ [σ.length]) y11 y12 y13 (fun j hj => (fr2 j (by lia)).trans (fr' j hj)) (by lia) (by rw [List.reverse_cons]; exact hv.snoc ((fr2 _ (by lia)).trans hi)) (fun i hi => by
      rcases List.mem_append.mp hi with h | h
      · have := hge i h; lia
      · rw [List.mem_singleton.mp h]; exact Nat.le_refl _)
    simpa using this
theorem slXYZ {m : Nat} (h : m ≤ 3) : sliceR σ (.str [88, 89, 90]) none (some (.int (m : Int))) = some (.inl (.str ([88, 89, 90].take m))) := by
  match m, h with
  | 0, _ => rfl
  | 1, _ => rfl
  | 2, _ => rfl
  | 3, _ => rfl
theorem revS {l : List Nat} (h : l.length ≤ 100000) : revR σ (.str l) = some (.inl (.str l.reverse)) := by
  simp [revR, okLen, revR0, h]
theorem c_law_node {m c : Nat} {cls : List (Nat × List LPart)} (hm : m ≤ 3) (hc : σ[c]? = some (.list (cls.map fun e => .ref e.1))) (hz : cls.length ≤ 100) (ho : ∀ e ∈ cls, σ[e.1]? = some (.list (e.2.map pav)) ∧ (e.2.length = 1 ∨ e.2.length = 2) ∧ ∀ p ∈ e.2, p.1 < 3)
    (q : ∀ σ' is, (∀ j, j < σ.length → σ'[j]? = σ[j]?) → σ.length ≤ σ'.length → VOk σ' is ([88, 89, 90].take m) → (∀ i ∈ is, σ.length ≤ i) → K (nodeOf la (is.map vItm ++ cls.map fun e => cItm e.2)) σ') : RC (d + 2) 48 [.int (m : Int), .ref c, la] σ K := by
  refine r_call rfl rfl (by decide) ?_
  repeat' walk_at "ev0"
  refine r_sf (r_itL ?_)
  repeat' walk_at "ev0"
  refine exI (revL hc (by simp; lia)) ?_
  repeat' walk_at "ev0"
  refine ⟨_, _, rfl, g_new, ?_⟩
  have lc := lt_of_get hc
  refine n_clauses (mn := .int (m : Int)) (cs := .ref c) (la := la) (x11 := none) (x12 := none) (x13 := none) cls.reverse [] [] _ none none none none none none none (by rw [g_new]; simp) (fun e he => by
    obtain ⟨h1, h2, h3⟩ := ho e (by simpa using he)
    exact ⟨g_app h1, h2, h3⟩) fun σ1 y4 y5 y6 y7 y8 y9 y10 fr1 hl1 => ?_
  simp only [List.length_append, List.length_cons, List.length_nil] at hl1 fr1
  refine r_next ?_
  refine r_b1 (r_sf (r_itS ?_))
  repeat' (first | with_reducible refine ⟨_, slXYZ hm, ?_⟩ | walk_at "ev0")
  refine exI (revS (by simp; lia)) ?_
  repeat' walk_at "ev0"
  refine ⟨?_, ?_⟩
  · intro x hx
    have : x ∈ [88, 89, 90] := List.mem_of_mem_take (List.mem_reverse.mp hx)
    simp at this; lia
  refine n_vars (mn := .int (m : Int)) (cs := .ref c) (la := la) _ _ σ1 none none none fun σ2 is y11 y12 y13 fr2 hl2 hv hge => ?_
  repeat' walk_at "ev0"
  have := q σ2 is (fun j hj => by rw [fr2 j (by lia), fr1 j (by lia), List.getElem?_append_left hj]) (by lia) (by simpa using hv) (fun i hi => by have := hge i hi; lia)
  simpa [flOf] using this
end


noncomputable def rcOf (m t i : Nat) : Nat := if t / 2 ^ (m - 1 - i) % 2 = 0 then 116 else 102
noncomputable def rowOf (m t : Nat) : List Nat := (List.range m).map (rcOf m t)
noncomputable def okP (row : List Nat) (p : LPart) : Bool := ((row[p.1]?.getD 0) == 116) == p.2
noncomputable def rE : ME := .ix (.c (AV.str [116, 102])) (.bo .mod (.bo .div (.x 2) (.bo .pow (.c (AV.int 2)) (.bo .sub (.bo .sub (.x 1) (.c (AV.int 1))) (.x 0)))) (.c (AV.int 2)))
noncomputable def rC : ME := .cm .eq (.cm .eq (.ix (.x 2) (.x 0)) (.c (AV.str [116]))) (.x 1)
theorem rE_fin : ∀ m : Fin 4, ∀ i : Fin 3, ∀ t : Fin 8, i.val < m.val → t.val < 2 ^ m.val → 0 ≤ (m.val : Int) - 1 - (i.val : Int) ∧ (m.val : Int) - 1 - (i.val : Int) < 10 ∧ 0 < (2 : Int) ^ ((m.val : Int) - 1 - (i.val : Int)).toNat ∧ (2 : Int) ^ ((m.val : Int) - 1 - (i.val : Int)).toNat < 1000 ∧
    0 ≤ Int.fmod (Int.fdiv (t.val : Int) ((2 : Int) ^ ((m.val : Int) - 1 - (i.val : Int)).toNat)) 2 ∧ Int.fmod (Int.fdiv (t.val : Int) ((2 : Int) ^ ((m.val : Int) - 1 - (i.val : Int)).toNat)) 2 < 1000000 ∧
    ([116, 102] : List Nat)[(Int.fmod (Int.fdiv (t.val : Int) ((2 : Int) ^ ((m.val : Int) - 1 - (i.val : Int)).toNat)) 2).toNat]? = some (rcOf m.val t.val i.val) := by decide +kernel
section
set_option compiler.extract_closed false
variable {d : Nat} {ρ : Loc} {σ : St} {K : AV → St → Prop} {KL : St → Prop}
theorem powV {x : Int} (h : 0 ≤ x) (h2 : x < 10) : binV .pow (.int 2) (.int x) = some (.int (2 ^ x.toNat)) := if_pos ⟨by decide, by decide, h, h2⟩
theorem divV {a b : Int} (h : 0 < b) (h2 : b < 1000) : binV .div (.int a) (.int b) = some (.int (Int.fdiv a b)) := if_pos ⟨h, h2⟩
theorem modV {a b : Int} (h : 0 < b) (h2 : b < 1000) : binV .mod (.int a) (.int b) = some (.int (Int.fmod a b)) := if_pos ⟨h, h2⟩
theorem mulV {a b : Int} (h : 0 ≤ a) (h1 : a < 1000) (h2 : 0 ≤ b) (h3 : b < 1000) : binV .mul (.int a) (.int b) = some (.int (a * b)) := by
  show ((if 0 ≤ a ∧ a < 1000 ∧ 0 ≤ b ∧ b < 1000 then some (AV.int (a * b)) else none) <|> _) = _
  rw [if_pos ⟨h, h1, h2, h3⟩]; rfl
theorem itS {l : List Nat} {k : Int} {c : Nat} (h : 0 ≤ k) (h2 : k < 1000000) (e : l[k.toNat]? = some c) : itemR σ (.str l) (.int k) = some (.str [c]) := by
  show (((if 0 ≤ k ∧ k < 1000000 then (l[k.toNat]?).map fun c => AV.str [c] else none) <|> none) <|> none) = _
  rw [if_pos ⟨h, h2⟩, e]; rfl
theorem rE_e {m i t : Nat} (hm : m ≤ 3) (hi : i < m) (ht : t < 2 ^ m) (q : K (.str [rcOf m t i]) σ) : RE d [some (.int (i : Int)), some (.int (m : Int)), some (.int (t : Int))] rE σ K := by
  have h8 : t < 8 := Nat.lt_of_lt_of_le ht (Nat.pow_le_pow_right (n := 2) (by lia) hm)
  obtain ⟨h1, h2, h3, h4, h5, h6, h7⟩ := rE_fin ⟨m, by lia⟩ ⟨i, by lia⟩ ⟨t, h8⟩ hi ht
  simp only at h1 h2 h3 h4 h5 h6 h7
  refine r_ix (r_c (r_bo (r_bo (r_x rfl (r_bo (r_c (r_bo (r_bo (r_x rfl (r_c ⟨_, rfl, ?_⟩))))))))))
  exact r_x rfl ⟨_, rfl, ⟨_, powV h1 h2, ⟨_, divV h3 h4, r_c ⟨_, modV (by decide) (by decide), ⟨_, itS h5 h6 h7, q⟩⟩⟩⟩⟩
theorem lc_rng {e : ME} {g : Nat → AV} {m acc : Nat} {ρt : Loc} {σ₀ : St} {y : AO} (he : ∀ i, i < m → ∀ σ (K : AV → St → Prop), (∀ j, j ≠ acc → σ[j]? = σ₀[j]?) → σ.length = σ₀.length → K (g i) σ → RE d (some (.int (i : Int)) :: ρt) e σ K) (hm : m ≤ 1000) (ha : σ₀[acc]? = some y)
    (h : KL (σ₀.set acc (.list ((List.range m).map g)))) : ∀ (n i : Nat) (x : Option AV), i + n = m → RL d (x :: ρt) [0] false (.rng (i : Int) n) none e acc (σ₀.set acc (.list ((List.range i).map g))) KL
  | 0, i, x, hi => by
    obtain rfl : i = m := by lia
    exact r_lE rfl h
  | n + 1, i, x, hi => by
    refine r_lN (v := .int (i : Int)) (src' := .rng ((i : Int) + 1) n) rfl ?_
    refine ⟨_, rfl, rfl, ?_⟩
    refine he i (by lia) _ _ (fun j hj => List.getElem?_set_ne (Ne.symm hj)) (by simp) ?_
    refine ⟨_, g_eq ha, by simp; lia, ?_⟩
    have IH := lc_rng he hm ha h n (i + 1) (some (.int (i : Int))) (by lia)
    rw [List.set_set]
    rw [List.range_succ, List.map_append] at IH
    exact IH
theorem strs_map : ∀ l : List (List Nat), strsOf (l.map .str) = some l
  | [] => rfl
  | x :: r => by simp [strsOf, strs_map r]
theorem bm_join {i : Nat} {l : List (List Nat)} (h : σ[i]? = some (.list (l.map .str))) (h1 : l.length ≤ 1000) (h2 : l.flatten.length ≤ 1000) : bmR σ 5 (.str []) [.ref i] = some (.str l.flatten, σ) := by
  show onList σ (.ref i) (fun q0 vs => (strsOf vs).bind fun l => if ([] : List Nat) = [] ∧ l.length ≤ 1000 ∧ (joinS l).length ≤ 1000 then some (AV.str (joinS l), σ) else none) = _
  rw [onList_e h]
  show ((strsOf (l.map .str)).bind _) = _
  rw [strs_map]; exact if_pos ⟨rfl, h1, h2⟩
theorem rC_t {row : List Nat} {p : LPart} {KT : Bool → St → Prop} (hp : p.1 < row.length) (hl : row.length ≤ 100) (q : KT (okP row p) σ) : RT d [some (.int (p.1 : Int)), some (.bool p.2), some (.str row)] rC σ KT := by
  have e : row[((p.1 : Nat) : Int).toNat]? = some row[p.1] := by rw [Int.toNat_natCast]; exact List.getElem?_eq_getElem hp
  refine r_tc (r_cm (r_ix (r_x rfl (r_x rfl ⟨_, itS (by lia) (by lia) e, r_c ⟨_, rfl, r_x rfl ⟨_, rfl, ?_⟩⟩⟩))))
  have e2 : okP row p = (([row[p.1]] == [116]) == p.2) := by
    unfold okP
    rw [List.getElem?_eq_getElem hp]
    congr 1
    simp
  rw [← e2]; exact q
theorem lc_filt {row : List Nat} {ci acc : Nat} {ps : List LPart} {σ₀ : St} {y : AO} (hc : σ₀[ci]? = some (.list (ps.map pav))) (n : ci ≠ acc) (ha : σ₀[acc]? = some y) (hp : ∀ p ∈ ps, p.1 < row.length) (hl : row.length ≤ 100)
    (h : ∀ L : List AV, L.length = (ps.filter (okP row)).length → KL (σ₀.set acc (.list L))) : ∀ (r : List LPart) (k : Nat) (x0 x1 : Option AV) (L : List AV), ps.drop k = r → L.length + (r.filter (okP row)).length = (ps.filter (okP row)).length → L.length ≤ 1000 → ps.length ≤ 1000 →
    RL d [x0, x1, some (.str row)] [0, 1] true (.lst ci k) (some rC) (.x 0) acc (σ₀.set acc (.list L)) KL
  | [], k, x0, x1, L, hd, hL, _, _ => by
    refine r_lE (nx_end (g_ne hc n.symm) (by rw [List.getElem?_map, drop_nil hd]; rfl)) (h L (by simpa using hL))
  | p :: r, k, x0, x1, L, hd, hL, hz, hz2 => by
    obtain ⟨e1, e2⟩ := drop_cons hd
    have hpl := hp p (List.mem_of_getElem? e1)
    refine r_lC (nx_item (v := pav p) (g_ne hc n.symm) (by rw [List.getElem?_map, e1]; rfl)) ?_
    refine ⟨_, rfl, rfl, ?_⟩
    refine rC_t (row := row) (p := p) hpl hl ?_
    refine ⟨fun ok => ?_, fun ok => ?_⟩
    · refine r_x rfl ?_
      refine ⟨_, g_eq ha, by lia, ?_⟩
      rw [List.set_set]
      have hlen : L.length < (ps.filter (okP row)).length := by
        rw [List.filter_cons_of_pos ok, List.length_cons] at hL; lia
      have hle := List.length_filter_le (okP row) ps
      refine lc_filt hc n ha hp hl h r (k + 1) _ _ (L ++ [.int (p.1 : Int)]) e2 ?_ (by simp; lia) hz2
      rw [List.filter_cons_of_pos ok, List.length_cons] at hL
      simp; lia
    · refine lc_filt hc n ha hp hl h r (k + 1) _ _ L e2 ?_ hz hz2
      rw [List.filter_cons_of_neg (by simp [ok])] at hL
      exact hL
end


noncomputable def tms (row : List Nat) : List (List LPart) → Nat → Nat
  | [], t => t
  | ps :: r, t => tms row r (t * (ps.filter (okP row)).length)
noncomputable def dueTo (m : Nat) (cls : List (List LPart)) (n : Nat) : List (List Nat) := (List.range n).flatMap fun t => List.replicate (tms (rowOf m t) cls 1) (rowOf m t)
noncomputable abbrev rCb : List MS := [(.as (.x 5) (.bo .mul (.x 5) (.bf 0 (.lc 3 [(2, 4)] [0, 1] true (.x 6) (some rC) (.x 0)))))]
noncomputable abbrev rTb : List MS := [(.as (.x 4) (.bm (.c (AV.str [])) 5 [(.lc 3 [(1, 0), (2, 3)] [0] false (.bf 9 (.x 0)) none rE)])), (.as (.x 5) (.c (AV.int 1))), (.fr (.x 6) (.x 1) rCb), (.as (.x 2) (.bo .add (.x 2) (.bo .mul (.ls [(.x 4)]) (.x 5))))]
section
set_option compiler.extract_closed false
variable {d : Nat} {ρ : Loc} {σ : St} {K : AV → St → Prop} {KS : Fl → Loc → St → Prop}
theorem tms_le {row : List Nat} : ∀ (cls : List (List LPart)) (t : Nat), (∀ ps ∈ cls, ps.length ≤ 2) → tms row cls t ≤ t * 2 ^ cls.length
  | [], t, _ => by simp [tms]
  | ps :: r, t, h => by
    have := tms_le (row := row) r (t * (ps.filter (okP row)).length) (fun q hq => h q (by simp [hq]))
    have h1 := List.length_filter_le (okP row) ps
    have h2 := h ps (by simp)
    have h3 : (ps.filter (okP row)).length ≤ 2 := by lia
    simp only [tms, List.length_cons]
    refine Nat.le_trans this ?_
    rw [Nat.pow_succ, Nat.mul_assoc]
    refine Nat.mul_le_mul_left t ?_
    rw [Nat.mul_comm]
    exact Nat.mul_le_mul_left _ h3
theorem rows_cls {m c : Nat} {row : List Nat} {x2 x3 : Option AV} (hl : row.length ≤ 100) : ∀ (todo dn : List (Nat × List LPart)) (t : Nat) (σ : St) (x6 : Option AV), σ[c]? = some (.list ((dn ++ todo).map fun e => .ref e.1)) →
    (∀ e ∈ todo, σ[e.1]? = some (.list (e.2.map pav)) ∧ e.2.length ≤ 2 ∧ ∀ p ∈ e.2, p.1 < row.length) → t * 2 ^ todo.length ≤ 500 →
    (∀ σ' x6, (∀ j, j < σ.length → σ'[j]? = σ[j]?) → σ.length ≤ σ'.length → KS .next [some (.int (m : Int)), some (.ref c), x2, x3, some (.str row), some (.int (tms row (todo.map (·.2)) t : Nat)), x6] σ') →
    RF d [some (.int (m : Int)), some (.ref c), x2, x3, some (.str row), some (.int (t : Int)), x6] (.x 6) (.lst c dn.length) rCb σ KS
  | [], dn, t, σ, x6, hc, ho, ht, q => by
    refine r_fE (nx_end hc (by simp)) ?_
    exact q σ _ (fun q0 q0 => rfl) (Nat.le_refl _)
  | e :: todo, dn, t, σ, x6, hc, ho, ht, q => by
    obtain ⟨h1, h2, h3⟩ := ho e (by simp)
    have le := lt_of_get h1
    have lc := lt_of_get hc
    have hp1 : 1 ≤ 2 ^ todo.length := Nat.one_le_two_pow
    rw [List.length_cons, Nat.pow_succ] at ht
    have ht2 : t * 2 ≤ 500 := Nat.le_trans (Nat.mul_le_mul_left t (by lia : 2 ≤ 2 ^ todo.length * 2)) ht
    refine r_f1 (nx_item (v := .ref e.1) hc (by simp)) ?_
    refine r_ax ?_
    refine r_b1 (r_sa (r_bo (r_x rfl (r_bf (r_lc (r_itL (r_x rfl ⟨_, _, rfl, h1, ?_⟩)))))))
    have e0 : σ ++ [AO.list []] = (σ ++ [AO.list []]).set σ.length (.list []) := by simp
    rw [e0]
    refine lc_filt (row := row) (ps := e.2) (σ₀ := σ ++ [.list []]) (g_app h1) (by lia) g_new h3 hl (fun L hL => ?_) e.2 0 none none [] rfl (by simp) (by simp) (by lia)
    have e1 : (σ ++ [AO.list []]).set σ.length (.list L) = σ ++ [.list L] := by simp
    rw [e1]
    have hfl := List.length_filter_le (okP row) e.2
    refine exI (lenL g_new (by lia)) ?_
    refine exI (mulV (by lia) (by lia) (by lia) (by lia)) ?_
    refine r_ax (r_next (r_b0 (rf_next ?_)))
    have IH := rows_cls (m := m) (x2 := x2) (x3 := x3) hl todo (dn ++ [e]) (t * L.length) (σ ++ [.list L]) (some (.ref e.1)) (by rw [g_app hc]; simp) (fun e' he' => by
      obtain ⟨g1, g2, g3⟩ := ho e' (by simp [he'])
      exact ⟨g_app g1, g2, g3⟩) (by
        refine Nat.le_trans ?_ ht
        rw [Nat.mul_assoc]
        refine Nat.mul_le_mul_left t ?_
        rw [Nat.mul_comm]
        exact Nat.mul_le_mul_left _ (by lia)) (fun σ2 y6 fr2 hl2 => by
        have := q σ2 y6 (fun j hj => (fr2 j (by simp; lia)).trans (List.getElem?_append_left hj)) (by simp at hl2; lia)
        simpa [tms, hL] using this)
    rw [List.length_append, Int.natCast_mul] at IH
    exact IH
theorem flat1 {α β : Type} {f : α → β} : ∀ l : List α, (l.map fun x => [f x]).flatten = l.map f
  | [] => rfl
  | x :: r => by simp [flat1 r]
theorem mulL {i : Nat} {v : AV} {n : Nat} (h : σ[i]? = some (.list [v])) (hn : n < 1000) : binL σ .mul (.ref i) (.int (n : Int)) = some (List.replicate n v) := by
  show onList σ (.ref i) _ = _
  rw [onList_e h]
  exact (if_pos ⟨by lia, by lia, by simp⟩).trans (by simp)
theorem dueTo_succ {m : Nat} {cls : List (List LPart)} {n : Nat} : dueTo m cls (n + 1) = dueTo m cls n ++ List.replicate (tms (rowOf m n) cls 1) (rowOf m n) := by
  unfold dueTo
  rw [List.range_succ, List.flatMap_append]; simp
theorem dueTo_len {m : Nat} {cls : List (List LPart)} (h : ∀ ps ∈ cls, ps.length ≤ 2) : ∀ n : Nat, (dueTo m cls n).length ≤ n * 2 ^ cls.length
  | 0 => by simp [dueTo]
  | n + 1 => by
    have h1 := dueTo_len (m := m) h n
    have h2 := tms_le (row := rowOf m n) cls 1 h
    rw [dueTo_succ, List.length_append, List.length_replicate, Nat.add_mul]
    lia
theorem row_len {m t : Nat} : (rowOf m t).length = m := by simp [rowOf]
theorem rows_turn {m c : Nat} {cls : List (Nat × List LPart)} (hm : m ≤ 3) (hz : cls.length ≤ 3) {σ₀ : St} (hc : σ₀[c]? = some (.list (cls.map fun e => .ref e.1))) (ho : ∀ e ∈ cls, σ₀[e.1]? = some (.list (e.2.map pav)) ∧ e.2.length ≤ 2 ∧ ∀ p ∈ e.2, p.1 < m)
    (q : ∀ σ' D x3 x4 x5 x6, (∀ j, j < σ₀.length → σ'[j]? = σ₀[j]?) → σ₀.length ≤ D → σ'[D]? = some (.list ((dueTo m (cls.map (·.2)) (2 ^ m)).map .str)) → KS .next [some (.int (m : Int)), some (.ref c), some (.ref D), x3, x4, x5, x6] σ') :
    ∀ (n t : Nat) (D : Nat) (σ : St) (x3 x4 x5 x6 : Option AV), t + n = 2 ^ m → (∀ j, j < σ₀.length → σ[j]? = σ₀[j]?) → σ₀.length ≤ D → σ[D]? = some (.list ((dueTo m (cls.map (·.2)) t).map .str)) →
    RF d [some (.int (m : Int)), some (.ref c), some (.ref D), x3, x4, x5, x6] (.x 3) (.rng (t : Int) n) rTb σ KS
  | 0, t, D, σ, x3, x4, x5, x6, ht, fr, lD, hD => by
    obtain rfl : t = 2 ^ m := by lia
    exact r_fE rfl (q σ D _ _ _ _ fr lD hD)
  | n + 1, t, D, σ, x3, x4, x5, x6, ht, fr, lD, hD => by
    have lc := lt_of_get hc
    have lD2 := lt_of_get hD
    have h8 : 2 ^ m ≤ 8 := Nat.pow_le_pow_right (n := 2) (by lia) hm
    have h8c : 2 ^ cls.length ≤ 8 := Nat.pow_le_pow_right (n := 2) (by lia) hz
    have h2c : ∀ ps ∈ cls.map (·.2), ps.length ≤ 2 := fun ps hps => by
      obtain ⟨e, he, rfl⟩ := List.mem_map.mp hps
      exact (ho e he).2.1
    refine r_f1 (v := .int (t : Int)) (src' := .rng ((t : Int) + 1) n) rfl ?_
    refine r_ax ?_
    refine r_b1 (r_sa (r_bm (r_c ⟨rfl, r_es1 (r_lc (r_itR (r_x rfl ⟨_, rfl, by lia, by lia, ?_⟩)))⟩)))
    have e0 : σ ++ [AO.list []] = (σ ++ [AO.list []]).set σ.length (.list ((List.range 0).map fun i => .str [rcOf m t i])) := by simp
    rw [e0]
    refine lc_rng (g := fun i => .str [rcOf m t i]) (m := m) (y := .list []) (fun i hi σ' K' q0 q0 q' => rE_e hm hi (by lia) q') (by lia) g_new ?_ m 0 none (by lia)
    have e1 : (σ ++ [AO.list []]).set σ.length (.list ((List.range m).map fun i => .str [rcOf m t i])) = σ ++ [.list (((List.range m).map fun i => [rcOf m t i]).map .str)] := by simp
    rw [e1]
    refine r_es0 ⟨_, _, bm_join g_new (by simp; lia) (by rw [flat1]; simp; lia), ?_⟩
    rw [flat1, show (List.range m).map (rcOf m t) = rowOf m t from rfl]
    refine r_ax (r_next (r_b1 (r_sa (r_c (r_ax (r_next ?_))))))
    refine r_b1 (r_sf (r_itL (r_x rfl ⟨_, _, rfl, g_app ((fr c lc).trans hc), ?_⟩)))
    have key := tms_le (row := rowOf m t) (cls.map (·.2)) 1 h2c
    rw [List.length_map] at key
    refine rows_cls (m := m) (row := rowOf m t) (by rw [row_len]; lia) cls [] 1 (σ ++ [.list (((List.range m).map fun i => [rcOf m t i]).map .str)]) x6 (g_app ((fr c lc).trans hc)) (fun e he => by
      obtain ⟨g1, g2, g3⟩ := ho e he
      exact ⟨g_app ((fr _ (lt_of_get g1)).trans g1), g2, by rw [row_len]; exact g3⟩) (by lia) fun σ2 y6 fr2 hl2 => ?_
    have hD2 : σ2[D]? = some (.list ((dueTo m (cls.map (·.2)) t).map .str)) := (fr2 D (by simp; lia)).trans (g_app hD)
    have hl3 : σ.length + 1 ≤ σ2.length := by simpa using hl2
    have dl := dueTo_len (m := m) h2c t
    rw [List.length_map] at dl
    have dl2 : (dueTo m (cls.map (·.2)) t).length ≤ 64 := Nat.le_trans dl (Nat.mul_le_mul (show t ≤ 8 by lia) h8c)
    refine r_next ?_
    refine r_b1 (r_sa (r_boL (r_x rfl (r_boL (r_ls (r_es1 (r_x rfl (r_es0 ?_))))))))
    refine r_x rfl ⟨_, mulL g_new (by lia), ?_⟩
    refine exI (addL (a := (dueTo m (cls.map (·.2)) t).map .str) (b := List.replicate (tms (rowOf m t) (cls.map (·.2)) 1) (.str (rowOf m t))) (g_app (g_app hD2)) g_new (by simp; lia)) ?_
    refine r_ax (r_next (r_b0 (rf_next ?_)))
    refine rows_turn hm hz hc ho q n (t + 1) _ _ _ _ _ _ (by lia) (fun j hj => ?_) ?_ ?_
    · have a1 : j < σ.length := by
        have e : σ₀[j]? = some σ₀[j] := List.getElem?_eq_getElem hj
        exact lt_of_get ((fr j hj).trans e)
      rw [List.getElem?_append_left (by simp; lia), List.getElem?_append_left (by simp; lia), List.getElem?_append_left (by lia), fr2 j (by simp; lia), List.getElem?_append_left a1, fr j hj]
    · simp; lia
    · rw [dueTo_succ, List.map_append, List.map_replicate]
      exact g_new
end


section
set_option compiler.extract_closed false
variable {d : Nat} {σ : St} {K : AV → St → Prop}
theorem c_law_rows {m c : Nat} {cls : List (Nat × List LPart)} (hm : m ≤ 3) (hz : cls.length ≤ 3) (hc : σ[c]? = some (.list (cls.map fun e => .ref e.1))) (ho : ∀ e ∈ cls, σ[e.1]? = some (.list (e.2.map pav)) ∧ e.2.length ≤ 2 ∧ ∀ p ∈ e.2, p.1 < m)
    (q : ∀ σ' D, (∀ j, j < σ.length → σ'[j]? = σ[j]?) → σ.length ≤ D → σ'[D]? = some (.list ((dueTo m (cls.map (·.2)) (2 ^ m)).map .str)) → K (.ref D) σ') : RC (d + 1) 49 [.int (m : Int), .ref c] σ K := by
  have lc := lt_of_get hc
  refine r_call rfl rfl (by decide) ?_
  repeat' walk_at "ev0"
  try refine r_ls ?_
  repeat' walk_at "ev0"
  have hp : ((2 : Int) ^ ((m : Int)).toNat) = ((2 ^ m : Nat) : Int) := by rw [Int.toNat_natCast]; simp
  have h8 : 2 ^ m ≤ 8 := Nat.pow_le_pow_right (n := 2) (by lia) hm
  refine r_sf (r_itR (r_bo (r_c (r_x rfl ⟨_, powV (by lia) (by lia), _, rfl, ?_⟩))))
  rw [hp]
  refine ⟨Int.natCast_nonneg _, Int.ofNat_lt.mpr (show 2 ^ m < 1000 by lia), ?_⟩
  rw [Int.toNat_natCast]
  refine rows_turn (m := m) (c := c) (cls := cls) hm hz (σ₀ := σ) hc ho (fun σ' D x3 x4 x5 x6 fr lD hD => ?_) (2 ^ m) 0 σ.length _ none none none none (by lia) (fun j hj => List.getElem?_append_left hj) (Nat.le_refl _) (by rw [g_new]; simp [dueTo])
  repeat' walk_at "ev0"
  exact q σ' D fr lD hD
end


noncomputable def rowF (m : Nat) (f : Asg) : List Nat := (List.range m).map fun i => chB (f [88 + i])
noncomputable def rep : List LE → Asg → List Asg
  | [], _ => []
  | .set n b :: r, g => rep r (upd g n b)
  | .hit :: r, g => g :: rep r g
noncomputable def repF : List LE → Asg → Asg
  | [], g => g
  | .set n b :: r, g => repF r (upd g n b)
  | .hit :: r, g => repF r g
theorem rep_app : ∀ (a b : List LE) (g : Asg), rep (a ++ b) g = rep a g ++ rep b (repF a g)
  | [], b, g => rfl
  | .set n x :: r, b, g => rep_app r b _
  | .hit :: r, b, g => by
    show g :: rep (r ++ b) g = _
    rw [rep_app r b g]; rfl
theorem repF_app : ∀ (a b : List LE) (g : Asg), repF (a ++ b) g = repF b (repF a g)
  | [], b, g => rfl
  | .set n x :: r, b, g => repF_app r b _
  | .hit :: r, b, g => repF_app r b _
section
set_option compiler.extract_closed false
variable {nm : Nat → List Nat} {R : Nat → Prop}
theorem rep_tlog {β : Type} {row : Asg → β} : ∀ (l : List Itm) (names : List (List Nat)) (f g : Asg), WI nm R names l → (∀ n ∈ names, g n = f n) → (∀ f g : Asg, (∀ n ∈ allI nm names l, f n = g n) → row f = row g) →
    (rep (tlog nm l f) g).map row = (leaves nm l f).map row ∧ ∀ n ∈ names, repF (tlog nm l f) g n = f n
  | [], names, f, g, W, h, hr => ⟨by simp [tlog, rep, leaves, hr g f h], by simpa [tlog, repF] using h⟩
  | .c1 a :: l, names, f, g, W, h, hr => by
    simp only [tlog, leaves]
    split
    · exact rep_tlog l names f g W.2 h hr
    · exact ⟨rfl, h⟩
  | .c2 a b :: l, names, f, g, W, h, hr => by
    simp only [tlog, leaves]
    have A : ∀ (x : Bool) (g : Asg), (∀ n ∈ names, g n = f n) → (rep (if x then tlog nm l f else []) g).map row = (if x then leaves nm l f else []).map row ∧ ∀ n ∈ names, repF (if x then tlog nm l f else []) g n = f n := by
      intro x g h
      cases x
      · exact ⟨rfl, h⟩
      · exact rep_tlog l names f g W.2.2 h hr
    obtain ⟨a1, a2⟩ := A (a.ok f) g h
    obtain ⟨b1, b2⟩ := A (b.ok f) _ a2
    rw [rep_app, repF_app, List.map_append, List.map_append, a1, b1]
    exact ⟨rfl, b2⟩
  | .v r :: l, names, f, g, W, h, hr => by
    obtain ⟨_, n1, _, W'⟩ := W
    simp only [tlog, leaves, List.cons_append, rep, repF]
    have up : ∀ (b : Bool) (g : Asg), (∀ n ∈ names, g n = f n) → ∀ n ∈ refN nm r :: names, upd g (refN nm r) b n = upd f (refN nm r) b n := by
      intro b g h n hn
      unfold upd
      split
      · rfl
      · rcases List.mem_cons.mp hn with q | q
        · contradiction
        · exact h n q
    have dn : ∀ (b : Bool) (g : Asg), (∀ n ∈ refN nm r :: names, g n = upd f (refN nm r) b n) → ∀ n ∈ names, g n = f n := by
      intro b g h n hn
      rw [h n (List.mem_cons_of_mem _ hn)]
      simp [upd, show n ≠ refN nm r from fun e => n1 (e ▸ hn)]
    obtain ⟨a1, a2⟩ := rep_tlog l (refN nm r :: names) (upd f (refN nm r) true) (upd g (refN nm r) true) W' (up true g h) hr
    obtain ⟨b1, b2⟩ := rep_tlog l (refN nm r :: names) (upd f (refN nm r) false) (upd (repF (tlog nm l (upd f (refN nm r) true)) (upd g (refN nm r) true)) (refN nm r) false) W' (up false _ (dn true _ a2)) hr
    rw [rep_app, repF_app, List.map_append, List.map_append, a1]
    simp only [rep, repF]
    rw [b1]
    exact ⟨rfl, dn false _ b2⟩
theorem tms_mul {row : List Nat} : ∀ (cls : List (List LPart)) (t : Nat), tms row cls t = t * tms row cls 1
  | [], t => by simp [tms]
  | ps :: r, t => by
    simp only [tms]
    rw [tms_mul r (t * _), tms_mul r (1 * _), Nat.one_mul, Nat.mul_assoc]
theorem ok_row {m : Nat} {f : Asg} {p : LPart} (h : p.1 < m) : okP (rowF m f) p = (pcl p).ok f := by
  unfold okP rowF pcl Cl.ok
  rw [List.getElem?_map, List.getElem?_range h]
  rcases Bool.eq_false_or_eq_true (f [88 + p.1]) with e | e <;> simp [e, chB]
theorem leaves_cls {m : Nat} {f : Asg} : ∀ cls : List (List LPart), (∀ ps ∈ cls, (ps.length = 1 ∨ ps.length = 2) ∧ ∀ p ∈ ps, p.1 < m) → leaves nm (cls.map cItm) f = List.replicate (tms (rowF m f) cls 1) f
  | [], _ => by simp [leaves, tms]
  | ps :: r, h => by
    have IH := leaves_cls (f := f) r fun q hq => h q (by simp [hq])
    obtain ⟨h1, h2⟩ := h ps (by simp)
    simp only [tms, Nat.one_mul]
    rw [tms_mul]
    match ps, h1 with
    | [p], _ =>
      have e := ok_row (f := f) (h2 p (by simp))
      simp only [List.map_cons, cItm, leaves, IH]
      rw [List.filter_cons, e]
      cases (pcl p).ok f <;> simp
    | [p, q], _ =>
      have e := ok_row (f := f) (h2 p (by simp))
      have e2 := ok_row (f := f) (h2 q (by simp))
      simp only [List.map_cons, cItm, leaves, IH]
      rw [List.filter_cons, List.filter_cons, e, e2]
      cases (pcl p).ok f <;> cases (pcl q).ok f <;> simp [Nat.two_mul, List.replicate_append_replicate]
end
noncomputable def f0 : Asg := fun q0 => true
section
set_option compiler.extract_closed false
variable {nm : Nat → List Nat}
theorem leaves_due1 {i0 : Nat} {cls : List (List LPart)} (h0 : nm i0 = [88]) (h : ∀ ps ∈ cls, (ps.length = 1 ∨ ps.length = 2) ∧ ∀ p ∈ ps, p.1 < 1) : (leaves nm ([i0].map vItm ++ cls.map cItm) f0).map (rowF 1) = dueTo 1 cls (2 ^ 1) := by
  simp only [List.map_cons, List.map_nil, List.cons_append, List.nil_append, vItm, leaves, refN, h0, leaves_cls cls h, List.map_append, List.map_replicate]
  unfold dueTo
  rw [show List.range (2 ^ 1) = [0, 1] from rfl]
  simp only [List.flatMap_cons, List.flatMap_nil, List.append_nil]
  rfl
theorem leaves_due2 {i0 i1 : Nat} {cls : List (List LPart)} (h0 : nm i0 = [88]) (h1 : nm i1 = [89]) (h : ∀ ps ∈ cls, (ps.length = 1 ∨ ps.length = 2) ∧ ∀ p ∈ ps, p.1 < 2) : (leaves nm ([i0, i1].map vItm ++ cls.map cItm) f0).map (rowF 2) = dueTo 2 cls (2 ^ 2) := by
  simp only [List.map_cons, List.map_nil, List.cons_append, List.nil_append, vItm, leaves, refN, h0, h1, leaves_cls cls h, List.map_append, List.map_replicate]
  unfold dueTo
  rw [show List.range (2 ^ 2) = [0, 1, 2, 3] from rfl]
  simp only [List.flatMap_cons, List.flatMap_nil, List.append_nil, List.append_assoc]
  rfl
theorem leaves_due3 {i0 i1 i2 : Nat} {cls : List (List LPart)} (h0 : nm i0 = [88]) (h1 : nm i1 = [89]) (h2 : nm i2 = [90]) (h : ∀ ps ∈ cls, (ps.length = 1 ∨ ps.length = 2) ∧ ∀ p ∈ ps, p.1 < 3) : (leaves nm ([i0, i1, i2].map vItm ++ cls.map cItm) f0).map (rowF 3) = dueTo 3 cls (2 ^ 3) := by
  simp only [List.map_cons, List.map_nil, List.cons_append, List.nil_append, vItm, leaves, refN, h0, h1, h2, leaves_cls cls h, List.map_append, List.map_replicate]
  unfold dueTo
  rw [show List.range (2 ^ 3) = [0, 1, 2, 3, 4, 5, 6, 7] from rfl]
  simp only [List.flatMap_cons, List.flatMap_nil, List.append_nil, List.append_assoc]
  rfl
end


noncomputable def lB : List MS := [(.iff (.cm .ne (.x 14) (.c (AV.str [69]))) [(.as (.ix (.x 12) (.bm (.c (AV.str [88, 89, 90])) 6 [(.x 14)])) (.x 5))] [(.iff (.cm .eq (.x 5) (.bf 0 (.x 7))) [(.ex (.bm (.x 13) 0 [(.bm (.c (AV.str [])) 5 [(.x 12)])]))] [(.rt (.c (AV.bool false)))])])]
noncomputable def valsOf (m : Nat) (g : Asg) : List AV := (List.range m).map fun i => .str [chB (g [88 + i])]
noncomputable def LEok (m : Nat) (e : LE) : Prop := e = .hit ∨ ∃ i b, i < m ∧ e = .set [88 + i] b
theorem vals_set {m i : Nat} {g : Asg} {b : Bool} (h : i < m) : (valsOf m g).set i (.str [chB b]) = valsOf m (upd g [88 + i] b) := by
  apply List.ext_getElem?
  intro j
  unfold valsOf
  rw [List.getElem?_set, List.getElem?_map, List.getElem?_map]
  by_cases e : i = j
  · subst e
    rw [if_pos rfl, if_pos (by simpa using h), List.getElem?_range h]
    simp [upd]
  · rw [if_neg e]
    by_cases hj : j < m
    · rw [List.getElem?_range hj]
      have : ¬ (88 + j = 88 + i) := by lia
      simp [upd, show ¬ (j = i) from fun q => e q.symm]
    · rw [List.getElem?_eq_none (by simp; lia)]; rfl
theorem vals_strs {m : Nat} {g : Asg} : valsOf m g = ((List.range m).map fun i => [chB (g [88 + i])]).map .str := by
  simp [valsOf, List.map_map]
section
set_option compiler.extract_closed false
variable {d : Nat} {σ : St} {KS : Fl → Loc → St → Prop}
theorem bm_index {i : Nat} (h : i < 3) : bmR σ 6 (.str [88, 89, 90]) [.str [88 + i]] = some (.int (i : Int), σ) := by
  match i, h with
  | 0, _ => rfl
  | 1, _ => rfl
  | 2, _ => rfl
theorem replay {m len lg V W : Nat} {su : List Nat} {x0 x1 x2 x3 x4 x6 x8 x9 x10 x11 : Option AV} (hm : m ≤ 3) (hsu : su.length = len) (hlen : len ≤ 1000) (nVW : V ≠ W) (nVl : V ≠ lg) (nWl : W ≠ lg) : ∀ (todo dn : List LE) (g : Asg) (rs : List (List Nat)) (σ : St) (x5 x14 : Option AV),
    σ[lg]? = some (.list ((dn ++ todo).map (LE.av len))) → σ[V]? = some (.list (valsOf m g)) → σ[W]? = some (.list (rs.map .str)) → (∀ e ∈ todo, LEok m e) → rs.length + todo.length ≤ 50000 →
    (∀ σ' x5 x14, (∀ j, j ≠ V → j ≠ W → σ'[j]? = σ[j]?) → σ'[W]? = some (.list ((rs ++ (rep todo g).map (rowF m)).map .str)) → KS .next [x0, x1, x2, x3, x4, x5, x6, some (.str su), x8, x9, x10, x11, some (.ref V), some (.ref W), x14] σ') →
    RF d [x0, x1, x2, x3, x4, x5, x6, some (.str su), x8, x9, x10, x11, some (.ref V), some (.ref W), x14] (.tup [.x 14, .x 5]) (.lst lg dn.length) lB σ KS
  | [], dn, g, rs, σ, x5, x14, hl, hV, hW, ok, hz, q => by
    refine r_fE (nx_end hl (by simp)) ?_
    exact q σ _ _ (fun q0 q0 q0 => rfl) (by simpa [rep] using hW)
  | .set n b :: todo, dn, g, rs, σ, x5, x14, hl, hV, hW, ok, hz, q => by
    obtain ⟨i, b', hi, e⟩ : ∃ i b', i < m ∧ LE.set n b = .set [88 + i] b' := by
      rcases ok _ (List.mem_cons_self) with h | h
      · cases h
      · exact h
    injection e with e1 e2
    subst e1
    refine r_f1 (nx_item (v := (LE.set [88 + i] b).av len) hl (by simp)) ?_
    refine r_atp rfl (r_ag1 (r_ax (r_ag1 (r_ax (r_ag0 ?_)))))
    refine r_b1 (r_si (r_tc (r_x rfl (r_c ⟨_, rfl, ?_⟩))))
    refine Sw.eqt (show ([88 + i] != [69]) = true from by simp; lia) ?_
    refine r_b1 (r_sa (r_x rfl (r_aix (r_x rfl (r_bm (r_c ⟨rfl, r_es1 (r_x rfl (r_es0 ⟨_, _, bm_index (by lia), ?_⟩))⟩))))))
    refine exI (storeL hV (by simp [valsOf]; exact hi) (by lia)) ?_
    refine r_next (r_b0 (r_next (r_b0 (rf_next ?_))))
    rw [vals_set hi]
    have IH := replay (x0 := x0) (x1 := x1) (x2 := x2) (x3 := x3) (x4 := x4) (x6 := x6) (x8 := x8) (x9 := x9) (x10 := x10) (x11 := x11) hm hsu hlen nVW nVl nWl todo (dn ++ [.set [88 + i] b]) (upd g [88 + i] b) rs (σ.set V (.list (valsOf m (upd g [88 + i] b)))) (some (.str [chB b])) (some (.str [88 + i])) (by rw [g_ne hl nVl]; simp) (g_eq hV) (g_ne hW nVW) (fun e he => ok e (List.mem_cons_of_mem _ he)) (by simp at hz; lia) (fun σ2 y5 y14 fr2 hW2 => q σ2 y5 y14 (fun j h1 h2 => (fr2 j h1 h2).trans (List.getElem?_set_ne (Ne.symm h1))) hW2)
    rw [List.length_append] at IH
    exact IH
  | .hit :: todo, dn, g, rs, σ, x5, x14, hl, hV, hW, ok, hz, q => by
    refine r_f1 (nx_item (v := LE.hit.av len) hl (by simp)) ?_
    refine r_atp rfl (r_ag1 (r_ax (r_ag1 (r_ax (r_ag0 ?_)))))
    refine r_b1 (r_si (r_tc (r_x rfl (r_c ⟨false, rfl, ?_⟩))))
    refine Sw.f (r_b1 (r_si (r_tc (r_x rfl (r_bf (r_x rfl ⟨_, lenS (by lia), _, rfl, ?_⟩))))))
    rw [hsu, beq_self_eq_true]
    refine Sw.t (r_b1 (r_se (r_bm (r_x rfl ⟨bmL (by lia) hW, r_es1 (r_bm (r_c ⟨rfl, r_es1 (r_x rfl (r_es0 ⟨_, _, bm_join (vals_strs ▸ hV) (by simp; lia) (by rw [flat1]; simp; lia), r_es0 ?_⟩))⟩))⟩))))
    simp at hz
    refine exI2 (bm_app hW (by simp; lia)) ?_
    refine r_next (r_b0 (r_next (r_b0 (r_next (r_b0 (rf_next ?_))))))
    rw [flat1, show (List.range m).map (fun i => chB (g [88 + i])) = rowF m g from rfl]
    have IH := replay (x0 := x0) (x1 := x1) (x2 := x2) (x3 := x3) (x4 := x4) (x6 := x6) (x8 := x8) (x9 := x9) (x10 := x10) (x11 := x11) hm hsu hlen nVW nVl nWl todo (dn ++ [.hit]) g (rs ++ [rowF m g]) (σ.set W (.list (rs.map .str ++ [.str (rowF m g)]))) (some (.int (len : Int))) (some (.str [69])) (by rw [g_ne hl nWl]; simp) (g_ne hV nVW.symm) (by rw [g_eq hW]; simp) (fun e he => ok e (List.mem_cons_of_mem _ he)) (by simp; lia) (fun σ2 y5 y14 fr2 hW2 => q σ2 y5 y14 (fun j h1 h2 => (fr2 j h1 h2).trans (List.getElem?_set_ne (Ne.symm h2))) (by simpa [rep] using hW2))
    rw [List.length_append] at IH
    exact IH
end


noncomputable def partsOf (m told : Nat) : List LPart := (List.range (1 + told % 2)).map fun i => (told / 2 / 6 ^ i / 2 % m, told / 2 / 6 ^ i % 2 == 0)
noncomputable abbrev cB : List MS := [(.asl 6 (.lc 2 [(1, 5)] [0] false (.bf 9 (.bo .add (.c (AV.int 1)) (.bo .mod (.x 5) (.c (AV.int 2))))) none (.bo .div (.bo .div (.x 1) (.c (AV.int 2))) (.bo .pow (.c (AV.int 6)) (.x 0))))), (.ex (.bm (.x 4) 0 [(.lc 2 [(1, 3)] [0] false (.x 6) none (.tp [(.bo .mod (.bo .div (.x 0) (.c (AV.int 2))) (.x 1)), (.cm .eq (.bo .mod (.x 0) (.c (AV.int 2))) (.c (AV.int 0)))]))]))]
section
set_option compiler.extract_closed false
variable {d : Nat} {σ : St} {KS : Fl → Loc → St → Prop}
theorem lc_mapR {d i acc : Nat} {e : ME} {g : AV → AV} {vs : List AV} {ρt : Loc} {σ₀ : St} {KL : St → Prop} (he : ∀ v ∈ vs, ∀ σ (K : AV → St → Prop), K (g v) σ → RE d (some v :: ρt) e σ K) (hi : σ₀[i]? = some (.list vs)) (n : i ≠ acc) (hz : vs.length ≤ 5000) {y : AO} (ha : σ₀[acc]? = some y)
    (h : KL (σ₀.set acc (.list (vs.map g)))) : ∀ (r : List AV) (k : Nat) (x : Option AV), vs.drop k = r → k ≤ vs.length → RL d (x :: ρt) [0] false (.lst i k) none e acc (σ₀.set acc (.list ((vs.take k).map g))) KL
  | [], k, x, hd, hk => by
    have : vs.length ≤ k := List.drop_eq_nil_iff.mp hd
    refine r_lE (nx_end (g_ne hi n.symm) (drop_nil hd)) ?_
    rw [List.take_of_length_le this]
    exact h
  | v :: r, k, x, hd, hk => by
    obtain ⟨e1, e2⟩ := drop_cons hd
    have hlt : k < vs.length := (List.getElem?_eq_some_iff.mp e1).1
    refine r_lN (nx_item (g_ne hi n.symm) e1) ?_
    refine ⟨_, rfl, rfl, ?_⟩
    refine he v (List.mem_of_getElem? e1) _ _ ?_
    refine ⟨_, g_eq ha, by simp; lia, ?_⟩
    have IH := lc_mapR he hi n hz ha h r (k + 1) (some v) e2 (by lia)
    rw [List.take_add_one, e1, List.map_append] at IH
    rw [List.set_set]
    exact IH
theorem fdivN {a b : Nat} : Int.fdiv (a : Int) (b : Int) = ((a / b : Nat) : Int) := by
  rw [Int.fdiv_eq_ediv_of_nonneg _ (by lia)]; rfl
theorem fmodN {a b : Nat} : Int.fmod (a : Int) (b : Int) = ((a % b : Nat) : Int) := by
  rw [Int.fmod_eq_emod_of_nonneg _ (by lia)]; rfl
noncomputable def partV (m : Nat) : AV → AV
  | .int k => pav (k.toNat / 2 % m, k.toNat % 2 == 0)
  | v => v
theorem partV_nat {m a : Nat} : partV m (.int ((a : Nat) : Int)) = pav (a / 2 % m, a % 2 == 0) := by
  show pav (((a : Nat) : Int).toNat / 2 % m, ((a : Nat) : Int).toNat % 2 == 0) = _
  rw [Int.toNat_natCast]
theorem c_told {m told C : Nat} {x0 x1 x2 x6 x7 x8 x9 x10 x11 x12 x13 x14 : Option AV} {acc : List AV} (hm : 0 < m) (hm3 : m ≤ 3) (hC : σ[C]? = some (.list acc)) (hz : acc.length < 100)
    (q : ∀ σ' e x6, (∀ j, j < σ.length → j ≠ C → σ'[j]? = σ[j]?) → σ.length ≤ σ'.length → σ.length ≤ e → σ'[C]? = some (.list (acc ++ [.ref e])) → σ'[e]? = some (.list ((partsOf m told).map pav)) → KS .next [x0, x1, x2, some (.int (m : Int)), some (.ref C), some (.int (told : Int)), x6, x7, x8, x9, x10, x11, x12, x13, x14] σ') :
    RB d [x0, x1, x2, some (.int (m : Int)), some (.ref C), some (.int (told : Int)), x6, x7, x8, x9, x10, x11, x12, x13, x14] cB σ KS := by
  have lC := lt_of_get hC
  have h2 : told % 2 < 2 := Nat.mod_lt _ (by decide)
  refine r_b1 (r_sl (r_itR (r_bo (r_c (r_bo (r_x rfl (r_c ⟨_, modV (by decide) (by decide), _, rfl, _, rfl, ?_⟩)))))))
  rw [show Int.fmod (told : Int) 2 = ((told % 2 : Nat) : Int) from fmodN, show (1 : Int) + ((told % 2 : Nat) : Int) = ((1 + told % 2 : Nat) : Int) from by lia]
  refine ⟨by lia, by lia, ?_⟩
  rw [Int.toNat_natCast]
  have e0 : σ ++ [AO.list []] = (σ ++ [AO.list []]).set σ.length (.list ((List.range 0).map fun i => .int ((told / 2 / 6 ^ i : Nat) : Int))) := by simp
  rw [e0]
  refine lc_rng (g := fun i => .int ((told / 2 / 6 ^ i : Nat) : Int)) (m := 1 + told % 2) (y := .list []) (fun i hi σ' K' q0 q0 q' => ?_) (by lia) g_new ?_ (1 + told % 2) 0 none (by lia)
  · have hi2 : i = 0 ∨ i = 1 := by lia
    have e6 : (6 : Int) ^ ((i : Int)).toNat = ((6 ^ i : Nat) : Int) := by rw [Int.toNat_natCast]; simp
    have h6 : 0 < 6 ^ i ∧ 6 ^ i < 1000 := by rcases hi2 with rfl | rfl <;> decide
    have hp : binV .pow (.int 6) (.int (i : Int)) = some (.int (6 ^ ((i : Int)).toNat)) := if_pos ⟨by decide, by decide, by lia, by lia⟩
    rw [e6] at hp
    refine r_bo (r_bo (r_x rfl (r_c ⟨_, divV (by decide) (by decide), ?_⟩)))
    refine r_bo (r_c (r_x rfl ⟨_, hp, _, divV (Int.ofNat_lt.mpr h6.1) (Int.ofNat_lt.mpr h6.2), ?_⟩))
    rw [show Int.fdiv (told : Int) 2 = ((told / 2 : Nat) : Int) from fdivN, fdivN]
    exact q'
  · have e1 : (σ ++ [AO.list []]).set σ.length (.list ((List.range (1 + told % 2)).map fun i => .int ((told / 2 / 6 ^ i : Nat) : Int))) = σ ++ [.list ((List.range (1 + told % 2)).map fun i => .int ((told / 2 / 6 ^ i : Nat) : Int))] := by simp
    rw [e1]
    refine r_next (r_b1 (r_se (r_bm (r_x rfl ⟨bmL (by lia) (g_app hC), ?_⟩))))
    refine r_es1 (r_lc (r_itL (r_x rfl ⟨_, _, rfl, g_new, ?_⟩)))
    have e2 : ∀ X : List AV, (σ ++ [AO.list X]) ++ [AO.list []] = ((σ ++ [AO.list X]) ++ [AO.list []]).set (σ ++ [AO.list X]).length (.list ((X.take 0).map (partV m))) := by intro X; simp
    rw [e2]
    refine lc_mapR (g := partV m) (ρt := [some (.int (m : Int))]) (fun v hv σ' K' q' => ?_) (g_app g_new) (by simp) (by simp; lia) g_new ?_ _ 0 none rfl (by lia)
    · obtain ⟨i, hi, rfl⟩ := List.mem_map.mp hv
      refine r_tp (r_es1 (r_bo (r_bo (r_x rfl (r_c ⟨_, divV (by decide) (by decide), r_x rfl ⟨_, modV (by lia) (by lia), ?_⟩⟩)))))
      refine r_es1 (r_cm (r_bo (r_x rfl (r_c ⟨_, modV (by decide) (by decide), r_c ⟨_, rfl, r_es0 ?_⟩⟩))))
      rw [show ∀ a : Nat, Int.fdiv (a : Int) 2 = ((a / 2 : Nat) : Int) from fun a => fdivN, fmodN, show ∀ a : Nat, Int.fmod (a : Int) 2 = ((a % 2 : Nat) : Int) from fun a => fmodN]
      have eb : ∀ a : Nat, (((a : Int)) == 0) = (a == 0) := by intro a; cases a <;> rfl
      rw [eb]
      rw [partV_nat] at q'
      exact q'
    · have e3 : ∀ X Y : List AV, ((σ ++ [AO.list X]) ++ [AO.list []]).set (σ ++ [AO.list X]).length (.list Y) = (σ ++ [AO.list X]) ++ [AO.list Y] := by intro X Y; simp
      rw [e3]
      refine r_es0 ⟨_, _, bm_app (g_app (g_app hC)) (by lia), ?_⟩
      refine r_next (r_b0 ?_)
      refine q _ (σ.length + 1) _ (fun j hj hne => ?_) (by simp) (by lia) ?_ ?_
      · rw [List.getElem?_set_ne (Ne.symm hne), List.getElem?_append_left (by simp; lia), List.getElem?_append_left hj]
      · rw [g_eq (g_app (g_app hC))]; simp
      · rw [List.getElem?_set_ne (by lia)]
        have := g_new (σ := σ ++ [AO.list ((List.range (1 + told % 2)).map fun i => AV.int ((told / 2 / 6 ^ i : Nat) : Int))]) (y := .list (((List.range (1 + told % 2)).map fun i => AV.int ((told / 2 / 6 ^ i : Nat) : Int)).map (partV m)))
        rw [List.length_append] at this
        rw [show σ.length + 1 = σ.length + [AO.list ((List.range (1 + told % 2)).map fun i => AV.int ((told / 2 / 6 ^ i : Nat) : Int))].length from rfl, this]
        simp only [partsOf, List.map_map, Function.comp_def, partV_nat]
end


noncomputable abbrev lT2 : List MS := [(.as (.x 9) (.nw 3 [.dc, (.c (AV.int 9999)), (.ls [])])), (.as (.x 11) (.tp [(.c (AV.str [99, 97, 116])), (.tp [(.c (AV.str [99, 117, 114, 115, 111, 114])), (.nw 4 [(.c (AV.str [118, 97, 114])), (.c AV.none), (.c (AV.str [69]))])]), (.tp [(.c (AV.str [102, 97, 105, 108]))])])), (.iff (.cm .isn (.cf 40 [(.cf 48 [(.x 3), (.x 4), (.x 11)]), (.x 7), (.c (AV.bool true)), (.x 9)]) (.c AV.none)) [(.rt (.c (AV.bool false)))] []), (.asw [12, 13] (.tp [(.bo .mul (.ls [(.c (AV.str [116]))]) (.x 3)), (.ls [])])), (.fr (.tup [(.x 14), (.x 5)]) (.at (.x 9) 17) lB), (.rt (.cm .eq (.x 13) (.x 8)))]
noncomputable abbrev lT1 : List MS := (.as (.x 7) (.bo .mul (.c (AV.str [116, 102])) (.bo .add (.x 3) (.bf 0 (.x 4))))) :: (.as (.x 8) (.cf 49 [(.x 3), (.x 4)])) :: (.as (.x 9) (.nw 3 [.dc, (.c (AV.int 9999)), (.ls [])])) :: (.as (.x 10) (.cf 39 [(.cf 48 [(.x 3), (.x 4), (.tp [(.c (AV.str [114, 112, 111, 115])), (.c (AV.int 0))])]), (.x 7), (.c (AV.bool true)), (.x 9)])) :: (.iff (.cm .eq (.x 8) (.ls [])) [(.iff (.cm .isn (.x 10) (.c AV.none)) [(.rt (.c (AV.bool false)))] [])] [(.iff (.or [(.cm .ne (.x 10) (.tp [(.c (AV.int 0)), (.bf 0 (.x 7)), (.ls [])])), (.cm .ne (.bm (.c (AV.str [])) 5 [(.lc 2 [(1, 9)] [0] false (.sl (.c (AV.str [88, 89, 90])) none (some (.x 3))) none (.ix (.at (.x 1) 12) (.x 0)))]) (.ix (.x 8) (.c (AV.int 0))))]) [(.rt (.c (AV.bool false)))] [])]) :: lT2

section
set_option compiler.extract_closed false
variable {d : Nat} {σ : St} {KS : Fl → Loc → St → Prop}
noncomputable def LClsOk (m : Nat) (σ : St) (cls : List (Nat × List LPart)) : Prop := ∀ e ∈ cls, σ[e.1]? = some (.list (e.2.map pav)) ∧ (e.2.length = 1 ∨ e.2.length = 2) ∧ ∀ p ∈ e.2, p.1 < m
theorem parts_ok {m told : Nat} (hm : 0 < m) : ((partsOf m told).length = 1 ∨ (partsOf m told).length = 2) ∧ ∀ p ∈ partsOf m told, p.1 < m := by
  have h2 : told % 2 < 2 := Nat.mod_lt _ (by decide)
  refine ⟨by simp [partsOf]; lia, fun p hp => ?_⟩
  obtain ⟨i, _, rfl⟩ := List.mem_map.mp hp
  exact Nat.mod_lt _ hm
theorem cl_loop {m C S : Nat} {x0 x1 x2 x7 x8 x9 x10 x11 x12 x13 x14 : Option AV} (hm : 0 < m) (hm3 : m ≤ 3) (nSC : S ≠ C) : ∀ (todo dn : List Nat) (done : List (Nat × List LPart)) (σ : St) (x5 x6 : Option AV),
    σ[S]? = some (.list ((dn ++ todo).map fun (t : Nat) => .int (t : Int))) → σ[C]? = some (.list (done.map fun e => .ref e.1)) → LClsOk m σ done → (∀ e ∈ done, e.1 ≠ C) → done.length + todo.length < 100 →
    (∀ σ' cls x5 x6, σ'[C]? = some (.list (cls.map fun e => .ref e.1)) → LClsOk m σ' cls → cls.length = done.length + todo.length → KS .next [x0, x1, x2, some (.int (m : Int)), some (.ref C), x5, x6, x7, x8, x9, x10, x11, x12, x13, x14] σ') →
    RF d [x0, x1, x2, some (.int (m : Int)), some (.ref C), x5, x6, x7, x8, x9, x10, x11, x12, x13, x14] (.x 5) (.lst S dn.length) cB σ KS
  | [], dn, done, σ, x5, x6, hS, hC, hd, hne, hz, q => by
    refine r_fE (nx_end hS (by simp)) ?_
    exact q σ done _ _ hC hd (by simp)
  | t :: todo, dn, done, σ, x5, x6, hS, hC, hd, hne, hz, q => by
    have lS := lt_of_get hS
    have lC := lt_of_get hC
    simp only [List.length_cons] at hz
    refine r_f1 (nx_item (v := .int (t : Int)) hS (by simp)) ?_
    refine r_ax ?_
    refine c_told (told := t) hm hm3 hC (by simp; lia) fun σ' e x6' fr hl le hC' he => ?_
    refine rf_next ?_
    have po := parts_ok (told := t) hm
    have IH := cl_loop (x0 := x0) (x1 := x1) (x2 := x2) (x7 := x7) (x8 := x8) (x9 := x9) (x10 := x10) (x11 := x11) (x12 := x12) (x13 := x13) (x14 := x14) hm hm3 nSC todo (dn ++ [t]) (done ++ [(e, partsOf m t)]) σ' (some (.int (t : Int))) x6' (by rw [fr S lS nSC, hS]; simp) (by rw [hC']; simp) (fun e' he' => by
      rcases List.mem_append.mp he' with h | h
      · obtain ⟨g1, g2⟩ := hd e' h
        exact ⟨(fr _ (lt_of_get g1) (hne e' h)).trans g1, g2⟩
      · rw [List.mem_singleton.mp h]
        exact ⟨he, po⟩) (fun e' he' => by
      rcases List.mem_append.mp he' with h | h
      · exact hne e' h
      · rw [List.mem_singleton.mp h]; show e ≠ C; lia) (by simp; lia) (fun σ2 cls y5 y6 h1 h2 h3 => q σ2 cls y5 y6 h1 h2 (by simp at h3 ⊢; lia))
    rw [List.length_append] at IH
    exact IH
theorem sliceLst0 {l : List AV} {lo hi : Option AV} {x : Int} {y : Option Nat} (h : l.length ≤ 100000) (e1 : intOr 0 lo = some x) (e2 : hiR hi = some y) : sliceR σ (.lst l) lo hi = some (.inr (cut x.toNat (y.getD l.length) l)) := by
  unfold sliceR
  have e0 : okLen σ (.lst l) = true := by simp only [okLen, decide_eq_true_eq]; exact h
  rw [if_pos e0]
  unfold sliceR0
  rw [e1, e2]
theorem sliceLst {l : List AV} {b : Nat} (h : l.length ≤ 100000) (hb : b < 1000000) : sliceR σ (.lst l) none (some (.int (b : Int))) = some (.inr (l.take b)) := by
  have := sliceLst0 (σ := σ) (lo := none) (x := 0) h rfl (hiR_n hb)
  rw [this]; simp [cut]
noncomputable def cellsOf (ns : List Int) : List Nat := (ns.take 5).map Int.natAbs ++ [1, 0, 6].drop (ns.take 5).length
noncomputable def absV : AV → AV
  | .int i => .int (i.natAbs : Int)
  | v => v
end


noncomputable def cE : ME := .bo .add (.lc 1 [] [0] false (.sl (.x 0) none (some (.c (AV.int 5)))) none (.bf 1 (.bf 2 (.x 0)))) (.sl (.x 1) (some (.bf 0 (.sl (.x 0) none (some (.c (AV.int 5)))))) none)
section
set_option compiler.extract_closed false
variable {d : Nat} {σ : St} {K : AV → St → Prop} {KS : Fl → Loc → St → Prop}
theorem cells_av {ns : List Int} : ((ns.map AV.int).take 5).map absV ++ ([AV.int 1, .int 0, .int 6]).drop ((ns.map AV.int).take 5).length = (cellsOf ns).map fun (t : Nat) => .int (t : Int) := by
  unfold cellsOf
  rw [List.map_append, ← List.map_take, List.map_map, List.map_map, List.length_map, List.map_drop]
  rfl
theorem law_cells {ns : List Int} {U : Nat} {rest : Loc} (hn : ns.length ≤ 63) (hU : σ[U]? = some (.list [.int 1, .int 0, .int 6])) (q : ∀ σ' D, σ'[D]? = some (.list ((cellsOf ns).map fun (t : Nat) => .int (t : Int))) → K (.ref D) σ') :
    RE d (some (.lst (ns.map .int)) :: some (.ref U) :: rest) cE σ K := by
  have sl := fun σ : St => sliceLst (σ := σ) (l := ns.map AV.int) (b := 5) (by simp; lia) (by lia)
  refine r_boL (r_lc (r_itL (rs_0 (r_x rfl (r_c ⟨_, sl _, slk_r ⟨_, _, rfl, g_new, ?_⟩⟩)))))
  have e2 : ∀ X : List AV, (σ ++ [AO.list X]) ++ [AO.list []] = ((σ ++ [AO.list X]) ++ [AO.list []]).set (σ ++ [AO.list X]).length (.list ((X.take 0).map absV)) := by intro X; simp
  rw [e2]
  have hl : ((ns.map AV.int).take 5).length ≤ 5 := by simp; lia
  refine lc_mapR (g := absV) (ρt := []) (fun v hv σ' K' q' => ?_) (g_app g_new) (by simp) (by lia) g_new ?_ _ 0 none rfl (by lia)
  · obtain ⟨i, hi, rfl⟩ := List.mem_map.mp (List.mem_of_mem_take hv)
    exact r_bf (r_bf (r_x rfl ⟨_, rfl, _, rfl, q'⟩))
  · have e3 : ∀ X Y : List AV, ((σ ++ [AO.list X]) ++ [AO.list []]).set (σ ++ [AO.list X]).length (.list Y) = (σ ++ [AO.list X]) ++ [AO.list Y] := by intro X Y; simp
    rw [e3]
    refine r_sl1L (r_x rfl (r_bf (rs_0 (r_x rfl (r_c ⟨_, sl _, slk_r ⟨_, lenL g_new (by lia), _, sliceL1 (g_app (g_app (g_app hU))) (by simp) (by lia), ?_⟩⟩)))))
    refine exI (addL (g_app (g_app g_new)) g_new (by simp; lia)) ?_
    rw [cells_av]
    exact q _ _ g_new
theorem cells_len {ns : List Int} : 3 ≤ (cellsOf ns).length ∧ (cellsOf ns).length ≤ 5 := by
  unfold cellsOf
  simp
  lia
theorem law_head {ns : List Int} (hn : ns.length ≤ 63) (q : ∀ σ m C cls x0 x1 x2 x5 x6, 0 < m → m ≤ 3 → σ[C]? = some (.list (cls.map fun e => .ref e.1)) → LClsOk m σ cls → cls.length ≤ 3 → RB d [x0, x1, x2, some (.int (m : Int)), some (.ref C), x5, x6, none, none, none, none, none, none, none, none] lT1 σ KS) :
    RB d [some (.lst (ns.map .int)), none, none, none, none, none, none, none, none, none, none, none, none, none, none] b50 [] KS := by
  unfold b50
  refine r_b1 (r_sa (r_ls (r_es1 (r_c (r_es1 (r_c (r_es1 (r_c (r_es0 ?_)))))))))
  refine r_ax (r_next ?_)
  refine r_b1 (r_sa ?_)
  refine law_cells (ns := ns) hn g_new fun σ2 D hD => ?_
  obtain ⟨l1, l2⟩ := cells_len (ns := ns)
  generalize cellsOf ns = cs at hD l1 l2
  obtain ⟨c0, c1, c2, r, rfl⟩ : ∃ c0 c1 c2 r, cs = c0 :: c1 :: c2 :: r := by
    match cs, l1 with
    | c0 :: c1 :: c2 :: r, _ => exact ⟨c0, c1, c2, r, rfl⟩
  refine r_ax (r_next ?_)
  refine r_b1 (r_sa (r_tp (r_es1 (r_bo (r_c (r_bo (r_ix (r_x rfl (r_c ⟨_, itemL (k := 0) (v := .int (c0 : Int)) hD rfl (by lia), r_c ⟨_, modV (by decide) (by decide), _, rfl, ?_⟩⟩))))))))) 
  rw [show Int.fmod (c0 : Int) 3 = ((c0 % 3 : Nat) : Int) from fmodN, show (1 : Int) + ((c0 % 3 : Nat) : Int) = ((1 + c0 % 3 : Nat) : Int) from by lia]
  refine r_es1 (r_ls (r_es0 (r_es0 ?_)))
  refine r_atp rfl (r_ag1 (r_ax (r_ag1 (r_ax (r_ag0 (r_next ?_))))))
  have lD := lt_of_get hD
  refine r_b1 (r_sf (r_itL (rs_2 (r_x rfl (r_c (r_bo (r_c (r_bo (r_ix (r_x rfl (r_c ⟨_, itemL (k := 1) (v := .int (c1 : Int)) (g_app hD) rfl (by lia), r_c ⟨_, modV (by decide) (by decide), _, rfl, ?_⟩⟩))))))))))) 
  rw [show Int.fmod (c1 : Int) 3 = ((c1 % 3 : Nat) : Int) from fmodN, show (3 : Int) + ((c1 % 3 : Nat) : Int) = ((3 + c1 % 3 : Nat) : Int) from by lia]
  refine ⟨_, sliceR_list (o := .none) (x := ((2 : Nat) : Int)) (g_app hD) (by simp only [List.length_map]; lia) (intOr_n (a := 2) (by lia)) (hiR_n (by lia)), slk_r ⟨_, _, rfl, g_new, ?_⟩⟩
  have em : cut (((2 : Nat) : Int).toNat) ((some (3 + c1 % 3)).getD ((c0 :: c1 :: c2 :: r).map fun (t : Nat) => AV.int (t : Int)).length) ((c0 :: c1 :: c2 :: r).map fun (t : Nat) => AV.int (t : Int)) = (cut 2 (3 + c1 % 3) (c0 :: c1 :: c2 :: r)).map fun (t : Nat) => AV.int (t : Int) := by
    simp only [cut, List.map_drop, List.map_take]; rfl
  rw [em]
  have lt : (cut 2 (3 + c1 % 3) (c0 :: c1 :: c2 :: r)).length ≤ 3 := by
    rw [cut_len]; have := Nat.mod_lt c1 (show 0 < 3 by decide); lia
  refine cl_loop (m := 1 + c0 % 3) (S := _) (by lia) (by have := Nat.mod_lt c0 (show 0 < 3 by decide); lia) ?_ _ [] [] _ none none g_new (g_app g_new) (fun e he => by simp at he) (fun e he => by simp at he) (by simp; lia) fun σ3 cls y5 y6 h1 h2 h3 => ?_
  · simp
  · refine r_next ?_
    exact q σ3 _ _ cls _ _ _ _ _ (by lia) (by have := Nat.mod_lt c0 (show 0 < 3 by decide); lia) h1 h2 (by simp at h3; lia)
end


noncomputable def hE : ME := .nw 3 [.dc, (.c (AV.int 9999)), (.ls [])]
section
set_option compiler.extract_closed false
variable {d : Nat} {ρ : Loc} {σ : St} {K : AV → St → Prop} {KS : Fl → Loc → St → Prop} {KL : St → Prop}
theorem mulS {a : List Nat} {n : Nat} (h : n < 100) (ha : a.length ≤ 10) : binV .mul (.str a) (.int (n : Int)) = some (.str (List.replicate n a).flatten) := by
  show (if 0 ≤ (n : Int) ∧ (n : Int) < 100 ∧ a.length ≤ 10 then some (AV.str (List.replicate (n : Int).toNat a).flatten) else none) = _
  rw [if_pos ⟨by lia, by lia, ha⟩]; simp
theorem c_host_init {i v r : Nat} (hi : σ[i]? = some (.flds [])) (q : ∀ σ', (∀ j, j < σ.length → j ≠ i → σ'[j]? = σ[j]?) → σ'[i]? = some (.flds (hostF v r σ.length 0)) → σ'[σ.length]? = some (.list []) → σ'.length = σ.length + 1 → K .none σ') : RC (d + 1) 19 [.inst 3 i, .ref v, .int 9999, .ref r] σ K := by
  have li := lt_of_get hi
  refine r_call rfl rfl (by decide) ?_
  repeat' walk_at "ev0"
  try refine r_ls ?_
  repeat' walk_at "ev0"
  simp only [List.length_set]
  refine q _ (fun j hj hne => ?_) (g_eq (g_app (g_eq (g_eq (g_eq (g_eq (g_eq hi))))))) ?_ (by simp)
  · rw [List.getElem?_set_ne (Ne.symm hne), List.getElem?_append_left (by simp; exact hj), List.getElem?_set_ne (Ne.symm hne), List.getElem?_set_ne (Ne.symm hne), List.getElem?_set_ne (Ne.symm hne), List.getElem?_set_ne (Ne.symm hne), List.getElem?_set_ne (Ne.symm hne)]
  · rw [List.getElem?_set_ne (by lia), List.getElem?_append_right (by simp)]
    simp
theorem new_host (q : ∀ σ' h v r lg, (∀ j, j < σ.length → σ'[j]? = σ[j]?) → σ.length ≤ h → σ.length ≤ v → σ.length ≤ r → σ.length ≤ lg → r ≠ lg → σ'[h]? = some (.flds (hostF v r lg 0)) → σ'[v]? = some (.dict []) → σ'[r]? = some (.list []) → σ'[lg]? = some (.list []) → K (.inst 3 h) σ') : RE (d + 1) ρ hE σ K := by
  refine r_nw rfl (r_es1 (r_dc (r_es1 (r_c (r_es1 (r_ls (r_es0 (r_es0 ?_))))))))
  refine c_host_init g_new fun σ' fr hi hl hlen => ⟨rfl, ?_⟩
  have L : ((σ ++ [AO.dict []]) ++ [AO.list []]).length = σ.length + 2 := by simp
  have L3 : (((σ ++ [AO.dict []]) ++ [AO.list []]) ++ [AO.flds []]).length = σ.length + 3 := by simp
  rw [L3] at hlen
  refine q σ' _ _ _ _ (fun j hj => ?_) (by lia) (Nat.le_refl _) (by simp) (by lia) (by simp) hi ?_ ?_ hl
  · rw [fr j (by lia) (by lia), List.getElem?_append_left (by lia), List.getElem?_append_left (by simp; lia), List.getElem?_append_left hj]
  · rw [fr _ (by lia) (by lia)]
    exact g_app (g_app g_new)
  · rw [fr _ (by simp) (by simp)]
    exact g_app g_new
theorem eq_lists {i j : Nat} {a b : List (List Nat)} (h : σ[i]? = some (.list (a.map .str))) (h2 : σ[j]? = some (.list (b.map .str))) (oa : okS a = true) (ob : okS b = true) : cmpR σ .eq (.ref i) (.ref j) = some (a == b) := by
  show onList σ (.ref i) (fun q0 a => onList σ (.ref j) fun q0 b => (strsOf a).bind fun a => (strsOf b).bind fun b => if (okS a && okS b) = true then some (a == b) else none) = _
  rw [onList_e h]
  show onList σ (.ref j) (fun q0 b => (strsOf (a.map .str)).bind fun a => (strsOf b).bind fun b => if (okS a && okS b) = true then some (a == b) else none) = _
  rw [onList_e h2]
  show ((strsOf (a.map .str)).bind fun a => (strsOf (b.map .str)).bind fun b => if (okS a && okS b) = true then some (a == b) else none) = _
  rw [strs_map, strs_map]
  show (if (okS a && okS b) = true then some (a == b) else none) = _
  rw [oa, ob]; rfl
theorem okS_rows {m : Nat} (l : List Asg) : okS (l.map (rowF m)) = true := by
  unfold okS
  rw [List.all_eq_true]
  intro x hx
  obtain ⟨f, _, rfl⟩ := List.mem_map.mp hx
  rw [List.all_eq_true]
  intro c hc
  obtain ⟨i, _, rfl⟩ := List.mem_map.mp hc
  cases f [88 + i] <;> decide
theorem lc_chs {e : ME} {g : Nat → AV} {acc : Nat} {ρt : Loc} {σ₀ : St} {y : AO} {l : List Nat} (he : ∀ c ∈ l, ∀ σ (K : AV → St → Prop), (∀ j, j ≠ acc → σ[j]? = σ₀[j]?) → K (g c) σ → RE d (some (.str [c]) :: ρt) e σ K) (hl : l.length ≤ 1000) (ha : σ₀[acc]? = some y)
    (h : KL (σ₀.set acc (.list (l.map g)))) : ∀ (r dn : List Nat) (x : Option AV), dn ++ r = l → RL d (x :: ρt) [0] false (.chs r) none e acc (σ₀.set acc (.list (dn.map g))) KL
  | [], dn, x, hd => by
    rw [List.append_nil] at hd; subst hd
    exact r_lE rfl h
  | c :: r, dn, x, hd => by
    have hl2 := congrArg List.length hd
    simp at hl2
    refine r_lN (v := .str [c]) (src' := .chs r) rfl ?_
    refine ⟨_, rfl, rfl, ?_⟩
    refine he c (by rw [← hd]; simp) _ _ (fun j hj => List.getElem?_set_ne (Ne.symm hj)) ?_
    refine ⟨_, g_eq ha, by simp; lia, ?_⟩
    rw [List.set_set]
    have IH := lc_chs he hl ha h r (dn ++ [c]) (some (.str [c])) (by simpa using hd)
    rw [List.map_append] at IH
    exact IH
end
noncomputable def nmS (σ : St) (i : Nat) : List Nat := match σ[i]? with
  | some (.flds es) => match es.lookup 3 with
    | some (.str n) => n
    | _ => []
  | _ => []
theorem nmS_eq {σ : St} {i : Nat} {n : List Nat} (h : σ[i]? = some (.flds (nameF n))) : nmS σ i = n := by
  unfold nmS
  rw [h]; rfl
theorem xyz_take {m : Nat} (h : m ≤ 3) : ([88, 89, 90] : List Nat).take m = (List.range m).map (88 + ·) := by
  match m, h with
  | 0, _ => rfl
  | 1, _ => rfl
  | 2, _ => rfl
  | 3, _ => rfl
noncomputable def itms (is : List Nat) (cls : List (Nat × List LPart)) : List Itm := is.map vItm ++ cls.map fun e => cItm e.2
section
set_option compiler.extract_closed false
variable {m : Nat} {σ : St} {is : List Nat} {cls : List (Nat × List LPart)} {R : Nat → Prop} {nm : Nat → List Nat}
theorem WI_cls {ns : List (List Nat)} : ∀ cls : List (Nat × List LPart), (∀ e ∈ cls, (e.2.length = 1 ∨ e.2.length = 2) ∧ ∀ p ∈ e.2, [88 + p.1] ∈ ns) → WI nm R ns (cls.map fun e => cItm e.2)
  | [], _ => trivial
  | e :: r, h => by
    obtain ⟨h1, h2⟩ := h e (by simp)
    have IH := WI_cls r fun e' he' => h e' (by simp [he'])
    obtain ⟨n, ps⟩ := e
    match ps, h1 with
    | [p], _ => exact ⟨h2 p (by simp), IH⟩
    | [p, q], _ => exact ⟨h2 p (by simp), h2 q (by simp), IH⟩
theorem cost_cls : ∀ cls : List (Nat × List LPart), cost (cls.map fun e => cItm e.2) + 10 ≤ 13 * 2 ^ cls.length
  | [] => by decide
  | e :: r => by
    have IH := cost_cls r
    rw [List.length_cons, Nat.pow_succ]
    obtain ⟨n, ps⟩ := e
    match ps with
    | [] =>
      show 5 + cost (r.map fun e => cItm e.2) + 10 ≤ _
      lia
    | [p] =>
      show 5 + cost (r.map fun e => cItm e.2) + 10 ≤ _
      lia
    | p :: q :: _ =>
      show 10 + 2 * cost (r.map fun e => cItm e.2) + 10 ≤ _
      lia
theorem allI_cls {ns : List (List Nat)} : ∀ cls : List (Nat × List LPart), allI nm ns (cls.map fun e => cItm e.2) = ns
  | [] => rfl
  | (n, []) :: r => allI_cls r
  | (n, [p]) :: r => allI_cls r
  | (n, p :: q :: _) :: r => allI_cls r
theorem tlog_len : ∀ (l : List Itm) (f : Asg), (tlog nm l f).length ≤ cost l
  | [], f => by simp [tlog, cost]
  | .c1 a :: l, f => by
    have := tlog_len l f
    simp only [tlog, cost]; split <;> simp <;> lia
  | .c2 a b :: l, f => by
    have := tlog_len l f
    simp only [tlog, cost, List.length_append]
    split <;> split <;> simp <;> lia
  | .v r :: l, f => by
    have h1 := tlog_len l (upd f (refN nm r) true)
    have h2 := tlog_len l (upd f (refN nm r) false)
    simp only [tlog, cost, List.length_append, List.length_cons]; lia
theorem tlog_ok : ∀ (l : List Itm) (f : Asg), (∀ r, .v r ∈ l → ∃ i, i < m ∧ refN nm r = [88 + i]) → ∀ e ∈ tlog nm l f, LEok m e
  | [], f, h, e, he => by simp [tlog] at he; exact .inl he
  | .c1 a :: l, f, h, e, he => by
    simp only [tlog] at he
    split at he
    · exact tlog_ok l f (fun r hr => h r (List.mem_cons_of_mem _ hr)) e he
    · simp at he
  | .c2 a b :: l, f, h, e, he => by
    simp only [tlog] at he
    rcases List.mem_append.mp he with he | he
    · split at he
      · exact tlog_ok l f (fun r hr => h r (List.mem_cons_of_mem _ hr)) e he
      · simp at he
    · split at he
      · exact tlog_ok l f (fun r hr => h r (List.mem_cons_of_mem _ hr)) e he
      · simp at he
  | .v r :: l, f, h, e, he => by
    obtain ⟨i, hi, er⟩ := h r (List.mem_cons_self)
    have IH := fun f => tlog_ok l f (fun r hr => h r (List.mem_cons_of_mem _ hr))
    simp only [tlog, List.cons_append, List.mem_cons, List.mem_append] at he
    rcases he with rfl | he | rfl | he
    · exact .inr ⟨i, true, hi, by rw [er]⟩
    · exact IH _ e he
    · exact .inr ⟨i, false, hi, by rw [er]⟩
    · exact IH _ e he
end


structure Facts (nm : Nat → List Nat) (R : Nat → Prop) (m : Nat) (is : List Nat) (cls : List (Nat × List LPart)) : Prop where
  ne : ∃ x l, itms is cls = x :: l
  len : (itms is cls).length = m + cls.length
  wi : WI nm R [] (itms is cls)
  cost : cost (itms is cls) ≤ 1200
  due : (leaves nm (itms is cls) f0).map (rowF m) = dueTo m (cls.map (·.2)) (2 ^ m)
  all : ∀ i, i < m → [88 + i] ∈ allI nm [] (itms is cls)
  ok : ∀ e ∈ tlog nm (itms is cls) f0, LEok m e
theorem itms_map {is : List Nat} {cls : List (Nat × List LPart)} : itms is cls = is.map vItm ++ (cls.map (·.2)).map cItm := by
  unfold itms; rw [List.map_map]; rfl
theorem cls_no_v {cls : List (Nat × List LPart)} {r : AV} : Itm.v r ∉ cls.map fun e => cItm e.2 := by
  intro h
  obtain ⟨⟨n, ps⟩, _, he⟩ := List.mem_map.mp h
  match ps, he with
  | [], he => cases he
  | [p], he => cases he
  | p :: q :: _, he => cases he
theorem facts {nm : Nat → List Nat} {R : Nat → Prop} {m : Nat} {is : List Nat} {cls : List (Nat × List LPart)} {σ : St} (hm : 0 < m) (hm3 : m ≤ 3) (hV : VOk σ is (([88, 89, 90] : List Nat).take m)) (hR : ∀ i ∈ is, R i) (hnm : ∀ i n, σ[i]? = some (.flds (nameF n)) → nm i = n)
    (hc : ∀ e ∈ cls, (e.2.length = 1 ∨ e.2.length = 2) ∧ ∀ p ∈ e.2, p.1 < m) (hz : cls.length ≤ 3) : Facts nm R m is cls := by
  have cc := cost_cls cls
  have c8 : 2 ^ cls.length ≤ 8 := Nat.pow_le_pow_right (n := 2) (by lia) hz
  have hc2 : ∀ ps ∈ cls.map (·.2), (ps.length = 1 ∨ ps.length = 2) ∧ ∀ p ∈ ps, p.1 < m := fun ps hps => by
    obtain ⟨e, he, rfl⟩ := List.mem_map.mp hps
    exact hc e he
  obtain rfl | rfl | rfl : m = 1 ∨ m = 2 ∨ m = 3 := by lia
  · have hV : VOk σ is [88] := hV
    match is, hV with
    | [], hV => exact hV.elim
    | _ :: _ :: _, hV => exact hV.2.elim
    | [i0], hV =>
      have h0 := hnm _ _ hV.1
      have H : ∀ p : LPart, p.1 < 1 → [88 + p.1] ∈ [nm i0] := fun p hp => by rw [h0, show p.1 = 0 by lia]; simp
      refine ⟨⟨_, _, rfl⟩, by simp [itms]; lia, ?_, ?_, ?_, ?_, ?_⟩
      · exact ⟨⟨i0, rfl, hR i0 (by simp)⟩, by simp, by simp [refN, h0], WI_cls cls fun e he => ⟨(hc e he).1, fun p hp => H p ((hc e he).2 p hp)⟩⟩
      · show 12 + 2 * cost (cls.map fun e => cItm e.2) ≤ 1200; lia
      · rw [itms_map]; exact leaves_due1 h0 hc2
      · intro i hi
        show [88 + i] ∈ allI nm [nm i0] (cls.map fun e => cItm e.2)
        rw [allI_cls, h0, show i = 0 by lia]; simp
      · refine tlog_ok _ _ fun r hr => ?_
        unfold itms at hr
        rcases List.mem_append.mp hr with hr | hr
        · simp [vItm] at hr; subst hr; exact ⟨0, by lia, h0⟩
        · exact absurd hr cls_no_v
  · have hV : VOk σ is [88, 89] := hV
    match is, hV with
    | [], hV => exact hV.elim
    | [_], hV => exact hV.2.elim
    | _ :: _ :: _ :: _, hV => exact hV.2.2.elim
    | [i0, i1], hV =>
      have h0 := hnm _ _ hV.1
      have h1 := hnm _ _ hV.2.1
      have H : ∀ i : Nat, i < 2 → [88 + i] ∈ [nm i1, nm i0] := fun i hi => by
        rw [h0, h1]
        match i, hi with
        | 0, _ => simp
        | 1, _ => simp
      refine ⟨⟨_, _, rfl⟩, by simp [itms]; lia, ?_, ?_, ?_, ?_, ?_⟩
      · exact ⟨⟨i0, rfl, hR i0 (by simp)⟩, by simp, by simp [refN, h0], ⟨i1, rfl, hR i1 (by simp)⟩, by simp [refN, h0, h1], by simp [refN, h1], WI_cls cls fun e he => ⟨(hc e he).1, fun p hp => H p.1 ((hc e he).2 p hp)⟩⟩
      · show 12 + 2 * (12 + 2 * cost (cls.map fun e => cItm e.2)) ≤ 1200; lia
      · rw [itms_map]; exact leaves_due2 h0 h1 hc2
      · intro i hi
        show [88 + i] ∈ allI nm [nm i1, nm i0] (cls.map fun e => cItm e.2)
        rw [allI_cls]; exact H i hi
      · refine tlog_ok _ _ fun r hr => ?_
        unfold itms at hr
        rcases List.mem_append.mp hr with hr | hr
        · simp [vItm] at hr
          rcases hr with rfl | rfl
          · exact ⟨0, by lia, h0⟩
          · exact ⟨1, by lia, h1⟩
        · exact absurd hr cls_no_v
  · have hV : VOk σ is [88, 89, 90] := hV
    match is, hV with
    | [], hV => exact hV.elim
    | [_], hV => exact hV.2.elim
    | [_, _], hV => exact hV.2.2.elim
    | _ :: _ :: _ :: _ :: _, hV => exact hV.2.2.2.elim
    | [i0, i1, i2], hV =>
      have h0 := hnm _ _ hV.1
      have h1 := hnm _ _ hV.2.1
      have h2 := hnm _ _ hV.2.2.1
      have H : ∀ i : Nat, i < 3 → [88 + i] ∈ [nm i2, nm i1, nm i0] := fun i hi => by
        rw [h0, h1, h2]
        match i, hi with
        | 0, _ => simp
        | 1, _ => simp
        | 2, _ => simp
      refine ⟨⟨_, _, rfl⟩, by simp [itms]; lia, ?_, ?_, ?_, ?_, ?_⟩
      · exact ⟨⟨i0, rfl, hR i0 (by simp)⟩, by simp, by simp [refN, h0], ⟨i1, rfl, hR i1 (by simp)⟩, by simp [refN, h0, h1], by simp [refN, h1], ⟨i2, rfl, hR i2 (by simp)⟩, by simp [refN, h0, h1, h2], by simp [refN, h2], WI_cls cls fun e he => ⟨(hc e he).1, fun p hp => H p.1 ((hc e he).2 p hp)⟩⟩
      · show 12 + 2 * (12 + 2 * (12 + 2 * cost (cls.map fun e => cItm e.2))) ≤ 1200; lia
      · rw [itms_map]; exact leaves_due3 h0 h1 h2 hc2
      · intro i hi
        show [88 + i] ∈ allI nm [nm i2, nm i1, nm i0] (cls.map fun e => cItm e.2)
        rw [allI_cls]; exact H i hi
      · refine tlog_ok _ _ fun r hr => ?_
        unfold itms at hr
        rcases List.mem_append.mp hr with hr | hr
        · simp [vItm] at hr
          rcases hr with rfl | rfl | rfl
          · exact ⟨0, by lia, h0⟩
          · exact ⟨1, by lia, h1⟩
          · exact ⟨2, by lia, h2⟩
        · exact absurd hr cls_no_v


theorem VOk.mem {σ : St} : ∀ {is cs : List Nat}, VOk σ is cs → ∀ i ∈ is, ∃ c, σ[i]? = some (.flds (nameF [c]))
  | [], [], _, i, hi => by simp at hi
  | j :: is, c :: cs, h, i, hi => by
    rcases List.mem_cons.mp hi with rfl | hi
    · exact ⟨c, h.1⟩
    · exact VOk.mem h.2 i hi
  | [], _ :: _, h, _, _ => h.elim
  | _ :: _, [], h, _, _ => h.elim
theorem rowF_congr {m : Nat} {f g : Asg} (h : ∀ i, i < m → f [88 + i] = g [88 + i]) : rowF m f = rowF m g := by
  unfold rowF
  refine List.map_congr_left fun i hi => ?_
  rw [h i (by simpa using hi)]
theorem vals_t {m : Nat} : valsOf m f0 = List.replicate m (.str [116]) := by
  unfold valsOf f0
  rw [List.map_const']; simp [chB]
theorem LClsOk.keep {m : Nat} {σ σ' : St} {cls : List (Nat × List LPart)} (h : LClsOk m σ cls) (f : ∀ j, j < σ.length → σ'[j]? = σ[j]?) : LClsOk m σ' cls := fun e he => by
  obtain ⟨h1, h2⟩ := h e he
  exact ⟨(f _ (lt_of_get h1)).trans h1, h2⟩
section
set_option compiler.extract_closed false
variable {d : Nat} {σ : St} {KS : Fl → Loc → St → Prop}
theorem law_tail {m C D : Nat} {cls : List (Nat × List LPart)} {x0 x1 x2 x5 x6 x9 x10 : Option AV} (hm : 0 < m) (hm3 : m ≤ 3) (hC : σ[C]? = some (.list (cls.map fun e => .ref e.1))) (hcls : LClsOk m σ cls) (hz : cls.length ≤ 3)
    (hD : σ[D]? = some (.list ((dueTo m (cls.map (·.2)) (2 ^ m)).map .str))) (q : ∀ ρ σ', KS (.ret (.bool true)) ρ σ') :
    RB (d + 12) [x0, x1, x2, some (.int (m : Int)), some (.ref C), x5, x6, some (.str (tfs (m + cls.length))), some (.ref D), x9, x10, none, none, none, none] lT2 σ KS := by
  have lC := lt_of_get hC
  have lD := lt_of_get hD
  refine r_b1 (r_sa (new_host (d := d + 11) fun σ1 h v r lg fr1 gh gv gr gl rl hh hv hr hl => r_ax (r_next ?_)))
  have lh := lt_of_get hh
  have lv := lt_of_get hv
  have lr := lt_of_get hr
  have ll := lt_of_get hl
  refine r_b1 (r_sa (r_tp (r_es1 (r_c (r_es1 (r_tp (r_es1 (r_c (r_es1 (r_nw rfl (r_es1 (r_c (r_es1 (r_c (r_es1 (r_c (r_es0 ?_)))))))))))))))))
  refine c_name_init (d := d + 11) g_new fun σ2 fr2 hi2 hl2 => ⟨rfl, ?_⟩
  have hl2 : σ2.length = σ1.length + 1 := by rw [hl2]; simp
  have fr2' : ∀ j, j < σ1.length → σ2[j]? = σ1[j]? := fun j hj => by rw [fr2 j (by lia), List.getElem?_append_left hj]
  refine r_es0 (r_es1 (r_tp (r_es1 (r_c (r_es0 (r_es0 (r_ax (r_next ?_))))))))
  refine r_b1 (r_si (r_tc (r_cf (r_es1 (r_cf (r_es1 (r_x rfl (r_es1 (r_x rfl (r_es1 (r_x rfl (r_es0 ?_))))))))))))
  have L1 : σ.length ≤ σ1.length := by lia
  have frA : ∀ j, j < σ.length → σ2[j]? = σ[j]? := fun j hj => (fr2' j (by lia)).trans (fr1 j hj)
  have hcl2 := hcls.keep frA
  refine c_law_node (d := d + 10) (cls := cls) hm3 ((frA C lC).trans hC) (by lia) (fun e he => ?_) fun σ3 is fr3 hl3 hV hge => ?_
  · obtain ⟨g1, g2, g3⟩ := hcl2 e he
    exact ⟨g1, g2, fun p hp => by have := g3 p hp; lia⟩
  refine r_es1 (r_x rfl (r_es1 (r_c (r_es1 (r_x rfl (r_es0 ?_))))))
  have up : ∀ {j : Nat} {y : AO}, σ1[j]? = some y → σ3[j]? = some y := fun {j y} e => by
    have := lt_of_get e
    rw [fr3 j (by lia), fr2' j this, e]
  have F : Facts (nmS σ3) (RefS σ3 h v lg (nmS σ3)) m is cls := facts hm hm3 hV (fun i hi => by
    obtain ⟨c, hc⟩ := hV.mem i hi
    have := hge i hi
    exact ⟨by rw [nmS_eq hc]; exact hc, by lia, by lia, by lia⟩) (fun i n e => nmS_eq e) (fun e he => (hcls e he).2) hz
  have hiE : σ3[σ1.length]? = some (.flds (nameF [69])) := (fr3 _ (by lia)).trans hi2
  refine c_trial (d := d + 4) (N := m + cls.length) (l := itms is cls) (iE := σ1.length) (nm := nmS σ3) (up hh) (up hv) (up hl) (up hr) rl (by lia) F.wi ⟨by rw [nmS_eq hiE]; exact hiE, by lia, by lia, by lia⟩ (nmS_eq hiE) F.len (by have := F.cost; lia) f0 fun σ4 fr4 hl4 hh4 => ?_
  obtain ⟨k4, hh4⟩ := hh4
  refine r_c ⟨_, rfl, ?_⟩
  refine Sw.f (r_b0 (r_next ?_))
  have lD3 : D < σ3.length := by lia
  have hD4 : σ4[D]? = some (.list ((dueTo m (cls.map (·.2)) (2 ^ m)).map .str)) := by
    rw [fr4 D lD3 (by lia) (by lia) (by lia), fr3 D (by lia), frA D lD, hD]
  have lD4 := lt_of_get hD4
  have ll4 := lt_of_get hl4
  refine r_b1 (r_sw (r_tp (r_es1 (r_boL (r_ls (r_es1 (r_c (r_es0 (r_x rfl ⟨_, mulL g_new (by lia), ?_⟩)))))))))
  refine r_es1 (r_ls (r_es0 (r_es0 ⟨_, rfl, rfl, r_next ?_⟩)))
  have hh5 := g_app (l := [AO.list []]) (g_app (l := [AO.list (List.replicate m (AV.str [116]))]) (g_app (l := [AO.list [AV.str [116]]]) hh4))
  have hl5 := g_app (l := [AO.list []]) (g_app (l := [AO.list (List.replicate m (AV.str [116]))]) (g_app (l := [AO.list [AV.str [116]]]) hl4))
  have hD5 := g_app (l := [AO.list []]) (g_app (l := [AO.list (List.replicate m (AV.str [116]))]) (g_app (l := [AO.list [AV.str [116]]]) hD4))
  refine r_b1 (r_sf (r_itL (r_at (r_x rfl ⟨_, getF_i hh5 rfl, _, _, rfl, hl5, ?_⟩))))
  have hV5 := g_app (l := [AO.list []]) (g_new (σ := σ4 ++ [AO.list [AV.str [116]]]) (y := .list (List.replicate m (AV.str [116]))))
  rw [← vals_t] at hV5
  have tl := tlog_len (nm := nmS σ3) (itms is cls) f0
  have fc := F.cost
  refine replay (m := m) (len := 2 * (m + cls.length)) hm3 (tfs_len _) (by lia) (by simp) (by simp; lia) (by simp; lia) (tlog (nmS σ3) (itms is cls) f0) [] f0 [] _ x5 none hl5 ?_ g_new F.ok (by simp; lia) fun σ6 y5 y14 fr6 hW6 => ?_
  · rw [vals_t]; rw [vals_t] at hV5; exact hV5
  · have hD6 := (fr6 D (by simp; lia) (by simp; lia)).trans hD5
    obtain ⟨e1, _⟩ := rep_tlog (nm := nmS σ3) (row := rowF m) (itms is cls) [] f0 f0 F.wi (fun q0 q0 => rfl) (fun f g hfg => rowF_congr fun i hi => hfg _ (F.all i hi))
    rw [List.nil_append, e1] at hW6
    rw [← F.due] at hD6
    refine r_next (r_b1 (r_sr1 (r_cm (r_x rfl (r_x rfl ⟨_, eq_lists hW6 hD6 (okS_rows _) (okS_rows _), ?_⟩)))))
    rw [beq_self_eq_true]
    exact r_ret (q _ _)
end


section
set_option compiler.extract_closed false
variable {d : Nat} {σ : St} {KS : Fl → Loc → St → Prop}
theorem ne_found {a b : Int} {o p : Nat} (h : σ[o]? = some (.list [])) (h2 : σ[p]? = some (.list [])) (e : a = b) : cmpR σ .ne (.tup [.int 0, .int a, .ref o]) (.tup [.int 0, .int b, .ref p]) = some false := by
  subst e
  show onList σ (.ref o) (fun q0 u => on0 u (onList σ (.ref p) fun q0 w => on0 w (some ((0 : Int) != 0 || a != a)))) = _
  rw [onList_e h]
  show onList σ (.ref p) (fun q0 w => on0 w (some ((0 : Int) != 0 || a != a))) = _
  rw [onList_e h2]
  show some ((0 : Int) != 0 || a != a) = _
  simp
theorem join_row {m : Nat} {f : Asg} (hm : m ≤ 3) : ((([88, 89, 90] : List Nat).take m).map fun c => [chB (f [c])]).flatten = rowF m f := by
  rw [flat1, xyz_take hm, List.map_map]; rfl
theorem law_mid {m C : Nat} {cls : List (Nat × List LPart)} {x0 x1 x2 x5 x6 : Option AV} (hm : 0 < m) (hm3 : m ≤ 3) (hC : σ[C]? = some (.list (cls.map fun e => .ref e.1))) (hcls : LClsOk m σ cls) (hz : cls.length ≤ 3) (q : ∀ ρ σ', KS (.ret (.bool true)) ρ σ') :
    RB (d + 12) [x0, x1, x2, some (.int (m : Int)), some (.ref C), x5, x6, none, none, none, none, none, none, none, none] lT1 σ KS := by
  have lC := lt_of_get hC
  refine r_b1 (r_sa (r_bo (r_c (r_bo (r_x rfl (r_bf (r_x rfl ⟨_, lenL hC (by simp; lia), _, rfl, ?_⟩)))))))
  rw [show (m : Int) + (((cls.map fun e => AV.ref e.1).length : Nat) : Int) = ((m + cls.length : Nat) : Int) from by simp]
  refine ⟨_, mulS (by lia) (by simp), r_ax (r_next ?_)⟩
  rw [show (List.replicate (m + cls.length) [116, 102]).flatten = tfs (m + cls.length) from rfl]
  refine r_b1 (r_sa (r_cf (r_es1 (r_x rfl (r_es1 (r_x rfl (r_es0 ?_)))))))
  refine c_law_rows (d := d + 11) (cls := cls) hm3 hz hC (fun e he => ?_) fun σ1 D fr1 lD hD => r_ax (r_next ?_)
  · obtain ⟨g1, g2, g3⟩ := hcls e he
    exact ⟨g1, by lia, g3⟩
  have lD2 := lt_of_get hD
  have hC1 := (fr1 C lC).trans hC
  have hcl1 := hcls.keep fr1
  have lC1 := lt_of_get hC1
  refine r_b1 (r_sa (new_host (d := d + 11) fun σ2 h v r lg fr2 gh gv gr gl rl hh hv hr hl => r_ax (r_next ?_)))
  have lh := lt_of_get hh
  have lv := lt_of_get hv
  have lr := lt_of_get hr
  have ll := lt_of_get hl
  have hC2 := (fr2 C lC1).trans hC1
  have hcl2 := hcl1.keep fr2
  have hD2 := (fr2 D lD2).trans hD
  refine r_b1 (r_sa (r_cf (r_es1 (r_cf (r_es1 (r_x rfl (r_es1 (r_x rfl (r_es1 (r_tp (r_es1 (r_c (r_es1 (r_c (r_es0 (r_es0 ?_))))))))))))))))
  refine c_law_node (d := d + 10) (cls := cls) hm3 hC2 (by lia) (fun e he => ?_) fun σ3 is fr3 hl3 hV hge => ?_
  · obtain ⟨g1, g2, g3⟩ := hcl2 e he
    exact ⟨g1, g2, fun p hp => by have := g3 p hp; lia⟩
  refine r_es1 (r_x rfl (r_es1 (r_c (r_es1 (r_x rfl (r_es0 ?_))))))
  have F : Facts (nmS σ3) (RefS σ3 h v lg (nmS σ3)) m is cls := facts hm hm3 hV (fun i hi => by
    obtain ⟨c, hc⟩ := hV.mem i hi
    have := hge i hi
    exact ⟨by rw [nmS_eq hc]; exact hc, by lia, by lia, by lia⟩) (fun i n e => nmS_eq e) (fun e he => (hcls e he).2) hz
  have hC3 := (fr3 C (lt_of_get hC2)).trans hC2
  have hD3 := (fr3 D (lt_of_get hD2)).trans hD2
  have hcl3 := hcl2.keep fr3
  obtain ⟨x, l, e⟩ := F.ne
  have w := F.wi
  have fl := F.len
  have fc := F.cost
  have fd := F.due
  have fa := F.all
  rw [show (is.map vItm ++ cls.map fun e => cItm e.2) = x :: l from e]
  rw [e] at w fl fc fd fa
  -- what lies where, after the machine
  have keepC : ∀ σ4 : St, (∀ j, j < σ3.length → j ≠ h → j ≠ v → j ≠ lg → σ4[j]? = σ3[j]?) → σ4[C]? = some (.list (cls.map fun e => .ref e.1)) ∧ LClsOk m σ4 cls ∧ σ4[D]? = some (.list ((dueTo m (cls.map (·.2)) (2 ^ m)).map .str)) := by
    intro σ4 fr4
    refine ⟨by rw [fr4 C (by lia) (by lia) (by lia) (by lia), hC3], fun e' he' => ?_, by rw [fr4 D (by lia) (by lia) (by lia) (by lia), hD3]⟩
    have l1 := lt_of_get (hcl1 e' he').1
    obtain ⟨g1, g2⟩ := hcl3 e' he'
    exact ⟨by rw [fr4 e'.1 (by lia) (by lia) (by lia) (by lia), g1], g2⟩
  refine c_machine (d := d) (N := m + cls.length) (nm := nmS σ3) ((fr3 h lh).trans hh) ((fr3 v lv).trans hv) ((fr3 lg ll).trans hl) ((fr3 r lr).trans hr) rl (by lia) w fl (by lia) f0 ?_ ?_
  · intro σ4 o f' es' hhead hE fr4 hv4 hh4 ho4
    obtain ⟨k4, hh4⟩ := hh4
    obtain ⟨kC, kcl, kD⟩ := keepC σ4 fr4
    refine r_ax (r_next ?_)
    obtain ⟨rest, hrest⟩ : ∃ rest, leaves (nmS σ3) (x :: l) f0 = f' :: rest := by
      cases hL : leaves (nmS σ3) (x :: l) f0 with
      | nil => rw [hL] at hhead; cases hhead
      | cons a b => rw [hL] at hhead; injection hhead with hh; subst hh; exact ⟨b, rfl⟩
    have kD' : σ4[D]? = some (.list (((f' :: rest).map (rowF m)).map .str)) := by rw [kD, ← fd, hrest]
    refine r_b1 (r_si (r_tc (r_x rfl (r_ls (r_es0 ⟨_, eq_lists (b := []) (g_app kD') g_new (okS_rows _) rfl, ?_⟩)))))
    refine Sw.eqf (show (((f' :: rest).map (rowF m)) == ([] : List (List Nat))) = false from rfl) ?_
    have hh5 := g_app (l := [AO.list []]) hh4
    have hv5 := g_app (l := [AO.list []]) hv4
    have ho5 := g_app (l := [AO.list []]) ho4
    have kD5 := g_app (l := [AO.list []]) kD'
    refine r_b1 (r_si (r_to1 (r_tc (r_x rfl (r_tp (r_es1 (r_c (r_es1 (r_bf (r_x rfl ⟨_, lenS (by rw [tfs_len]; lia), ?_⟩))))))))))
    refine r_es1 (r_ls (r_es0 (r_es0 ⟨false, ne_found (g_app ho5) g_new (by rw [tfs_len]), ?_⟩)))
    refine Sw.f (r_to1 (r_tc (r_bm (r_c ⟨rfl, r_es1 (r_lc (r_itS (rs_0 (r_c (r_x rfl ⟨_, slXYZ hm3, slk_l ⟨_, rfl, ?_, ?_⟩⟩)))))⟩))))
    · intro c hc
      have : c ∈ [88, 89, 90] := List.mem_of_mem_take hc
      simp at this; lia
    · generalize hσ6 : (σ4 ++ [AO.list []]) ++ [AO.list []] = σ6
      have hh6 : σ6[h]? = some (.flds (hostF v r lg k4)) := by rw [← hσ6]; exact g_app hh5
      have hv6 : σ6[v]? = some (.dict es') := by rw [← hσ6]; exact g_app hv5
      have kD6 : σ6[D]? = some (.list (((f' :: rest).map (rowF m)).map .str)) := by rw [← hσ6]; exact g_app kD5
      have l4 : ∀ j, j < σ3.length → j ≠ h → j ≠ v → j ≠ lg → σ6[j]? = σ3[j]? := fun j hj a b c => by
        have e : σ3[j]? = some σ3[j] := List.getElem?_eq_getElem hj
        rw [← hσ6, e]
        exact g_app (g_app ((fr4 j hj a b c).trans e))
      have e2 : σ6 ++ [AO.list []] = (σ6 ++ [AO.list []]).set σ6.length (.list (([] : List Nat).map fun c => .str [chB (f' [c])])) := by simp
      rw [e2]
      have lh6 := lt_of_get hh6
      have lv6 := lt_of_get hv6
      refine lc_chs (l := ([88, 89, 90] : List Nat).take m) (g := fun c => .str [chB (f' [c])]) (ρt := [some (.inst 3 h)]) (y := .list []) (fun c hc σ' K' frx q' => ?_) (by rw [List.length_take]; lia) g_new ?_ _ [] none rfl
      · have hh7 : σ'[h]? = some (.flds (hostF v r lg k4)) := (frx h (by lia)).trans (g_app hh6)
        have hv7 : σ'[v]? = some (.dict es') := (frx v (by lia)).trans (g_app hv6)
        refine r_ix (r_at (r_x rfl ⟨_, getF_i hh7 rfl, r_x rfl ⟨_, itemD hv7 ?_, q'⟩⟩))
        rw [xyz_take hm3] at hc
        obtain ⟨i, hi, rfl⟩ := List.mem_map.mp hc
        exact hE _ (fa i (by simpa using hi))
      · have e3 : (σ6 ++ [AO.list []]).set σ6.length (.list ((([88, 89, 90] : List Nat).take m).map fun c => .str [chB (f' [c])])) = σ6 ++ [.list (((([88, 89, 90] : List Nat).take m).map fun c => [chB (f' [c])]).map .str)] := by simp
        rw [e3]
        refine r_es0 ⟨_, _, bm_join g_new (by simp; lia) (by rw [join_row hm3]; simp [rowF]; lia), ?_⟩
        rw [join_row hm3]
        refine r_ix (r_x rfl (r_c ⟨_, itemL (k := 0) (v := .str (rowF m f')) (g_app kD6) rfl (by lia), ⟨_, rfl, ?_⟩⟩))
        rw [bne_self_eq_false]
        refine Sw.f (r_to0 (Sw.f (r_b0 (r_next (r_b0 (r_next ?_))))))
        obtain ⟨k1, k2, k3⟩ := keepC (σ6 ++ [.list (((([88, 89, 90] : List Nat).take m).map fun c => [chB (f' [c])]).map .str)]) fun j hj a b c => by
          have e : σ3[j]? = some σ3[j] := List.getElem?_eq_getElem hj
          rw [e]
          exact g_app ((l4 j hj a b c).trans e)
        exact law_tail hm hm3 k1 k2 hz k3 q
  · intro σ4 hnil fr4
    obtain ⟨kC, kcl, kD⟩ := keepC σ4 fr4
    refine r_ax (r_next ?_)
    have kD' : σ4[D]? = some (.list ((([] : List Asg).map (rowF m)).map .str)) := by rw [kD, ← fd, hnil]
    refine r_b1 (r_si (r_tc (r_x rfl (r_ls (r_es0 ⟨_, eq_lists (b := []) (g_app kD') g_new (okS_rows _) rfl, ?_⟩)))))
    refine Sw.eqt (show ((([] : List Asg).map (rowF m)) == ([] : List (List Nat))) = true from rfl) ?_
    refine r_b1 (r_si (r_tc (r_x rfl (r_c ⟨_, rfl, ?_⟩))))
    refine Sw.f (r_b0 (r_next (r_b0 (r_next ?_))))
    obtain ⟨k1, k2, k3⟩ := keepC (σ4 ++ [.list []]) fun j hj a b c => by
      have e : σ3[j]? = some σ3[j] := List.getElem?_eq_getElem hj
      rw [e]
      exact g_app ((fr4 j hj a b c).trans e)
    exact law_tail hm hm3 k1 k2 hz k3 q
theorem law_ev (ns : List Int) (h : ns.length ≤ 63) : ∃ σ', VC 13 50 [.lst (ns.map .int)] [] (.bool true) σ' := by
  have H : RC 13 50 [.lst (ns.map .int)] [] fun v q0 => v = .bool true := by
    refine r_call (d := 12) rfl rfl (by decide) ?_
    exact law_head h fun σ m C cls x0 x1 x2 x5 x6 hm hm3 hC hcl hz => law_mid (d := 0) hm hm3 hC hcl hz fun q0 q0 => rfl
  obtain ⟨v, σ', e, rfl⟩ := H
  exact ⟨σ', e⟩
end
end Mine
end

section
set_option compiler.extract_closed false
open PySem PySem.W PyProof.Rows PySem.Calls
set_option Elab.async false
set_option maxRecDepth 100000
set_option tactic.hygienic false
set_option linter.all false
namespace Mine
theorem ints_are {ca : Nat → Addr} {B : Part} {loc : List Addr} : ∀ {vals : List Value} {ns : List Int}, IntsAre vals ns → IsVs ca B loc vals (ns.map .int)
  | _, _, .nil => .nil
  | _, _, .cons _ _ r => .cons .int (ints_are r)
theorem caller_ok : CallOk 13 callerA := ⟨rfl, by decide +kernel, by decide +kernel⟩
theorem join_core {p : Program} {w : World} {K : Frag} {s₁ : Shared} {mg mb : Str → Option Value} (HK : KOk K) (KX : K.In s₁.heap) (g : s₁.heap.Ns mainGlobals mg) (b : s₁.heap.Ns builtinsNs mb) (nl : s₁.heap.NoLimit) (bt : ∀ x : Str, x ≠ "__name__" → mb x = bootBuiltins x)
    (hg : s₁.gens = #[]) (two : (K.lookup 2).isSome = true) {a : Addr} {vals : List Value} {ns : List Int} {n : Nat} (W : s₁.heap.get? a = some (listOf vals.toArray n)) (hI : IntsAre vals ns)
    (law : ∃ σ', VC 13 50 [.lst (ns.map .int)] [] (.bool true) σ') {R : Result → Shared → Prop}
    (hR : ∀ s' : Shared, (∀ b o, s₁.heap.get? b = some o → s'.heap.get? b = some o) → s'.os = s₁.os → s'.gens = #[] → R (.ok (.ret (.bool true))) s') : codeAny (model p w) callerA (.call (.ref (faAt 50)) ⟨[.ref a], []⟩) R s₁ := by
  obtain ⟨σ', hev⟩ := law
  have H : CxOk (⟨p, w, K, s₁.heap, mg, mb, faAt, caAt, s₁.os⟩ : Cx) := cxOk HK rfl rfl KX g b nl bt
  obtain ⟨o2, h2⟩ := Option.isSome_iff_exists.mp two
  have I : Inv (⟨p, w, K, s₁.heap, mg, mb, faAt, caAt, s₁.os⟩ : Cx) s₁.heap.get? [] [] s₁ :=
    ⟨fun q0 q0 e => e, fun q0 q0 e => e, rfl, fun i a ao h => by simp at h, fun a h => by simp at h, by simp, hg, rfl, ⟨o2, KX _ _ h2⟩, fun a h => by simp at h⟩
  refine hev.2 _ H callerA s₁ s₁.heap.get? [] [.ref a] caller_ok I (.cons (.lst W (ints_are hI)) .nil) R fun r s' B' loc' g' I' q => ?_
  cases q
  exact hR s' (fun b o e => I'.sub b o (g'.ext b o e)) I'.os I'.gens
theorem well_list {P : Params} {h : Heap} {a : Addr} {l : List PyData} {vs : Array Value} (W : Well P h (.ref a) (ofPy (.list l))) (L : h.IsList a vs) : h.get? a = some (listOf vs 0) := by
  obtain ⟨o, ho, hc, n, hd⟩ := L
  rw [show ofPy (.list l) = .list (ofPys l) from rfl] at W
  cases W with
  | list h1 h2 =>
    rw [ho] at h1
    cases h1
    simp only [Data.seq.injEq] at hd
    rw [ho, hd.1]
end Mine
end

section
set_option compiler.extract_closed false
open PySem PySem.W PyProof.Rows PySem.Calls
set_option Elab.async true
set_option maxRecDepth 100000
set_option maxHeartbeats 8000000
set_option linter.all false
namespace Mine
theorem kOk_of {K : Frag} {h : Heap} (_ : K.In h) (glob : (List.range 28).all (ckGlob K) = true) (fn : (List.range 51).all (ckFn K) = true) (fnG : (List.range 51).all (ckFnG K) = true) (cls : initTab.all (ckCls K) = true) (fld : initTab.all (ckFld K) = true)
    (meth : methTab.all (ckMeth K) = true) (isi : [0, 1, 2, 15, 16, 17].all (ckIsi K) = true) (bf : [0, 1, 2, 9].all (ckBf K) = true) (is : ckIs K = true) : KOk K :=
  ⟨glob, fun f hf => List.all_eq_true.mp fn f (List.mem_range.mpr hf), fnG, cls, fld, meth, isi, bf, is⟩
theorem nsOf {K : Frag} {h : Heap} (_ : K.In h) (e : nsIn K mainGlobals "law" = some (some (.ref (faAt 50)))) : nsIn K mainGlobals "law" = some (some (.ref (faAt 50))) := e
theorem twoOf {K : Frag} {h : Heap} (_ : K.In h) (e : (K.lookup 2).isSome = true) : (K.lookup 2).isSome = true := e
namespace main
theorem tw5765500513520695160 : True := trivial
theorem tw7580393790811309762 : True := trivial
theorem tw711442828769404995 : True := trivial
theorem tw11003572833241299968 : True := trivial
theorem tw1054321117371714560 : True := trivial
theorem tw7237411587787531456 : True := trivial
theorem tw11774690029378154688 : True := trivial
theorem tw9557352009045844224 : True := trivial
theorem tw5240779543111244032 : True := trivial
theorem tw13157206579259725088 : True := trivial
theorem tw6981815665589151136 : True := trivial
theorem tw12463224122652932544 : True := trivial
theorem tw5084117380071580128 : True := trivial
theorem tw9976160756891316704 : True := trivial
theorem tw1677766988990989824 : True := trivial
theorem tw6541472054586571296 : True := trivial
theorem tw11501822485730972192 : True := trivial
theorem tw7439787175107056256 : True := trivial
theorem tw9808303207383738048 : True := trivial
theorem tw12483276189755474720 : True := trivial
theorem tw12747388180105724736 : True := trivial
theorem tw1027651156746619712 : True := trivial
theorem tw6557543464795787104 : True := trivial
theorem tw6449824600675878752 : True := trivial
theorem tw3796207824708393856 : True := trivial
theorem tw3627144658338631552 : True := trivial
theorem tw12670839924663504800 : True := trivial
theorem tw14064073609400967072 : True := trivial
theorem tw17292155258170135553 : True := trivial
theorem tw17402982504261768225 : True := trivial
theorem tw17715262827843222689 : True := trivial
theorem tw2110754180369666209 : True := trivial
theorem tw13676971244355772609 : True := trivial
theorem tw3370190323706015969 : True := trivial
theorem tw13110577991587790113 : True := trivial
theorem tw14216407083858561409 : True := trivial
theorem tw9376575566392132001 : True := trivial
theorem tw15768048840197415361 : True := trivial
theorem tw6907636171062424033 : True := trivial
theorem tw2538046985915079169 : True := trivial
theorem tw9406782406253462049 : True := trivial
theorem tw6635558491612396129 : True := trivial
theorem tw16193401482309157537 : True := trivial
theorem tw12077450504624328385 : True := trivial
theorem tw15365013842991253249 : True := trivial
theorem tw15608450976537380609 : True := trivial
theorem tw892681787802806017 : True := trivial
theorem tw15624239662980076321 : True := trivial
theorem tw15109750227778091905 : True := trivial
theorem tw6389877041954997217 : True := trivial
theorem tw11987853993630220354 : True := trivial
theorem tw14168887731352723522 : True := trivial
theorem tw223528310411579522 : True := trivial
theorem tw16135426469972691074 : True := trivial
theorem tw4038153913678941442 : True := trivial
theorem tw15303317825217679618 : True := trivial
theorem tw10391951854915411234 : True := trivial
theorem tw7411558596216406370 : True := trivial
theorem tw5613160597433933154 : True := trivial
theorem tw12139096438432415106 : True := trivial
theorem tw9302470337196694018 : True := trivial
theorem tw7298748307773712898 : True := trivial
theorem tw14907226015203709474 : True := trivial
theorem tw1306636233014830658 : True := trivial
theorem tw4297412468100583042 : True := trivial
theorem tw16950194794029067938 : True := trivial
theorem tw6075091234017535682 : True := trivial
theorem tw11092141859048813250 : True := trivial
theorem tw11785714552879321826 : True := trivial
theorem tw6385024630547198690 : True := trivial
theorem tw6697339332421208802 : True := trivial
theorem tw10669944970481658594 : True := trivial
theorem tw961187720498965250 : True := trivial
theorem tw6508729118710982530 : True := trivial
theorem tw13224007501803129859 : True := trivial
theorem tw18284262389922463811 : True := trivial
theorem tw15467891735981029475 : True := trivial
theorem tw11409991511011244131 : True := trivial
theorem tw4817600198373253283 : True := trivial
theorem tw3626430660855392483 : True := trivial
theorem tw2007339730380871907 : True := trivial
theorem tw4900431672193113347 : True := trivial
theorem tw9957550378297406723 : True := trivial
theorem tw10609540516017602915 : True := trivial
theorem tw13406003279186336099 : True := trivial
theorem tw14771111431291430275 : True := trivial
theorem tw15558288988949320067 : True := trivial
theorem tw4475767826048309731 : True := trivial
theorem tw2647654807098235363 : True := trivial
theorem tw12702744160499308131 : True := trivial
theorem tw8466321980469482115 : True := trivial
theorem tw17403364634526059139 : True := trivial
theorem tw387501639795913443 : True := trivial
theorem tw17146568849442343683 : True := trivial
theorem tw11101190512080308003 : True := trivial
theorem tw11857135199678951331 : True := trivial
theorem tw7214478077546791972 : True := trivial
theorem tw8905464785575363620 : True := trivial
theorem tw962032349192862916 : True := trivial
theorem tw13313126695403321540 : True := trivial
theorem tw11374851513655246148 : True := trivial
theorem tw2729793432009153956 : True := trivial
theorem tw7113585516715319716 : True := trivial
theorem tw17068529054762260900 : True := trivial
theorem tw2225956059507018244 : True := trivial
theorem tw5160751907100791332 : True := trivial
theorem tw10663580350406149668 : True := trivial
theorem tw1587290215689348708 : True := trivial
theorem tw12222963475772708484 : True := trivial
theorem tw9840939614602229412 : True := trivial
theorem tw14539993770535171780 : True := trivial
theorem tw9756827057097773860 : True := trivial
theorem tw834873547066669988 : True := trivial
theorem tw12252054271945606052 : True := trivial
theorem tw11410963132546700228 : True := trivial
theorem tw9417822746687237092 : True := trivial
theorem tw1390771862084280389 : True := trivial
theorem tw8260724100714396741 : True := trivial
theorem tw5234446048077146213 : True := trivial
theorem tw15955573374722617477 : True := trivial
theorem tw6910295442248876197 : True := trivial
theorem tw14364048958407549093 : True := trivial
theorem tw11001617756164336837 : True := trivial
theorem tw15277975159832343749 : True := trivial
theorem tw8211959896082780389 : True := trivial
theorem tw12623159325031504133 : True := trivial
theorem tw9190990891756207365 : True := trivial
theorem tw6909042917933305093 : True := trivial
theorem tw14662554035588321541 : True := trivial
theorem tw917386388269078853 : True := trivial
theorem tw10953687544409504101 : True := trivial
theorem tw10149618387772673413 : True := trivial
theorem tw16451033083921036709 : True := trivial
theorem tw8467378866343419333 : True := trivial
theorem tw7083192437325867461 : True := trivial
theorem tw9268297945177815525 : True := trivial
theorem tw3298483428156984901 : True := trivial
theorem tw14759895335926876869 : True := trivial
theorem tw1714950047550659301 : True := trivial
theorem tw5665406974723832613 : True := trivial
theorem tw1469836325065767749 : True := trivial
theorem tw16806246253224384389 : True := trivial
theorem tw13402765919934010277 : True := trivial
theorem tw14646587721710459877 : True := trivial
theorem tw2456247091588846565 : True := trivial
theorem tw365850788961202214 : True := trivial
theorem tw9903775340124721222 : True := trivial
theorem tw8228058824784995430 : True := trivial
theorem tw15350898050860989542 : True := trivial
theorem tw16411370214107742406 : True := trivial
theorem tw11554813239044494598 : True := trivial
theorem tw10750994468655217958 : True := trivial
theorem tw12298629886278197574 : True := trivial
theorem tw6511744376749373798 : True := trivial
theorem tw4458048076830672230 : True := trivial
theorem tw10707853282979444102 : True := trivial
theorem tw16952715711813285254 : True := trivial
theorem tw4044139247061151142 : True := trivial
theorem tw7273056430967151046 : True := trivial
theorem tw17297283025540448806 : True := trivial
theorem tw471287901995484742 : True := trivial
theorem tw2852251193174398662 : True := trivial
theorem tw12909650291622432550 : True := trivial
theorem tw17272174723667511238 : True := trivial
theorem tw15514936471743626214 : True := trivial
theorem tw8046773169563483271 : True := trivial
theorem tw11476092923266045095 : True := trivial
theorem tw11716418206903941319 : True := trivial
theorem tw12518504611687188807 : True := trivial
theorem tw12653679108036650311 : True := trivial
theorem tw13465503431842376007 : True := trivial
theorem tw17737603089517620647 : True := trivial
theorem tw5061512775090418087 : True := trivial
theorem tw13350764725976880583 : True := trivial
theorem tw8475525182357872103 : True := trivial
theorem tw16965079339398995527 : True := trivial
theorem tw11135027115929721415 : True := trivial
theorem tw65644731488775911 : True := trivial
theorem tw16519101796099990279 : True := trivial
theorem tw18178676814319149831 : True := trivial
theorem tw17644181745481072423 : True := trivial
theorem tw1519927702969063271 : True := trivial
theorem tw11261727412033496967 : True := trivial
theorem tw10463206416058312583 : True := trivial
theorem tw16049902774474827687 : True := trivial
theorem tw4324958949535026087 : True := trivial
theorem tw5781596087445459943 : True := trivial
theorem tw4039676971129161736 : True := trivial
theorem tw13132915859168520264 : True := trivial
theorem tw16153842264607907944 : True := trivial
theorem tw14562738103837258888 : True := trivial
theorem tw15079240505294077160 : True := trivial
theorem tw52199770228462824 : True := trivial
theorem tw6788695710022549768 : True := trivial
theorem tw12675357926760492328 : True := trivial
theorem tw11403851563620829512 : True := trivial
theorem tw6161133996638707016 : True := trivial
theorem tw1615956725737779560 : True := trivial
theorem tw12455012482086183272 : True := trivial
theorem tw17201416709059790184 : True := trivial
theorem tw18238007617527299592 : True := trivial
theorem tw12057704586751987240 : True := trivial
theorem tw4452170602077327944 : True := trivial
theorem tw14161005256144132680 : True := trivial
theorem tw16320215318167395912 : True := trivial
theorem tw4139100593308808776 : True := trivial
theorem tw7308723440029596264 : True := trivial
theorem tw14864641218109852296 : True := trivial
theorem tw7751025194823839400 : True := trivial
theorem tw14097447854668400296 : True := trivial
theorem tw7742616358663508648 : True := trivial
theorem tw15734660467963936456 : True := trivial
theorem tw17477492558424962760 : True := trivial
theorem tw17985968254628205384 : True := trivial
theorem tw3706830351922483016 : True := trivial
theorem tw10140136200207757160 : True := trivial
theorem tw1270039299266317192 : True := trivial
theorem tw1980160206288974728 : True := trivial
theorem tw3372685494851243017 : True := trivial
theorem tw17052023290607921161 : True := trivial
theorem tw1453356044741674121 : True := trivial
theorem tw10450603732522932521 : True := trivial
theorem tw17268439761433841065 : True := trivial
theorem tw4261964983698606537 : True := trivial
theorem tw15589955886551607785 : True := trivial
theorem tw13693970394777133609 : True := trivial
theorem tw17699438841360665129 : True := trivial
theorem tw12431731261707249289 : True := trivial
theorem tw15737690656516749961 : True := trivial
theorem tw12992176717851604617 : True := trivial
theorem tw2402762420636078793 : True := trivial
theorem tw12872379398031375081 : True := trivial
theorem tw5677329702179833609 : True := trivial
theorem tw6702130215012162313 : True := trivial
theorem tw1454224541498743561 : True := trivial
theorem tw6164561884633627433 : True := trivial
theorem tw11020365191643786025 : True := trivial
theorem tw3557749057250611081 : True := trivial
theorem tw4990475226369331113 : True := trivial
theorem tw11595355409239048105 : True := trivial
theorem tw2900998541784483753 : True := trivial
theorem tw4156125974679941130 : True := trivial
theorem tw10092017014551392330 : True := trivial
theorem tw5240536507193477226 : True := trivial
theorem tw2566753976717531306 : True := trivial
theorem tw14218914174604095658 : True := trivial
theorem tw6855474311058116810 : True := trivial
theorem tw18431692314602308842 : True := trivial
theorem tw6237627108579964202 : True := trivial
theorem tw6602769958212442538 : True := trivial
theorem tw7698036289167662538 : True := trivial
theorem tw1504049600530537962 : True := trivial
theorem tw31828345220925962 : True := trivial
theorem tw1628013610222277130 : True := trivial
theorem tw13113777628852026922 : True := trivial
theorem tw13777938177461255882 : True := trivial
theorem tw10924716458440934090 : True := trivial
theorem tw16356685582667847594 : True := trivial
theorem tw104360540948158410 : True := trivial
theorem tw10334261112615635914 : True := trivial
theorem tw14496318526114002922 : True := trivial
theorem tw11710404883906591787 : True := trivial
theorem tw10123989817122485451 : True := trivial
theorem tw5842977544298395883 : True := trivial
theorem tw10169072693733980587 : True := trivial
theorem tw2496676261509829067 : True := trivial
theorem tw750237026923860459 : True := trivial
theorem tw2279707942289718827 : True := trivial
theorem tw832900586485598795 : True := trivial
theorem tw6788530277367551627 : True := trivial
theorem tw18403998269306519403 : True := trivial
theorem tw3905226178654972811 : True := trivial
theorem tw5790326737455844299 : True := trivial
theorem tw7846812961960373227 : True := trivial
theorem tw17708487481403421675 : True := trivial
theorem tw16689149305811164139 : True := trivial
theorem tw11646826074482590764 : True := trivial
theorem tw16721930046160240684 : True := trivial
theorem tw9144235867128078380 : True := trivial
theorem tw10075741158759491788 : True := trivial
theorem tw8663697691656813868 : True := trivial
theorem tw6801380410627298636 : True := trivial
theorem tw8930851030842425676 : True := trivial
theorem tw12941917028564957548 : True := trivial
theorem tw15131278010643852716 : True := trivial
theorem tw13591255225166038476 : True := trivial
theorem tw18315214858253571532 : True := trivial
theorem tw18302796317244248524 : True := trivial
theorem tw9512817274939609580 : True := trivial
theorem tw1130211791997205004 : True := trivial
theorem tw17438294365789470252 : True := trivial
theorem tw14639212616227390028 : True := trivial
theorem tw9274054859765456524 : True := trivial
theorem tw4637267157515435788 : True := trivial
theorem tw9670510015898674028 : True := trivial
theorem tw5436791530062809996 : True := trivial
theorem tw6690441779611380620 : True := trivial
theorem tw9730157408454304684 : True := trivial
theorem tw3234112476842188716 : True := trivial
theorem tw15595112118272840620 : True := trivial
theorem tw12093647306153771053 : True := trivial
theorem tw18134284020713443437 : True := trivial
theorem tw7699798408344515789 : True := trivial
theorem tw7221758910455160077 : True := trivial
theorem tw3466206800631347469 : True := trivial
theorem tw5181119749688162637 : True := trivial
theorem tw7875838824674609581 : True := trivial
theorem tw11239335112260394413 : True := trivial
theorem tw4585930131862741453 : True := trivial
theorem tw15490453718614586829 : True := trivial
theorem tw10982014176374687213 : True := trivial
theorem tw1178595665728414349 : True := trivial
theorem tw8484041278411425421 : True := trivial
theorem tw1632041292262086317 : True := trivial
theorem tw10047389527955405517 : True := trivial
theorem tw1886080085820668685 : True := trivial
theorem tw545269030811804461 : True := trivial
theorem tw13962693860625380366 : True := trivial
theorem tw14247123612743402574 : True := trivial
theorem tw6053611964639427726 : True := trivial
theorem tw6657087868060814 : True := trivial
theorem tw16959884160788844718 : True := trivial
theorem tw15643365686152983790 : True := trivial
theorem tw3562595001068472590 : True := trivial
theorem tw2287757881348798766 : True := trivial
theorem tw979501456738626862 : True := trivial
theorem tw3994622017586750766 : True := trivial
theorem tw451873465583785326 : True := trivial
theorem tw6912675738884088206 : True := trivial
theorem tw1826329307503635854 : True := trivial
theorem tw13974046611088194958 : True := trivial
theorem tw7332552209862256014 : True := trivial
theorem tw2019394398466159022 : True := trivial
theorem tw16026485685270457870 : True := trivial
theorem tw5127751686995613262 : True := trivial
theorem tw13972245371655741198 : True := trivial
theorem tw5532463470591059822 : True := trivial
theorem tw3779293765908593550 : True := trivial
theorem tw8748973510418095054 : True := trivial
theorem tw1678875084529416142 : True := trivial
theorem tw9368617206455126095 : True := trivial
theorem tw18120430973489738927 : True := trivial
theorem tw8478376212529829071 : True := trivial
theorem tw10171042928508624079 : True := trivial
theorem tw15136431859952498927 : True := trivial
theorem tw73751810991705359 : True := trivial
theorem tw18421580907717582127 : True := trivial
theorem tw4500915450034043215 : True := trivial
theorem tw15387884906608193903 : True := trivial
theorem tw7268301785047649679 : True := trivial
theorem tw10094358506670053839 : True := trivial
theorem tw17510229520200029679 : True := trivial
theorem tw17871620999419790863 : True := trivial
theorem tw10234815189450012239 : True := trivial
theorem tw9272984997812220495 : True := trivial
theorem tw13876859957761632879 : True := trivial
theorem tw4946776927847147119 : True := trivial
theorem tw3829396358689915599 : True := trivial
theorem tw6696893160125735727 : True := trivial
theorem tw1372806426800153423 : True := trivial
theorem tw13180746182150919023 : True := trivial
theorem tw15577286369154851727 : True := trivial
theorem tw17725498274588495791 : True := trivial
theorem tw7514964652732493775 : True := trivial
theorem tw5400957986263281647 : True := trivial
theorem tw14798791472264738832 : True := trivial
theorem tw5418533224930618480 : True := trivial
theorem tw6877560268529008848 : True := trivial
theorem tw15734200111481486640 : True := trivial
theorem tw13260870731297125680 : True := trivial
theorem tw12885673836220544336 : True := trivial
theorem tw18190005008629794160 : True := trivial
theorem tw8729708805864041840 : True := trivial
theorem tw4681395471914393968 : True := trivial
theorem tw14708136634888185200 : True := trivial
theorem tw11218778669853930896 : True := trivial
theorem tw2702614204127132176 : True := trivial
theorem tw17974016328880235120 : True := trivial
theorem tw12748397558918655664 : True := trivial
theorem tw17118054049896295152 : True := trivial
theorem tw5871769198996169552 : True := trivial
theorem tw6542085627976250192 : True := trivial
theorem tw12564604832814323664 : True := trivial
theorem tw16008252555379753968 : True := trivial
theorem tw12343854547171428336 : True := trivial
theorem tw13667920496262714385 : True := trivial
theorem tw16572128252103988241 : True := trivial
theorem tw452746233719593009 : True := trivial
theorem tw15616401959046598769 : True := trivial
theorem tw2544328076492683441 : True := trivial
theorem tw4108550071563198673 : True := trivial
theorem tw5921134243170700561 : True := trivial
theorem tw9986019674649008433 : True := trivial
theorem tw358491910552652209 : True := trivial
theorem tw16251939892948500945 : True := trivial
theorem tw12839114828313443825 : True := trivial
theorem tw4072190877284726289 : True := trivial
theorem tw9897820754763898449 : True := trivial
theorem tw13980345723018547825 : True := trivial
theorem tw18392154025008590481 : True := trivial
theorem tw3960113756560652017 : True := trivial
theorem tw13503263706703578961 : True := trivial
theorem tw9682133043923132273 : True := trivial
theorem tw12885385263037960081 : True := trivial
theorem tw11120327062377616369 : True := trivial
theorem tw7093617532817203218 : True := trivial
theorem tw18031918436515192882 : True := trivial
theorem tw14060465935940456498 : True := trivial
theorem tw4812270449578504274 : True := trivial
theorem tw17767330081159143506 : True := trivial
theorem tw5518243967957118194 : True := trivial
theorem tw13995172100960836882 : True := trivial
theorem tw12608185968620612914 : True := trivial
theorem tw341453280667917650 : True := trivial
theorem tw14909365282108701170 : True := trivial
theorem tw9508770018378322450 : True := trivial
theorem tw4189750870438640210 : True := trivial
theorem tw5797031442667253490 : True := trivial
theorem tw6880717277089553138 : True := trivial
theorem tw1439166485080882 : True := trivial
theorem tw9470667924834194258 : True := trivial
theorem tw4573282807186111410 : True := trivial
theorem tw10652611922669240339 : True := trivial
theorem tw13227692790652741651 : True := trivial
theorem tw17679725944135375923 : True := trivial
theorem tw16136984950599521427 : True := trivial
theorem tw12590340796369385619 : True := trivial
theorem tw14635473669698735251 : True := trivial
theorem tw2427681307422652563 : True := trivial
theorem tw4651154628705390771 : True := trivial
theorem tw2714283472998740243 : True := trivial
theorem tw8127475511531132179 : True := trivial
theorem tw16102231251864390963 : True := trivial
theorem tw5450094653865882931 : True := trivial
theorem tw10114013102757674387 : True := trivial
theorem tw4365514962571936147 : True := trivial
theorem tw6785657489111691699 : True := trivial
theorem tw1289389943133740499 : True := trivial
theorem tw8207831470162742035 : True := trivial
theorem tw1261021989165538067 : True := trivial
theorem tw10665089971535097683 : True := trivial
theorem tw5585478044538960755 : True := trivial
theorem tw2524017781993486291 : True := trivial
theorem tw3532412968194664532 : True := trivial
theorem tw6674386428176565332 : True := trivial
theorem tw8627561154394265716 : True := trivial
theorem tw15270170921892066516 : True := trivial
theorem tw11086099901593105684 : True := trivial
theorem tw5378808338967829844 : True := trivial
theorem tw3160845607165458772 : True := trivial
theorem tw16826212616301561204 : True := trivial
theorem tw17561526911342447988 : True := trivial
theorem tw3045742163950154196 : True := trivial
theorem tw9483120023164983764 : True := trivial
theorem tw11156056980113079860 : True := trivial
theorem tw1496695287857109588 : True := trivial
theorem tw2629084897520917108 : True := trivial
theorem tw2821470743931037460 : True := trivial
theorem tw1615045767204293396 : True := trivial
theorem tw11461230924637031220 : True := trivial
theorem tw17958375852430007124 : True := trivial
theorem tw10864377008497418100 : True := trivial
theorem tw5638201095994319732 : True := trivial
theorem tw16218864148678617972 : True := trivial
theorem tw2195194259037543316 : True := trivial
theorem tw10896356407431480244 : True := trivial
theorem tw9189880136782149556 : True := trivial
theorem tw6584820252761975732 : True := trivial
theorem tw16529937436981754836 : True := trivial
theorem tw8844999433837080629 : True := trivial
theorem tw2341703837736514645 : True := trivial
theorem tw15928290008803537013 : True := trivial
theorem tw14722489848711283861 : True := trivial
theorem tw18442785490491869365 : True := trivial
theorem tw2921958311620399285 : True := trivial
theorem tw3394367416137920725 : True := trivial
theorem tw8436210846270712021 : True := trivial
theorem tw3027586509356016917 : True := trivial
theorem tw453184122279072053 : True := trivial
theorem tw4544244032028310869 : True := trivial
theorem tw13724616953566380437 : True := trivial
theorem tw5363903885879670357 : True := trivial
theorem tw3454311308915712629 : True := trivial
theorem tw13293747886898857621 : True := trivial
theorem tw10363585996791799541 : True := trivial
theorem tw3137596982192898869 : True := trivial
theorem tw10159738436595150677 : True := trivial
theorem tw2583023086579268501 : True := trivial
theorem tw12205347405646519318 : True := trivial
theorem tw17744803880545564790 : True := trivial
theorem tw15554039934745177238 : True := trivial
theorem tw8557395850702784662 : True := trivial
theorem tw17298425922696826006 : True := trivial
theorem tw14492832472218066102 : True := trivial
theorem tw14061640607465278742 : True := trivial
theorem tw9561784451562097942 : True := trivial
theorem tw9392487213469676918 : True := trivial
theorem tw3848698983108048278 : True := trivial
theorem tw13590572293223372214 : True := trivial
theorem tw4423423576564373014 : True := trivial
theorem tw17864028415675338326 : True := trivial
theorem tw4749052000479324790 : True := trivial
theorem tw7884331609784382070 : True := trivial
theorem tw9069182735580402390 : True := trivial
theorem tw1850612553970854742 : True := trivial
theorem tw16320729459185622934 : True := trivial
theorem tw4026956272090484662 : True := trivial
theorem tw11388154006635350966 : True := trivial
theorem tw10665469846841522134 : True := trivial
theorem tw2190695567426971638 : True := trivial
theorem tw16832360635688203351 : True := trivial
theorem tw15510692781650021527 : True := trivial
theorem tw1277820614484962519 : True := trivial
theorem tw6663778134991626487 : True := trivial
theorem tw10821422270917381399 : True := trivial
theorem tw2238316416991798583 : True := trivial
theorem tw7074144079889050967 : True := trivial
theorem tw17453503289922162039 : True := trivial
theorem tw1150287232629052791 : True := trivial
theorem tw7380652910202371479 : True := trivial
theorem tw8652556701797213591 : True := trivial
theorem tw1630245386807275959 : True := trivial
theorem tw6596593509180878263 : True := trivial
theorem tw14106445559736802775 : True := trivial
theorem tw7974275031393228247 : True := trivial
theorem tw8834365191522931223 : True := trivial
theorem tw1645717771770832407 : True := trivial
theorem tw5401703158475992631 : True := trivial
theorem tw18218335207050127959 : True := trivial
theorem tw18063282731904131703 : True := trivial
theorem tw18325589031809861271 : True := trivial
theorem tw5517759331935216279 : True := trivial
theorem tw2895952525429962455 : True := trivial
theorem tw2921621734765799159 : True := trivial
theorem tw5396361742852586263 : True := trivial
theorem tw9994787619460420439 : True := trivial
theorem tw7691172733374981047 : True := trivial
theorem tw6862492499505807319 : True := trivial
theorem tw10877679251791092727 : True := trivial
theorem tw9925469786538053656 : True := trivial
theorem tw15580989882048331800 : True := trivial
theorem tw16641786646906312760 : True := trivial
theorem tw2433702464844828792 : True := trivial
theorem tw10825838108423173272 : True := trivial
theorem tw5102693214775723256 : True := trivial
theorem tw1157997071576566072 : True := trivial
theorem tw8809968196449919288 : True := trivial
theorem tw799486724532869496 : True := trivial
theorem tw645136716886899192 : True := trivial
theorem tw7235775444256392728 : True := trivial
theorem tw12027323910402764344 : True := trivial
theorem tw1409966394225722968 : True := trivial
theorem tw1156462466702112376 : True := trivial
theorem tw17236958762192778904 : True := trivial
theorem tw13626721169425172152 : True := trivial
theorem tw15632155201295862456 : True := trivial
theorem tw9848185148710128376 : True := trivial
theorem tw2744014450722944760 : True := trivial
theorem tw587027183488705336 : True := trivial
theorem tw15225127925928830808 : True := trivial
theorem tw11692516046256081784 : True := trivial
theorem tw15683502518078909336 : True := trivial
theorem tw16922381011570985944 : True := trivial
theorem tw11815829001073249272 : True := trivial
theorem tw33456957511925785 : True := trivial
theorem tw9369988214560726041 : True := trivial
theorem tw8440099810896429113 : True := trivial
theorem tw15984706205718930553 : True := trivial
theorem tw10876229203375891673 : True := trivial
theorem tw15410482203810522393 : True := trivial
theorem tw10455743928339290457 : True := trivial
theorem tw5203219222101121401 : True := trivial
theorem tw9361300454564663673 : True := trivial
theorem tw962193829226610041 : True := trivial
theorem tw14793117695081215449 : True := trivial
theorem tw16046730324260685337 : True := trivial
theorem tw16798622893749714585 : True := trivial
theorem tw11487549891475536569 : True := trivial
theorem tw16452447596832230105 : True := trivial
theorem tw6334894449686545209 : True := trivial
theorem tw10298723112805639129 : True := trivial
theorem tw2724176850512262202 : True := trivial
theorem tw7173623326730630234 : True := trivial
theorem tw8952462522180670554 : True := trivial
theorem tw16187894506366716058 : True := trivial
theorem tw8118072479153026202 : True := trivial
theorem tw7647378279178456250 : True := trivial
theorem tw1545906260438175962 : True := trivial
theorem tw765107192605250810 : True := trivial
theorem tw10642606787283503386 : True := trivial
theorem tw12450111651097656602 : True := trivial
theorem tw5665735395497279834 : True := trivial
theorem tw7165207203227711834 : True := trivial
theorem tw656089360051881306 : True := trivial
theorem tw7590696779544312186 : True := trivial
theorem tw9498315638749924794 : True := trivial
theorem tw5995161000843957690 : True := trivial
theorem tw13219505800766818778 : True := trivial
theorem tw6655696309031964122 : True := trivial
theorem tw12646911602827044314 : True := trivial
theorem tw6886502059237256666 : True := trivial
theorem tw3934531018447913466 : True := trivial
theorem tw4839478117068044826 : True := trivial
theorem tw716429049611869786 : True := trivial
theorem tw66260789543402106 : True := trivial
theorem tw1118068078248606362 : True := trivial
theorem tw48596604365144762 : True := trivial
theorem tw6519269512792494810 : True := trivial
theorem tw14457758005677747962 : True := trivial
theorem tw9515011664573035354 : True := trivial
theorem tw13803360072150633466 : True := trivial
theorem tw13547569757486424058 : True := trivial
theorem tw15803610866087392283 : True := trivial
theorem tw16008457594558532635 : True := trivial
theorem tw12922898485456448571 : True := trivial
theorem tw12431561837914552411 : True := trivial
theorem tw16923884221124529275 : True := trivial
theorem tw6222487380544312443 : True := trivial
theorem tw5473700226181020891 : True := trivial
theorem tw17353955331779342651 : True := trivial
theorem tw3583811862363856187 : True := trivial
theorem tw9121559901702372667 : True := trivial
theorem tw6741292078354696603 : True := trivial
theorem tw16035907590883218939 : True := trivial
theorem tw3491332818749588091 : True := trivial
theorem tw7153082081811710619 : True := trivial
theorem tw10453263994017694363 : True := trivial
theorem tw11962923498438245051 : True := trivial
theorem tw17695171507069755227 : True := trivial
theorem tw17223442867436993403 : True := trivial
theorem tw10204856939554784155 : True := trivial
theorem tw10067785196966451131 : True := trivial
theorem tw1098248734344127483 : True := trivial
theorem tw9942282790977331292 : True := trivial
theorem tw12900284412222446716 : True := trivial
theorem tw16778611742570070204 : True := trivial
theorem tw3613476055612923068 : True := trivial
theorem tw16305672181175384284 : True := trivial
theorem tw5243159528196176124 : True := trivial
theorem tw13154001654789283132 : True := trivial
theorem tw6183352029847204284 : True := trivial
theorem tw1253437644075932092 : True := trivial
theorem tw2406621943657119228 : True := trivial
theorem tw5571399437266216444 : True := trivial
theorem tw11251407683458634364 : True := trivial
theorem tw302440914744352476 : True := trivial
theorem tw14080665800827857628 : True := trivial
theorem tw9155575984036265788 : True := trivial
theorem tw11349898740250378076 : True := trivial
theorem tw11273777480241942364 : True := trivial
theorem tw5649967823195072380 : True := trivial
theorem tw14439473939278146460 : True := trivial
theorem tw14027531716089632829 : True := trivial
theorem tw5309058905264134205 : True := trivial
theorem tw6112859857366181021 : True := trivial
theorem tw4766233809647381661 : True := trivial
theorem tw3958507339218470045 : True := trivial
theorem tw13116522157475607773 : True := trivial
theorem tw11181722664286889309 : True := trivial
theorem tw9381277316556691805 : True := trivial
theorem tw8593545808235389341 : True := trivial
theorem tw15356762974548107741 : True := trivial
theorem tw16480584520131690045 : True := trivial
theorem tw3864431920445960829 : True := trivial
theorem tw16676564476587882173 : True := trivial
theorem tw12927740378394474205 : True := trivial
theorem tw16819838333489098493 : True := trivial
theorem tw6044114016751833949 : True := trivial
theorem tw12915833801598196605 : True := trivial
theorem tw7761410557224570781 : True := trivial
theorem tw15485851114877660061 : True := trivial
theorem tw3343439749351644125 : True := trivial
theorem tw6660377722381337597 : True := trivial
theorem tw14788915703135433725 : True := trivial
theorem tw1777545030009416734 : True := trivial
theorem tw17128291446047057950 : True := trivial
theorem tw17450470499104002142 : True := trivial
theorem tw7623511443260959870 : True := trivial
theorem tw4333880214566435006 : True := trivial
theorem tw6418098437765475518 : True := trivial
theorem tw15060185592220127646 : True := trivial
theorem tw18418235949754561950 : True := trivial
theorem tw11399646045708457374 : True := trivial
theorem tw12751799325998411230 : True := trivial
theorem tw17336282652733537790 : True := trivial
theorem tw13270728482189477470 : True := trivial
theorem tw2759098988195820126 : True := trivial
theorem tw10876375607700338302 : True := trivial
theorem tw12361340156312767134 : True := trivial
theorem tw4775608329324902142 : True := trivial
theorem tw12543713266681445118 : True := trivial
theorem tw5623159541915647742 : True := trivial
theorem tw1236483940969888574 : True := trivial
theorem tw11221353774195762014 : True := trivial
theorem tw6361450105264607166 : True := trivial
theorem tw8079908401900000222 : True := trivial
theorem tw3299218664060906527 : True := trivial
theorem tw15806524323241146399 : True := trivial
theorem tw11544348965984651327 : True := trivial
theorem tw16656740534632174751 : True := trivial
theorem tw7332330508316399935 : True := trivial
theorem tw7293298908176781663 : True := trivial
theorem tw18234761425742761375 : True := trivial
theorem tw5287059835090251167 : True := trivial
theorem tw4948327476702027199 : True := trivial
theorem tw221909299271738847 : True := trivial
theorem tw17091655785135471103 : True := trivial
theorem tw9265829497004654079 : True := trivial
theorem tw18332899500509843999 : True := trivial
theorem tw12273490649430754879 : True := trivial
theorem tw3314904115985164895 : True := trivial
theorem tw4126091431370883743 : True := trivial
theorem tw11712081513822626495 : True := trivial
theorem tw18287795668848337631 : True := trivial
theorem tw17057053908230417247 : True := trivial
theorem tw10231336680788121439 : True := trivial
theorem tw15491723280356408159 : True := trivial
theorem tw9360745474812902239 : True := trivial
theorem tw6162249291895867263 : True := trivial
theorem tw13355152605343272895 : True := trivial
theorem tw14672674291997333471 : True := trivial
theorem tw4386525302292870143 : True := trivial
end main
theorem main : PySem.Challenge.rw_xm0942_01.Holds := by
  w_on
  o_law
  k_head
  (case hw => w_witness2)
  k_fill
  intro w s₀ s₁ mg mb G Y fa o pm cd doc dV kV ho hd hcd hD hmg hg args vals as hpre hlay hrd hwl hlo
  have KX := kIn_of Y
  have HK := kOk_of KX (by kernel_rfl) (by kernel_rfl) (by kernel_rfl) (by kernel_rfl) (by kernel_rfl) (by kernel_rfl) (by kernel_rfl) (by kernel_rfl) (by kernel_rfl)
  have e1 := nsOf KX (by kernel_rfl)
  have e2 := twoOf KX (by kernel_rfl)
  refine Ground.open G ?_
  intro T B D TE TW
  have hfa : mg "law" = some (.ref (faAt 50)) := mg_of KX T.g e1
  have hfa2 : (some (.ref fa) : Option Value) = some (.ref (faAt 50)) := Eq.trans (Eq.symm hmg) hfa
  clear hd hcd hD hmg
  have hfa3 : fa = faAt 50 := by injection hfa2 with q; injection q
  subst hfa3
  wrow_args hpre hlay hrd hwl hlo
  refine enter_call ?_
  rename_i l1 a1 a2 a3 a4 a5 a6 a7 a8 vs1 a9 hL a10 hW a11 hI a12 hlen a13
  have hW2 := well_list hW hL
  refine codeAny_mono ?_ (fun _ _ g => GoodW.toG g)
  refine join_core HK KX T.g T.b T.nolimit T.builtins hg e2 hW2 hI (law_ev _ (by lia)) fun s' hk ho hgs => ?_
  have hpost : PySem.Challenge.rw_xm0942_01.row.claim.post [ofPy (PyData.list (List.map PyData.int l1))] (.bool true) [ofPy (PyData.list (List.map PyData.int l1))] = true := by
    first
    | kernel_rfl
    | (with_unfolding_all rfl)
  exact ⟨.inl ⟨_, _, [], rfl, fun _ => rfl, .bool true, hpost, fun _ => ⟨.nil, fun a h => by cases h⟩⟩, hk, ho, hgs⟩
end Mine
end

theorem PySem.Challenge.cw_xm0942_01_holds : PySem.Challenge.rw_xm0942_01.Holds := by
  exact Mine.main
