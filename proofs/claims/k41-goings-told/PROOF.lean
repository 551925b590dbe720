import PyProof.Rows.All
import Wide.All
import OpenK.AllK
import Wide.FinOn
import HandS.ForMost
import HandS.EndTab
import HandS.Walk
import HandS.Wide
import HandS.WideBits
import HandS.TupAny
import HandS.Style
import HandS.Conv
import HandS.SortInts
import HandS.Deep
import HandS.Zip
import HandS.SetFor
import HandS.ExcIs
import KE.SortKeyHeap
import HandS.IsInst
import HandS.WordsExc
import HandS.ForExc
import HandS.Nested
import KE.SortData
import KE.KSortKey
import PySem.Challenge.RW_pourwright_k41_goings_told
set_option Elab.async false
set_option linter.all false
set_option maxRecDepth 100000
set_option maxHeartbeats 4000000
/-! Dl: readings over plain data: what a piece of Python does to an environment of data, no heap in sight. -/
namespace Dl
open PySem
/-- what a name holds: shared data, or a thing of its own that may be changed in place -/
inductive Sl where
  | val (d : PyData)
  | lst (xs : List Sl)
  | tup (xs : List Sl)
  | dct (kvs : List (PyData × Sl))
  | obj (C : Addr) (fs : List (Str × Sl))
abbrev Env := List (Option Sl)
/-- a result: data, or the thing that the i-th name holds -/
inductive R where
  | d (d : PyData)
  | b (i : Nat)
/-- what a def hands back: data, or a new thing -/
inductive Ret where
  | d (d : PyData)
  | new (s : Sl)
/-- an exception: its class by name, its fields -/
structure XV where
  cls : String
  fs : List (Str × PyData) := []
abbrev KX := XV → Env → Prop
abbrev TED := Env → (R → Env → Prop) → KX → Prop
abbrev TND := Env → (Sl → Env → Prop) → KX → Prop
abbrev TAD := Env → (List R → Env → Prop) → KX → Prop
abbrev TTD := Env → (Bool → Env → Prop) → KX → Prop
structure DEnds where
  nx : Env → Prop
  rt : Ret → Env → Prop
  bk : Env → Prop := fun _ => False
  ct : Env → Prop := fun _ => False
  ex : KX := fun _ _ => False
abbrev TSD := DEnds → Env → Prop
/-- an option that must be there -/
def wO {a : Type} (o : Option a) (k : a → Prop) : Prop := match o with
  | some x => k x
  | none => False
@[simp] theorem wO_some {a : Type} {x : a} {k : a → Prop} : wO (some x) k = k x := rfl
@[simp] theorem wO_none {a : Type} {k : a → Prop} : wO none k = False := rfl
theorem wO.mono {a : Type} {o : Option a} {k k' : a → Prop} (h : wO o k) (m : ∀ x, k x → k' x) : wO o k' := by
  cases o with
  | none => exact h
  | some x => exact m x h
theorem wO.out {a : Type} {o : Option a} {k : a → Prop} (h : wO o k) : ∃ x, o = some x ∧ k x := by
  cases o with
  | none => exact h.elim
  | some x => exact ⟨x, rfl, h⟩
/-- both ways of a truth -/
def wB (b : Bool) (X Y : Prop) : Prop := (b = true → X) ∧ (b = false → Y)
@[simp] theorem wB_true {X Y : Prop} : wB true X Y = X := by simp [wB]
@[simp] theorem wB_false {X Y : Prop} : wB false X Y = Y := by simp [wB]
theorem wB.mono {b : Bool} {X Y X' Y' : Prop} (h : wB b X Y) (m : X → X') (n : Y → Y') : wB b X' Y' := ⟨fun e => m (h.1 e), fun e => n (h.2 e)⟩
theorem wB_dec {p : Prop} [Decidable p] {X Y : Prop} (h1 : p → X) (h2 : ¬ p → Y) : wB (decide p) X Y := ⟨fun e => h1 (of_decide_eq_true e), fun e => h2 (of_decide_eq_false e)⟩

/-- the data of a list of slots, where all of them hold data -/
def vals : List Sl → Option (List PyData)
  | [] => some []
  | .val d :: r => (vals r).map (d :: ·)
  | _ :: _ => none
@[simp] theorem vals_map (ds : List PyData) : vals (ds.map Sl.val) = some ds := by
  induction ds with
  | nil => rfl
  | cons d r ih => simp [vals, ih]
theorem vals_some : ∀ {xs : List Sl} {ds : List PyData}, vals xs = some ds → xs = ds.map Sl.val
  | [], ds, h => by
    simp [vals] at h
    subst h
    rfl
  | .val d :: r, ds, h => by
    simp only [vals, Option.map_eq_some_iff] at h
    obtain ⟨es, h1, rfl⟩ := h
    rw [vals_some h1]
    rfl
  | .lst _ :: _, _, h => by simp [vals] at h
  | .tup _ :: _, _, h => by simp [vals] at h
  | .dct _ :: _, _, h => by simp [vals] at h
  | .obj _ _ :: _, _, h => by simp [vals] at h
def valsK : List (PyData × Sl) → Option (List (PyData × PyData))
  | [] => some []
  | (k, .val d) :: r => (valsK r).map ((k, d) :: ·)
  | _ :: _ => none
/-- the data that a thing of one level holds -/
def flat : Sl → Option PyData
  | .val d => some d
  | .lst xs => (vals xs).map .list
  | .tup _ => none
  | .dct kvs => (valsK kvs).map .dict
  | .obj _ _ => none
@[simp] theorem flat_val (d : PyData) : flat (.val d) = some d := rfl
@[simp] theorem flat_lst (ds : List PyData) : flat (.lst (ds.map Sl.val)) = some (.list ds) := by simp [flat]
/-- what a result is, as data -/
def view (ρ : Env) : R → Option PyData
  | .d d => some d
  | .b i => match ρ[i]? with
    | some (some s) => flat s
    | _ => none
@[simp] theorem view_d (ρ : Env) (d : PyData) : view ρ (.d d) = some d := rfl
@[simp] theorem view_b0 (s : Sl) (ρ : Env) : view (some s :: ρ) (.b 0) = flat s := rfl
@[simp] theorem view_bs (o : Option Sl) (ρ : Env) (i : Nat) : view (o :: ρ) (.b (i + 1)) = view ρ (.b i) := by simp [view]
/-- no list and no dict within -/
def noL : PyData → Bool
  | .list _ => false
  | .dict _ => false
  | .tuple xs => noLs xs
  | _ => true
where noLs : List PyData → Bool
  | [] => true
  | x :: r => noL x && noLs r

/-! ### expressions -/
def MonoE (t : TED) : Prop := ∀ (ρ : Env) (ok ok' : R → Env → Prop) (ex ex' : KX), (∀ r ρ', ok r ρ' → ok' r ρ') → (∀ x ρ', ex x ρ' → ex' x ρ') → t ρ ok ex → t ρ ok' ex'
def MonoN (t : TND) : Prop := ∀ (ρ : Env) (ok ok' : Sl → Env → Prop) (ex ex' : KX), (∀ r ρ', ok r ρ' → ok' r ρ') → (∀ x ρ', ex x ρ' → ex' x ρ') → t ρ ok ex → t ρ ok' ex'
def MonoA (t : TAD) : Prop := ∀ (ρ : Env) (ok ok' : List R → Env → Prop) (ex ex' : KX), (∀ r ρ', ok r ρ' → ok' r ρ') → (∀ x ρ', ex x ρ' → ex' x ρ') → t ρ ok ex → t ρ ok' ex'
def MonoT (t : TTD) : Prop := ∀ (ρ : Env) (ok ok' : Bool → Env → Prop) (ex ex' : KX), (∀ r ρ', ok r ρ' → ok' r ρ') → (∀ x ρ', ex x ρ' → ex' x ρ') → t ρ ok ex → t ρ ok' ex'
structure DEnds.Le (D D' : DEnds) : Prop where
  nx : ∀ ρ, D.nx ρ → D'.nx ρ
  rt : ∀ r ρ, D.rt r ρ → D'.rt r ρ
  bk : ∀ ρ, D.bk ρ → D'.bk ρ
  ct : ∀ ρ, D.ct ρ → D'.ct ρ
  ex : ∀ x ρ, D.ex x ρ → D'.ex x ρ
def MonoS (t : TSD) : Prop := ∀ (ρ : Env) (D D' : DEnds), DEnds.Le D D' → t D ρ → t D' ρ

def eC (d : PyData) : TED := fun ρ ok _ => ok (.d d) ρ
def eV (i : Nat) : TED := fun ρ ok _ => match ρ[i]? with
  | some (some (.val d)) => ok (.d d) ρ
  | some (some _) => ok (.b i) ρ
  | _ => False
@[simp] theorem eC_eq {d : PyData} {ρ : Env} {ok : R → Env → Prop} {ex : KX} : eC d ρ ok ex = ok (.d d) ρ := rfl
/-- an operation on data: what it asks, then what follows with its result -/
abbrev Op2 := PyData → PyData → (PyData → Prop) → Prop
abbrev Op1 := PyData → (PyData → Prop) → Prop
abbrev OpN := List PyData → (PyData → Prop) → Prop
abbrev OpL := List PyData → (List PyData → Prop) → Prop
def e2 (op : Op2) (ta tb : TED) : TED := fun ρ ok ex => ta ρ (fun r1 ρ1 => tb ρ1 (fun r2 ρ2 => wO (view ρ2 r1) fun d1 => wO (view ρ2 r2) fun d2 => op d1 d2 fun d => ok (.d d) ρ2) ex) ex
def e1 (op : Op1) (ta : TED) : TED := fun ρ ok ex => ta ρ (fun r1 ρ1 => wO (view ρ1 r1) fun d1 => op d1 fun d => ok (.d d) ρ1) ex
/-- arguments, from the left -/
def aN : TAD := fun ρ ok _ => ok [] ρ
def aC (ta : TED) (tr : TAD) : TAD := fun ρ ok ex => ta ρ (fun r ρ1 => tr ρ1 (fun rs ρ2 => ok (r :: rs) ρ2) ex) ex
@[simp] theorem aN_eq {ρ : Env} {ok : List R → Env → Prop} {ex : KX} : aN ρ ok ex = ok [] ρ := rfl
def views (ρ : Env) : List R → Option (List PyData)
  | [] => some []
  | r :: rs => (view ρ r).bind fun d => (views ρ rs).map (d :: ·)
@[simp] theorem views_nil (ρ : Env) : views ρ [] = some [] := rfl
@[simp] theorem views_cons (ρ : Env) (r : R) (rs : List R) : views ρ (r :: rs) = (view ρ r).bind fun d => (views ρ rs).map (d :: ·) := rfl
/-- a call of a built-in: its arguments as data -/
def eF (op : OpN) (ta : TAD) : TED := fun ρ ok ex => ta ρ (fun rs ρ1 => wO (views ρ1 rs) fun ds => op ds fun d => ok (.d d) ρ1) ex
/-- a call of a built-in that makes a new list -/
def nF (op : OpL) (ta : TAD) : TND := fun ρ ok ex => ta ρ (fun rs ρ1 => wO (views ρ1 rs) fun ds => op ds fun es => ok (.lst (es.map Sl.val)) ρ1) ex
/-- a new thing, kept as data from now on -/
def eN (tn : TND) : TED := fun ρ ok ex => tn ρ (fun s ρ1 => wO (flat s) fun d => ok (.d d) ρ1) ex
/-- shared data alone -/
def dats : List R → Option (List PyData)
  | [] => some []
  | .d d :: rs => (dats rs).map (d :: ·)
  | .b _ :: _ => none
@[simp] theorem dats_nil : dats [] = some [] := rfl
@[simp] theorem dats_cons (d : PyData) (rs : List R) : dats (.d d :: rs) = (dats rs).map (d :: ·) := rfl
/-- a tuple written; a list written -/
def eTup (ta : TAD) : TED := fun ρ ok ex => ta ρ (fun rs ρ1 => wO (dats rs) fun ds => ok (.d (.tuple ds)) ρ1) ex
def nLst (ta : TAD) : TND := fun ρ ok ex => ta ρ (fun rs ρ1 => wO (dats rs) fun ds => ok (.lst (ds.map Sl.val)) ρ1) ex
/-- and, or, not of truths -/
def asB : PyData → Option Bool
  | .bool b => some b
  | _ => none
@[simp] theorem asB_bool (b : Bool) : asB (.bool b) = some b := rfl
def viewB (ρ : Env) (r : R) : Option Bool := (view ρ r).bind asB
@[simp] theorem viewB_d (ρ : Env) (b : Bool) : viewB ρ (.d (.bool b)) = some b := rfl
def eAnd (ta tb : TED) : TED := fun ρ ok ex => ta ρ (fun r ρ1 => wO (viewB ρ1 r) fun b => wB b (tb ρ1 ok ex) (ok (.d (.bool false)) ρ1)) ex
def eOr (ta tb : TED) : TED := fun ρ ok ex => ta ρ (fun r ρ1 => wO (viewB ρ1 r) fun b => wB b (ok (.d (.bool true)) ρ1) (tb ρ1 ok ex)) ex
def eNot (ta : TED) : TED := fun ρ ok ex => ta ρ (fun r ρ1 => wO (viewB ρ1 r) fun b => ok (.d (.bool (!b))) ρ1) ex
def eIf (t : TTD) (ta tb : TED) : TED := fun ρ ok ex => t ρ (fun b ρ1 => wB b (ta ρ1 ok ex) (tb ρ1 ok ex)) ex
/-- a < b < c -/
def eCh (op op' : Op2) (ta tb tc : TED) : TED := fun ρ ok ex => ta ρ (fun r1 ρ1 => tb ρ1 (fun r2 ρ2 => wO (view ρ2 r1) fun d1 => wO (view ρ2 r2) fun d2 => op d1 d2 fun d => wO (asB d) fun b =>
  wB b (tc ρ2 (fun r3 ρ3 => wO (view ρ3 r2) fun d2 => wO (view ρ3 r3) fun d3 => op' d2 d3 fun d => ok (.d d) ρ3) ex) (ok (.d (.bool false)) ρ2)) ex) ex
/-- tests -/
def tV (ta : TED) : TTD := fun ρ ok ex => ta ρ (fun r ρ1 => wO (viewB ρ1 r) fun b => ok b ρ1) ex
def tAnd (ta tb : TTD) : TTD := fun ρ ok ex => ta ρ (fun b ρ1 => wB b (tb ρ1 ok ex) (ok false ρ1)) ex
def tOr (ta tb : TTD) : TTD := fun ρ ok ex => ta ρ (fun b ρ1 => wB b (ok true ρ1) (tb ρ1 ok ex)) ex
def tNot (ta : TTD) : TTD := fun ρ ok ex => ta ρ (fun b ρ1 => ok (!b) ρ1) ex

/-! ### calls of defs -/
/-- what a def promises: of arguments args a, where pre a holds, it hands back r and leaves its own arguments os, where out a r os; or raises x -/
structure Spec where
  A : Type
  args : A → List Sl
  pre : A → Prop
  out : A → Ret → List Sl → Prop
  exc : A → XV → List Sl → Prop := fun _ _ _ => False
def Spec.run (S : Spec) (ss : List Sl) (k : Ret → List Sl → Prop) (e : XV → List Sl → Prop) : Prop :=
  ∃ a : S.A, ss = S.args a ∧ S.pre a ∧ (∀ r os, S.out a r os → k r os) ∧ (∀ x os, S.exc a x os → e x os)
theorem Spec.run.mono {S : Spec} {ss : List Sl} {k k' : Ret → List Sl → Prop} {e e' : XV → List Sl → Prop} (h : S.run ss k e) (m : ∀ r os, k r os → k' r os) (n : ∀ x os, e x os → e' x os) : S.run ss k' e' := by
  obtain ⟨a, h1, h2, h3, h4⟩ := h
  exact ⟨a, h1, h2, fun r os h => m r os (h3 r os h), fun x os h => n x os (h4 x os h)⟩
/-- a thing of its own -/
def isOwn : Sl → Bool
  | .val _ => false
  | _ => true
/-- how an argument is handed over: by itself (true), or as data -/
def argOf (ρ : Env) : Bool → R → Option Sl
  | true, .b i => match ρ[i]? with
    | some (some s) => if isOwn s then some s else none
    | _ => none
  | true, .d _ => none
  | false, .d d => some (.val d)
  | false, .b i => match ρ[i]? with
    | some (some (.lst xs)) => (flat (.lst xs)).map Sl.val
    | some (some (.dct xs)) => (flat (.dct xs)).map Sl.val
    | _ => none
def argsOf (ρ : Env) : List Bool → List R → Option (List Sl)
  | [], [] => some []
  | m :: ms, r :: rs => (argOf ρ m r).bind fun s => (argsOf ρ ms rs).map (s :: ·)
  | _, _ => none
/-- names that hand over their thing itself -/
def refsOf : List Bool → List R → List Nat
  | true :: ms, .b i :: rs => i :: refsOf ms rs
  | _ :: ms, _ :: rs => refsOf ms rs
  | _, _ => []
/-- names that are handed over as data while they hold a thing of their own -/
def lentOf : List Bool → List R → List Nat
  | false :: ms, .b i :: rs => i :: lentOf ms rs
  | _ :: ms, _ :: rs => lentOf ms rs
  | _, _ => []
/-- the arguments' things behind the call go back to the names -/
def putAll : Env → List Bool → List R → List Sl → Env
  | ρ, true :: ms, .b i :: rs, o :: os => putAll (ρ.set i (some o)) ms rs os
  | ρ, _ :: ms, _ :: rs, _ :: os => putAll ρ ms rs os
  | ρ, _, _, _ => ρ
/-- arguments behind a call: data as it was, things of their own -/
def okOut : List Sl → List Sl → Prop
  | [], [] => True
  | .val d :: ss, o :: os => o = .val d ∧ okOut ss os
  | _ :: ss, o :: os => isOwn o = true ∧ okOut ss os
  | _, _ => False
/-- what a call may ask of names: none handed over twice, none lent and handed over -/
def okRefs (ms : List Bool) (rs : List R) : Prop := (refsOf ms rs).Nodup ∧ (refsOf ms rs = [] ∨ lentOf ms rs = [])
def eCall (S : Spec) (ms : List Bool) (ta : TAD) : TED := fun ρ ok ex => ta ρ (fun rs ρ1 => wO (argsOf ρ1 ms rs) fun ss => okRefs ms rs ∧
  S.run ss (fun r os => okOut ss os → (match r with
    | .d d => (lentOf ms rs = [] ∨ noL d = true) ∧ ok (.d d) (putAll ρ1 ms rs os)
    | .new s => lentOf ms rs = [] ∧ wO (flat s) fun d => ok (.d d) (putAll ρ1 ms rs os)))
    (fun x os => okOut ss os → (lentOf ms rs = [] ∨ x.fs = []) ∧ ex x (putAll ρ1 ms rs os))) ex
def nCall (S : Spec) (ms : List Bool) (ta : TAD) : TND := fun ρ ok ex => ta ρ (fun rs ρ1 => wO (argsOf ρ1 ms rs) fun ss => okRefs ms rs ∧ lentOf ms rs = [] ∧
  S.run ss (fun r os => okOut ss os → (match r with
    | .d _ => False
    | .new s => isOwn s = true ∧ ok s (putAll ρ1 ms rs os)))
    (fun x os => okOut ss os → (lentOf ms rs = [] ∨ x.fs = []) ∧ ex x (putAll ρ1 ms rs os))) ex
/-- the arguments at a def's end -/
def afterD : List Sl → Env → Option (List Sl)
  | [], _ => some []
  | .val d :: ss, _ :: ρ => (afterD ss ρ).map (.val d :: ·)
  | _ :: ss, some o :: ρ => if isOwn o then (afterD ss ρ).map (o :: ·) else none
  | _, _ => none
def startD (n : Nat) (ss : List Sl) : Env := ss.map some ++ List.replicate (n - ss.length) none
/-- what a def's body must come to -/
def bodyEnds (S : Spec) (a : S.A) : DEnds where
  nx := fun ρ => wO (afterD (S.args a) ρ) fun os => S.out a (.d .none) os
  rt := fun r ρ => wO (afterD (S.args a) ρ) fun os => S.out a r os
  ex := fun x ρ => wO (afterD (S.args a) ρ) fun os => S.exc a x os

/-! ### what is walked -/
abbrev TWD := Env → (List PyData → Env → Prop) → KX → Prop
def wList (ta : TED) : TWD := fun ρ ok ex => ta ρ (fun r ρ1 => match r with
  | .d (.list ds) => ok ds ρ1
  | _ => False) ex
def wTup (ta : TED) : TWD := fun ρ ok ex => ta ρ (fun r ρ1 => match r with
  | .d (.tuple ds) => ok ds ρ1
  | _ => False) ex
def rangeD (a b : Int) : List PyData := (List.range (b - a).toNat).map fun (i : Nat) => PyData.int (a + (i : Int))
def wRange1 (ta : TAD) : TWD := fun ρ ok ex => ta ρ (fun rs ρ1 => ∃ n : Int, views ρ1 rs = some [.int n] ∧ n < 2 ^ 62 ∧ -(2 ^ 62) ≤ n ∧ ok (rangeD 0 n) ρ1) ex
def wRange2 (ta : TAD) : TWD := fun ρ ok ex => ta ρ (fun rs ρ1 => ∃ m n : Int, views ρ1 rs = some [.int m, .int n] ∧ (-(2 ^ 62) ≤ m ∧ m < 2 ^ 62 ∧ -(2 ^ 62) ≤ n ∧ n < 2 ^ 62) ∧ ok (rangeD m n) ρ1) ex
def enumD (ds : List PyData) : List PyData := (ds.zipIdx).map fun p => .tuple [.int (p.2 : Nat), p.1]
def wEnum (ta : TAD) : TWD := fun ρ ok ex => ta ρ (fun rs ρ1 => match rs with
  | [.d (.list ds)] => ok (enumD ds) ρ1
  | _ => False) ex
/-- targets: names, and tuples of names -/
inductive Tg where
  | n (i : Nat)
  | t (is : List Nat)
def bindAll : Env → List Nat → List PyData → Option Env
  | ρ, [], [] => some ρ
  | ρ, i :: is, d :: ds => bindAll (ρ.set i (some (.val d))) is ds
  | _, _, _ => none
def Tg.bind (ρ : Env) : Tg → PyData → Option Env
  | .n i, d => some (ρ.set i (some (.val d)))
  | .t is, .tuple ds => bindAll ρ is ds
  | _, _ => none
def Tg.ix : Tg → List Nat
  | .n i => [i]
  | .t is => is
def wipeD (ρ : Env) : List Nat → Env
  | [] => ρ
  | i :: is => (wipeD ρ is).set i none
/-- the env behind a turn of a comprehension: its own names as they were -/
def backD (vs : List Nat) (ρ ρ' : Env) : Env := ρ'.mapIdx fun i s => if i ∈ vs then (ρ[i]?).getD none else s
/-- a result that is shared data -/
def datOf : R → Option PyData
  | .d d => some d
  | .b _ => none
@[simp] theorem datOf_d (d : PyData) : datOf (.d d) = some d := rfl
def tTrue : TTD := fun ρ ok _ => ok true ρ
/-- [elt for tg in src if test] -/
def nLc (src : TWD) (tg : Tg) (tt : TTD) (te : TED) (vs : List Nat) : TND := fun ρ ok ex => src ρ (fun ds ρ1 =>
  ∃ P : Nat → List PyData → Env → Prop, P 0 [] ρ1 ∧
    (∀ i x acc ρ, ds[i]? = some x → P i acc ρ → (∀ j ∈ vs, ∀ s, ρ[j]? = some (some s) → isOwn s = false) ∧ wO (tg.bind (wipeD ρ vs) x) fun ρ2 => tt ρ2 (fun b ρ3 =>
      wB b (te ρ3 (fun r ρ4 => wO (datOf r) fun d => acc.length < sizeLine ∧ P (i + 1) (acc ++ [d]) (backD vs ρ ρ4)) fun _ _ => False) (P (i + 1) acc (backD vs ρ ρ3))) fun _ _ => False) ∧
    (∀ acc ρ, P ds.length acc ρ → ok (.lst (acc.map Sl.val)) ρ)) ex
/-- parts of a slice -/
abbrev TOD := Env → (Option Int → Env → Prop) → KX → Prop
def oNo : TOD := fun ρ ok _ => ok none ρ
def oAt (te : TED) : TOD := fun ρ ok ex => te ρ (fun r ρ1 => wO (view ρ1 r) fun d => match d with
  | .int i => ok (some i) ρ1
  | _ => False) ex

/-! ### statements -/
def sNext : TSD := fun D ρ => D.nx ρ
def sSeq (t u : TSD) : TSD := fun D ρ => t { D with nx := u D } ρ
def sBreak : TSD := fun D ρ => D.bk ρ
def sCont : TSD := fun D ρ => D.ct ρ
def sDrop (te : TED) : TSD := fun D ρ => te ρ (fun _ ρ1 => D.nx ρ1) D.ex
def sIf (t : TTD) (a b : TSD) : TSD := fun D ρ => t ρ (fun c ρ1 => wB c (a D ρ1) (b D ρ1)) D.ex
def sRet (te : TED) : TSD := fun D ρ => te ρ (fun r ρ1 => match r with
  | .d d => D.rt (.d d) ρ1
  | .b i => wO (ρ1[i]?.join) fun s => D.rt (.new s) (ρ1.set i none)) D.ex
def sRetNone : TSD := fun D ρ => D.rt (.d .none) ρ
def sRetN (tn : TND) : TSD := fun D ρ => tn ρ (fun s ρ1 => D.rt (.new s) ρ1) D.ex
/-- x = e, data; x = e, a new thing -/
def sSet (tg : Tg) (te : TED) : TSD := fun D ρ => te ρ (fun r ρ1 => match r with
  | .d d => wO (tg.bind ρ1 d) D.nx
  | _ => False) D.ex
def sOwn (i : Nat) (tn : TND) : TSD := fun D ρ => tn ρ (fun s ρ1 => D.nx (ρ1.set i (some s))) D.ex
def sWhile (t : TTD) (b : TSD) : TSD := fun D ρ => ∃ W : Nat → Env → Prop, (∃ m, W m ρ) ∧ ∀ m ρ, W m ρ →
  t ρ (fun c ρ1 => wB c (b { D with nx := fun ρ2 => ∃ m', m' < m ∧ W m' ρ2, ct := fun ρ2 => ∃ m', m' < m ∧ W m' ρ2, bk := D.nx } ρ1) (D.nx ρ1)) D.ex
def sFor (src : TWD) (tg : Tg) (b : TSD) : TSD := fun D ρ => src ρ (fun ds ρ1 => ∃ P : Nat → Env → Prop, P 0 ρ1 ∧
  (∀ i x ρ, ds[i]? = some x → P i ρ → wO (tg.bind ρ x) fun ρ2 => b { D with nx := P (i + 1), ct := P (i + 1), bk := D.nx } ρ2) ∧ (∀ ρ, P ds.length ρ → D.nx ρ)) D.ex
/-- a method of the list that a name holds, which changes it: what it gives, what the list holds then -/
abbrev OpM := List PyData → List PyData → (PyData → List PyData → Prop) → Prop
def lstOf (ρ : Env) (i : Nat) : Option (List PyData) := match ρ[i]? with
  | some (some (.lst xs)) => vals xs
  | _ => none
@[simp] theorem lstOf_0 (ρ : Env) (ds : List PyData) : lstOf (some (.lst (ds.map Sl.val)) :: ρ) 0 = some ds := by simp [lstOf]
@[simp] theorem lstOf_s (ρ : Env) (o : Option Sl) (i : Nat) : lstOf (o :: ρ) (i + 1) = lstOf ρ i := by simp [lstOf]
def eM (i : Nat) (op : OpM) (ta : TAD) : TED := fun ρ ok ex => wO (lstOf ρ i) fun _ => ta ρ (fun rs ρ1 => wO (dats rs) fun ds => wO (lstOf ρ1 i) fun es => op es ds fun d es' => ok (.d d) (ρ1.set i (some (.lst (es'.map Sl.val))))) ex
/-- try: body, except (the classes that cn tells) as the i-th name: suite -/
def outD (i : Nat) (D : DEnds) : DEnds where
  nx := fun ρ2 => D.nx (ρ2.set i none)
  rt := D.rt
  bk := fun ρ2 => D.bk (ρ2.set i none)
  ct := fun ρ2 => D.ct (ρ2.set i none)
def sTry (cn : String → Bool) (i : Nat) (body : TSD) (suite : XV → TSD) : TSD := fun D ρ => body { D with ex := fun x ρ1 => wB (cn x.cls) (i < ρ1.length ∧ suite x (outD i D) (ρ1.set i none)) (D.ex x ρ1) } ρ
/-- isinstance(e, T) of the exception that a suite holds -/
def eIsE (sub : String → Bool) (x : XV) : TED := fun ρ ok _ => x.fs = [] ∧ ok (.d (.bool (sub x.cls))) ρ
def sRaise (x : XV) : TSD := fun D ρ => D.ex x ρ
end Dl

/-! Dw1: data in the abstract heap; environments in slots. -/
namespace Dl
open PySem L2
def isDct : HO → Bool
  | .dK _ => true
  | .dT _ => true
  | _ => false
def isTbl : HO → Bool
  | .tbl _ => true
  | _ => false
/-- all that stood stands -/
def Ex (H H' : Hp) : Prop := ∀ a o, H a = some o → H' a = some o
/-- .. but that a dict may be locked, or no more so -/
def ExL (H H' : Hp) : Prop := (∀ a o, isDct o = false → (∀ ob u, o ≠ .frz ob u) → H a = some o → H' a = some o) ∧ ∀ a u, Rd H a u → Rd H' a u
def keyD : Key → PyData
  | .inl i => .int i
  | .inr s => .str s
/-- the script, as data of its own kind -/
def scrD (ns : List Int) : PyData := .dict [(.none, .list (ns.map .int))]
mutual
inductive Dn (K : PySem.W.Frag) (H : Hp) : V → PyData → Prop
  | non : Dn K H .non .none
  | bl (b : Bool) : Dn K H (.bl b) (.bool b)
  | int (i : Int) : Dn K H (.int i) (.int i)
  | str (x : Str) : Dn K H (.str x) (.str x)
  | lst {a : Addr} {xs : List V} {ds : List PyData} : H a = some (.lst xs) → DnAll K H xs ds → Dn K H (.ref a) (.list ds)
  | tup {a : Addr} {xs : List V} {ds : List PyData} : H a = some (.tup xs) → DnAll K H xs ds → Dn K H (.ref a) (.tuple ds)
  | dK {a : Addr} {kvs : List (Key × V)} {ds : List (PyData × PyData)} : Rd H a (.dK kvs) → DnKV K H kvs ds → Dn K H (.ref a) (.dict ds)
  | dT {a : Addr} {kvs : List (List Key × V)} {ds : List (PyData × PyData)} : H a = some (.dT kvs) → DnTV K H kvs ds → Dn K H (.ref a) (.dict ds)
  | scr {a : Addr} {ns : List Int} : SqL K H a (ns.map V.int) → Dn K H (.ref a) (scrD ns)
inductive DnAll (K : PySem.W.Frag) (H : Hp) : List V → List PyData → Prop
  | nil : DnAll K H [] []
  | cons {v : V} {vs : List V} {d : PyData} {ds : List PyData} : Dn K H v d → DnAll K H vs ds → DnAll K H (v :: vs) (d :: ds)
inductive DnKV (K : PySem.W.Frag) (H : Hp) : List (Key × V) → List (PyData × PyData) → Prop
  | nil : DnKV K H [] []
  | cons {k : Key} {v : V} {vs : List (Key × V)} {d : PyData} {ds : List (PyData × PyData)} : Dn K H v d → DnKV K H vs ds → DnKV K H ((k, v) :: vs) ((keyD k, d) :: ds)
inductive DnTV (K : PySem.W.Frag) (H : Hp) : List (List Key × V) → List (PyData × PyData) → Prop
  | nil : DnTV K H [] []
  | cons {k : List Key} {v : V} {vs : List (List Key × V)} {d : PyData} {ds : List (PyData × PyData)} : Dn K H v d → DnTV K H vs ds → DnTV K H ((k, v) :: vs) ((.tuple (k.map keyD), d) :: ds)
end
theorem Ex.refl (H : Hp) : Ex H H := fun _ _ h => h
theorem Ex.at {H H' : Hp} (h : Ex H H') {a : Addr} {o : HO} (e : H a = some o) (n : isDct o = false) : H' a = some o := h a o e
theorem Ex.trans {H H1 H2 : Hp} (a : Ex H H1) (b : Ex H1 H2) : Ex H H2 := fun x o h => b x o (a x o h)
theorem Ex.rd {H H' : Hp} (h : Ex H H') {a : Addr} {u : HO} (e : Rd H a u) : Rd H' a u := by
  rcases e with e | ⟨o, e⟩
  · exact .inl (h _ _ e)
  · exact .inr ⟨o, h _ _ e⟩
theorem Ex.sqL {K : PySem.W.Frag} {H H' : Hp} (h : Ex H H') {a : Addr} {xs : List V} (e : SqL K H a xs) : SqL K H' a xs := by
  rcases e with e | e
  · exact .inl (h.rd e)
  · exact .inr e
theorem Ex.some {H H' : Hp} (h : Ex H H') {a : Addr} (e : H a ≠ none) : H' a ≠ none := by
  cases q : H a with
  | none => exact absurd q e
  | some o => rw [h a o q]; simp
theorem Ex.free {H H' : Hp} (h : Ex H H') {a : Addr} (e : H' a = none) : H a = none := by
  cases q : H a with
  | none => rfl
  | some o => exact absurd e (h.some (by rw [q]; simp))
theorem Ex.new {H : Hp} {p : Addr} {o : HO} (h : H p = none) : Ex H (upd H p o) := fun a u e => by
  rw [upd_ne (ne_of_none e h)]
  exact e
/-- an object that H does not know may change -/
theorem Ex.mut {H H' : Hp} {p : Addr} {o : HO} (e : Ex H H') (h : H p = none) : Ex H (upd H' p o) := fun a u ha => by
  rw [upd_ne (ne_of_none ha h)]
  exact e a u ha
theorem Ex.both {H H' : Hp} {p : Addr} {o : HO} (e : Ex H H') : Ex (upd H p o) (upd H' p o) := fun a u ha => by
  by_cases h : a = p
  · subst h
    rw [upd_same] at ha ⊢
    exact ha
  · rw [upd_ne h] at ha ⊢
    exact e a u ha
section
variable {K : PySem.W.Frag} {H H' : Hp}
mutual
theorem Dn.ex (e : Ex H H') : ∀ {v : V} {d : PyData}, Dn K H v d → Dn K H' v d
  | _, _, .non => .non
  | _, _, .bl b => .bl b
  | _, _, .int i => .int i
  | _, _, .str x => .str x
  | _, _, .lst h r => .lst (e.at h rfl) (DnAll.ex e r)
  | _, _, .tup h r => .tup (e.at h rfl) (DnAll.ex e r)
  | _, _, .dK h r => .dK (e.rd h) (DnKV.ex e r)
  | _, _, .dT h r => .dT (e _ _ h) (DnTV.ex e r)
  | _, _, .scr h => .scr (e.sqL h)
theorem DnAll.ex (e : Ex H H') : ∀ {vs : List V} {ds : List PyData}, DnAll K H vs ds → DnAll K H' vs ds
  | _, _, .nil => .nil
  | _, _, .cons h r => .cons (Dn.ex e h) (DnAll.ex e r)
theorem DnKV.ex (e : Ex H H') : ∀ {vs : List (Key × V)} {ds : List (PyData × PyData)}, DnKV K H vs ds → DnKV K H' vs ds
  | _, _, .nil => .nil
  | _, _, .cons h r => .cons (Dn.ex e h) (DnKV.ex e r)
theorem DnTV.ex (e : Ex H H') : ∀ {vs : List (List Key × V)} {ds : List (PyData × PyData)}, DnTV K H vs ds → DnTV K H' vs ds
  | _, _, .nil => .nil
  | _, _, .cons h r => .cons (Dn.ex e h) (DnTV.ex e r)
end
/-- data without lists and dicts leans on tuples alone -/
def ExT (H H' : Hp) : Prop := ∀ a xs, H a = some (.tup xs) → H' a = some (.tup xs)
mutual
theorem Dn.exT (e : ExT H H') : ∀ {v : V} {d : PyData}, Dn K H v d → noL d = true → Dn K H' v d
  | _, _, .non, _ => .non
  | _, _, .bl b, _ => .bl b
  | _, _, .int i, _ => .int i
  | _, _, .str x, _ => .str x
  | _, _, .lst h r, n => by simp [noL] at n
  | _, _, .tup h r, n => .tup (e _ _ h) (DnAll.exT e r (by simpa [noL] using n))
  | _, _, .dK h r, n => by simp [noL] at n
  | _, _, .dT h r, n => by simp [noL] at n
  | _, _, .scr h, n => by simp [noL, scrD] at n
theorem DnAll.exT (e : ExT H H') : ∀ {vs : List V} {ds : List PyData}, DnAll K H vs ds → noL.noLs ds = true → DnAll K H' vs ds
  | _, _, .nil, _ => .nil
  | _, _, .cons h r, n => by
    simp only [noL.noLs, Bool.and_eq_true] at n
    exact .cons (Dn.exT e h n.1) (DnAll.exT e r n.2)
end
theorem DnAll.length : ∀ {vs : List V} {ds : List PyData}, DnAll K H vs ds → vs.length = ds.length
  | _, _, .nil => rfl
  | _, _, .cons _ r => congrArg (· + 1) (DnAll.length r)
theorem DnAll.get : ∀ {vs : List V} {ds : List PyData} {i : Nat} {d : PyData}, DnAll K H vs ds → ds[i]? = some d → ∃ v, vs[i]? = some v ∧ Dn K H v d
  | _, _, _, _, .nil, e => by simp at e
  | _, _, 0, _, .cons h _, e => by
    simp at e
    subst e
    exact ⟨_, rfl, h⟩
  | _, _, i + 1, d, .cons _ r, e => by
    obtain ⟨v, h1, h2⟩ := DnAll.get (i := i) (d := d) r (by simpa using e)
    exact ⟨v, by simpa using h1, h2⟩
theorem DnAll.get' : ∀ {vs : List V} {ds : List PyData} {i : Nat} {v : V}, DnAll K H vs ds → vs[i]? = some v → ∃ d, ds[i]? = some d ∧ Dn K H v d
  | _, _, _, _, .nil, e => by simp at e
  | _, _, 0, _, .cons h _, e => by
    simp at e
    subst e
    exact ⟨_, rfl, h⟩
  | _, _, i + 1, d, .cons _ r, e => by
    obtain ⟨v, h1, h2⟩ := DnAll.get' (i := i) (v := d) r (by simpa using e)
    exact ⟨v, by simpa using h1, h2⟩
theorem DnAll.append : ∀ {vs ws : List V} {ds es : List PyData}, DnAll K H vs ds → DnAll K H ws es → DnAll K H (vs ++ ws) (ds ++ es)
  | _, _, _, _, .nil, s => s
  | _, _, _, _, .cons h r, s => .cons h (DnAll.append r s)
theorem DnAll.take : ∀ {vs : List V} {ds : List PyData} (n : Nat), DnAll K H vs ds → DnAll K H (vs.take n) (ds.take n)
  | _, _, 0, _ => .nil
  | _, _, _ + 1, .nil => .nil
  | _, _, n + 1, .cons h r => .cons h (DnAll.take n r)
theorem DnAll.drop : ∀ {vs : List V} {ds : List PyData} (n : Nat), DnAll K H vs ds → DnAll K H (vs.drop n) (ds.drop n)
  | _, _, 0, r => r
  | _, _, _ + 1, .nil => .nil
  | _, _, n + 1, .cons _ r => DnAll.drop n r
theorem DnAll.ints : ∀ {vs : List V} {ns : List Int}, DnAll K H vs (ns.map .int) → vs = ns.map V.int
  | _, [], .nil => rfl
  | _, n :: ns, .cons h r => by
    cases h
    rw [DnAll.ints r]
    rfl
theorem DnAll.of_ints : ∀ (ns : List Int), DnAll K H (ns.map V.int) (ns.map .int)
  | [] => .nil
  | n :: ns => .cons (.int n) (DnAll.of_ints ns)
theorem DnAll.bools : ∀ {vs : List V} {ns : List Bool}, DnAll K H vs (ns.map .bool) → vs = ns.map V.bl
  | _, [], .nil => rfl
  | _, n :: ns, .cons h r => by
    cases h
    rw [DnAll.bools r]
    rfl
end

/-! ### things of one's own -/
mutual
/-- v is the thing s; fp: the objects that it is made of -/
inductive OwnAt (K : PySem.W.Frag) (Hs H : Hp) : V → Sl → List Addr → Prop
  | val {v : V} {d : PyData} : Dn K Hs v d → OwnAt K Hs H v (.val d) []
  | lst {p : Addr} {vs : List V} {xs : List Sl} {fp : List Addr} : H p = some (.lst vs) → OwnAll K Hs H vs xs fp → OwnAt K Hs H (.ref p) (.lst xs) (p :: fp)
  | tup {p : Addr} {vs : List V} {xs : List Sl} {fp : List Addr} : H p = some (.tup vs) → OwnAll K Hs H vs xs fp → OwnAt K Hs H (.ref p) (.tup xs) (p :: fp)
  | dK {p : Addr} {kvs : List (Key × V)} {xs : List (PyData × Sl)} {fp : List Addr} : H p = some (.dK kvs) → OwnKV K Hs H kvs xs fp → OwnAt K Hs H (.ref p) (.dct xs) (p :: fp)
  | dT {p : Addr} {kvs : List (List Key × V)} {xs : List (PyData × Sl)} {fp : List Addr} : H p = some (.dT kvs) → OwnTV K Hs H kvs xs fp → OwnAt K Hs H (.ref p) (.dct xs) (p :: fp)
  | obj {p C dx : Addr} {fs : List (Str × V)} {xs : List (Str × Sl)} {fp : List Addr} : H p = some (.ins C dx fs) → H dx = some (.own p) → OwnF K Hs H fs xs fp → OwnAt K Hs H (.ref p) (.obj C xs) (p :: dx :: fp)
inductive OwnAll (K : PySem.W.Frag) (Hs H : Hp) : List V → List Sl → List Addr → Prop
  | nil : OwnAll K Hs H [] [] []
  | cons {v : V} {vs : List V} {x : Sl} {xs : List Sl} {fp fq : List Addr} : OwnAt K Hs H v x fp → OwnAll K Hs H vs xs fq → OwnAll K Hs H (v :: vs) (x :: xs) (fp ++ fq)
inductive OwnKV (K : PySem.W.Frag) (Hs H : Hp) : List (Key × V) → List (PyData × Sl) → List Addr → Prop
  | nil : OwnKV K Hs H [] [] []
  | cons {k : Key} {v : V} {vs : List (Key × V)} {x : Sl} {xs : List (PyData × Sl)} {fp fq : List Addr} : OwnAt K Hs H v x fp → OwnKV K Hs H vs xs fq → OwnKV K Hs H ((k, v) :: vs) ((keyD k, x) :: xs) (fp ++ fq)
inductive OwnTV (K : PySem.W.Frag) (Hs H : Hp) : List (List Key × V) → List (PyData × Sl) → List Addr → Prop
  | nil : OwnTV K Hs H [] [] []
  | cons {k : List Key} {v : V} {vs : List (List Key × V)} {x : Sl} {xs : List (PyData × Sl)} {fp fq : List Addr} : OwnAt K Hs H v x fp → OwnTV K Hs H vs xs fq → OwnTV K Hs H ((k, v) :: vs) ((.tuple (k.map keyD), x) :: xs) (fp ++ fq)
inductive OwnF (K : PySem.W.Frag) (Hs H : Hp) : List (Str × V) → List (Str × Sl) → List Addr → Prop
  | nil : OwnF K Hs H [] [] []
  | cons {f : Str} {v : V} {vs : List (Str × V)} {x : Sl} {xs : List (Str × Sl)} {fp fq : List Addr} : OwnAt K Hs H v x fp → OwnF K Hs H vs xs fq → OwnF K Hs H ((f, v) :: vs) ((f, x) :: xs) (fp ++ fq)
end
section
variable {K : PySem.W.Frag} {Hs Hs' H H' : Hp}
mutual
theorem OwnAt.frame (e : Ex Hs Hs') : ∀ {v : V} {s : Sl} {fp : List Addr}, OwnAt K Hs H v s fp → (∀ p ∈ fp, H' p = H p) → OwnAt K Hs' H' v s fp
  | _, _, _, .val h, _ => .val (h.ex e)
  | _, _, _, .lst h r, k => .lst ((k _ List.mem_cons_self).trans h) (OwnAll.frame e r fun p hp => k p (List.mem_cons_of_mem _ hp))
  | _, _, _, .tup h r, k => .tup ((k _ List.mem_cons_self).trans h) (OwnAll.frame e r fun p hp => k p (List.mem_cons_of_mem _ hp))
  | _, _, _, .dK h r, k => .dK ((k _ List.mem_cons_self).trans h) (OwnKV.frame e r fun p hp => k p (List.mem_cons_of_mem _ hp))
  | _, _, _, .dT h r, k => .dT ((k _ List.mem_cons_self).trans h) (OwnTV.frame e r fun p hp => k p (List.mem_cons_of_mem _ hp))
  | _, _, _, .obj h h2 r, k => .obj ((k _ List.mem_cons_self).trans h) ((k _ (List.mem_cons_of_mem _ List.mem_cons_self)).trans h2) (OwnF.frame e r fun p hp => k p (List.mem_cons_of_mem _ (List.mem_cons_of_mem _ hp)))
theorem OwnAll.frame (e : Ex Hs Hs') : ∀ {vs : List V} {s : List Sl} {fp : List Addr}, OwnAll K Hs H vs s fp → (∀ p ∈ fp, H' p = H p) → OwnAll K Hs' H' vs s fp
  | _, _, _, .nil, _ => .nil
  | _, _, _, .cons h r, k => .cons (OwnAt.frame e h fun p hp => k p (List.mem_append_left _ hp)) (OwnAll.frame e r fun p hp => k p (List.mem_append_right _ hp))
theorem OwnKV.frame (e : Ex Hs Hs') : ∀ {vs : List (Key × V)} {s : List (PyData × Sl)} {fp : List Addr}, OwnKV K Hs H vs s fp → (∀ p ∈ fp, H' p = H p) → OwnKV K Hs' H' vs s fp
  | _, _, _, .nil, _ => .nil
  | _, _, _, .cons h r, k => .cons (OwnAt.frame e h fun p hp => k p (List.mem_append_left _ hp)) (OwnKV.frame e r fun p hp => k p (List.mem_append_right _ hp))
theorem OwnTV.frame (e : Ex Hs Hs') : ∀ {vs : List (List Key × V)} {s : List (PyData × Sl)} {fp : List Addr}, OwnTV K Hs H vs s fp → (∀ p ∈ fp, H' p = H p) → OwnTV K Hs' H' vs s fp
  | _, _, _, .nil, _ => .nil
  | _, _, _, .cons h r, k => .cons (OwnAt.frame e h fun p hp => k p (List.mem_append_left _ hp)) (OwnTV.frame e r fun p hp => k p (List.mem_append_right _ hp))
theorem OwnF.frame (e : Ex Hs Hs') : ∀ {vs : List (Str × V)} {s : List (Str × Sl)} {fp : List Addr}, OwnF K Hs H vs s fp → (∀ p ∈ fp, H' p = H p) → OwnF K Hs' H' vs s fp
  | _, _, _, .nil, _ => .nil
  | _, _, _, .cons h r, k => .cons (OwnAt.frame e h fun p hp => k p (List.mem_append_left _ hp)) (OwnF.frame e r fun p hp => k p (List.mem_append_right _ hp))
end
mutual
theorem OwnAt.live : ∀ {v : V} {s : Sl} {fp : List Addr}, OwnAt K Hs H v s fp → ∀ p ∈ fp, H p ≠ none ∧ ∀ o, H p = some o → isTbl o = false
  | _, _, _, .val h => fun p hp => by simp at hp
  | _, _, _, .lst h r => fun p hp => by
    rcases List.mem_cons.mp hp with rfl | hp
    · exact ⟨by rw [h]; simp, fun o e => by rw [h] at e; cases e; rfl⟩
    · exact OwnAll.live r p hp
  | _, _, _, .tup h r => fun p hp => by
    rcases List.mem_cons.mp hp with rfl | hp
    · exact ⟨by rw [h]; simp, fun o e => by rw [h] at e; cases e; rfl⟩
    · exact OwnAll.live r p hp
  | _, _, _, .dK h r => fun p hp => by
    rcases List.mem_cons.mp hp with rfl | hp
    · exact ⟨by rw [h]; simp, fun o e => by rw [h] at e; cases e; rfl⟩
    · exact OwnKV.live r p hp
  | _, _, _, .dT h r => fun p hp => by
    rcases List.mem_cons.mp hp with rfl | hp
    · exact ⟨by rw [h]; simp, fun o e => by rw [h] at e; cases e; rfl⟩
    · exact OwnTV.live r p hp
  | _, _, _, .obj h h2 r => fun p hp => by
    rcases List.mem_cons.mp hp with rfl | hp
    · exact ⟨by rw [h]; simp, fun o e => by rw [h] at e; cases e; rfl⟩
    · rcases List.mem_cons.mp hp with rfl | hp
      · exact ⟨by rw [h2]; simp, fun o e => by rw [h2] at e; cases e; rfl⟩
      · exact OwnF.live r p hp
theorem OwnAll.live : ∀ {v : List V} {s : List Sl} {fp : List Addr}, OwnAll K Hs H v s fp → ∀ p ∈ fp, H p ≠ none ∧ ∀ o, H p = some o → isTbl o = false
  | _, _, _, .nil => fun p hp => by simp at hp
  | _, _, _, .cons h r => fun p hp => (List.mem_append.mp hp).elim (OwnAt.live h p) (OwnAll.live r p)
theorem OwnKV.live : ∀ {v : List (Key × V)} {s : List (PyData × Sl)} {fp : List Addr}, OwnKV K Hs H v s fp → ∀ p ∈ fp, H p ≠ none ∧ ∀ o, H p = some o → isTbl o = false
  | _, _, _, .nil => fun p hp => by simp at hp
  | _, _, _, .cons h r => fun p hp => (List.mem_append.mp hp).elim (OwnAt.live h p) (OwnKV.live r p)
theorem OwnTV.live : ∀ {v : List (List Key × V)} {s : List (PyData × Sl)} {fp : List Addr}, OwnTV K Hs H v s fp → ∀ p ∈ fp, H p ≠ none ∧ ∀ o, H p = some o → isTbl o = false
  | _, _, _, .nil => fun p hp => by simp at hp
  | _, _, _, .cons h r => fun p hp => (List.mem_append.mp hp).elim (OwnAt.live h p) (OwnTV.live r p)
theorem OwnF.live : ∀ {v : List (Str × V)} {s : List (Str × Sl)} {fp : List Addr}, OwnF K Hs H v s fp → ∀ p ∈ fp, H p ≠ none ∧ ∀ o, H p = some o → isTbl o = false
  | _, _, _, .nil => fun p hp => by simp at hp
  | _, _, _, .cons h r => fun p hp => (List.mem_append.mp hp).elim (OwnAt.live h p) (OwnF.live r p)
end
mutual
theorem OwnAt.at : ∀ {v : V} {s : Sl} {fp : List Addr}, OwnAt K Hs H v s fp → isOwn s = true → ∃ p fq, v = .ref p ∧ fp = p :: fq
  | _, _, _, .val h, n => by simp [isOwn] at n
  | _, _, _, .lst h r, n => ⟨_, _, rfl, rfl⟩
  | _, _, _, .tup h r, n => ⟨_, _, rfl, rfl⟩
  | _, _, _, .dK h r, n => ⟨_, _, rfl, rfl⟩
  | _, _, _, .dT h r, n => ⟨_, _, rfl, rfl⟩
  | _, _, _, .obj h h2 r, n => ⟨_, _, rfl, rfl⟩
end
theorem OwnAll.vals : ∀ {vs : List V} {ds : List PyData} {fp : List Addr}, OwnAll K Hs H vs (ds.map Sl.val) fp → fp = [] ∧ DnAll K Hs vs ds
  | _, [], _, .nil => ⟨rfl, .nil⟩
  | _, d :: ds, _, .cons (.val h) r => by
    obtain ⟨e, q⟩ := OwnAll.vals r
    subst e
    exact ⟨rfl, .cons h q⟩
theorem OwnAll.of_vals : ∀ {vs : List V} {ds : List PyData}, DnAll K Hs vs ds → OwnAll K Hs H vs (ds.map Sl.val) []
  | _, _, .nil => .nil
  | _, _, .cons h r => .cons (fp := []) (.val h) (OwnAll.of_vals r)
theorem OwnAll.append : ∀ {vs ws : List V} {xs ys : List Sl} {fp fq : List Addr}, OwnAll K Hs H vs xs fp → OwnAll K Hs H ws ys fq → OwnAll K Hs H (vs ++ ws) (xs ++ ys) (fp ++ fq)
  | _, _, _, _, _, _, .nil, s => s
  | _, _, _, _, _, _, .cons h r, s => by
    rw [List.append_assoc]
    exact .cons h (OwnAll.append r s)
theorem OwnKV.vals : ∀ {vs : List (Key × V)} {xs : List (PyData × Sl)} {ds : List (PyData × PyData)} {fp : List Addr}, OwnKV K Hs H vs xs fp → valsK xs = some ds → fp = [] ∧ DnKV K Hs vs ds
  | _, _, _, _, .nil, e => by
    simp [valsK] at e
    subst e
    exact ⟨rfl, .nil⟩
  | _, _, _, _, .cons (x := x) h r, e => by
    cases h with
    | val h =>
      simp only [valsK, Option.map_eq_some_iff] at e
      obtain ⟨es, h1, rfl⟩ := e
      obtain ⟨e, q⟩ := OwnKV.vals r h1
      subst e
      exact ⟨rfl, .cons h q⟩
    | _ => simp [valsK] at e
theorem OwnTV.vals : ∀ {vs : List (List Key × V)} {xs : List (PyData × Sl)} {ds : List (PyData × PyData)} {fp : List Addr}, OwnTV K Hs H vs xs fp → valsK xs = some ds → fp = [] ∧ DnTV K Hs vs ds
  | _, _, _, _, .nil, e => by
    simp [valsK] at e
    subst e
    exact ⟨rfl, .nil⟩
  | _, _, _, _, .cons (x := x) h r, e => by
    cases h with
    | val h =>
      simp only [valsK, Option.map_eq_some_iff] at e
      obtain ⟨es, h1, rfl⟩ := e
      obtain ⟨e, q⟩ := OwnTV.vals r h1
      subst e
      exact ⟨rfl, .cons h q⟩
    | _ => simp [valsK] at e
/-- a thing of one level: data over the heap in which its one object is shared -/
theorem OwnAt.flat {v : V} {s : Sl} {fp : List Addr} {d : PyData} (h : OwnAt K Hs H v s fp) (e : flat s = some d) : (fp = [] ∧ Dn K Hs v d) ∨ ∃ p o, fp = [p] ∧ v = .ref p ∧ H p = some o ∧ ∀ Hs', Ex Hs Hs' → Hs' p = some o → Dn K Hs' v d := by
  cases h with
  | val h =>
    cases e
    exact .inl ⟨rfl, h⟩
  | lst h r =>
    simp only [Dl.flat, Option.map_eq_some_iff] at e
    obtain ⟨ds, h1, rfl⟩ := e
    rw [vals_some h1] at r
    obtain ⟨rfl, q⟩ := r.vals
    exact .inr ⟨_, _, rfl, rfl, h, fun Hs' e hp => .lst hp (q.ex e)⟩
  | tup h r => simp [Dl.flat] at e
  | dK h r =>
    simp only [Dl.flat, Option.map_eq_some_iff] at e
    obtain ⟨ds, h1, rfl⟩ := e
    obtain ⟨rfl, q⟩ := r.vals h1
    exact .inr ⟨_, _, rfl, rfl, h, fun Hs' e hp => .dK (.inl hp) (q.ex e)⟩
  | dT h r =>
    simp only [Dl.flat, Option.map_eq_some_iff] at e
    obtain ⟨ds, h1, rfl⟩ := e
    obtain ⟨rfl, q⟩ := r.vals h1
    exact .inr ⟨_, _, rfl, rfl, h, fun Hs' e hp => .dT hp (q.ex e)⟩
  | obj h h2 r => simp [Dl.flat] at e
end

/-! ### the context, the relation -/
abbrev WX := Value → Option Addr → L2.St → Hp → Prop
/-- what stays through the whole run: the written part, the tables of code objects, the classes by name -/
structure Cg where
  K : PySem.W.Frag
  T : List (Addr × Str)
  cls : String → Option Addr
/-- what stays through a def's run: the slots that must keep their thing (A), what is wished of an exception (W) -/
structure Cn extends Cg where
  A : List (Nat × V)
  W : WX
/-- names and what they hold; Hs: the shared data; Fo: the things of others, which stay -/
structure Rel (g : Cg) (A : List (Nat × V)) (Fo Hs H : Hp) (σ : L2.St) (ρ : Env) : Prop where
  len : ρ.length = σ.length
  env : ∃ fps : Nat → List Addr, (∀ i s, ρ[i]? = some (some s) → ∃ v, σ[i]? = some (some v) ∧ OwnAt g.K Hs H v s (fps i)) ∧ (∀ i, (fps i).Nodup) ∧ (∀ i j p, p ∈ fps i → p ∈ fps j → i = j) ∧ ∀ i p, p ∈ fps i → Hs p = none ∧ Fo p = none ∧ ∃ o, H p = some o ∧ isTbl o = false
  hs : Ex Hs H
  fo : Ex Fo H
  dj : ∀ b, Hs b ≠ none → Fo b = none
  nt : ∀ b o, Hs b = some o → isTbl o = false
  ft : ∀ b o, Fo b = some o → isTbl o = false
  tabs : LamX.Tabs g.T H
  anch : ∀ p ∈ A, σ[p.1]? = some (some p.2)
end Dl

/-! Dw2: the relation kept by what code does. -/
namespace Dl
open PySem L2
def fpS (f : Nat → List Addr) (i : Nat) (l : List Addr) : Nat → List Addr := fun j => if j = i then l else f j
theorem fpS_same {f : Nat → List Addr} {i : Nat} {l : List Addr} : fpS f i l i = l := if_pos rfl
theorem fpS_ne {f : Nat → List Addr} {i j : Nat} {l : List Addr} (h : j ≠ i) : fpS f i l j = f j := if_neg h
theorem fpS_mem {f : Nat → List Addr} {i j : Nat} {l : List Addr} {p : Addr} (h : p ∈ fpS f i l j) : (j = i ∧ p ∈ l) ∨ (j ≠ i ∧ p ∈ f j) := by
  by_cases e : j = i
  · subst e
    rw [fpS_same] at h
    exact .inl ⟨rfl, h⟩
  · rw [fpS_ne e] at h
    exact .inr ⟨e, h⟩
theorem fpS_nd {f : Nat → List Addr} {i : Nat} {l : List Addr} (hf : ∀ j, (f j).Nodup) (hl : l.Nodup) : ∀ j, (fpS f i l j).Nodup := fun j => by
  by_cases e : j = i
  · subst e
    rw [fpS_same]
    exact hl
  · rw [fpS_ne e]
    exact hf j
theorem get_app {α : Type} {xs : List α} {y z : α} {j : Nat} (h : (xs ++ [y])[j]? = some z) (n : j ≠ xs.length) : xs[j]? = some z := by
  have hl := (List.getElem?_eq_some_iff.mp h).1
  simp at hl
  rw [List.getElem?_append_left (by omega)] at h
  exact h
section
variable {g : Cg} {A : List (Nat × V)} {Fo Hs Hs' H H' : Hp} {σ : L2.St} {ρ : Env} {v : V} {s : Sl} {d : PyData} {p : Addr} {o : HO} {i : Nat}
/-- only new things are laid (tables may grow) -/
theorem Rel.step (R : Rel g A Fo Hs H σ ρ) (e : Ex Hs Hs') (k : ∀ p o, H p = some o → isTbl o = false → H' p = some o) (hs : Ex Hs' H') (nw : ∀ p, Hs' p ≠ none → Hs p = none → H p = none) (nt : ∀ b o, Hs' b = some o → isTbl o = false) (tabs : LamX.Tabs g.T H') : Rel g A Fo Hs' H' σ ρ := by
  obtain ⟨fps, h1, h2, h3, h4⟩ := R.env
  refine ⟨R.len, ⟨fps, fun i s hi => ?_, h2, h3, fun i p hp => ?_⟩, hs, fun a o h => ?_, fun b hb => ?_, nt, R.ft, tabs, R.anch⟩
  · obtain ⟨v, hv, ho⟩ := h1 i s hi
    refine ⟨v, hv, ho.frame e fun p hp => ?_⟩
    obtain ⟨n1, n2, o, n3, n4⟩ := h4 i p hp
    rw [n3]
    exact k p o n3 n4
  · obtain ⟨n1, n2, o, n3, n4⟩ := h4 i p hp
    refine ⟨?_, n2, o, k p o n3 n4, n4⟩
    cases q : Hs' p with
    | none => rfl
    | some o' =>
      have := nw p (by rw [q]; simp) n1
      rw [n3] at this
      cases this
  · exact k a o (R.fo a o h) (R.ft a o h)
  · cases q : Hs b with
    | some o => exact R.dj b (by rw [q]; simp)
    | none => exact R.fo.free (nw b hb q)
theorem tabs_new {T : List (Addr × Str)} (t : LamX.Tabs T H) (h : H p = none) : LamX.Tabs T (upd H p o) := t.ext fun b u e => by
  rw [upd_ne (ne_of_none e h)]
  exact e
theorem kept_new (h : H p = none) : ∀ q u, H q = some u → isTbl u = false → upd H p o q = some u := fun q u e _ => by
  rw [upd_ne (ne_of_none e h)]
  exact e
/-- a new shared object -/
theorem Rel.newS (R : Rel g A Fo Hs H σ ρ) (h : H p = none) (n : isTbl o = false) : Rel g A Fo (upd Hs p o) (upd H p o) σ ρ := by
  have h0 : Hs p = none := R.hs.free h
  refine R.step (Ex.new h0) (kept_new h) R.hs.both (fun q a b => ?_) (fun b u e => ?_) (tabs_new R.tabs h)
  · by_cases hq : q = p
    · rw [hq]; exact h
    · rw [upd_ne hq] at a; exact absurd b a
  · by_cases hq : b = p
    · rw [hq, upd_same] at e; cases e; exact n
    · rw [upd_ne hq] at e; exact R.nt b u e
/-- a new object beside -/
theorem Rel.newB (R : Rel g A Fo Hs H σ ρ) (h : H p = none) : Rel g A Fo Hs (upd H p o) σ ρ :=
  R.step (Ex.refl _) (kept_new h) (R.hs.mut (R.hs.free h)) (fun q a b => absurd b a) R.nt (tabs_new R.tabs h)
/-- a name holds data -/
theorem Rel.setV (R : Rel g A Fo Hs H σ ρ) (hd : Dn g.K Hs v d) (ha : ∀ q ∈ A, q.1 ≠ i) : Rel g A Fo Hs H (σ.set i (some v)) (ρ.set i (some (.val d))) := by
  obtain ⟨fps, h1, h2, h3, h4⟩ := R.env
  refine ⟨by simp [R.len], ⟨fpS fps i [], fun j s hj => ?_, fpS_nd h2 List.nodup_nil, fun j k p hp hk => ?_, fun j p hp => ?_⟩, R.hs, R.fo, R.dj, R.nt, R.ft, R.tabs, fun q hq => ?_⟩
  · by_cases hji : j = i
    · subst hji
      have hlt : j < ρ.length := by
        have := (List.getElem?_eq_some_iff.mp hj).1
        simpa using this
      rw [List.getElem?_set_self hlt] at hj
      cases hj
      refine ⟨v, by rw [List.getElem?_set_self (by rw [← R.len]; exact hlt)], ?_⟩
      rw [fpS_same]
      exact .val hd
    · rw [List.getElem?_set_ne (Ne.symm hji)] at hj
      obtain ⟨w, h5, h6⟩ := h1 j s hj
      refine ⟨w, by rw [List.getElem?_set_ne (Ne.symm hji)]; exact h5, ?_⟩
      rw [fpS_ne hji]
      exact h6
  · rcases fpS_mem hp with ⟨_, z⟩ | ⟨_, a⟩
    · simp at z
    · rcases fpS_mem hk with ⟨_, z⟩ | ⟨_, b⟩
      · simp at z
      · exact h3 j k p a b
  · rcases fpS_mem hp with ⟨_, z⟩ | ⟨_, a⟩
    · simp at z
    · exact h4 j p a
  · rw [List.getElem?_set_ne (Ne.symm (ha q hq))]
    exact R.anch q hq
/-- a name holds nothing that we know -/
theorem Rel.setN (R : Rel g A Fo Hs H σ ρ) (x : Option V) (ha : ∀ q ∈ A, q.1 ≠ i) : Rel g A Fo Hs H (σ.set i x) (ρ.set i none) := by
  obtain ⟨fps, h1, h2, h3, h4⟩ := R.env
  refine ⟨by simp [R.len], ⟨fps, fun j s hj => ?_, h2, h3, h4⟩, R.hs, R.fo, R.dj, R.nt, R.ft, R.tabs, fun q hq => ?_⟩
  · by_cases hji : j = i
    · subst hji
      have hlt : j < ρ.length := by
        have := (List.getElem?_eq_some_iff.mp hj).1
        simpa using this
      rw [List.getElem?_set_self hlt] at hj
      cases hj
    · rw [List.getElem?_set_ne (Ne.symm hji)] at hj
      obtain ⟨w, h5, h6⟩ := h1 j s hj
      exact ⟨w, by rw [List.getElem?_set_ne (Ne.symm hji)]; exact h5, h6⟩
  · rw [List.getElem?_set_ne (Ne.symm (ha q hq))]
    exact R.anch q hq
/-- beside the names stands one more thing, s at v -/
abbrev RelN (g : Cg) (A : List (Nat × V)) (Fo Hs H : Hp) (σ : L2.St) (ρ : Env) (v : V) (s : Sl) : Prop := Rel g A Fo Hs H (σ ++ [some v]) (ρ ++ [some s])
/-- the anchors are names -/
def ALt (A : List (Nat × V)) (σ : L2.St) : Prop := ∀ q ∈ A, q.1 < σ.length
theorem Rel.alt (R : Rel g A Fo Hs H σ ρ) : ALt A σ := fun q hq => (List.getElem?_eq_some_iff.mp (R.anch q hq)).1
theorem Rel.topN (R : RelN g A Fo Hs H σ ρ v s) : ρ.length = σ.length := by simpa using R.len
theorem RelN.drop (R : RelN g A Fo Hs H σ ρ v s) (ha : ALt A σ) : Rel g A Fo Hs H σ ρ := by
  have hlen : ρ.length = σ.length := by simpa using R.len
  obtain ⟨fps, h1, h2, h3, h4⟩ := R.env
  refine ⟨hlen, ⟨fps, fun j s hj => ?_, h2, h3, h4⟩, R.hs, R.fo, R.dj, R.nt, R.ft, R.tabs, fun q hq => ?_⟩
  · have hlt := (List.getElem?_eq_some_iff.mp hj).1
    obtain ⟨w, h5, h6⟩ := h1 j s (by rw [List.getElem?_append_left hlt]; exact hj)
    exact ⟨w, by rw [List.getElem?_append_left (by omega)] at h5; exact h5, h6⟩
  · have := R.anch q hq
    rw [List.getElem?_append_left (ha q hq)] at this
    exact this
/-- a new object p, a thing s of its own -/
theorem Rel.newN (R : Rel g A Fo Hs H σ ρ) (h : H p = none) (n : isTbl o = false) (hs : OwnAt g.K Hs (upd H p o) (.ref p) s [p]) : RelN g A Fo Hs (upd H p o) σ ρ (.ref p) s := by
  have R' := R.newB (o := o) h
  obtain ⟨fps, h1, h2, h3, h4⟩ := R.env
  obtain ⟨h1', h4'⟩ : (∀ i s, ρ[i]? = some (some s) → ∃ v, σ[i]? = some (some v) ∧ OwnAt g.K Hs (upd H p o) v s (fps i)) ∧ (∀ i q, q ∈ fps i → Hs q = none ∧ Fo q = none ∧ ∃ u, upd H p o q = some u ∧ isTbl u = false) := by
    refine ⟨fun i s hi => ?_, fun i q hq => ?_⟩
    · obtain ⟨v, hv, ho⟩ := h1 i s hi
      refine ⟨v, hv, ho.frame (Ex.refl _) fun q hq => ?_⟩
      obtain ⟨_, _, u, h5, _⟩ := h4 i q hq
      rw [upd_ne (ne_of_none h5 h)]
    · obtain ⟨n1, n2, u, n3, n4⟩ := h4 i q hq
      exact ⟨n1, n2, u, by rw [upd_ne (ne_of_none n3 h)]; exact n3, n4⟩
  have np : ∀ i, p ∉ fps i := fun i hp => by
    obtain ⟨_, _, u, h5, _⟩ := h4 i p hp
    rw [h] at h5; cases h5
  have hl := R.len
  refine ⟨by simp [hl], ⟨fpS fps σ.length [p], fun j t hj => ?_, fpS_nd h2 (by simp), fun j k q hp hk => ?_, fun j q hp => ?_⟩, R'.hs, R'.fo, R'.dj, R'.nt, R'.ft, R'.tabs, fun q hq => ?_⟩
  · by_cases hji : j = σ.length
    · subst hji
      rw [← hl, List.getElem?_append_right (Nat.le_refl _)] at hj
      simp at hj
      subst hj
      refine ⟨.ref p, by rw [List.getElem?_append_right (Nat.le_refl _)]; simp, ?_⟩
      rw [fpS_same]
      exact hs
    · obtain ⟨w, h5, h6⟩ := h1' j t (get_app hj (by omega))
      refine ⟨w, by rw [List.getElem?_append_left (List.getElem?_eq_some_iff.mp h5).1]; exact h5, ?_⟩
      rw [fpS_ne hji]
      exact h6
  · rcases fpS_mem hp with ⟨e, z⟩ | ⟨e, z⟩
    · rcases fpS_mem hk with ⟨e2, z2⟩ | ⟨e2, z2⟩
      · rw [e, e2]
      · have e : q = p := by simpa using z
        exact absurd (e ▸ z2) (np k)
    · rcases fpS_mem hk with ⟨e2, z2⟩ | ⟨e2, z2⟩
      · have e : q = p := by simpa using z2
        exact absurd (e ▸ z) (np j)
      · exact h3 j k q z z2
  · rcases fpS_mem hp with ⟨e, z⟩ | ⟨e, z⟩
    · have e : q = p := by simpa using z
      subst e
      exact ⟨R.hs.free h, R.fo.free h, o, upd_same, n⟩
    · exact h4' j q z
  · have := R.anch q hq
    rw [List.getElem?_append_left (List.getElem?_eq_some_iff.mp this).1]
    exact this
/-- the thing beside is given to a name -/
theorem RelN.set (R : RelN g A Fo Hs H σ ρ v s) (hA : ALt A σ) (ha : ∀ q ∈ A, q.1 ≠ i) : Rel g A Fo Hs H (σ.set i (some v)) (ρ.set i (some s)) := by
  have hlen : ρ.length = σ.length := by simpa using R.len
  obtain ⟨fps, h1, h2, h3, h4⟩ := R.env
  have htop : OwnAt g.K Hs H v s (fps σ.length) := by
    obtain ⟨w, h5, h6⟩ := h1 σ.length s (by rw [← hlen, List.getElem?_append_right (Nat.le_refl _)]; simp)
    rw [List.getElem?_append_right (Nat.le_refl _)] at h5
    simp at h5
    rw [h5]
    exact h6
  refine ⟨by simp [hlen], ⟨fpS (fpS fps σ.length []) i (fps σ.length), fun j t hj => ?_, fpS_nd (fpS_nd h2 List.nodup_nil) (h2 _), fun j k q hp hk => ?_, fun j q hp => ?_⟩, R.hs, R.fo, R.dj, R.nt, R.ft, R.tabs, fun q hq => ?_⟩
  · have hlt : j < ρ.length := by
      have := (List.getElem?_eq_some_iff.mp hj).1
      simpa using this
    by_cases hji : j = i
    · subst hji
      rw [List.getElem?_set_self hlt] at hj
      cases hj
      refine ⟨v, by rw [List.getElem?_set_self (by omega)], ?_⟩
      rw [fpS_same]
      exact htop
    · rw [List.getElem?_set_ne (Ne.symm hji)] at hj
      obtain ⟨w, h5, h6⟩ := h1 j t (by rw [List.getElem?_append_left hlt]; exact hj)
      refine ⟨w, by rw [List.getElem?_set_ne (Ne.symm hji)]; rw [List.getElem?_append_left (by omega)] at h5; exact h5, ?_⟩
      rw [fpS_ne hji, fpS_ne (by omega)]
      exact h6
  · have one : ∀ {j q}, q ∈ fpS (fpS fps σ.length []) i (fps σ.length) j → (j = i ∧ q ∈ fps σ.length) ∨ (j ≠ i ∧ j ≠ σ.length ∧ q ∈ fps j) := fun {j q} h => by
      rcases fpS_mem h with z | ⟨a, z⟩
      · exact .inl z
      · rcases fpS_mem z with ⟨_, z⟩ | ⟨b, z⟩
        · simp at z
        · exact .inr ⟨a, b, z⟩
    rcases one hp with ⟨a, z⟩ | ⟨a, b, z⟩
    · rcases one hk with ⟨a2, z2⟩ | ⟨a2, b2, z2⟩
      · rw [a, a2]
      · exact absurd (h3 _ _ _ z2 z) b2
    · rcases one hk with ⟨a2, z2⟩ | ⟨a2, b2, z2⟩
      · exact absurd (h3 _ _ _ z z2) b
      · exact h3 j k q z z2
  · rcases fpS_mem hp with ⟨a, z⟩ | ⟨a, z⟩
    · exact h4 _ q z
    · rcases fpS_mem z with ⟨_, z⟩ | ⟨b, z⟩
      · simp at z
      · exact h4 j q z
  · have := R.anch q hq
    rw [List.getElem?_append_left (hA q hq)] at this
    rw [List.getElem?_set_ne (Ne.symm (ha q hq))]
    exact this
/-- the thing beside becomes shared data -/
theorem RelN.freeze (R : RelN g A Fo Hs H σ ρ v s) (ha : ALt A σ) (hd : flat s = some d) : ∃ Hs', Ex Hs Hs' ∧ Rel g A Fo Hs' H σ ρ ∧ Dn g.K Hs' v d := by
  have R0 := R.drop ha
  have hlen : ρ.length = σ.length := R0.len
  obtain ⟨fps, h1, h2, h3, h4⟩ := R.env
  have htop : OwnAt g.K Hs H v s (fps σ.length) := by
    obtain ⟨w, h5, h6⟩ := h1 σ.length s (by rw [← hlen, List.getElem?_append_right (Nat.le_refl _)]; simp)
    rw [List.getElem?_append_right (Nat.le_refl _)] at h5
    simp at h5
    rw [h5]
    exact h6
  rcases htop.flat hd with ⟨e, q⟩ | ⟨p, o, e, rfl, hp, q⟩
  · exact ⟨Hs, Ex.refl _, R0, q⟩
  · have hm : p ∈ fps σ.length := by rw [e]; simp
    obtain ⟨n1, n2, u, n3, n4⟩ := h4 _ p hm
    rw [hp] at n3; cases n3
    refine ⟨upd Hs p o, Ex.new n1, ?_, q _ (Ex.new n1) upd_same⟩
    have exH : Ex (upd Hs p o) H := fun a w e => by
      by_cases hq : a = p
      · rw [hq, upd_same] at e; cases e; rw [hq]; exact hp
      · rw [upd_ne hq] at e; exact R.hs a w e
    refine ⟨hlen, ⟨fpS fps σ.length [], fun j t hj => ?_, fpS_nd h2 List.nodup_nil, fun j k w hp hk => ?_, fun j w hw => ?_⟩, exH, R.fo, fun b hb => ?_, fun b w e => ?_, R.ft, R.tabs, R0.anch⟩
    · have hlt := (List.getElem?_eq_some_iff.mp hj).1
      obtain ⟨w, h5, h6⟩ := h1 j t (by rw [List.getElem?_append_left hlt]; exact hj)
      refine ⟨w, by rw [List.getElem?_append_left (by omega)] at h5; exact h5, ?_⟩
      rw [fpS_ne (by omega)]
      exact h6.frame (Ex.new n1) fun _ _ => rfl
    · rcases fpS_mem hp with ⟨_, z⟩ | ⟨a, z⟩
      · simp at z
      · rcases fpS_mem hk with ⟨_, z2⟩ | ⟨a2, z2⟩
        · simp at z2
        · exact h3 j k w z z2
    · rcases fpS_mem hw with ⟨_, z⟩ | ⟨a, z⟩
      · simp at z
      · obtain ⟨m1, m2, m3⟩ := h4 j w z
        refine ⟨?_, m2, m3⟩
        rw [upd_ne (fun z2 => a (h3 j σ.length w z (by rw [z2]; exact hm)))]
        exact m1
    · by_cases hq : b = p
      · rw [hq]; exact n2
      · rw [upd_ne hq] at hb; exact R.dj b hb
    · by_cases hq : b = p
      · rw [hq, upd_same] at e; cases e; exact n4
      · rw [upd_ne hq] at e; exact R.nt b w e
theorem tabs_write {T : List (Addr × Str)} {u : HO} (t : LamX.Tabs T H) (h : H p = some u) (h1 : isTbl u = false) (h2 : ∀ q, u ≠ LamX.CodeO p q) : LamX.Tabs T (upd H p o) := fun q hq => by
  obtain ⟨ps, t1, t2, t3⟩ := t q hq
  refine ⟨ps, by rw [upd_ne (fun z => by rw [z, h] at t1; cases t1; cases h1)]; exact t1, t2, fun pos cv hc => ?_⟩
  obtain ⟨c', e1, e2⟩ := t3 pos cv hc
  exact ⟨c', e1, by rw [upd_ne (fun z => by rw [z, h] at e2; cases e2; exact h2 _ rfl)]; exact e2⟩
/-- a thing of a name's own is changed -/
theorem Rel.write {s' : Sl} {u : HO} (R : Rel g A Fo Hs H σ ρ) (hi : ρ[i]? = some (some s)) (hv : σ[i]? = some (some (.ref p))) (so : isOwn s = true) (n : isTbl o = false)
    (h : ∀ fp, OwnAt g.K Hs H (.ref p) s fp → fp.Nodup → ∃ fp', OwnAt g.K Hs (upd H p o) (.ref p) s' fp' ∧ fp'.Nodup ∧ ∀ q ∈ fp', q ∈ fp) (hu : H p = some u) (h1 : isTbl u = false) (h2 : ∀ q, u ≠ LamX.CodeO p q) : Rel g A Fo Hs (upd H p o) σ (ρ.set i (some s')) := by
  have ht := tabs_write (o := o) R.tabs hu h1 h2
  obtain ⟨fps, h1, h2, h3, h4⟩ := R.env
  obtain ⟨v, hv', ho⟩ := h1 i s hi
  rw [hv] at hv'; cases hv'
  obtain ⟨q, fq, e1, e2⟩ := ho.at so
  cases e1
  have hm : p ∈ fps i := by rw [e2]; simp
  obtain ⟨n1, n2, u, n3, n4⟩ := h4 i p hm
  obtain ⟨fp', k1, k2, k3⟩ := h _ ho (h2 i)
  have hlt := (List.getElem?_eq_some_iff.mp hi).1
  have mem : ∀ j q, q ∈ fpS fps i fp' j → q ∈ fps j := fun j q hq => by
    rcases fpS_mem hq with ⟨a, z⟩ | ⟨a, z⟩
    · rw [a]; exact k3 q z
    · exact z
  refine ⟨by simp [R.len], ⟨fpS fps i fp', fun j t hj => ?_, fpS_nd h2 k2, fun j k q hp hk => h3 j k q (mem j q hp) (mem k q hk), fun j q hq => ?_⟩, R.hs.mut n1, R.fo.mut n2, R.dj, R.nt, R.ft, ht, R.anch⟩
  · by_cases hji : j = i
    · subst hji
      rw [List.getElem?_set_self hlt] at hj
      cases hj
      refine ⟨_, hv, ?_⟩
      rw [fpS_same]
      exact k1
    · rw [List.getElem?_set_ne (Ne.symm hji)] at hj
      obtain ⟨w, h5, h6⟩ := h1 j t hj
      refine ⟨w, h5, ?_⟩
      rw [fpS_ne hji]
      exact h6.frame (Ex.refl _) fun q hq => upd_ne fun z => hji (h3 j i q hq (by rw [z]; exact hm))
  · obtain ⟨m1, m2, w, m3, m4⟩ := h4 j q (mem j q hq)
    refine ⟨m1, m2, ?_⟩
    by_cases hqp : q = p
    · rw [hqp]; exact ⟨o, upd_same, n⟩
    · exact ⟨w, by rw [upd_ne hqp]; exact m3, m4⟩
/-- what a name holds -/
theorem Rel.get (R : Rel g A Fo Hs H σ ρ) (hi : ρ[i]? = some (some s)) : ∃ v fp, σ[i]? = some (some v) ∧ OwnAt g.K Hs H v s fp := by
  obtain ⟨fps, h1, _⟩ := R.env
  obtain ⟨v, hv, ho⟩ := h1 i s hi
  exact ⟨v, _, hv, ho⟩
end
end Dl

/-! Dw3: the judgements: a piece of code does what its reading over data says. -/
namespace Dl
open PySem L2
theorem keyD_ne {k : Key} : ¬ (PyData.none = keyD k) := by
  cases k with
  | inl i => intro h; cases h
  | inr i => intro h; cases h
/-- a result in the slots -/
def ResAt (K : PySem.W.Frag) (Hs : Hp) (σ : L2.St) (v : V) : R → Prop
  | .d d => Dn K Hs v d
  | .b i => σ[i]? = some (some v)
inductive ResAll (K : PySem.W.Frag) (Hs : Hp) (σ : L2.St) : List V → List R → Prop
  | nil : ResAll K Hs σ [] []
  | cons {v : V} {vs : List V} {r : R} {rs : List R} : ResAt K Hs σ v r → ResAll K Hs σ vs rs → ResAll K Hs σ (v :: vs) (r :: rs)
theorem ResAt.ex {K : PySem.W.Frag} {Hs Hs' : Hp} {σ : L2.St} {v : V} {r : R} (h : ResAt K Hs σ v r) (e : Ex Hs Hs') : ResAt K Hs' σ v r := by
  cases r with
  | d d => exact Dn.ex e h
  | b i => exact h
theorem ResAll.ex {K : PySem.W.Frag} {Hs Hs' : Hp} {σ : L2.St} (e : Ex Hs Hs') : ∀ {vs : List V} {rs : List R}, ResAll K Hs σ vs rs → ResAll K Hs' σ vs rs
  | _, _, .nil => .nil
  | _, _, .cons h r => .cons (h.ex e) (ResAll.ex e r)
/-- data whose top object may be someone's own, what is within is shared -/
inductive DnS (K : PySem.W.Frag) (Hs H : Hp) : V → PyData → Prop
  | st {v : V} {d : PyData} : Dn K Hs v d → DnS K Hs H v d
  | ls {p : Addr} {vs : List V} {ds : List PyData} : H p = some (.lst vs) → DnAll K Hs vs ds → DnS K Hs H (.ref p) (.list ds)
  | dk {p : Addr} {kvs : List (Key × V)} {ds : List (PyData × PyData)} : H p = some (.dK kvs) → DnKV K Hs kvs ds → DnS K Hs H (.ref p) (.dict ds)
  | dt {p : Addr} {kvs : List (List Key × V)} {ds : List (PyData × PyData)} : H p = some (.dT kvs) → DnTV K Hs kvs ds → DnS K Hs H (.ref p) (.dict ds)
inductive DnSs (K : PySem.W.Frag) (Hs H : Hp) : List V → List PyData → Prop
  | nil : DnSs K Hs H [] []
  | cons {v : V} {vs : List V} {d : PyData} {ds : List PyData} : DnS K Hs H v d → DnSs K Hs H vs ds → DnSs K Hs H (v :: vs) (d :: ds)
section
variable {K : PySem.W.Frag} {Hs H : Hp} {v : V} {d : PyData}
theorem DnS.dn (h : DnS K Hs H v d) (e : Ex Hs H) : Dn K H v d := by
  cases h with
  | st h => exact h.ex e
  | ls h r => exact .lst h (r.ex e)
  | dk h r => exact .dK (.inl h) (r.ex e)
  | dt h r => exact .dT h (r.ex e)
theorem DnS.int {i : Int} (h : DnS K Hs H v (.int i)) : v = .int i := by
  cases h with
  | st h => cases h; rfl
theorem DnS.bool {b : Bool} (h : DnS K Hs H v (.bool b)) : v = .bl b := by
  cases h with
  | st h => cases h; rfl
theorem DnS.str {x : Str} (h : DnS K Hs H v (.str x)) : v = .str x := by
  cases h with
  | st h => cases h; rfl
theorem DnS.none (h : DnS K Hs H v .none) : v = .non := by
  cases h with
  | st h => cases h; rfl
theorem DnS.list {ds : List PyData} (h : DnS K Hs H v (.list ds)) (e : Ex Hs H) : ∃ p vs, v = .ref p ∧ H p = some (.lst vs) ∧ DnAll K Hs vs ds := by
  cases h with
  | st h =>
    cases h with
    | lst h r => exact ⟨_, _, rfl, e.at h rfl, r⟩
  | ls h r => exact ⟨_, _, rfl, h, r⟩
theorem DnS.tuple {ds : List PyData} (h : DnS K Hs H v (.tuple ds)) (e : Ex Hs H) : ∃ p vs, v = .ref p ∧ H p = some (.tup vs) ∧ DnAll K Hs vs ds ∧ Dn K Hs v (.tuple ds) := by
  cases h with
  | st h0 =>
    cases h0 with
    | tup h r => exact ⟨_, _, rfl, e.at h rfl, r, .tup h r⟩
theorem DnS.scr {ns : List Int} (h : DnS K Hs H v (scrD ns)) (e : Ex Hs H) : ∃ p, v = .ref p ∧ SqL K H p (ns.map V.int) := by
  cases h with
  | st h =>
    unfold scrD at h
    generalize hd : PyData.dict [(PyData.none, PyData.list (List.map PyData.int ns))] = d at h
    cases h with
    | scr h =>
      rename_i a ms
      unfold scrD at hd
      simp only [PyData.dict.injEq, List.cons.injEq, Prod.mk.injEq, PyData.list.injEq, and_true, true_and] at hd
      have : ns = ms := (List.map_inj_right (fun x y h => by injection h)).mp hd
      rw [this]
      exact ⟨_, rfl, e.sqL h⟩
    | dK h r =>
      cases hd
      generalize hk : (PyData.none, PyData.list (List.map PyData.int ns)) = kv at r
      cases r with
      | cons h2 r2 =>
        injection hk with hk1 hk2
        exact absurd hk1 keyD_ne
    | dT h r =>
      cases hd
      generalize hk : (PyData.none, PyData.list (List.map PyData.int ns)) = kv at r
      cases r with
      | cons h2 r2 =>
        injection hk with hk1 hk2
        cases hk1
    | _ => cases hd
  | dk h r =>
    generalize hk : (PyData.none, PyData.list (List.map PyData.int ns)) = kv at r
    cases r with
    | cons h2 r2 =>
      injection hk with hk1 hk2
      exact absurd hk1 keyD_ne
  | dt h r =>
    generalize hk : (PyData.none, PyData.list (List.map PyData.int ns)) = kv at r
    cases r with
    | cons h2 r2 =>
      injection hk with hk1 hk2
      cases hk1
end
section
variable {g : Cg} {A : List (Nat × V)} {Fo Hs Hs' H H' : Hp} {σ : L2.St} {ρ : Env} {v : V} {vs : List V} {s : Sl} {d : PyData} {ds : List PyData} {r : R} {rs : List R}
theorem view_out {i : Nat} (e : Dl.view ρ (.b i) = some d) : ∃ s, ρ[i]? = some (some s) ∧ flat s = some d := by
  simp only [Dl.view] at e
  split at e
  · exact ⟨_, ‹_›, e⟩
  · cases e
theorem eV_out {i : Nat} {ok : Dl.R → Env → Prop} {ex : KX} (q : eV i ρ ok ex) : (∃ d, ρ[i]? = some (some (.val d)) ∧ ok (.d d) ρ) ∨ ∃ s, ρ[i]? = some (some s) ∧ isOwn s = true ∧ ok (.b i) ρ := by
  simp only [eV] at q
  split at q
  · exact .inl ⟨_, ‹_›, q⟩
  · rename_i s hn hi
    refine .inr ⟨s, hi, ?_, q⟩
    cases s with
    | val d => exact absurd rfl (hn d)
    | _ => rfl
  · exact q.elim
theorem Rel.view (R : Rel g A Fo Hs H σ ρ) (a : ResAt g.K Hs σ v r) (e : view ρ r = some d) : DnS g.K Hs H v d := by
  cases r with
  | d x =>
    cases e
    exact .st a
  | b i =>
    obtain ⟨s, hi, e⟩ := view_out e
    · obtain ⟨w, fp, hw, ho⟩ := R.get hi
      have a : σ[i]? = some (some v) := a
      rw [a] at hw; cases hw
      cases ho with
      | val h => cases e; exact .st h
      | lst h r =>
        simp only [flat, Option.map_eq_some_iff] at e
        obtain ⟨ds, h1, rfl⟩ := e
        rw [vals_some h1] at r
        exact .ls h r.vals.2
      | tup h r => simp [flat] at e
      | dK h r =>
        simp only [flat, Option.map_eq_some_iff] at e
        obtain ⟨ds, h1, rfl⟩ := e
        exact .dk h (r.vals h1).2
      | dT h r =>
        simp only [flat, Option.map_eq_some_iff] at e
        obtain ⟨ds, h1, rfl⟩ := e
        exact .dt h (r.vals h1).2
      | obj h h2 r => simp [flat] at e
theorem Rel.views (R : Rel g A Fo Hs H σ ρ) : ∀ {vs : List V} {rs : List Dl.R} {ds : List PyData}, ResAll g.K Hs σ vs rs → Dl.views ρ rs = some ds → DnSs g.K Hs H vs ds
  | _, _, _, .nil, e => by
    simp only [views_nil, Option.some.injEq] at e
    subst e
    exact .nil
  | _, _, _, .cons a r, e => by
    simp only [views_cons, Option.bind_eq_some_iff, Option.map_eq_some_iff] at e
    obtain ⟨d, h1, es, h2, rfl⟩ := e
    exact .cons (R.view a h1) (Rel.views R r h2)
/-- what an operation gives: shared data, or a new object -/
def OutD (K : PySem.W.Frag) (Hs H : Hp) (v : V) (d : PyData) (H' : Hp) : Prop :=
  (H' = H ∧ Dn K Hs v d) ∨ ∃ p o, H p = none ∧ isTbl o = false ∧ H' = upd H p o ∧ v = .ref p ∧ Dn K (upd Hs p o) v d
theorem OutD.rel (R : Rel g A Fo Hs H σ ρ) (o : OutD g.K Hs H v d H') : ∃ Hs', Ex Hs Hs' ∧ Rel g A Fo Hs' H' σ ρ ∧ Dn g.K Hs' v d := by
  rcases o with ⟨rfl, h⟩ | ⟨p, o, hp, nt, rfl, rfl, h⟩
  · exact ⟨Hs, Ex.refl _, R, h⟩
  · exact ⟨_, Ex.new (R.hs.free hp), R.newS hp nt, h⟩
theorem OutD.same {K : PySem.W.Frag} {v : V} {d : PyData} (h : Dn K Hs v d) : OutD K Hs H v d H := .inl ⟨rfl, h⟩
end

/-! ### the wishes -/
inductive XFs (K : PySem.W.Frag) (Hs : Hp) : List (Str × V) → List (Str × PyData) → Prop
  | nil : XFs K Hs [] []
  | cons {f : Str} {v : V} {vs : List (Str × V)} {d : PyData} {ds : List (Str × PyData)} : Dn K Hs v d → XFs K Hs vs ds → XFs K Hs ((f, v) :: vs) ((f, d) :: ds)
/-- the exception x has the class at C and the own dict d -/
def XAt (g : Cg) (Hs H : Hp) (x : XV) (C : Addr) (d : Option Addr) : Prop := g.cls x.cls = some C ∧ match d with
  | none => x.fs = []
  | some a => x.fs ≠ [] ∧ ∃ fs, H a = some (.xd fs) ∧ XFs g.K Hs fs x.fs
def Cn.ex (c : Cn) (Fo Hs : Hp) (σ : L2.St) : KX := fun x ρ' => ∀ (C : Addr) (d : Option Addr) (Hs' H' : Hp), Ex Hs Hs' → Rel c.toCg c.A Fo Hs' H' σ ρ' → XAt c.toCg Hs' H' x C d → c.W (.ref C) d σ H'
def Cn.ok (c : Cn) (Fo Hs : Hp) (σ : L2.St) (Q : VK) : R → Env → Prop := fun r ρ' => ∀ (v : V) (Hs' H' : Hp), Ex Hs Hs' → Rel c.toCg c.A Fo Hs' H' σ ρ' → ResAt c.K Hs' σ v r → Q v H'
def Cn.okN (c : Cn) (Fo Hs : Hp) (σ : L2.St) (Q : VK) : Sl → Env → Prop := fun s ρ' => ∀ (v : V) (Hs' H' : Hp), Ex Hs Hs' → RelN c.toCg c.A Fo Hs' H' σ ρ' v s → isOwn s = true → Q v H'
def Cn.okA (c : Cn) (Fo Hs : Hp) (σ : L2.St) (Q : List V → Hp → Prop) : List R → Env → Prop := fun rs ρ' => ∀ (vs : List V) (Hs' H' : Hp), Ex Hs Hs' → Rel c.toCg c.A Fo Hs' H' σ ρ' → ResAll c.K Hs' σ vs rs → Q vs H'
def Cn.okT (c : Cn) (Fo Hs : Hp) (σ : L2.St) (Q : Bool → Hp → Prop) : Bool → Env → Prop := fun b ρ' => ∀ (Hs' H' : Hp), Ex Hs Hs' → Rel c.toCg c.A Fo Hs' H' σ ρ' → Q b H'
def gE (c : Cn) (te : TED) : TE := fun σ H Q => ∃ Fo Hs ρ, Rel c.toCg c.A Fo Hs H σ ρ ∧ te ρ (c.ok Fo Hs σ Q) (c.ex Fo Hs σ)
def gN (c : Cn) (tn : TND) : TE := fun σ H Q => ∃ Fo Hs ρ, Rel c.toCg c.A Fo Hs H σ ρ ∧ tn ρ (c.okN Fo Hs σ Q) (c.ex Fo Hs σ)
def gA (c : Cn) (ta : TAD) : TA := fun σ H Q => ∃ Fo Hs ρ, Rel c.toCg c.A Fo Hs H σ ρ ∧ ta ρ (c.okA Fo Hs σ Q) (c.ex Fo Hs σ)
def gT (c : Cn) (tt : TTD) : TT := fun σ H Q => ∃ Fo Hs ρ, Rel c.toCg c.A Fo Hs H σ ρ ∧ tt ρ (c.okT Fo Hs σ Q) (c.ex Fo Hs σ)
theorem Cn.ex.at {c : Cn} {Fo Hs Hs1 : Hp} {σ : L2.St} {x : XV} {ρ : Env} (h : c.ex Fo Hs σ x ρ) (e : Ex Hs Hs1) : c.ex Fo Hs1 σ x ρ := fun C d Hs' H' e' R a => h C d Hs' H' (e.trans e') R a
theorem Cn.ok.at {c : Cn} {Fo Hs Hs1 : Hp} {σ : L2.St} {Q : VK} {r : R} {ρ : Env} (h : c.ok Fo Hs σ Q r ρ) (e : Ex Hs Hs1) : c.ok Fo Hs1 σ Q r ρ := fun v Hs' H' e' R a => h v Hs' H' (e.trans e') R a
theorem Cn.okN.at {c : Cn} {Fo Hs Hs1 : Hp} {σ : L2.St} {Q : VK} {r : Sl} {ρ : Env} (h : c.okN Fo Hs σ Q r ρ) (e : Ex Hs Hs1) : c.okN Fo Hs1 σ Q r ρ := fun v Hs' H' e' R a => h v Hs' H' (e.trans e') R a
theorem Cn.okA.at {c : Cn} {Fo Hs Hs1 : Hp} {σ : L2.St} {Q : List V → Hp → Prop} {r : List R} {ρ : Env} (h : c.okA Fo Hs σ Q r ρ) (e : Ex Hs Hs1) : c.okA Fo Hs1 σ Q r ρ := fun v Hs' H' e' R a => h v Hs' H' (e.trans e') R a
theorem Cn.okT.at {c : Cn} {Fo Hs Hs1 : Hp} {σ : L2.St} {Q : Bool → Hp → Prop} {r : Bool} {ρ : Env} (h : c.okT Fo Hs σ Q r ρ) (e : Ex Hs Hs1) : c.okT Fo Hs1 σ Q r ρ := fun Hs' H' e' R => h Hs' H' (e.trans e') R
structure JE (X : Cx) (c : Cn) (e : Expr) (te : TED) : Prop where
  run : PE X e (gE c te)
  mono : MonoE te
structure JN (X : Cx) (c : Cn) (e : Expr) (tn : TND) : Prop where
  run : PE X e (gN c tn)
  mono : MonoN tn
structure JA (X : Cx) (c : Cn) (es : List Expr) (ta : TAD) : Prop where
  run : PA X es (gA c ta)
  mono : MonoA ta
structure JT (X : Cx) (c : Cn) (e : Expr) (tt : TTD) : Prop where
  run : PT X e (gT c tt)
  mono : MonoT tt
structure JW (X : Cx) (c : Cn) (e : Expr) (tt : TTD) : Prop where
  run : PW X e (gT c tt)
  mono : MonoT tt
section
variable {X : Cx} {c : Cn} {e a b : Expr} {es : List Expr} {ta tb te : TED} {tn : TND} {tA : TAD} {tt tu : TTD} {pos : Pos}
theorem peI {t t' : TE} (h : PE X e t) (i : ∀ σ H Q, t' σ H Q → t σ H Q) : PE X e t' := ⟨fun pins s σ H Q I q => h.run pins s σ H Q I (i σ H Q q)⟩
theorem ptI {t t' : TT} (h : PT X e t) (i : ∀ σ H Q, t' σ H Q → t σ H Q) : PT X e t' := ⟨fun pins s σ H Q I q => h.run pins s σ H Q I (i σ H Q q)⟩
theorem pwI {t t' : TT} (h : PW X e t) (i : ∀ σ H Q, t' σ H Q → t σ H Q) : PW X e t' := ⟨fun wh pins s σ H Q I q => h.run wh pins s σ H Q I (i σ H Q q)⟩
theorem paI {t t' : TA} (h : PA X es t) (i : ∀ σ H Q, t' σ H Q → t σ H Q) : PA X es t' := ⟨fun pos pins s σ H Q I q => h.run pos pins s σ H Q I (i σ H Q q)⟩
theorem psI {st : Stmt} {t t' : TS} (h : PS X st t) (i : ∀ D σ H, t' D σ H → t D σ H) : PS X st t' := ⟨fun pins s σ H D I q => h.run pins s σ H D I (i D σ H q)⟩
theorem pssI {st : List Stmt} {t t' : TS} (h : PSs X st t) (i : ∀ D σ H, t' D σ H → t D σ H) : PSs X st t' := ⟨fun pins s σ H D I q => h.run pins s σ H D I (i D σ H q)⟩
/-! ### names, constants -/
theorem monoC {d : PyData} : MonoE (eC d) := fun ρ ok ok' ex ex' m n h => m _ _ h
theorem monoV {i : Nat} : MonoE (eV i) := fun ρ ok ok' ex ex' m n h => by
  unfold eV at h ⊢
  split at h
  · exact m _ _ h
  · exact m _ _ h
  · exact h.elim
theorem je_c {v : V} {d : PyData} (h : PE X e (tC v)) (hd : ∀ (K : PySem.W.Frag) (H : Hp), Dn K H v d) : JE X c e (eC d) := ⟨peI h fun σ H Q ⟨Fo, Hs, ρ, R, q⟩ => q v Hs H (Ex.refl _) R (hd _ _), monoC⟩
theorem je_int {i : Int} {j : Nat} : JE X c (.Constant (.int i) j pos) (eC (.int i)) := je_c pe_int fun _ _ => .int i
theorem je_bool {b : Bool} {j : Nat} : JE X c (.Constant (.bool b) j pos) (eC (.bool b)) := je_c pe_bl fun _ _ => .bl b
theorem je_none {j : Nat} : JE X c (.Constant .none j pos) (eC .none) := je_c pe_non fun _ _ => .non
theorem je_str {x : Str} {j : Nat} : JE X c (.Constant (.str x) j pos) (eC (.str x)) := je_c pe_str fun _ _ => .str x
theorem je_v {i : Nat} (h : PE X e (tVar i)) : JE X c e (eV i) := ⟨peI h fun σ H Q ⟨Fo, Hs, ρ, R, q⟩ => by
  rcases eV_out q with ⟨d, hi, q⟩ | ⟨s, hi, _, q⟩
  · obtain ⟨v, fp, hv, ho⟩ := R.get hi
    cases ho with
    | val hd => exact ⟨v, hv, q v Hs H (Ex.refl _) R hd⟩
  · obtain ⟨v, fp, hv, ho⟩ := R.get hi
    exact ⟨v, hv, q v Hs H (Ex.refl _) R hv⟩, monoV⟩

/-! ### operations -/
structure Op2Ok (K : PySem.W.Frag) (r : R2) (op : Op2) : Prop where
  run : ∀ (Hs H : Hp) (x y : V) (d1 d2 : PyData) (k : PyData → Prop) (Q : VK), Ex Hs H → DnS K Hs H x d1 → DnS K Hs H y d2 → op d1 d2 k → (∀ d v H', OutD K Hs H v d H' → k d → Q v H') → r x y H Q
  mono : ∀ (d1 d2 : PyData) (k k' : PyData → Prop), (∀ d, k d → k' d) → op d1 d2 k → op d1 d2 k'
structure Op1Ok (K : PySem.W.Frag) (r : V → Hp → VK → Prop) (op : Op1) : Prop where
  run : ∀ (Hs H : Hp) (x : V) (d1 : PyData) (k : PyData → Prop) (Q : VK), Ex Hs H → DnS K Hs H x d1 → op d1 k → (∀ d v H', OutD K Hs H v d H' → k d → Q v H') → r x H Q
  mono : ∀ (d1 : PyData) (k k' : PyData → Prop), (∀ d, k d → k' d) → op d1 k → op d1 k'
structure OpNOk (K : PySem.W.Frag) (r : List V → Hp → VK → Prop) (op : OpN) : Prop where
  run : ∀ (Hs H : Hp) (xs : List V) (ds : List PyData) (k : PyData → Prop) (Q : VK), Ex Hs H → DnSs K Hs H xs ds → op ds k → (∀ d v H', OutD K Hs H v d H' → k d → Q v H') → r xs H Q
  mono : ∀ (ds : List PyData) (k k' : PyData → Prop), (∀ d, k d → k' d) → op ds k → op ds k'
/-- .. that makes a new list -/
structure OpLOk (K : PySem.W.Frag) (r : List V → Hp → VK → Prop) (op : OpL) : Prop where
  run : ∀ (Hs H : Hp) (xs : List V) (ds : List PyData) (k : List PyData → Prop) (Q : VK), Ex Hs H → DnSs K Hs H xs ds → op ds k → (∀ es p vs, H p = none → DnAll K Hs vs es → k es → Q (.ref p) (upd H p (.lst vs))) → r xs H Q
  mono : ∀ (ds : List PyData) (k k' : List PyData → Prop), (∀ d, k d → k' d) → op ds k → op ds k'
theorem mono2 {op : Op2} (h : ∀ (d1 d2 : PyData) (k k' : PyData → Prop), (∀ d, k d → k' d) → op d1 d2 k → op d1 d2 k') (ma : MonoE ta) (mb : MonoE tb) : MonoE (e2 op ta tb) := fun ρ ok ok' ex ex' m n q =>
  ma _ _ _ _ _ (fun r1 ρ1 q1 => mb _ _ _ _ _ (fun r2 ρ2 q2 => q2.mono fun d1 q3 => q3.mono fun d2 q4 => h _ _ _ _ (fun d q5 => m _ _ q5) q4) n q1) n q
theorem mono1 {op : Op1} (h : ∀ (d1 : PyData) (k k' : PyData → Prop), (∀ d, k d → k' d) → op d1 k → op d1 k') (ma : MonoE ta) : MonoE (e1 op ta) := fun ρ ok ok' ex ex' m n q =>
  ma _ _ _ _ _ (fun r1 ρ1 q1 => q1.mono fun d1 q3 => h _ _ _ (fun d q5 => m _ _ q5) q3) n q
theorem op2_sound {r : R2} {op : Op2} {σ : L2.St} {H : Hp} {Q : VK} (h : Op2Ok c.K r op) (ma : MonoE ta) (mb : MonoE tb) (q : gE c (e2 op ta tb) σ H Q) : tOp r (gE c ta) (gE c tb) σ H Q := by
  obtain ⟨Fo, Hs, ρ, R, q⟩ := q
  refine ⟨Fo, Hs, ρ, R, ma _ _ _ _ _ (fun r1 ρ1 q1 => ?_) (fun x ρ1 q1 => q1) q⟩
  intro v1 Hs1 H1 e1 R1 a1
  refine ⟨Fo, Hs1, ρ1, R1, mb _ _ _ _ _ (fun r2 ρ2 q2 => ?_) (fun x ρ2 q2 => Cn.ex.at q2 e1) q1⟩
  intro v2 Hs2 H2 e2 R2 a2
  obtain ⟨d1, hd1, q2⟩ := q2.out
  obtain ⟨d2, hd2, q2⟩ := q2.out
  refine h.run Hs2 H2 v1 v2 d1 d2 _ Q R2.hs (R2.view (a1.ex e2) hd1) (R2.view a2 hd2) q2 fun d v H' o k => ?_
  obtain ⟨Hs3, e3, R3, a3⟩ := o.rel R2
  exact k v Hs3 H' ((e1.trans e2).trans e3) R3 a3
theorem op1_sound {r : V → Hp → VK → Prop} {op : Op1} {σ : L2.St} {H : Hp} {Q : VK} (h : Op1Ok c.K r op) (ma : MonoE ta) (q : gE c (e1 op ta) σ H Q) : gE c ta σ H (fun x H1 => r x H1 Q) := by
  obtain ⟨Fo, Hs, ρ, R, q⟩ := q
  refine ⟨Fo, Hs, ρ, R, ma _ _ _ _ _ (fun r1 ρ1 q1 => ?_) (fun x ρ1 q1 => q1) q⟩
  intro v1 Hs1 H1 e1 R1 a1
  obtain ⟨d1, hd1, q2⟩ := q1.out
  refine h.run Hs1 H1 v1 d1 _ Q R1.hs (R1.view a1 hd1) q2 fun d v H' o k => ?_
  obtain ⟨Hs3, e3, R3, a3⟩ := o.rel R1
  exact k v Hs3 H' (e1.trans e3) R3 a3
theorem je_2 {r : R2} {op : Op2} (h : Op2Ok c.K r op) (hp : PE X a (gE c ta) → PE X b (gE c tb) → PE X e (tOp r (gE c ta) (gE c tb))) (ha : JE X c a ta) (hb : JE X c b tb) : JE X c e (e2 op ta tb) :=
  ⟨peI (hp ha.run hb.run) fun _ _ _ q => op2_sound h ha.mono hb.mono q, mono2 h.mono ha.mono hb.mono⟩
theorem je_1 {r : V → Hp → VK → Prop} {op : Op1} (h : Op1Ok c.K r op) (hp : PE X a (gE c ta) → PE X e (fun σ H Q => gE c ta σ H (fun x H1 => r x H1 Q))) (ha : JE X c a ta) : JE X c e (e1 op ta) :=
  ⟨peI (hp ha.run) fun _ _ _ q => op1_sound h ha.mono q, mono1 h.mono ha.mono⟩
/-! ### arguments -/
theorem monoA0 : MonoA aN := fun ρ ok ok' ex ex' m n h => m _ _ h
theorem monoA1 {tr : TAD} (ha : MonoE ta) (hr : MonoA tr) : MonoA (aC ta tr) := fun ρ ok ok' ex ex' m n q =>
  ha _ _ _ _ _ (fun r1 ρ1 q1 => hr _ _ _ _ _ (fun rs ρ2 q2 => m _ _ q2) n q1) n q
theorem ja_nil : JA X c [] aN := ⟨paI pa_nil fun σ H Q ⟨Fo, Hs, ρ, R, q⟩ => q [] Hs H (Ex.refl _) R .nil, monoA0⟩
theorem ja_cons {tr : TAD} (ha : JE X c a ta) (hr : JA X c es tr) (hs : starEach (a :: es) X.env = (false, eval a X.env) :: starEach es X.env := by rfl) : JA X c (a :: es) (aC ta tr) := ⟨paI (pa_cons ha.run hr.run hs) fun σ H Q ⟨Fo, Hs, ρ, R, q⟩ => by
  refine ⟨Fo, Hs, ρ, R, ha.mono _ _ _ _ _ (fun r1 ρ1 q1 => ?_) (fun x ρ1 q1 => q1) q⟩
  intro v1 Hs1 H1 e1 R1 a1
  refine ⟨Fo, Hs1, ρ1, R1, hr.mono _ _ _ _ _ (fun rs ρ2 q2 => ?_) (fun x ρ2 q2 => Cn.ex.at q2 e1) q1⟩
  intro vs Hs2 H2 e2 R2 a2
  exact q2 (v1 :: vs) Hs2 H2 (e1.trans e2) R2 (.cons (a1.ex e2) a2), monoA1 ha.mono hr.mono⟩
theorem monoF {op : OpN} (h : ∀ (ds : List PyData) (k k' : PyData → Prop), (∀ d, k d → k' d) → op ds k → op ds k') (ma : MonoA tA) : MonoE (eF op tA) := fun ρ ok ok' ex ex' m n q =>
  ma _ _ _ _ _ (fun r1 ρ1 q1 => q1.mono fun ds q3 => h _ _ _ (fun d q5 => m _ _ q5) q3) n q
theorem monoNF {op : OpL} (h : ∀ (ds : List PyData) (k k' : List PyData → Prop), (∀ d, k d → k' d) → op ds k → op ds k') (ma : MonoA tA) : MonoN (nF op tA) := fun ρ ok ok' ex ex' m n q =>
  ma _ _ _ _ _ (fun r1 ρ1 q1 => q1.mono fun ds q3 => h _ _ _ (fun d q5 => m _ _ q5) q3) n q
theorem opN_sound {r : List V → Hp → VK → Prop} {op : OpN} {σ : L2.St} {H : Hp} {Q : VK} (h : OpNOk c.K r op) (ma : MonoA tA) (q : gE c (eF op tA) σ H Q) : tCB r (gA c tA) σ H Q := by
  obtain ⟨Fo, Hs, ρ, R, q⟩ := q
  refine ⟨Fo, Hs, ρ, R, ma _ _ _ _ _ (fun rs ρ1 q1 => ?_) (fun x ρ1 q1 => q1) q⟩
  intro vs Hs1 H1 e1 R1 a1
  show r vs H1 Q
  obtain ⟨ds, hd, q2⟩ := q1.out
  refine h.run Hs1 H1 vs ds _ Q R1.hs (R1.views a1 hd) q2 fun d v H' o k => ?_
  obtain ⟨Hs3, e3, R3, a3⟩ := o.rel R1
  exact k v Hs3 H' (e1.trans e3) R3 a3
theorem opL_sound {r : List V → Hp → VK → Prop} {op : OpL} {σ : L2.St} {H : Hp} {Q : VK} (h : OpLOk c.K r op) (ma : MonoA tA) (q : gN c (nF op tA) σ H Q) : tCB r (gA c tA) σ H Q := by
  obtain ⟨Fo, Hs, ρ, R, q⟩ := q
  refine ⟨Fo, Hs, ρ, R, ma _ _ _ _ _ (fun rs ρ1 q1 => ?_) (fun x ρ1 q1 => q1) q⟩
  intro vs Hs1 H1 e1 R1 a1
  show r vs H1 Q
  obtain ⟨ds, hd, q2⟩ := q1.out
  refine h.run Hs1 H1 vs ds _ Q R1.hs (R1.views a1 hd) q2 fun es p ws hp hw k => ?_
  exact k (.ref p) Hs1 _ e1 (R1.newN hp rfl (.lst upd_same (OwnAll.of_vals hw))) rfl
theorem je_F {r : List V → Hp → VK → Prop} {op : OpN} (h : OpNOk c.K r op) (hp : PA X es (gA c tA) → PE X e (tCB r (gA c tA))) (ha : JA X c es tA) : JE X c e (eF op tA) :=
  ⟨peI (hp ha.run) fun _ _ _ q => opN_sound h ha.mono q, monoF h.mono ha.mono⟩
theorem jn_F {r : List V → Hp → VK → Prop} {op : OpL} (h : OpLOk c.K r op) (hp : PA X es (gA c tA) → PE X e (tCB r (gA c tA))) (ha : JA X c es tA) : JN X c e (nF op tA) :=
  ⟨peI (hp ha.run) fun _ _ _ q => opL_sound h ha.mono q, monoNF h.mono ha.mono⟩
/-- a new thing as data -/
theorem monoEN (m : MonoN tn) : MonoE (eN tn) := fun ρ ok ok' ex ex' p n q => m _ _ _ _ _ (fun s ρ1 q1 => q1.mono fun d q2 => p _ _ q2) n q
theorem je_n (h : JN X c e tn) : JE X c e (eN tn) := ⟨peI h.run fun σ H Q ⟨Fo, Hs, ρ, R, q⟩ => by
  refine ⟨Fo, Hs, ρ, R, h.mono _ _ _ _ _ (fun s ρ1 q1 => ?_) (fun x ρ1 q1 => q1) q⟩
  intro v Hs1 H1 e1 R1 o1
  obtain ⟨d, hd, q2⟩ := q1.out
  obtain ⟨Hs2, e2, R2, a2⟩ := R1.freeze R.alt hd
  exact q2 v Hs2 H1 (e1.trans e2) R2 a2, monoEN h.mono⟩
/-! ### displays -/
theorem monoTup (m : MonoA tA) : MonoE (eTup tA) := fun ρ ok ok' ex ex' p n q => m _ _ _ _ _ (fun s ρ1 q1 => q1.mono fun d q2 => p _ _ q2) n q
theorem monoLst (m : MonoA tA) : MonoN (nLst tA) := fun ρ ok ok' ex ex' p n q => m _ _ _ _ _ (fun s ρ1 q1 => q1.mono fun d q2 => p _ _ q2) n q
theorem DnSs.all {K : PySem.W.Frag} {Hs H : Hp} : ∀ {vs : List V} {ds : List PyData}, DnSs K Hs H vs ds → (∀ v d, DnS K Hs H v d → Dn K Hs v d) → DnAll K Hs vs ds
  | _, _, .nil, _ => .nil
  | _, _, .cons h r, k => .cons (k _ _ h) (DnSs.all r k)
theorem DnSs.len {K : PySem.W.Frag} {Hs H : Hp} : ∀ {vs : List V} {ds : List PyData}, DnSs K Hs H vs ds → vs.length = ds.length
  | _, _, .nil => rfl
  | _, _, .cons h r => congrArg (· + 1) (DnSs.len r)
end
end Dl

/-! Dw4: displays, truths, tests, statements. -/
namespace Dl
open PySem L2
section
variable {X : Cx} {c : Cn} {e a b d : Expr} {es : List Expr} {ta tb td te : TED} {tn : TND} {tA : TAD} {tt tu : TTD} {pos : Pos} {g : Cg} {A : List (Nat × V)} {Fo Hs Hs' H H' : Hp} {σ : L2.St} {ρ : Env} {v : V}
theorem ResAll.dats {K : PySem.W.Frag} : ∀ {vs : List V} {rs : List Dl.R} {ds : List PyData}, ResAll K Hs σ vs rs → Dl.dats rs = some ds → DnAll K Hs vs ds
  | _, _, _, .nil, e => by
    simp only [dats_nil, Option.some.injEq] at e
    subst e
    exact .nil
  | _, .d x :: _, _, .cons a r, e => by
    simp only [dats_cons, Option.map_eq_some_iff] at e
    obtain ⟨es, h2, rfl⟩ := e
    exact .cons a (ResAll.dats r h2)
  | _, .b i :: _, _, .cons a r, e => by simp [Dl.dats] at e
theorem dats_len : ∀ {rs : List Dl.R} {ds : List PyData}, Dl.dats rs = some ds → ds.length = rs.length
  | [], ds, e => by
    simp only [dats_nil, Option.some.injEq] at e
    subst e
    rfl
  | .d x :: rs, ds, e => by
    simp only [dats_cons, Option.map_eq_some_iff] at e
    obtain ⟨es, h2, rfl⟩ := e
    simp [dats_len h2]
  | .b i :: rs, ds, e => by simp [Dl.dats] at e
theorem ResAll.len {K : PySem.W.Frag} : ∀ {vs : List V} {rs : List Dl.R}, ResAll K Hs σ vs rs → vs.length = rs.length
  | _, _, .nil => rfl
  | _, _, .cons _ r => congrArg (· + 1) (ResAll.len r)
/-- how many there are -/
def NumA (tA : TAD) (n : Nat) : Prop := ∀ (ρ : Env) (ok : List Dl.R → Env → Prop) (ex : KX), tA ρ ok ex → tA ρ (fun rs ρ' => rs.length = n ∧ ok rs ρ') ex
theorem num0 : NumA aN 0 := fun ρ ok ex h => ⟨rfl, h⟩
theorem num1 {tr : TAD} {n : Nat} (m : MonoE ta) (mr : MonoA tr) (h : NumA tr n) : NumA (aC ta tr) (n + 1) := fun ρ ok ex q => m _ _ _ _ _ (fun r ρ1 q1 => mr _ _ _ _ _ (fun rs ρ2 q2 => ⟨by rw [List.length_cons, q2.1], q2.2⟩) (fun _ _ z => z) (h _ _ _ q1)) (fun _ _ z => z) q
theorem je_tup {x1} (ha : JA X c es tA) (n : Nat) (hn : NumA tA n) (hz : n ≤ sizeLine) : JE X c (.Tuple es x1 pos) (eTup tA) := ⟨peI (pe_tup ha.run) fun σ H Q ⟨Fo, Hs, ρ, R, q⟩ => by
  refine ⟨Fo, Hs, ρ, R, ha.mono _ _ _ _ _ (fun rs ρ1 q1 => ?_) (fun x ρ1 q1 => q1) (hn _ _ _ q)⟩
  intro vs Hs1 H1 e1 R1 a1
  obtain ⟨ds, hd, q2⟩ := q1.2.out
  refine ⟨by rw [a1.len, q1.1]; exact hz, fun p hp => ?_⟩
  exact q2 (.ref p) _ _ (e1.trans (Ex.new (R1.hs.free hp))) (R1.newS hp rfl) (.tup upd_same ((a1.dats hd).ex (Ex.new (R1.hs.free hp)))), monoTup' ha.mono⟩
where monoTup' {tA : TAD} (m : MonoA tA) : MonoE (eTup tA) := fun ρ ok ok' ex ex' p n q => m _ _ _ _ _ (fun s ρ1 q1 => q1.mono fun d q2 => p _ _ q2) n q
theorem jn_lst (ha : JA X c es tA) (n : Nat) (hn : NumA tA n) (hz : n ≤ sizeLine) : JN X c (.List es pos) (nLst tA) := ⟨peI (pe_lst ha.run) fun σ H Q ⟨Fo, Hs, ρ, R, q⟩ => by
  refine ⟨Fo, Hs, ρ, R, ha.mono _ _ _ _ _ (fun rs ρ1 q1 => ?_) (fun x ρ1 q1 => q1) (hn _ _ _ q)⟩
  intro vs Hs1 H1 e1 R1 a1
  obtain ⟨ds, hd, q2⟩ := q1.2.out
  refine ⟨by rw [a1.len, q1.1]; exact hz, fun p hp => ?_⟩
  exact q2 (.ref p) _ _ e1 (R1.newN hp rfl (.lst upd_same (OwnAll.of_vals (a1.dats hd)))) rfl, monoLst' ha.mono⟩
where monoLst' {tA : TAD} (m : MonoA tA) : MonoN (nLst tA) := fun ρ ok ok' ex ex' p n q => m _ _ _ _ _ (fun s ρ1 q1 => q1.mono fun d q2 => p _ _ q2) n q
/-! ### truths -/
theorem Rel.viewB {r : Dl.R} {k : Bool} (R : Rel g A Fo Hs H σ ρ) (a : ResAt g.K Hs σ v r) (e : Dl.viewB ρ r = some k) : v = .bl k := by
  simp only [Dl.viewB, Option.bind_eq_some_iff] at e
  obtain ⟨d, h1, h2⟩ := e
  cases d <;> simp [asB] at h2
  subst h2
  exact (R.view a h1).bool
theorem je_and {rest : List Expr} (hp : PE X a (gE c ta) → PE X (.BoolOp .And (b :: rest) pos) (gE c tb) → PE X (.BoolOp .And (a :: b :: rest) pos) (tAndV (gE c ta) (gE c tb))) (ha : JE X c a ta) (hb : JE X c (.BoolOp .And (b :: rest) pos) tb) :
    JE X c (.BoolOp .And (a :: b :: rest) pos) (eAnd ta tb) := ⟨peI (hp ha.run hb.run) fun σ H Q ⟨Fo, Hs, ρ, R, q⟩ => by
  refine ⟨Fo, Hs, ρ, R, ha.mono _ _ _ _ _ (fun r ρ1 q1 => ?_) (fun x ρ1 q1 => q1) q⟩
  intro v Hs1 H1 e1 R1 a1
  obtain ⟨k, hk, q2⟩ := q1.out
  refine ⟨k, R1.viewB a1 hk, ?_⟩
  cases k with
  | true =>
    rw [if_pos rfl]
    exact ⟨Fo, Hs1, ρ1, R1, hb.mono _ _ _ _ _ (fun r ρ2 q3 => q3.at e1) (fun x ρ2 q3 => Cn.ex.at q3 e1) (q2.1 rfl)⟩
  | false =>
    rw [if_neg Bool.false_ne_true]
    exact q2.2 rfl (.bl false) Hs1 H1 e1 R1 (.bl false), fun ρ ok ok' ex ex' m n q => ha.mono _ _ _ _ _ (fun r ρ1 q1 => q1.mono fun k q2 => q2.mono (hb.mono _ _ _ _ _ m n) (m _ _)) n q⟩
theorem je_or {rest : List Expr} (hp : PE X a (gE c ta) → PE X (.BoolOp .Or (b :: rest) pos) (gE c tb) → PE X (.BoolOp .Or (a :: b :: rest) pos) (tOrV (gE c ta) (gE c tb))) (ha : JE X c a ta) (hb : JE X c (.BoolOp .Or (b :: rest) pos) tb) :
    JE X c (.BoolOp .Or (a :: b :: rest) pos) (eOr ta tb) := ⟨peI (hp ha.run hb.run) fun σ H Q ⟨Fo, Hs, ρ, R, q⟩ => by
  refine ⟨Fo, Hs, ρ, R, ha.mono _ _ _ _ _ (fun r ρ1 q1 => ?_) (fun x ρ1 q1 => q1) q⟩
  intro v Hs1 H1 e1 R1 a1
  obtain ⟨k, hk, q2⟩ := q1.out
  refine ⟨k, R1.viewB a1 hk, ?_⟩
  cases k with
  | true =>
    rw [if_pos rfl]
    exact q2.1 rfl (.bl true) Hs1 H1 e1 R1 (.bl true)
  | false =>
    rw [if_neg Bool.false_ne_true]
    exact ⟨Fo, Hs1, ρ1, R1, hb.mono _ _ _ _ _ (fun r ρ2 q3 => q3.at e1) (fun x ρ2 q3 => Cn.ex.at q3 e1) (q2.2 rfl)⟩, fun ρ ok ok' ex ex' m n q => ha.mono _ _ _ _ _ (fun r ρ1 q1 => q1.mono fun k q2 => q2.mono (m _ _) (hb.mono _ _ _ _ _ m n)) n q⟩
theorem je_one {op} (ha : JE X c a ta) : JE X c (.BoolOp op [a] pos) ta := ⟨pe_one ha.run, ha.mono⟩
theorem je_not (ha : JE X c a ta) : JE X c (.UnaryOp .Not a pos) (eNot ta) := ⟨peI (pe_not ha.run) fun σ H Q ⟨Fo, Hs, ρ, R, q⟩ => by
  refine ⟨Fo, Hs, ρ, R, ha.mono _ _ _ _ _ (fun r ρ1 q1 => ?_) (fun x ρ1 q1 => q1) q⟩
  intro v Hs1 H1 e1 R1 a1
  obtain ⟨k, hk, q2⟩ := q1.out
  exact ⟨k, R1.viewB a1 hk, q2 _ Hs1 H1 e1 R1 (.bl _)⟩, fun ρ ok ok' ex ex' m n q => ha.mono _ _ _ _ _ (fun r ρ1 q1 => q1.mono fun k q2 => m _ _ q2) n q⟩
/-! ### tests -/
theorem jt_e {t : TE → TT} (ht : ∀ σ H Q, gE c ta σ H (fun x H1 => ∃ k, x = .bl k ∧ Q k H1) → t (gE c ta) σ H Q) (hp : PE X a (gE c ta) → PT X a (t (gE c ta))) (ha : JE X c a ta) : JT X c a (tV ta) := ⟨ptI (hp ha.run) fun σ H Q ⟨Fo, Hs, ρ, R, q⟩ => by
  refine ht _ _ _ ⟨Fo, Hs, ρ, R, ha.mono _ _ _ _ _ (fun r ρ1 q1 => ?_) (fun x ρ1 q1 => q1) q⟩
  intro v Hs1 H1 e1 R1 a1
  obtain ⟨k, hk, q2⟩ := q1.out
  exact ⟨k, R1.viewB a1 hk, q2 Hs1 H1 e1 R1⟩, fun ρ ok ok' ex ex' m n q => ha.mono _ _ _ _ _ (fun r ρ1 q1 => q1.mono fun k q2 => m _ _ q2) n q⟩
theorem jt_val (ha : JE X c a ta) (he : ∀ whole, isTrue a X.env whole = (do let v ← whole; standAt a.pos; holding [v] (truthy v)) := by intro _; rfl) : JT X c a (tV ta) := jt_e (t := tB) (fun _ _ _ h => h) (fun h => pt_val h he) ha
/-- a comparison as a test -/
theorem jt_cmp {op : CmpOp} {r : R2} {o : Op2} (h : Op2Ok c.K r o) (ho : OpR X (compareOp op) r) (ha : JE X c a ta) (hb : JE X c b tb) (hm : behindInMarks op b = false) : JT X c (.Compare a [op] [b] pos) (tV (e2 o ta tb)) := by
  have hE : JE X c (.Compare a [op] [b] pos) (e2 o ta tb) := je_2 h (fun h1 h2 => pe_cmpR ho h1 h2 hm) ha hb
  refine ⟨ptI (pt_cmpR ho ha.run hb.run hm) fun σ H Q ⟨Fo, Hs, ρ, R, q⟩ => ?_, fun ρ ok ok' ex ex' m n q => hE.mono _ _ _ _ _ (fun r ρ1 q1 => q1.mono fun k q2 => m _ _ q2) n q⟩
  show tOp r (gE c ta) (gE c tb) σ H _
  refine op2_sound h ha.mono hb.mono ⟨Fo, Hs, ρ, R, hE.mono _ _ _ _ _ (fun r ρ1 q1 => ?_) (fun x ρ1 q1 => q1) q⟩
  intro v Hs1 H1 e1 R1 a1
  obtain ⟨k, hk, q2⟩ := q1.out
  exact ⟨k, R1.viewB a1 hk, q2 Hs1 H1 e1 R1⟩
theorem monoTA (ma : MonoT tt) (mb : MonoT tu) : MonoT (Dl.tAnd tt tu) := fun ρ ok ok' ex ex' m n q => ma _ _ _ _ _ (fun k ρ1 q1 => q1.mono (mb _ _ _ _ _ m n) (m _ _)) n q
theorem monoTO (ma : MonoT tt) (mb : MonoT tu) : MonoT (Dl.tOr tt tu) := fun ρ ok ok' ex ex' m n q => ma _ _ _ _ _ (fun k ρ1 q1 => q1.mono (m _ _) (mb _ _ _ _ _ m n)) n q
theorem jw_1a (ha : JT X c a tt) : JW X c (.BoolOp .And [a] pos) tt := ⟨pw_and1 ha.run, ha.mono⟩
theorem jw_1o (ha : JT X c a tt) : JW X c (.BoolOp .Or [a] pos) tt := ⟨pw_or1 ha.run, ha.mono⟩
theorem jw_and {rest : List Expr} (ha : JT X c a tt) (hb : JW X c (.BoolOp .And (b :: rest) pos) tu) : JW X c (.BoolOp .And (a :: b :: rest) pos) (Dl.tAnd tt tu) := ⟨pwI (pw_and ha.run hb.run) fun σ H Q ⟨Fo, Hs, ρ, R, q⟩ => by
  refine ⟨Fo, Hs, ρ, R, ha.mono _ _ _ _ _ (fun k ρ1 q1 => ?_) (fun x ρ1 q1 => q1) q⟩
  intro Hs1 H1 e1 R1
  cases k with
  | true =>
    rw [if_pos rfl]
    exact ⟨Fo, Hs1, ρ1, R1, hb.mono _ _ _ _ _ (fun r ρ2 q3 => q3.at e1) (fun x ρ2 q3 => Cn.ex.at q3 e1) (q1.1 rfl)⟩
  | false =>
    rw [if_neg Bool.false_ne_true]
    exact q1.2 rfl Hs1 H1 e1 R1, monoTA ha.mono hb.mono⟩
theorem jw_or {rest : List Expr} (ha : JT X c a tt) (hb : JW X c (.BoolOp .Or (b :: rest) pos) tu) : JW X c (.BoolOp .Or (a :: b :: rest) pos) (Dl.tOr tt tu) := ⟨pwI (pw_or ha.run hb.run) fun σ H Q ⟨Fo, Hs, ρ, R, q⟩ => by
  refine ⟨Fo, Hs, ρ, R, ha.mono _ _ _ _ _ (fun k ρ1 q1 => ?_) (fun x ρ1 q1 => q1) q⟩
  intro Hs1 H1 e1 R1
  cases k with
  | true =>
    rw [if_pos rfl]
    exact q1.1 rfl Hs1 H1 e1 R1
  | false =>
    rw [if_neg Bool.false_ne_true]
    exact ⟨Fo, Hs1, ρ1, R1, hb.mono _ _ _ _ _ (fun r ρ2 q3 => q3.at e1) (fun x ρ2 q3 => Cn.ex.at q3 e1) (q1.2 rfl)⟩, monoTO ha.mono hb.mono⟩
theorem jw_t (h : JW X c e tt) : JT X c e tt := ⟨h.run.pt, h.mono⟩
theorem jt_not (ha : JT X c a tt) : JT X c (.UnaryOp .Not a pos) (Dl.tNot tt) := ⟨ptI (pt_not ha.run) fun σ H Q ⟨Fo, Hs, ρ, R, q⟩ => ⟨Fo, Hs, ρ, R, ha.mono _ _ _ _ _ (fun k ρ1 q1 => q1) (fun x ρ1 q1 => q1) q⟩, fun ρ ok ok' ex ex' m n q => ha.mono _ _ _ _ _ (fun k ρ1 q1 => m _ _ q1) n q⟩
theorem je_if {k : Expr} (ht : JT X c k tt) (ha : JE X c a ta) (hb : JE X c b tb) : JE X c (.IfExp k a b pos) (eIf tt ta tb) := ⟨peI (pe_ifExp ht.run ha.run hb.run) fun σ H Q ⟨Fo, Hs, ρ, R, q⟩ => by
  refine ⟨Fo, Hs, ρ, R, ht.mono _ _ _ _ _ (fun k ρ1 q1 => ?_) (fun x ρ1 q1 => q1) q⟩
  intro Hs1 H1 e1 R1
  cases k with
  | true =>
    rw [if_pos rfl]
    exact ⟨Fo, Hs1, ρ1, R1, ha.mono _ _ _ _ _ (fun r ρ2 q3 => q3.at e1) (fun x ρ2 q3 => Cn.ex.at q3 e1) (q1.1 rfl)⟩
  | false =>
    rw [if_neg Bool.false_ne_true]
    exact ⟨Fo, Hs1, ρ1, R1, hb.mono _ _ _ _ _ (fun r ρ2 q3 => q3.at e1) (fun x ρ2 q3 => Cn.ex.at q3 e1) (q1.2 rfl)⟩, fun ρ ok ok' ex ex' m n q => ht.mono _ _ _ _ _ (fun k ρ1 q1 => q1.mono (ha.mono _ _ _ _ _ m n) (hb.mono _ _ _ _ _ m n)) n q⟩
/-! ### a < b < c -/
theorem monoCh {o o' : Op2} (m1 : ∀ (d1 d2 : PyData) (k k' : PyData → Prop), (∀ d, k d → k' d) → o d1 d2 k → o d1 d2 k') (m2 : ∀ (d1 d2 : PyData) (k k' : PyData → Prop), (∀ d, k d → k' d) → o' d1 d2 k → o' d1 d2 k') (ma : MonoE ta) (mb : MonoE tb) (md : MonoE td) : MonoE (eCh o o' ta tb td) := fun ρ ok ok' ex ex' m n q =>
  ma _ _ _ _ _ (fun r1 ρ1 q1 => mb _ _ _ _ _ (fun r2 ρ2 q2 => q2.mono fun d1 q3 => q3.mono fun d2 q4 => m1 _ _ _ _ (fun d q5 => q5.mono fun k q6 => q6.mono (md _ _ _ _ _ (fun r3 ρ3 q7 => q7.mono fun d2 q8 => q8.mono fun d3 q9 => m2 _ _ _ _ (fun d q10 => m _ _ q10) q9) n) (m _ _)) q4) n q1) n q
theorem ch_sound {r r' : R2} {o o' : Op2} {Q : VK} (h : Op2Ok c.K r o) (h' : Op2Ok c.K r' o') (ma : MonoE ta) (mb : MonoE tb) (md : MonoE td) (q : gE c (eCh o o' ta tb td) σ H Q) : tChain r r' (gE c ta) (gE c tb) (gE c td) σ H Q := by
  obtain ⟨Fo, Hs, ρ, R, q⟩ := q
  refine ⟨Fo, Hs, ρ, R, ma _ _ _ _ _ (fun r1 ρ1 q1 => ?_) (fun x ρ1 q1 => q1) q⟩
  intro v1 Hs1 H1 e1 R1 a1
  refine ⟨Fo, Hs1, ρ1, R1, mb _ _ _ _ _ (fun r2 ρ2 q2 => ?_) (fun x ρ2 q2 => Cn.ex.at q2 e1) q1⟩
  intro v2 Hs2 H2 e2 R2 a2
  obtain ⟨d1, hd1, q2⟩ := q2.out
  obtain ⟨d2, hd2, q2⟩ := q2.out
  refine h.run Hs2 H2 v1 v2 d1 d2 _ _ R2.hs (R2.view (a1.ex e2) hd1) (R2.view a2 hd2) q2 fun d v H' o k => ?_
  obtain ⟨Hs3, e3, R3, a3⟩ := o.rel R2
  obtain ⟨kb, hk, q3⟩ := k.out
  have hv : v = .bl kb := by
    cases d <;> simp [asB] at hk
    subst hk
    cases a3
    rfl
  refine ⟨kb, hv, ?_⟩
  have e123 := (e1.trans e2).trans e3
  cases kb with
  | true =>
    rw [if_pos rfl]
    refine ⟨Fo, Hs3, ρ2, R3, md _ _ _ _ _ (fun r3 ρ3 q4 => ?_) (fun x ρ3 q4 => Cn.ex.at q4 e123) (q3.1 rfl)⟩
    intro v3 Hs4 H4 e4 R4 a4
    obtain ⟨d2', hd2', q5⟩ := q4.out
    obtain ⟨d3, hd3, q5⟩ := q5.out
    refine h'.run Hs4 H4 v2 v3 d2' d3 _ _ R4.hs (R4.view ((a2.ex e3).ex e4) hd2') (R4.view a4 hd3) q5 fun d v H' o k => ?_
    obtain ⟨Hs5, e5, R5, a5⟩ := o.rel R4
    exact k v Hs5 H' ((e123.trans e4).trans e5) R5 a5
  | false =>
    rw [if_neg Bool.false_ne_true]
    exact q3.2 rfl (.bl false) Hs3 H' e123 R3 (.bl false)
theorem je_ch {op op' : CmpOp} {r r' : R2} {o o' : Op2} (h : Op2Ok c.K r o) (h' : Op2Ok c.K r' o') (ho : OpR X (compareOp op) r) (ho' : OpR X (compareOp op') r') (ha : JE X c a ta) (hb : JE X c b tb) (hd : JE X c d td) (hm : lastMarks [op, op'] [b, d] = false := by rfl) :
    JE X c (.Compare a [op, op'] [b, d] pos) (eCh o o' ta tb td) :=
  ⟨peI (pe_chain ho ho' ha.run hb.run hd.run hm) fun _ _ _ q => ch_sound h h' ha.mono hb.mono hd.mono q, monoCh h.mono h'.mono ha.mono hb.mono hd.mono⟩
theorem jt_ch {op op' : CmpOp} {r r' : R2} {o o' : Op2} (h : Op2Ok c.K r o) (h' : Op2Ok c.K r' o') (ho : OpR X (compareOp op) r) (ho' : OpR X (compareOp op') r') (ha : JE X c a ta) (hb : JE X c b tb) (hd : JE X c d td) (hm : lastMarks [op, op'] [b, d] = false := by rfl) :
    JT X c (.Compare a [op, op'] [b, d] pos) (tV (eCh o o' ta tb td)) := by
  have hE := je_ch (pos := pos) h h' ho ho' ha hb hd hm
  refine ⟨ptI (pt_chain ho ho' ha.run hb.run hd.run hm) fun σ H Q ⟨Fo, Hs, ρ, R, q⟩ => ?_, fun ρ ok ok' ex ex' m n q => hE.mono _ _ _ _ _ (fun r ρ1 q1 => q1.mono fun k q2 => m _ _ q2) n q⟩
  refine ch_sound h h' ha.mono hb.mono hd.mono ⟨Fo, Hs, ρ, R, hE.mono _ _ _ _ _ (fun r ρ1 q1 => ?_) (fun x ρ1 q1 => q1) q⟩
  intro v Hs1 H1 e1 R1 a1
  obtain ⟨k, hk, q2⟩ := q1.out
  exact ⟨k, R1.viewB a1 hk, q2 Hs1 H1 e1 R1⟩
end
end Dl

/-! Dw5: calls of defs. -/
namespace Dl
open PySem L2
section
variable {g : Cg} {A : List (Nat × V)} {Fo Hs Hs' H H' : Hp} {σ : L2.St} {ρ : Env} {v : V} {vs : List V} {ms : List Bool} {rs : List R} {ss os : List Sl}
/-! ### lists by places -/
theorem argsOf_get : ∀ {ms : List Bool} {rs : List Dl.R} {ss : List Sl} {q : Nat} {s : Sl}, argsOf ρ ms rs = some ss → ss[q]? = some s → ∃ m r, ms[q]? = some m ∧ rs[q]? = some r ∧ argOf ρ m r = some s
  | [], [], _, q, s, h, hs => by
    simp only [argsOf, Option.some.injEq] at h
    subst h
    simp at hs
  | m :: ms, r :: rs, _, q, s, h, hs => by
    simp only [argsOf, Option.bind_eq_some_iff, Option.map_eq_some_iff] at h
    obtain ⟨t, h1, us, h2, rfl⟩ := h
    cases q with
    | zero =>
      simp at hs
      subst hs
      exact ⟨m, r, rfl, rfl, h1⟩
    | succ q =>
      obtain ⟨m', r', a, b, d⟩ := argsOf_get (q := q) (s := s) h2 (by simpa using hs)
      exact ⟨m', r', by simpa using a, by simpa using b, d⟩
  | [], _ :: _, _, _, _, h, _ => by simp [argsOf] at h
  | _ :: _, [], _, _, _, h, _ => by simp [argsOf] at h
theorem argsOf_len : ∀ {ms : List Bool} {rs : List Dl.R} {ss : List Sl}, argsOf ρ ms rs = some ss → ms.length = ss.length ∧ rs.length = ss.length
  | [], [], _, h => by
    simp only [argsOf, Option.some.injEq] at h
    subst h
    exact ⟨rfl, rfl⟩
  | m :: ms, r :: rs, _, h => by
    simp only [argsOf, Option.bind_eq_some_iff, Option.map_eq_some_iff] at h
    obtain ⟨t, h1, us, h2, rfl⟩ := h
    obtain ⟨a, b⟩ := argsOf_len h2
    exact ⟨by simp [a], by simp [b]⟩
  | [], _ :: _, _, h => by simp [argsOf] at h
  | _ :: _, [], _, h => by simp [argsOf] at h
theorem ResAll.get {K : PySem.W.Frag} : ∀ {vs : List V} {rs : List Dl.R} {q : Nat} {r : Dl.R}, ResAll K Hs σ vs rs → rs[q]? = some r → ∃ v, vs[q]? = some v ∧ ResAt K Hs σ v r
  | _, _, _, _, .nil, e => by simp at e
  | _, _, 0, _, .cons h _, e => by
    simp at e
    subst e
    exact ⟨_, rfl, h⟩
  | _, _, q + 1, r, .cons _ t, e => by
    obtain ⟨v, h1, h2⟩ := ResAll.get (q := q) (r := r) t (by simpa using e)
    exact ⟨v, by simpa using h1, h2⟩
theorem refs_mem : ∀ {ms : List Bool} {rs : List Dl.R} {q i : Nat}, ms[q]? = some true → rs[q]? = some (.b i) → i ∈ refsOf ms rs
  | [], _, q, i, h, _ => by simp at h
  | m :: ms, [], q, i, _, h => by simp at h
  | m :: ms, r :: rs, 0, i, h1, h2 => by
    simp at h1 h2
    subst h1 h2
    simp [refsOf]
  | m :: ms, r :: rs, q + 1, i, h1, h2 => by
    have ih := refs_mem (ms := ms) (rs := rs) (q := q) (i := i) (by simpa using h1) (by simpa using h2)
    cases m <;> cases r <;> simp [refsOf, ih]
theorem lent_mem : ∀ {ms : List Bool} {rs : List Dl.R} {q i : Nat}, ms[q]? = some false → rs[q]? = some (.b i) → i ∈ lentOf ms rs
  | [], _, q, i, h, _ => by simp at h
  | m :: ms, [], q, i, _, h => by simp at h
  | m :: ms, r :: rs, 0, i, h1, h2 => by
    simp at h1 h2
    subst h1 h2
    simp [lentOf]
  | m :: ms, r :: rs, q + 1, i, h1, h2 => by
    have ih := lent_mem (ms := ms) (rs := rs) (q := q) (i := i) (by simpa using h1) (by simpa using h2)
    cases m <;> cases r <;> simp [lentOf, ih]
theorem lent_of : ∀ {ms : List Bool} {rs : List Dl.R} {i : Nat}, i ∈ lentOf ms rs → ∃ q : Nat, ms[q]? = some false ∧ rs[q]? = some (.b i)
  | [], _, i, h => by simp [lentOf] at h
  | m :: ms, [], i, h => by cases m <;> simp [lentOf] at h
  | false :: ms, .b j :: rs, i, h => by
    simp only [lentOf, List.mem_cons] at h
    rcases h with rfl | h
    · exact ⟨0, rfl, rfl⟩
    · obtain ⟨q, a, b⟩ := lent_of h
      exact ⟨q + 1, by simpa using a, by simpa using b⟩
  | true :: ms, r :: rs, i, h => by
    obtain ⟨q, a, b⟩ := lent_of (show i ∈ lentOf ms rs by cases r <;> simpa [lentOf] using h)
    exact ⟨q + 1, by simpa using a, by simpa using b⟩
  | false :: ms, .d x :: rs, i, h => by
    obtain ⟨q, a, b⟩ := lent_of (show i ∈ lentOf ms rs by simpa [lentOf] using h)
    exact ⟨q + 1, by simpa using a, by simpa using b⟩
theorem refs_of : ∀ {ms : List Bool} {rs : List Dl.R} {i : Nat}, i ∈ refsOf ms rs → ∃ q : Nat, ms[q]? = some true ∧ rs[q]? = some (.b i)
  | [], _, i, h => by simp [refsOf] at h
  | m :: ms, [], i, h => by cases m <;> simp [refsOf] at h
  | true :: ms, .b j :: rs, i, h => by
    simp only [refsOf, List.mem_cons] at h
    rcases h with rfl | h
    · exact ⟨0, rfl, rfl⟩
    · obtain ⟨q, a, b⟩ := refs_of h
      exact ⟨q + 1, by simpa using a, by simpa using b⟩
  | false :: ms, r :: rs, i, h => by
    obtain ⟨q, a, b⟩ := refs_of (show i ∈ refsOf ms rs by cases r <;> simpa [refsOf] using h)
    exact ⟨q + 1, by simpa using a, by simpa using b⟩
  | true :: ms, .d x :: rs, i, h => by
    obtain ⟨q, a, b⟩ := refs_of (show i ∈ refsOf ms rs by simpa [refsOf] using h)
    exact ⟨q + 1, by simpa using a, by simpa using b⟩
theorem refs_one : ∀ {ms : List Bool} {rs : List Dl.R} {q q' i : Nat}, (refsOf ms rs).Nodup → ms[q]? = some true → rs[q]? = some (.b i) → ms[q']? = some true → rs[q']? = some (.b i) → q = q'
  | [], _, q, q', i, _, h, _, _, _ => by simp at h
  | m :: ms, [], q, q', i, _, _, h, _, _ => by simp at h
  | m :: ms, r :: rs, q, q', i, nd, h1, h2, h3, h4 => by
    have nd' : (refsOf ms rs).Nodup := by
      cases m <;> cases r <;> simp only [refsOf] at nd <;> first | exact nd | exact (List.nodup_cons.mp nd).2
    cases q with
    | zero =>
      cases q' with
      | zero => rfl
      | succ q' =>
        simp at h1 h2
        subst h1 h2
        have := refs_mem (ms := ms) (rs := rs) (q := q') (i := i) (by simpa using h3) (by simpa using h4)
        simp only [refsOf] at nd
        exact absurd this (List.nodup_cons.mp nd).1
    | succ q =>
      cases q' with
      | zero =>
        simp at h3 h4
        subst h3 h4
        have := refs_mem (ms := ms) (rs := rs) (q := q) (i := i) (by simpa using h1) (by simpa using h2)
        simp only [refsOf] at nd
        exact absurd this (List.nodup_cons.mp nd).1
      | succ q' =>
        have := refs_one (q := q) (q' := q') (i := i) nd' (by simpa using h1) (by simpa using h2) (by simpa using h3) (by simpa using h4)
        rw [this]
theorem putAll_len : ∀ {ρ : Env} {ms : List Bool} {rs : List Dl.R} {os : List Sl}, (putAll ρ ms rs os).length = ρ.length
  | _, true :: ms, .b i :: rs, o :: os => by simp [putAll, putAll_len]
  | _, true :: ms, .d i :: rs, o :: os => by simp [putAll, putAll_len]
  | _, false :: ms, r :: rs, o :: os => by simp [putAll, putAll_len]
  | _, [], _, _ => by simp [putAll]
  | _, _ :: _, [], _ => by simp [putAll]
  | _, _ :: _, _ :: _, [] => by simp [putAll]
theorem putAll_ne : ∀ {ρ : Env} {ms : List Bool} {rs : List Dl.R} {os : List Sl} {j : Nat}, j ∉ refsOf ms rs → (putAll ρ ms rs os)[j]? = ρ[j]?
  | _, true :: ms, .b i :: rs, o :: os, j, h => by
    simp only [refsOf, List.mem_cons, not_or] at h
    simp only [putAll]
    rw [putAll_ne h.2, List.getElem?_set_ne (Ne.symm h.1)]
  | _, true :: ms, .d i :: rs, o :: os, j, h => by
    simp only [putAll]
    exact putAll_ne (by simpa [refsOf] using h)
  | _, false :: ms, r :: rs, o :: os, j, h => by
    simp only [putAll]
    exact putAll_ne (by cases r <;> simpa [refsOf] using h)
  | _, [], _, _, _, _ => by simp [putAll]
  | _, _ :: _, [], _, _, _ => by simp [putAll]
  | _, _ :: _, _ :: _, [], _, _ => by simp [putAll]
theorem putAll_at : ∀ {ρ : Env} {ms : List Bool} {rs : List Dl.R} {os : List Sl} {j q : Nat} {o : Sl}, (refsOf ms rs).Nodup → ms[q]? = some true → rs[q]? = some (.b j) → os[q]? = some o → j < ρ.length → (putAll ρ ms rs os)[j]? = some (some o)
  | _, [], _, _, _, q, _, _, h, _, _, _ => by simp at h
  | _, _ :: _, [], _, _, q, _, _, _, h, _, _ => by simp at h
  | _, _ :: _, _ :: _, [], _, q, _, _, _, _, h, _ => by simp at h
  | ρ, m :: ms, r :: rs, o' :: os, j, 0, o, nd, h1, h2, h3, hl => by
    simp at h1 h2 h3
    subst h1 h2 h3
    simp only [putAll]
    simp only [refsOf] at nd
    rw [putAll_ne (List.nodup_cons.mp nd).1, List.getElem?_set_self hl]
  | ρ, m :: ms, r :: rs, o' :: os, j, q + 1, o, nd, h1, h2, h3, hl => by
    have nd' : (refsOf ms rs).Nodup := by
      cases m <;> cases r <;> simp only [refsOf] at nd <;> first | exact nd | exact (List.nodup_cons.mp nd).2
    have ih := fun ρ' hl' => putAll_at (ρ := ρ') (ms := ms) (rs := rs) (os := os) (j := j) (q := q) (o := o) nd' (by simpa using h1) (by simpa using h2) (by simpa using h3) hl'
    cases m <;> cases r <;> simp only [putAll] <;> first | exact ih _ hl | exact ih _ (by simpa using hl)
theorem okOut_get : ∀ {ss os : List Sl} {q : Nat} {s : Sl}, okOut ss os → ss[q]? = some s → ∃ o, os[q]? = some o ∧ (∀ d, s = .val d → o = .val d) ∧ (isOwn s = true → isOwn o = true)
  | [], [], q, s, _, h => by simp at h
  | x :: ss, o :: os, 0, s, h, hs => by
    simp at hs
    subst hs
    refine ⟨o, rfl, fun d e => ?_, fun e => ?_⟩
    · subst e; exact h.1
    · cases x <;> first | exact h.1 | cases e
  | x :: ss, o :: os, q + 1, s, h, hs => by
    have h' : okOut ss os := by cases x <;> exact h.2
    obtain ⟨o, a, b⟩ := okOut_get (q := q) (s := s) h' (by simpa using hs)
    exact ⟨o, by simpa using a, b⟩
  | [], _ :: _, _, _, h, _ => h.elim
  | x :: _, [], _, _, h, _ => by cases x <;> exact h.elim
theorem okOut_len : ∀ {ss os : List Sl}, okOut ss os → ss.length = os.length
  | [], [], _ => rfl
  | x :: ss, o :: os, h => by
    have h' : okOut ss os := by cases x <;> exact h.2
    simp [okOut_len h']
  | [], _ :: _, h => h.elim
  | x :: _, [], h => by cases x <;> exact h.elim
/-! ### a heap with more of another -/
open Classical in
/-- what stands in H at the places P, else G -/
noncomputable def joinH (P : Addr → Prop) (H G : Hp) : Hp := fun b => if P b then H b else G b
theorem joinH_yes {P : Addr → Prop} {H G : Hp} {b : Addr} (h : P b) : joinH P H G b = H b := if_pos h
theorem joinH_no {P : Addr → Prop} {H G : Hp} {b : Addr} (h : ¬ P b) : joinH P H G b = G b := if_neg h
end
/-- what a def promises over data, as a promise over the heap -/
def RetAt (g : Cg) (A : List (Nat × V)) (Fo Hs H : Hp) (σ : L2.St) (ρ : Env) (v : V) : Ret → Prop
  | .d d => Rel g A Fo Hs H σ ρ ∧ Dn g.K Hs v d
  | .new s => RelN g A Fo Hs H σ ρ v s
def spD (g : Cg) (S : Spec) : Sp := fun vs H Q E => ∃ Fo Hs ss, Rel g [] Fo Hs H (vs.map some) (ss.map some) ∧ S.run ss
  (fun r os => okOut ss os → ∀ v Hs' H', Ex Hs Hs' → RetAt g [] Fo Hs' H' (vs.map some) (os.map some) v r → Q v H')
  (fun x os => okOut ss os → ∀ C d Hs' H', Ex Hs Hs' → Rel g [] Fo Hs' H' (vs.map some) (os.map some) → XAt g Hs' H' x C d → E (.ref C) d H')
section
variable {g : Cg} {A : List (Nat × V)} {Fo Hs Hs' H H' : Hp} {σ : L2.St} {ρ : Env} {v : V} {vs : List V} {ms : List Bool} {rs : List R} {ss os : List Sl}
/-- a call's arguments leave the caller's state, and what comes back goes into it -/
theorem Rel.call (R : Rel g A Fo Hs H σ ρ) (a : ResAll g.K Hs σ vs rs) (hs : argsOf ρ ms rs = some ss) (kr : okRefs ms rs) :
    ∃ Fo1 Hs1, Ex Hs Hs1 ∧ Rel g [] Fo1 Hs1 H (vs.map some) (ss.map some) ∧ ∀ Hs2 H2 os xv xs, okOut ss os → Ex Hs1 Hs2 → (xs ≠ [] → lentOf ms rs = []) → Rel g [] Fo1 Hs2 H2 (vs.map some ++ xv) (os.map some ++ xs) →
      ∃ Hs3, Ex Hs Hs3 ∧ Rel g A Fo Hs3 H2 (σ ++ xv) (putAll ρ ms rs os ++ xs) ∧ ∀ v d, Dn g.K Hs2 v d → (lentOf ms rs = [] ∨ noL d = true) → Dn g.K Hs3 v d := by
  have RR := R
  obtain ⟨fps, h1, h2, h3, h4⟩ := R.env
  obtain ⟨lm, lr⟩ := argsOf_len hs
  have lv : vs.length = ss.length := a.len.trans lr
  -- the places lent, the places hidden
  let PL : Addr → Prop := fun b => ∃ j, j ∈ lentOf ms rs ∧ b ∈ fps j
  let PH : Addr → Prop := fun b => ∃ j, j ∉ refsOf ms rs ∧ j ∉ lentOf ms rs ∧ b ∈ fps j
  have lr' : ∀ i, i ∈ lentOf ms rs → i ∉ refsOf ms rs := fun i h h' => by
    rcases kr.2 with z | z
    · rw [z] at h'; simp at h'
    · rw [z] at h; simp at h
  let Hs1 := joinH PL H Hs
  let Fo1 := joinH PH H Fo
  have eHs : Ex Hs Hs1 := fun b o e => by
    have n : ¬ PL b := fun ⟨j, _, hb⟩ => by rw [(h4 j b hb).1] at e; cases e
    show joinH PL H Hs b = some o
    rw [joinH_no n]
    exact e
  have eFo : Ex Fo Fo1 := fun b o e => by
    have n : ¬ PH b := fun ⟨j, _, _, hb⟩ => by rw [(h4 j b hb).2.1] at e; cases e
    show joinH PH H Fo b = some o
    rw [joinH_no n]
    exact e
  have HsH : Ex Hs1 H := fun b o e => by
    by_cases p : PL b
    · rw [show Hs1 b = H b from joinH_yes p] at e; exact e
    · rw [show Hs1 b = Hs b from joinH_no p] at e; exact R.hs b o e
  have FoH : Ex Fo1 H := fun b o e => by
    by_cases p : PH b
    · rw [show Fo1 b = H b from joinH_yes p] at e; exact e
    · rw [show Fo1 b = Fo b from joinH_no p] at e; exact R.fo b o e
  have ref_out : ∀ i p, i ∈ refsOf ms rs → p ∈ fps i → Hs1 p = none ∧ Fo1 p = none := fun i p hi hp => by
    obtain ⟨n1, n2, _⟩ := h4 i p hp
    refine ⟨?_, ?_⟩
    · rw [show Hs1 p = Hs p from joinH_no (fun ⟨j, hj, hb⟩ => lr' j hj (by rw [← h3 i j p hp hb]; exact hi))]
      exact n1
    · rw [show Fo1 p = Fo p from joinH_no (fun ⟨j, hj, _, hb⟩ => hj (by rw [← h3 i j p hp hb]; exact hi))]
      exact n2
  have dj1 : ∀ b, Hs1 b ≠ none → Fo1 b = none := fun b hb => by
    by_cases p : PL b
    · obtain ⟨j, hj, hbj⟩ := p
      rw [show Fo1 b = Fo b from joinH_no (fun ⟨k, _, hk, hbk⟩ => hk (by rw [← h3 j k b hbj hbk]; exact hj))]
      exact (h4 j b hbj).2.1
    · rw [show Hs1 b = Hs b from joinH_no p] at hb
      rw [show Fo1 b = Fo b from joinH_no (fun ⟨k, _, _, hbk⟩ => by rw [(h4 k b hbk).1] at hb; exact hb rfl)]
      exact R.dj b hb
  have ntH : ∀ j b o, b ∈ fps j → H b = some o → isTbl o = false := fun j b o hb e => by
    obtain ⟨_, _, u, e2, n⟩ := h4 j b hb
    rw [e] at e2; cases e2; exact n
  have nt1 : ∀ b o, Hs1 b = some o → isTbl o = false := fun b o e => by
    by_cases p : PL b
    · obtain ⟨j, hj, hb⟩ := id p
      rw [show Hs1 b = H b from joinH_yes p] at e
      exact ntH j b o hb e
    · rw [show Hs1 b = Hs b from joinH_no p] at e; exact R.nt b o e
  have ft1 : ∀ b o, Fo1 b = some o → isTbl o = false := fun b o e => by
    by_cases p : PH b
    · obtain ⟨j, _, _, hb⟩ := id p
      rw [show Fo1 b = H b from joinH_yes p] at e
      exact ntH j b o hb e
    · rw [show Fo1 b = Fo b from joinH_no p] at e; exact R.ft b o e
  -- which name an argument's thing belongs to
  let nm : Nat → Option Nat := fun q => match ms[q]?, rs[q]? with
    | some true, some (.b i) => some i
    | _, _ => none
  have nm_some : ∀ q i, nm q = some i → ms[q]? = some true ∧ rs[q]? = some (.b i) := fun q i h => by
    simp only [nm] at h
    split at h
    · rename_i e1 e2
      cases h
      exact ⟨e1, e2⟩
    · cases h
  have nm_of : ∀ q i, ms[q]? = some true → rs[q]? = some (.b i) → nm q = some i := fun q i e1 e2 => by
    simp only [nm, e1, e2]
  have nm_ref : ∀ q i, nm q = some i → i ∈ refsOf ms rs := fun q i h => refs_mem (nm_some q i h).1 (nm_some q i h).2
  have nm_inj : ∀ q q' i, nm q = some i → nm q' = some i → q = q' := fun q q' i h h' => refs_one kr.1 (nm_some q i h).1 (nm_some q i h).2 (nm_some q' i h').1 (nm_some q' i h').2
  let fq : Nat → List Addr := fun q => match nm q with
    | some i => fps i
    | none => []
  refine ⟨Fo1, Hs1, eHs, ⟨by simp [lv], ⟨fq, fun q s hq => ?_, fun q => ?_, fun q q' p hp hp' => ?_, fun q p hp => ?_⟩, HsH, FoH, dj1, nt1, ft1, R.tabs, fun _ h => nomatch h⟩, ?_⟩
  · -- the arguments
    rw [List.getElem?_map] at hq
    simp only [Option.map_eq_some_iff] at hq
    obtain ⟨s', hq, e⟩ := hq
    cases e
    obtain ⟨m, r, e1, e2, e3⟩ := argsOf_get hs hq
    obtain ⟨v, hv, av⟩ := a.get e2
    refine ⟨v, by rw [List.getElem?_map, hv]; rfl, ?_⟩
    cases m with
    | true =>
      cases r with
      | d x => simp [argOf] at e3
      | b i =>
        simp only [argOf] at e3
        split at e3
        · rename_i t ht
          split at e3
          · cases e3
            have : fq q = fps i := by simp only [fq, nm_of q i e1 e2]
            rw [this]
            obtain ⟨w, hw, ho⟩ := h1 i s ht
            have av : σ[i]? = some (some v) := av
            rw [av] at hw; cases hw
            exact ho.frame eHs fun _ _ => rfl
          · cases e3
        · cases e3
    | false =>
      have hn : fq q = [] := by
        have : nm q = none := by simp only [nm, e1]
        simp only [fq, this]
      rw [hn]
      cases r with
      | d x =>
        simp only [argOf, Option.some.injEq] at e3
        subst e3
        exact .val (Dn.ex eHs av)
      | b i =>
        have key : ∀ t d, ρ[i]? = some (some t) → flat t = some d → isOwn t = true → s = .val d → OwnAt g.K Hs1 H v s [] := fun t d ht hd ot es => by
          obtain ⟨w, hw, ho⟩ := h1 i t ht
          have av : σ[i]? = some (some v) := av
          rw [av] at hw; cases hw
          subst es
          rcases ho.flat hd with ⟨e, q⟩ | ⟨p, o, ep, rfl, hp, q⟩
          · obtain ⟨p, fq, _, e'⟩ := ho.at ot
            rw [e'] at e; cases e
          · refine .val (q Hs1 eHs ?_)
            rw [show Hs1 p = H p from joinH_yes ⟨i, lent_mem e1 e2, by rw [ep]; simp⟩]
            exact hp
        simp only [argOf] at e3
        split at e3
        · rename_i xs ht
          simp only [Option.map_eq_some_iff] at e3
          obtain ⟨d, hd, es⟩ := e3
          exact key _ d ht hd rfl es.symm
        · rename_i xs ht
          simp only [Option.map_eq_some_iff] at e3
          obtain ⟨d, hd, es⟩ := e3
          exact key _ d ht hd rfl es.symm
        · cases e3
  · cases e : nm q with
    | none => simp only [fq, e]; exact List.nodup_nil
    | some i => simp only [fq, e]; exact h2 i
  · cases e : nm q with
    | none => simp only [fq, e] at hp; simp at hp
    | some i =>
      cases e' : nm q' with
      | none => simp only [fq, e'] at hp'; simp at hp'
      | some i' =>
        simp only [fq, e] at hp
        simp only [fq, e'] at hp'
        have := h3 i i' p hp hp'
        subst this
        exact nm_inj q q' i e e'
  · cases e : nm q with
    | none => simp only [fq, e] at hp; simp at hp
    | some i =>
      simp only [fq, e] at hp
      obtain ⟨a1, a2⟩ := ref_out i p (nm_ref q i e) hp
      exact ⟨a1, a2, (h4 i p hp).2.2⟩
  · -- what comes back
    intro Hs2 H2 os xv xs ko e12 hx R2
    obtain ⟨fps2, k1, k2, k3, k4⟩ := R2.env
    have lo : ss.length = os.length := okOut_len ko
    have lx : xs.length = xv.length := by
      have := R2.len
      simp at this
      omega
    have lσ := RR.len
    let Hs3 := joinH PL (fun _ => none) Hs2
    have e3 : Ex Hs Hs3 := fun b o e => by
      have n : ¬ PL b := fun ⟨j, _, hb⟩ => by rw [(h4 j b hb).1] at e; cases e
      show joinH PL (fun _ => none) Hs2 b = some o
      rw [joinH_no n]
      exact e12 b o (eHs b o e)
    have le32 : ∀ b o, Hs3 b = some o → Hs2 b = some o := fun b o e => by
      by_cases p : PL b
      · rw [show Hs3 b = none from joinH_yes (H := fun _ => none) p] at e; cases e
      · rw [show Hs3 b = Hs2 b from joinH_no p] at e; exact e
    have nl32 : lentOf ms rs = [] → Hs3 = Hs2 := fun z => by
      funext b
      exact joinH_no (fun ⟨j, hj, _⟩ => by rw [z] at hj; simp at hj)
    -- which argument a name's thing was
    have qn : ∀ j, j ∈ refsOf ms rs → ∃ q, nm q = some j := fun j hj => by
      obtain ⟨q, a1, a2⟩ := refs_of hj
      exact ⟨q, nm_of q j a1 a2⟩
    -- the other names' things stand
    have stand : ∀ j p, j ∉ refsOf ms rs → p ∈ fps j → H2 p = H p := fun j p hj hp => by
      obtain ⟨n1, n2, o, n3, n4⟩ := h4 j p hp
      by_cases l : j ∈ lentOf ms rs
      · have : Hs1 p = some o := by rw [show Hs1 p = H p from joinH_yes ⟨j, l, hp⟩]; exact n3
        rw [n3]
        exact R2.hs p o (e12 p o this)
      · have : Fo1 p = some o := by rw [show Fo1 p = H p from joinH_yes ⟨j, hj, l, hp⟩]; exact n3
        rw [n3]
        exact R2.fo p o this
    have out3 : ∀ j p, j ∉ refsOf ms rs → p ∈ fps j → Hs3 p = none := fun j p hj hp => by
      obtain ⟨n1, n2, o, n3, n4⟩ := h4 j p hp
      by_cases l : j ∈ lentOf ms rs
      · exact joinH_yes (H := fun _ => none) ⟨j, l, hp⟩
      · have : Fo1 p = some o := by rw [show Fo1 p = H p from joinH_yes ⟨j, hj, l, hp⟩]; exact n3
        cases z : Hs3 p with
        | none => rfl
        | some u =>
          have := R2.dj p (by rw [le32 p u z]; simp)
          rw [‹Fo1 p = some o›] at this; cases this
    -- places of both kinds part
    have apart : ∀ q p j, p ∈ fps2 q → j ∉ refsOf ms rs → p ∈ fps j → False := fun q p j hq hj hp => by
      obtain ⟨n1, n2, o, n3, n4⟩ := h4 j p hp
      obtain ⟨m1, m2, _⟩ := k4 q p hq
      by_cases l : j ∈ lentOf ms rs
      · have : Hs1 p = some o := by rw [show Hs1 p = H p from joinH_yes ⟨j, l, hp⟩]; exact n3
        rw [e12 p o this] at m1; cases m1
      · have : Fo1 p = some o := by rw [show Fo1 p = H p from joinH_yes ⟨j, hj, l, hp⟩]; exact n3
        rw [this] at m2; cases m2
    classical
    let src : Nat → Option Nat := fun j => if j < σ.length then (if h : ∃ q, nm q = some j then some h.choose else none) else some (vs.length + (j - σ.length))
    have src_lt : ∀ j q, src j = some q → j < σ.length → nm q = some j := fun j q h hj => by
      simp only [src, if_pos hj] at h
      split at h
      · rename_i hh
        have := hh.choose_spec
        cases h
        exact this
      · cases h
    have src_none : ∀ j, src j = none → j < σ.length ∧ j ∉ refsOf ms rs := fun j h => by
      by_cases hj : j < σ.length
      · simp only [src, if_pos hj] at h
        split at h
        · cases h
        · rename_i hh
          exact ⟨hj, fun z => hh (qn j z)⟩
      · simp only [src, if_neg hj] at h; cases h
    have nm_lt : ∀ q i, nm q = some i → q < vs.length := fun q i h => by
      have := (List.getElem?_eq_some_iff.mp (nm_some q i h).1).1
      omega
    have src_inj : ∀ j j' q, src j = some q → src j' = some q → j = j' := fun j j' q h h' => by
      by_cases hj : j < σ.length
      · have a1 := src_lt j q h hj
        by_cases hj' : j' < σ.length
        · have a2 := src_lt j' q h' hj'
          rw [a1] at a2; cases a2; rfl
        · simp only [src, if_neg hj'] at h'
          cases h'
          have := nm_lt _ _ a1
          omega
      · simp only [src, if_neg hj] at h
        by_cases hj' : j' < σ.length
        · have a2 := src_lt j' q h' hj'
          cases h
          have := nm_lt _ _ a2
          omega
        · simp only [src, if_neg hj'] at h'
          cases h
          injection h' with h'
          omega
    let fps3 : Nat → List Addr := fun j => match src j with
      | some q => fps2 q
      | none => fps j
    refine ⟨Hs3, e3, ⟨by simp [putAll_len, lσ, lx], ⟨fps3, fun j s hj => ?_, fun j => ?_, fun j j' p hp hp' => ?_, fun j p hp => ?_⟩, fun b o e => R2.hs b o (le32 b o e), fun b o e => R2.fo b o (eFo b o e), fun b hb => ?_, fun b o e => R2.nt b o (le32 b o e), R.ft, R2.tabs, fun q hq => ?_⟩, fun v d hd hn => ?_⟩
    · cases sj : src j with
      | some q =>
        have f3 : fps3 j = fps2 q := by simp only [fps3, sj]
        rw [f3]
        by_cases hjl : j < σ.length
        · have nq := src_lt j q sj hjl
          obtain ⟨b1, b2⟩ := nm_some q j nq
          have hq : q < ss.length := by have := nm_lt q j nq; omega
          obtain ⟨m, r, b1', b2', b3⟩ := argsOf_get hs (List.getElem?_eq_getElem hq)
          rw [b1] at b1'; cases b1'
          rw [b2] at b2'; cases b2'
          obtain ⟨o, ho, _, _⟩ := okOut_get ko (List.getElem?_eq_getElem hq)
          rw [List.getElem?_append_left (by rw [putAll_len, lσ]; exact hjl)] at hj
          rw [putAll_at kr.1 b1 b2 ho (by rw [lσ]; exact hjl)] at hj
          cases hj
          obtain ⟨v, hv, av⟩ := a.get b2
          have av : σ[j]? = some (some v) := av
          obtain ⟨w, hw, how⟩ := k1 q s (by rw [List.getElem?_append_left (by simp; omega), List.getElem?_map, ho]; rfl)
          rw [List.getElem?_append_left (by simp; omega), List.getElem?_map, hv] at hw
          cases hw
          refine ⟨v, by rw [List.getElem?_append_left hjl]; exact av, ?_⟩
          -- nothing was lent, where something was handed over
          have nl : lentOf ms rs = [] := by
            rcases kr.2 with z | z
            · have := nm_ref q j nq
              rw [z] at this; simp at this
            · exact z
          rw [nl32 nl]
          exact how
        · simp only [src, if_neg hjl] at sj
          cases sj
          rw [List.getElem?_append_right (by rw [putAll_len, lσ]; omega), putAll_len, lσ] at hj
          obtain ⟨w, hw, how⟩ := k1 (vs.length + (j - σ.length)) s (by
            rw [List.getElem?_append_right (by simp; omega)]
            simp only [List.length_map, ← lo, ← lv]
            rw [Nat.add_sub_cancel_left]
            exact hj)
          rw [List.getElem?_append_right (by simp)] at hw
          simp only [List.length_map, Nat.add_sub_cancel_left] at hw
          refine ⟨w, by rw [List.getElem?_append_right (by omega)]; exact hw, ?_⟩
          have nl : lentOf ms rs = [] := hx (by intro z; rw [z] at hj; simp at hj)
          rw [nl32 nl]
          exact how
      | none =>
        obtain ⟨hjl, nr⟩ := src_none j sj
        have f3 : fps3 j = fps j := by simp only [fps3, sj]
        rw [f3]
        rw [List.getElem?_append_left (by rw [putAll_len, lσ]; exact hjl), putAll_ne nr] at hj
        obtain ⟨w, hw, how⟩ := h1 j s hj
        exact ⟨w, by rw [List.getElem?_append_left hjl]; exact hw, how.frame e3 fun p hp => stand j p nr hp⟩
    · cases sj : src j with
      | some q => simp only [fps3, sj]; exact k2 q
      | none => simp only [fps3, sj]; exact h2 j
    · cases sj : src j with
      | some q =>
        simp only [fps3, sj] at hp
        cases sj' : src j' with
        | some q' =>
          simp only [fps3, sj'] at hp'
          have := k3 q q' p hp hp'
          subst this
          exact src_inj j j' q sj sj'
        | none =>
          simp only [fps3, sj'] at hp'
          exact (apart q p j' hp (src_none j' sj').2 hp').elim
      | none =>
        simp only [fps3, sj] at hp
        cases sj' : src j' with
        | some q' =>
          simp only [fps3, sj'] at hp'
          exact (apart q' p j hp' (src_none j sj).2 hp).elim
        | none =>
          simp only [fps3, sj'] at hp'
          exact h3 j j' p hp hp'
    · cases sj : src j with
      | some q =>
        simp only [fps3, sj] at hp
        obtain ⟨m1, m2, m3⟩ := k4 q p hp
        refine ⟨?_, eFo.free m2, m3⟩
        cases z : Hs3 p with
        | none => rfl
        | some u => rw [le32 p u z] at m1; cases m1
      | none =>
        simp only [fps3, sj] at hp
        obtain ⟨hjl, nr⟩ := src_none j sj
        obtain ⟨n1, n2, o, n3, n4⟩ := h4 j p hp
        exact ⟨out3 j p nr hp, n2, o, by rw [stand j p nr hp]; exact n3, n4⟩
    · cases z : Hs3 b with
      | none => exact absurd z hb
      | some u => exact eFo.free (R2.dj b (by rw [le32 b u z]; simp))
    · have := R.anch q hq
      rw [List.getElem?_append_left (List.getElem?_eq_some_iff.mp this).1]
      exact this
    · rcases hn with z | z
      · rw [nl32 z]; exact hd
      · refine Dn.exT (fun b xs e => ?_) hd z
        by_cases p : PL b
        · obtain ⟨j, hj, hb⟩ := id p
          -- what was lent is no tuple
          exfalso
          obtain ⟨n1, n2, o, n3, n4⟩ := h4 j b hb
          have e' : Hs1 b = some o := by rw [show Hs1 b = H b from joinH_yes p]; exact n3
          have := e12 b o e'
          rw [e] at this
          cases this
          obtain ⟨q, b1, b2⟩ := lent_of hj
          have hq : q < ss.length := by have := (List.getElem?_eq_some_iff.mp b1).1; omega
          obtain ⟨m, r, b1', b2', b3⟩ := argsOf_get hs (List.getElem?_eq_getElem hq)
          rw [b1] at b1'; cases b1'
          rw [b2] at b2'; cases b2'
          obtain ⟨w, hw, av⟩ := a.get b2
          simp only [argOf] at b3
          split at b3
          · rename_i ys ht
            simp only [Option.map_eq_some_iff] at b3
            obtain ⟨x, hx, _⟩ := b3
            obtain ⟨w, hw, ho⟩ := h1 j _ ht
            generalize hfp : fps j = fp at ho hb
            cases ho with
            | lst h r =>
              simp only [flat, Option.map_eq_some_iff] at hx
              obtain ⟨es, h7, _⟩ := hx
              rw [vals_some h7] at r
              obtain ⟨rfl, _⟩ := r.vals
              simp at hb
              subst hb
              rw [h] at n3; cases n3
          · rename_i ys ht
            simp only [Option.map_eq_some_iff] at b3
            obtain ⟨x, hx, _⟩ := b3
            obtain ⟨w, hw, ho⟩ := h1 j _ ht
            simp only [flat, Option.map_eq_some_iff] at hx
            obtain ⟨es, h7, _⟩ := hx
            generalize hfp : fps j = fp at ho hb
            cases ho with
            | dK h r =>
              obtain ⟨rfl, _⟩ := r.vals h7
              simp at hb
              subst hb
              rw [h] at n3; cases n3
            | dT h r =>
              obtain ⟨rfl, _⟩ := r.vals h7
              simp at hb
              subst hb
              rw [h] at n3; cases n3
          · cases b3
        · show joinH PL (fun _ => none) Hs2 b = some (.tup xs)
          rw [joinH_no p]
          exact e
end
end Dl

/-! Dw6: calls as rules; a def's body and its promise. -/
namespace Dl
open PySem PySem.Spec PyProof.Rows L2
section
variable {X : Cx} {c : Cn} {e a b : Expr} {es : List Expr} {ta : TAD} {pos p : Pos} {S : Spec} {ms : List Bool} {k : Nat} {f : Addr} {fd : FuncData} {ps : List Str} {x : Str}
theorem monoCall (m : MonoA ta) : MonoE (eCall S ms ta) := fun ρ ok ok' ex ex' p n q => m _ _ _ _ _ (fun rs ρ1 q1 => q1.mono fun ss q2 => ⟨q2.1, q2.2.mono (fun r os h ko => by
  have h := h ko
  cases r with
  | d d => exact ⟨h.1, p _ _ h.2⟩
  | new s => exact ⟨h.1, h.2.mono fun d q => p _ _ q⟩) fun x os h ko => ⟨(h ko).1, n _ _ (h ko).2⟩⟩) n q
theorem monoNCall (m : MonoA ta) : MonoN (nCall S ms ta) := fun ρ ok ok' ex ex' p n q => m _ _ _ _ _ (fun rs ρ1 q1 => q1.mono fun ss q2 => ⟨q2.1, q2.2.1, q2.2.2.mono (fun r os h ko => by
  have h := h ko
  cases r with
  | d d => exact h
  | new s => exact ⟨h.1, p _ _ h.2⟩) fun x os h ko => ⟨(h ko).1, n _ _ (h ko).2⟩⟩) n q
theorem XAt.conv {g : Cg} {Hs Hs3 H : Hp} {x : XV} {C : Addr} {d : Option Addr} {l : List Nat} (a : XAt g Hs H x C d) (h : ∀ v d, Dn g.K Hs v d → (l = [] ∨ noL d = true) → Dn g.K Hs3 v d) (hl : l = [] ∨ x.fs = []) : XAt g Hs3 H x C d := by
  refine ⟨a.1, ?_⟩
  cases d with
  | none => exact a.2
  | some u =>
    obtain ⟨h0, fs, h1, h2⟩ := a.2
    refine ⟨h0, fs, h1, ?_⟩
    rcases hl with z | z
    · have go : ∀ {fs ds}, XFs g.K Hs fs ds → XFs g.K Hs3 fs ds := by
        intro fs ds q
        induction q with
        | nil => exact .nil
        | cons q1 _ ih => exact .cons (h _ _ q1 (.inl z)) ih
      exact go h2
    · exact absurd z h0
/-- what is handed over, into a promise -/
theorem call_sound {E : XK} {Q : VK} {σ : L2.St} {H : Hp} (hW : ∀ cls d H, c.W cls d σ H → E cls d H) (m : MonoA ta) (q : gE c (eCall S ms ta) σ H Q) : gA c ta σ H fun vs H1 => spD c.toCg S vs H1 Q E := by
  obtain ⟨Fo, Hs, ρ, R, q⟩ := q
  refine ⟨Fo, Hs, ρ, R, m _ _ _ _ _ (fun rs ρ1 q1 => ?_) (fun x ρ1 q1 => q1) q⟩
  intro vs Hs1 H1 e1 R1 a1
  obtain ⟨ss, hs, kr, q2⟩ := q1.out
  obtain ⟨Fo1, Hs2, e2, Rc, back⟩ := R1.call a1 hs kr
  refine ⟨Fo1, Hs2, ss, Rc, q2.mono (fun r os h ko v Hs' H' e' ret => ?_) (fun x os h ko C d Hs' H' e' Rr xa => ?_)⟩
  · have h := h ko
    cases r with
    | d d =>
      obtain ⟨Rr, dn⟩ := ret
      obtain ⟨Hs3, e3, R3, cv⟩ := back Hs' H' os [] [] ko e' (fun z => absurd rfl z) (by simpa using Rr)
      rw [List.append_nil, List.append_nil] at R3
      exact h.2 v Hs3 H' (e1.trans e3) R3 (cv v d dn h.1)
    | new s =>
      obtain ⟨nl, h⟩ := h
      obtain ⟨d, hd, h⟩ := h.out
      obtain ⟨Hs3, e3, R3, cv⟩ := back Hs' H' os [some v] [some s] ko e' (fun _ => nl) ret
      obtain ⟨Hs4, e4, R4, dn⟩ := RelN.freeze R3 R1.alt hd
      exact h v Hs4 H' ((e1.trans e3).trans e4) R4 dn
  · have h := h ko
    obtain ⟨Hs3, e3, R3, cv⟩ := back Hs' H' os [] [] ko e' (fun z => absurd rfl z) (by simpa using Rr)
    rw [List.append_nil, List.append_nil] at R3
    exact hW _ _ _ (h.2 C d Hs3 H' (e1.trans e3) R3 (xa.conv cv h.1))
theorem ncall_sound {E : XK} {Q : VK} {σ : L2.St} {H : Hp} (hW : ∀ cls d H, c.W cls d σ H → E cls d H) (m : MonoA ta) (q : gN c (nCall S ms ta) σ H Q) : gA c ta σ H fun vs H1 => spD c.toCg S vs H1 Q E := by
  obtain ⟨Fo, Hs, ρ, R, q⟩ := q
  refine ⟨Fo, Hs, ρ, R, m _ _ _ _ _ (fun rs ρ1 q1 => ?_) (fun x ρ1 q1 => q1) q⟩
  intro vs Hs1 H1 e1 R1 a1
  obtain ⟨ss, hs, kr, nl, q2⟩ := q1.out
  obtain ⟨Fo1, Hs2, e2, Rc, back⟩ := R1.call a1 hs kr
  refine ⟨Fo1, Hs2, ss, Rc, q2.mono (fun r os h ko v Hs' H' e' ret => ?_) (fun x os h ko C d Hs' H' e' Rr xa => ?_)⟩
  · have h := h ko
    cases r with
    | d d => exact h.elim
    | new s =>
      obtain ⟨so, h⟩ := h
      obtain ⟨Hs3, e3, R3, cv⟩ := back Hs' H' os [some v] [some s] ko e' (fun _ => nl) ret
      exact h v Hs3 H' (e1.trans e3) R3 so
  · have h := h ko
    obtain ⟨Hs3, e3, R3, cv⟩ := back Hs' H' os [] [] ko e' (fun z => absurd rfl z) (by simpa using Rr)
    rw [List.append_nil, List.append_nil] at R3
    exact hW _ _ _ (h.2 C d Hs3 H' (e1.trans e3) R3 (xa.conv cv h.1))
/-- f(e, ..), f a def of the text -/
theorem je_call (F : FnOk X.prog X.w X.K X.mg X.base (L2.CX X.prog X.w) k f fd ps (spD c.toCg S)) (hr : Room k X.A) (hg : Gl X x) (hm : X.mg x = some (.ref f)) (hk : PySem.W.keepIn X.K (.ref f) = true) (hb : Binds X.K fd ps []) (tk : Takes X c.W) (ha : JA X c (e :: es) ta)
    (hdb : (x == ("__debug__" : Str)) = false := by decide) (he : starEach (e :: es) X.env = (false, eval e X.env) :: starEach es X.env := by rfl) (hpl : (backTo pos (starEach es X.env)).any (·.1) = false := by rfl) :
    JE X c (.Call (.Name x p) (e :: es) [] pos) (eCall S ms ta) :=
  ⟨peI (pe_callS F hr hg hm hk hb (fun σ => passAt tk σ) ha.run hdb he hpl) fun σ H Q q => call_sound (fun _ _ _ h => h) ha.mono q, monoCall ha.mono⟩
theorem jn_call (F : FnOk X.prog X.w X.K X.mg X.base (L2.CX X.prog X.w) k f fd ps (spD c.toCg S)) (hr : Room k X.A) (hg : Gl X x) (hm : X.mg x = some (.ref f)) (hk : PySem.W.keepIn X.K (.ref f) = true) (hb : Binds X.K fd ps []) (tk : Takes X c.W) (ha : JA X c (e :: es) ta)
    (hdb : (x == ("__debug__" : Str)) = false := by decide) (he : starEach (e :: es) X.env = (false, eval e X.env) :: starEach es X.env := by rfl) (hpl : (backTo pos (starEach es X.env)).any (·.1) = false := by rfl) :
    JN X c (.Call (.Name x p) (e :: es) [] pos) (nCall S ms ta) :=
  ⟨peI (pe_callS F hr hg hm hk hb (fun σ => passAt tk σ) ha.run hdb he hpl) fun σ H Q q => ncall_sound (fun _ _ _ h => h) ha.mono q, monoNCall ha.mono⟩
end

/-! ### statements -/
def Cn.ends (c : Cn) (Fo Hs : Hp) (D : Ends) : DEnds where
  nx := fun ρ' => ∀ σ' Hs' H', Ex Hs Hs' → Rel c.toCg c.A Fo Hs' H' σ' ρ' → D.nx σ' H'
  rt := fun r ρ' => ∀ v σ' Hs' H', Ex Hs Hs' → RetAt c.toCg c.A Fo Hs' H' σ' ρ' v r → D.rt v H'
  bk := fun ρ' => ∀ σ' Hs' H', Ex Hs Hs' → Rel c.toCg c.A Fo Hs' H' σ' ρ' → D.bk σ' H'
  ct := fun ρ' => ∀ σ' Hs' H', Ex Hs Hs' → Rel c.toCg c.A Fo Hs' H' σ' ρ' → D.ct σ' H'
  ex := fun x ρ' => ∀ σ' C d Hs' H', Ex Hs Hs' → Rel c.toCg c.A Fo Hs' H' σ' ρ' → XAt c.toCg Hs' H' x C d → c.W (.ref C) d σ' H'
def gS (c : Cn) (ts : TSD) : TS := fun D σ H => ∃ Fo Hs ρ, Rel c.toCg c.A Fo Hs H σ ρ ∧ ts (c.ends Fo Hs D) ρ
structure JS (X : Cx) (c : Cn) (st : Stmt) (ts : TSD) : Prop where
  run : PS X st (gS c ts)
  mono : MonoS ts
structure JB (X : Cx) (c : Cn) (st : List Stmt) (ts : TSD) : Prop where
  run : PSs X st (gS c ts)
  mono : MonoS ts
theorem DEnds.Le.refl (D : DEnds) : DEnds.Le D D := ⟨fun _ h => h, fun _ _ h => h, fun _ h => h, fun _ h => h, fun _ _ h => h⟩
theorem Cn.ends.at {c : Cn} {Fo Hs Hs1 : Hp} {D : Ends} (e : Ex Hs Hs1) : DEnds.Le (c.ends Fo Hs D) (c.ends Fo Hs1 D) :=
  ⟨fun ρ h σ' Hs' H' e' R => h σ' Hs' H' (e.trans e') R, fun r ρ h v σ' Hs' H' e' R => h v σ' Hs' H' (e.trans e') R, fun ρ h σ' Hs' H' e' R => h σ' Hs' H' (e.trans e') R, fun ρ h σ' Hs' H' e' R => h σ' Hs' H' (e.trans e') R, fun x ρ h σ' C d Hs' H' e' R a => h σ' C d Hs' H' (e.trans e') R a⟩
theorem Cn.ends.ex_at {c : Cn} {Fo Hs Hs1 : Hp} {D : Ends} {σ : L2.St} {x : XV} {ρ : Env} (h : (c.ends Fo Hs D).ex x ρ) (e : Ex Hs Hs1) : c.ex Fo Hs1 σ x ρ := fun C d Hs' H' e' R a => h σ C d Hs' H' (e.trans e') R a
section
variable {g : Cg} {A : List (Nat × V)} {Fo Hs Hs' H H' : Hp} {σ : L2.St} {ρ : Env} {v : V} {vs : List V} {ss os : List Sl} {N : List Str}
/-- a def's names at its start -/
theorem Rel.start (R : Rel g [] Fo Hs H (vs.map some) (ss.map some)) (hl : vs.length ≤ N.length) (hA : ∀ q ∈ A, vs[q.1]? = some q.2) : Rel g A Fo Hs H (L2.start N vs) (startD N.length ss) := by
  have lv : ss.length = vs.length := by simpa using R.len
  obtain ⟨fps, h1, h2, h3, h4⟩ := R.env
  refine ⟨by simp [L2.start, startD, lv], ⟨fps, fun j s hj => ?_, h2, h3, h4⟩, R.hs, R.fo, R.dj, R.nt, R.ft, R.tabs, fun q hq => ?_⟩
  · unfold startD at hj
    by_cases hjl : j < ss.length
    · rw [List.getElem?_append_left (by simpa using hjl)] at hj
      obtain ⟨w, h5, h6⟩ := h1 j s hj
      refine ⟨w, ?_, h6⟩
      unfold L2.start
      rw [List.getElem?_append_left (by simp; omega)]
      exact h5
    · rw [List.getElem?_append_right (by simp; omega)] at hj
      obtain ⟨_, z⟩ := List.getElem?_eq_some_iff.mp hj
      simp at z
  · have := hA q hq
    unfold L2.start
    rw [List.getElem?_append_left (by simp; exact (List.getElem?_eq_some_iff.mp this).1), List.getElem?_map, this]
    rfl
theorem afterD_get : ∀ {ss : List Sl} {ρ : Env} {os : List Sl}, afterD ss ρ = some os → okOut ss os ∧ ss.length ≤ ρ.length ∧ ∀ (q : Nat) (s o : Sl), ss[q]? = some s → os[q]? = some o → (∃ d, s = .val d ∧ o = .val d) ∨ (isOwn s = true ∧ ρ[q]? = some (some o))
  | [], ρ, os, h => by
    simp only [afterD, Option.some.injEq] at h
    subst h
    exact ⟨True.intro, Nat.zero_le _, fun q s o h => by simp at h⟩
  | x :: ss, [], os, h => by cases x <;> simp [afterD] at h
  | .val d :: ss, y :: ρ, os, h => by
    simp only [afterD, Option.map_eq_some_iff] at h
    obtain ⟨us, h1, rfl⟩ := h
    obtain ⟨a, b, k⟩ := afterD_get h1
    refine ⟨⟨rfl, a⟩, by simp; exact b, fun q s o hs ho => ?_⟩
    cases q with
    | zero =>
      simp at hs ho
      subst hs ho
      exact .inl ⟨d, rfl, rfl⟩
    | succ q =>
      simp only [List.getElem?_cons_succ] at hs ho ⊢
      exact k q s o hs ho
  | x :: ss, y :: ρ, os, h => by
    have key : ∀ x : Sl, isOwn x = true → afterD (x :: ss) (y :: ρ) = some os → okOut (x :: ss) os ∧ (x :: ss).length ≤ (y :: ρ).length ∧ ∀ (q : Nat) (s o : Sl), (x :: ss)[q]? = some s → os[q]? = some o → (∃ d, s = .val d ∧ o = .val d) ∨ (isOwn s = true ∧ (y :: ρ)[q]? = some (some o)) := by
      intro x hx h
      have h' : ∃ o us, y = some o ∧ isOwn o = true ∧ afterD ss ρ = some us ∧ os = o :: us := by
        cases y with
        | none => cases x <;> first | (simp [isOwn] at hx; done) | simp [afterD] at h
        | some o =>
          by_cases ho : isOwn o = true
          · have h2 : (afterD ss ρ).map (o :: ·) = some os := by cases x <;> first | (simp [isOwn] at hx; done) | simpa [afterD, ho] using h
            simp only [Option.map_eq_some_iff] at h2
            obtain ⟨us, h3, h4⟩ := h2
            exact ⟨o, us, rfl, ho, h3, h4.symm⟩
          · cases x <;> first | (simp [isOwn] at hx; done) | simp [afterD, ho] at h
      obtain ⟨o, us, rfl, ho, h1, rfl⟩ := h'
      obtain ⟨a, b, k⟩ := afterD_get h1
      refine ⟨by cases x <;> first | (simp [isOwn] at hx; done) | exact ⟨ho, a⟩, by simp; exact b, fun q s o' hs ho' => ?_⟩
      cases q with
      | zero =>
        simp at hs ho'
        subst hs ho'
        exact .inr ⟨hx, rfl⟩
      | succ q =>
        simp only [List.getElem?_cons_succ] at hs ho' ⊢
        exact k q s o' hs ho'
    cases x with
    | val d =>
      simp only [afterD, Option.map_eq_some_iff] at h
      obtain ⟨us, h1, rfl⟩ := h
      obtain ⟨a, b, k⟩ := afterD_get h1
      refine ⟨⟨rfl, a⟩, by simp; exact b, fun q s o hs ho => ?_⟩
      cases q with
      | zero =>
        simp at hs ho
        subst hs ho
        exact .inl ⟨d, rfl, rfl⟩
      | succ q =>
        simp only [List.getElem?_cons_succ] at hs ho ⊢
        exact k q s o hs ho
    | lst _ => exact key _ rfl h
    | tup _ => exact key _ rfl h
    | dct _ => exact key _ rfl h
    | obj _ _ => exact key _ rfl h
/-- the arguments at a def's end, seen from outside -/
theorem Rel.after {xv : L2.St} {xs : Env} (R : Rel g A Fo Hs' H' (σ ++ xv) (ρ ++ xs)) (hxl : xs.length = xv.length) (e : Ex Hs Hs') (h : afterD ss ρ = some os) (h0 : ∀ (q : Nat) (d : PyData), ss[q]? = some (.val d) → ∃ v, vs[q]? = some v ∧ Dn g.K Hs v d) (hv : vs.length = ss.length)
    (hA : ∀ (q : Nat) (s : Sl) (v : V), ss[q]? = some s → isOwn s = true → vs[q]? = some v → (q, v) ∈ A) (hAl : ∀ q ∈ A, q.1 < σ.length) : Rel g [] Fo Hs' H' (vs.map some ++ xv) (os.map some ++ xs) := by
  obtain ⟨ko, lr, k⟩ := afterD_get h
  have lo := okOut_len ko
  have lσ : ρ.length = σ.length := by have := R.len; simp at this; omega
  obtain ⟨fps, h1, h2, h3, h4⟩ := R.env
  let m : Nat → Option Nat := fun j => if j < vs.length then (match ss[j]? with | some (.val _) => none | _ => some j) else some (σ.length + (j - vs.length))
  have m_own : ∀ j i, j < vs.length → m j = some i → i = j ∧ ∃ s, ss[j]? = some s ∧ isOwn s = true := fun j i hj h => by
    simp only [m, if_pos hj] at h
    split at h
    · cases h
    · rename_i hn
      cases h
      have hj' : j < ss.length := by omega
      refine ⟨rfl, ss[j], List.getElem?_eq_getElem hj', ?_⟩
      cases q : ss[j] with
      | val d => exact absurd (by rw [List.getElem?_eq_getElem hj', q]) (hn d)
      | _ => rfl
  have m_ge : ∀ j i, ¬ j < vs.length → m j = some i → i = σ.length + (j - vs.length) := fun j i hj h => by
    simp only [m, if_neg hj] at h
    cases h; rfl
  have m_inj : ∀ j j' i, m j = some i → m j' = some i → j = j' := fun j j' i h h' => by
    by_cases hj : j < vs.length
    · obtain ⟨a, s, hs, _⟩ := m_own j i hj h
      by_cases hj' : j' < vs.length
      · obtain ⟨b, _⟩ := m_own j' i hj' h'
        omega
      · have := m_ge j' i hj' h'
        omega
    · have a := m_ge j i hj h
      by_cases hj' : j' < vs.length
      · obtain ⟨b, _⟩ := m_own j' i hj' h'
        omega
      · have := m_ge j' i hj' h'
        omega
  let fps2 : Nat → List Addr := fun j => match m j with
    | some i => fps i
    | none => []
  refine ⟨by simp [← lo, hv, hxl], ⟨fps2, fun j s hj => ?_, fun j => ?_, fun j j' p hp hp' => ?_, fun j p hp => ?_⟩, R.hs, R.fo, R.dj, R.nt, R.ft, R.tabs, fun _ h => nomatch h⟩
  · by_cases hjl : j < vs.length
    · rw [List.getElem?_append_left (by simp; omega), List.getElem?_map] at hj
      simp only [Option.map_eq_some_iff] at hj
      obtain ⟨o, ho, e1⟩ := hj
      cases e1
      have hjs : j < ss.length := by omega
      rcases k j _ s (List.getElem?_eq_getElem hjs) ho with ⟨d, e1, e2⟩ | ⟨so, hr⟩
      · obtain ⟨v, hv1, hv2⟩ := h0 j d (by rw [List.getElem?_eq_getElem hjs, e1])
        have mn : m j = none := by simp only [m, if_pos hjl, List.getElem?_eq_getElem hjs, e1]
        refine ⟨v, by rw [List.getElem?_append_left (by simp; omega), List.getElem?_map, hv1]; rfl, ?_⟩
        simp only [fps2, mn]
        rw [e2]
        exact .val (hv2.ex e)
      · have mn : m j = some j := by
          simp only [m, if_pos hjl, List.getElem?_eq_getElem hjs]
          split
          · rename_i d q
            injection q with q
            rw [q] at so; cases so
          · rfl
        have hvj : vs[j]? = some vs[j] := List.getElem?_eq_getElem hjl
        have an := R.anch _ (hA j _ _ (List.getElem?_eq_getElem hjs) so hvj)
        have hjσ := hAl _ (hA j _ _ (List.getElem?_eq_getElem hjs) so hvj)
        obtain ⟨w, h5, h6⟩ := h1 j s (by rw [List.getElem?_append_left (by omega)]; exact hr)
        dsimp only at an
        rw [an] at h5
        cases h5
        refine ⟨_, by rw [List.getElem?_append_left (by simp; omega), List.getElem?_map, hvj]; rfl, ?_⟩
        simp only [fps2, mn]
        exact h6
    · rw [List.getElem?_append_right (by simp; omega)] at hj
      obtain ⟨w, h5, h6⟩ := h1 (σ.length + (j - vs.length)) s (by
        rw [List.getElem?_append_right (by omega)]
        simp only [List.length_map, ← lo, ← hv] at hj
        rw [show σ.length + (j - vs.length) - ρ.length = j - vs.length by omega]
        exact hj)
      have mn : m j = some (σ.length + (j - vs.length)) := by simp only [m, if_neg hjl]
      refine ⟨w, ?_, ?_⟩
      · rw [List.getElem?_append_right (by simp; omega)]
        rw [List.getElem?_append_right (by omega)] at h5
        simp only [List.length_map]
        rw [Nat.add_sub_cancel_left] at h5
        exact h5
      · simp only [fps2, mn]
        exact h6
  · cases q : m j with
    | none => simp only [fps2, q]; exact List.nodup_nil
    | some i => simp only [fps2, q]; exact h2 i
  · cases q : m j with
    | none => simp only [fps2, q] at hp; simp at hp
    | some i =>
      cases q' : m j' with
      | none => simp only [fps2, q'] at hp'; simp at hp'
      | some i' =>
        simp only [fps2, q] at hp
        simp only [fps2, q'] at hp'
        have := h3 i i' p hp hp'
        subst this
        exact m_inj j j' i q q'
  · cases q : m j with
    | none => simp only [fps2, q] at hp; simp at hp
    | some i =>
      simp only [fps2, q] at hp
      exact h4 i p hp
end
/-- the anchors of a def: its own arguments -/
def anchOf (own : List Nat) (vs : List V) : List (Nat × V) := own.filterMap fun i => vs[i]?.map fun v => (i, v)
theorem anchOf_mem {own : List Nat} {vs : List V} {q : Nat × V} (h : q ∈ anchOf own vs) : vs[q.1]? = some q.2 ∧ q.1 ∈ own := by
  unfold anchOf at h
  simp only [List.mem_filterMap, Option.map_eq_some_iff] at h
  obtain ⟨i, hi, v, hv, rfl⟩ := h
  exact ⟨hv, hi⟩
theorem mem_anchOf {own : List Nat} {vs : List V} {i : Nat} {v : V} (h : vs[i]? = some v) (hi : i ∈ own) : (i, v) ∈ anchOf own vs := by
  unfold anchOf
  simp only [List.mem_filterMap, Option.map_eq_some_iff]
  exact ⟨i, hi, v, h, rfl⟩
/-- THE RULE of a def: its body's reading comes to what it promises -/
theorem ok_def {P : Program} {w : World} {K : PySem.W.Frag} {mg : Str → Option Value} {base : Heap} {x qual : Str} {st : Stmt} {f : Addr} {fd : FuncData} {N ps : List Str} {k : Nat} {S : Spec} {ts : TSD} (g : Cg) (hK : g.K = K) (own : List Nat)
    (F : Fun K x qual st f fd) (Sc : FnScope N ps (defScope st)) (hlen : ∀ a, (S.args a).length = ps.length) (hN : ps.length ≤ N.length) (hown : ∀ a (q : Nat) s, (S.args a)[q]? = some s → isOwn s = true → q ∈ own)
    (body : ∀ (cdv : Value) (A : Around) (outer : List PySem.Env) (s : Shared) (H : Hp) (vs : List V) (E : XK), fd.code = cdv → Room k (A.deeper (envOfC qual (defScope st) s.heap.objs.size f cdv)) →
      JB (cxOf (L2.CX P w) P w K mg base N qual (defScope st) f cdv A outer s H E) { toCg := g, A := anchOf own vs, W := fun cls d _ H' => E cls d H' } (defBody st) ts)
    (pure : ∀ a, S.pre a → ts (bodyEnds S a) (startD N.length (S.args a))) : FnOk P w K mg base (L2.CX P w) (k + 1) f fd ps (spD g S) := by
  obtain ⟨oc, od, kV, doc, pm, an, cdv, ct, osl, hfd, lk, hcd⟩ := F.ex
  subst hfd
  refine fn_of lk hcd Sc (fun vs H Q E h => ?_) (fun A outer s H vs Q E hr h => ?_)
  · obtain ⟨Fo, Hs, ss, R, a, rfl, _⟩ := h
    have := R.len
    simp at this
    rw [← this]
    exact hlen a
  · have B := body cdv A outer s H vs E rfl hr
    refine ⟨_, B.run, ?_⟩
    obtain ⟨Fo, Hs, ss, R, a, rfl, hp, ho, he⟩ := h
    have lv : (S.args a).length = vs.length := by simpa using R.len
    have hl : vs.length ≤ N.length := by rw [← lv, hlen a]; exact hN
    have RS : Rel g (anchOf own vs) Fo Hs H (L2.start N vs) (startD N.length (S.args a)) := R.start hl fun q hq => (anchOf_mem hq).1
    refine ⟨Fo, Hs, _, RS, B.mono _ _ _ ?_ (pure a hp)⟩
    have h0 : ∀ (q : Nat) (d : PyData), (S.args a)[q]? = some (.val d) → ∃ v, vs[q]? = some v ∧ Dn g.K Hs v d := fun q d hq => by
      obtain ⟨v, fp, hv, how⟩ := R.get (i := q) (s := .val d) (by rw [List.getElem?_map, hq]; rfl)
      rw [List.getElem?_map] at hv
      simp only [Option.map_eq_some_iff, Option.some.injEq] at hv
      obtain ⟨v', hv', rfl⟩ := hv
      cases how with
      | val hd => exact ⟨_, hv', hd⟩
    have hA : ∀ (q : Nat) (s : Sl) (v : V), (S.args a)[q]? = some s → isOwn s = true → vs[q]? = some v → (q, v) ∈ anchOf own vs := fun q s v hq so hv => mem_anchOf hv (hown a q s hq so)
    have fin : ∀ {r : Ret} {ρ : Env} {os : List Sl} {v : V} {σ' : L2.St} {Hs' H' : Hp}, afterD (S.args a) ρ = some os → S.out a r os → Ex Hs Hs' → RetAt g (anchOf own vs) Fo Hs' H' σ' ρ v r → Q v H' := by
      intro r ρ os v σ' Hs' H' h1 h2 e hr
      obtain ⟨ko, lr, _⟩ := afterD_get h1
      refine ho r os h2 ko v Hs' H' e ?_
      cases r with
      | d d =>
        obtain ⟨Rr, dn⟩ := hr
        refine ⟨?_, dn⟩
        have := Rel.after (xv := []) (xs := []) (by simpa using Rr) rfl e h1 h0 lv.symm hA Rr.alt
        simpa using this
      | new s =>
        have Rr : RelN g (anchOf own vs) Fo Hs' H' σ' ρ v s := hr
        have lσ : ρ.length = σ'.length := by simpa using Rr.len
        exact Rel.after (xv := [some v]) (xs := [some s]) Rr rfl e h1 h0 lv.symm hA (fun q hq => by
          have hq1 := (anchOf_mem hq).1
          have := (List.getElem?_eq_some_iff.mp hq1).1
          omega)
    refine ⟨fun ρ h => ?_, fun r ρ h => ?_, fun ρ h => h.elim, fun ρ h => h.elim, fun x ρ h => ?_⟩
    · obtain ⟨os, h1, h2⟩ := h.out
      intro σ' Hs' H' e Rr
      exact fin (r := .d .none) (v := .non) h1 h2 e ⟨Rr, .non⟩
    · obtain ⟨os, h1, h2⟩ := h.out
      intro v σ' Hs' H' e hr
      exact fin h1 h2 e hr
    · obtain ⟨os, h1, h2⟩ := h.out
      intro σ' C d Hs' H' e Rr xa
      obtain ⟨ko, lr, _⟩ := afterD_get h1
      have := Rel.after (xv := []) (xs := []) (by simpa using Rr) rfl e h1 h0 lv.symm hA Rr.alt
      exact he x os h2 ko C d Hs' H' e (by simpa using this) xa
end Dl

/-! Dw7: loops, comprehensions, statements. -/
namespace Dl
open PySem PySem.Spec PyProof.Rows L2
section
variable {g : Cg} {A : List (Nat × V)} {Fo Hs Hs' H H' : Hp} {σ σ2 : L2.St} {ρ ρ2 : Env} {v : V} {d : PyData} {s : Sl} {i : Nat}
/-! ### targets -/
def gList : List Nat → TGs
  | [] => gNil
  | i :: is => gCons (gName i) (gList is)
def gTg (K : PySem.W.Frag) : Tg → TG
  | .n i => gName i
  | .t is => gTup K is.length (gList is)
theorem bindAll_sound : ∀ {is : List Nat} {ds : List PyData} {vs : List V} {σ : L2.St} {ρ ρ2 : Env} {Q : L2.St → Hp → Prop}, Rel g A Fo Hs H σ ρ → DnAll g.K Hs vs ds → bindAll ρ is ds = some ρ2 → (∀ q ∈ A, q.1 ∉ is) →
    (∀ σ2, Rel g A Fo Hs H σ2 ρ2 → (∀ j, j ∉ is → σ2[j]? = σ[j]?) → σ2.length = σ.length → Q σ2 H) → gList is vs σ H Q
  | [], [], _, σ, ρ, ρ2, Q, R, .nil, h, hA, k => by
    simp only [bindAll, Option.some.injEq] at h
    subst h
    exact ⟨rfl, k σ R (fun _ _ => rfl) rfl⟩
  | i :: is, d :: ds, _, σ, ρ, ρ2, Q, R, .cons hd r, h, hA, k => by
    simp only [bindAll] at h
    refine ⟨_, _, rfl, ?_⟩
    refine bindAll_sound (R.setV hd fun q hq z => hA q hq (by rw [z]; simp)) r h (fun q hq z => hA q hq (by simp [z])) fun σ2 R2 h2 l2 => k σ2 R2 (fun j hj => ?_) (by simpa using l2)
    simp only [List.mem_cons, not_or] at hj
    rw [h2 j hj.2, List.getElem?_set_ne (Ne.symm hj.1)]
  | [], _ :: _, _, _, _, _, _, _, _, h, _, _ => by simp [bindAll] at h
  | _ :: _, [], _, _, _, _, _, _, _, h, _, _ => by simp [bindAll] at h
theorem bindAll_len : ∀ {is : List Nat} {ds : List PyData} {ρ ρ2 : Env}, bindAll ρ is ds = some ρ2 → is.length = ds.length
  | [], [], _, _, _ => rfl
  | i :: is, d :: ds, _, _, h => by
    simp only [bindAll] at h
    simp [bindAll_len h]
  | [], _ :: _, _, _, h => by simp [bindAll] at h
  | _ :: _, [], _, _, h => by simp [bindAll] at h
theorem Tg.sound {tg : Tg} {Q : L2.St → Hp → Prop} (R : Rel g A Fo Hs H σ ρ) (hd : Dn g.K Hs v d) (h : tg.bind ρ d = some ρ2) (hA : ∀ q ∈ A, q.1 ∉ tg.ix)
    (k : ∀ σ2, Rel g A Fo Hs H σ2 ρ2 → (∀ j, j ∉ tg.ix → σ2[j]? = σ[j]?) → σ2.length = σ.length → Q σ2 H) : gTg g.K tg v σ H Q := by
  cases tg with
  | n i =>
    simp only [Tg.bind, Option.some.injEq] at h
    subst h
    refine k _ (R.setV hd fun q hq z => hA q hq (by simp [Tg.ix, z])) (fun j hj => ?_) (by simp)
    rw [List.getElem?_set_ne]
    intro z
    exact hj (by simp [Tg.ix, z])
  | t is =>
    cases d with
    | tuple ds =>
      simp only [Tg.bind] at h
      cases hd with
      | tup h1 r =>
        exact ⟨_, _, rfl, .inl (.inl (R.hs _ _ h1)), by rw [r.length, bindAll_len h], bindAll_sound R r h hA k⟩
    | _ => simp [Tg.bind] at h
/-- the own thing of a name is taken out -/
theorem Rel.move (R : Rel g A Fo Hs H σ ρ) (hi : ρ[i]? = some (some s)) (hv : σ[i]? = some (some v)) : RelN g A Fo Hs H σ (ρ.set i none) v s := by
  have hl := R.len
  obtain ⟨fps, h1, h2, h3, h4⟩ := R.env
  have hlt := (List.getElem?_eq_some_iff.mp hi).1
  have dj : ∀ {j q}, q ∈ fpS (fpS fps i []) σ.length (fps i) j → (j = σ.length ∧ q ∈ fps i) ∨ (j ≠ σ.length ∧ j ≠ i ∧ q ∈ fps j) := fun {j q} h => by
    rcases fpS_mem h with z | ⟨a, z⟩
    · exact .inl z
    · rcases fpS_mem z with ⟨_, z⟩ | ⟨b, z⟩
      · simp at z
      · exact .inr ⟨a, b, z⟩
  refine ⟨by simp [hl], ⟨fpS (fpS fps i []) σ.length (fps i), fun j t hj => ?_, fpS_nd (fpS_nd h2 List.nodup_nil) (h2 i), fun j k q hp hk => ?_, fun j q hp => ?_⟩, R.hs, R.fo, R.dj, R.nt, R.ft, R.tabs, fun q hq => ?_⟩
  · by_cases hjl : j = σ.length
    · subst hjl
      rw [List.getElem?_append_right (by simp [hl])] at hj
      simp [hl] at hj
      subst hj
      obtain ⟨w, h5, h6⟩ := h1 i s hi
      rw [hv] at h5; cases h5
      refine ⟨v, by rw [List.getElem?_append_right (Nat.le_refl _)]; simp, ?_⟩
      rw [fpS_same]
      exact h6
    · have hj := get_app hj (by simp; omega)
      by_cases hji : j = i
      · subst hji
        rw [List.getElem?_set_self hlt] at hj; cases hj
      · rw [List.getElem?_set_ne (Ne.symm hji)] at hj
        obtain ⟨w, h5, h6⟩ := h1 j t hj
        refine ⟨w, by rw [List.getElem?_append_left (List.getElem?_eq_some_iff.mp h5).1]; exact h5, ?_⟩
        rw [fpS_ne hjl, fpS_ne hji]
        exact h6
  · rcases dj hp with ⟨a, z⟩ | ⟨a, b, z⟩
    · rcases dj hk with ⟨a2, z2⟩ | ⟨a2, b2, z2⟩
      · rw [a, a2]
      · exact absurd (h3 _ _ _ z2 z) b2
    · rcases dj hk with ⟨a2, z2⟩ | ⟨a2, b2, z2⟩
      · exact absurd (h3 _ _ _ z z2) b
      · exact h3 j k q z z2
  · rcases dj hp with ⟨a, z⟩ | ⟨a, b, z⟩
    · exact h4 i q z
    · exact h4 j q z
  · have := R.anch q hq
    rw [List.getElem?_append_left (List.getElem?_eq_some_iff.mp this).1]
    exact this
theorem OutD.mono {K : PySem.W.Frag} {Hs1 : Hp} (o : OutD K Hs H v d H') (e : Ex Hs Hs1) : OutD K Hs1 H v d H' := by
  rcases o with ⟨a, b⟩ | ⟨p, u, a, b, c, e1, f⟩
  · exact .inl ⟨a, b.ex e⟩
  · exact .inr ⟨p, u, a, b, c, e1, f.ex e.both⟩
end
/-! ### what is walked -/
def WalkD (K : PySem.W.Frag) (Hs : Hp) (J : It) (ds : List PyData) : Prop := ∃ Y, Walk J ds.length (fun H => Ex Hs H) Y ∧ ∀ i H x H', i < ds.length → Ex Hs H → Y i H x H' → ∃ d, ds[i]? = some d ∧ OutD K Hs H x d H'
def gW (c : Cn) (src : TWD) : TI := fun σ H R => ∃ Fo Hs ρ, Rel c.toCg c.A Fo Hs H σ ρ ∧ src ρ (fun ds ρ' => ∀ J Hs' H', Ex Hs Hs' → Rel c.toCg c.A Fo Hs' H' σ ρ' → WalkD c.K Hs' J ds → R J H') (c.ex Fo Hs σ)
def MonoW (t : TWD) : Prop := ∀ (ρ : Env) (ok ok' : List PyData → Env → Prop) (ex ex' : KX), (∀ r ρ', ok r ρ' → ok' r ρ') → (∀ x ρ', ex x ρ' → ex' x ρ') → t ρ ok ex → t ρ ok' ex'
structure JK (X : Cx) (c : Cn) (tg iter : Expr) (src : TWD) : Prop where
  run : PI X tg iter (gW c src)
  mono : MonoW src
section
variable {X : Cx} {c : Cn} {e a b tgE : Expr} {es : List Expr} {ta tb te : TED} {tn : TND} {tA : TAD} {tt tu : TTD} {pos : Pos} {src : TWD}
theorem piI {t t' : TI} (h : PI X tgE e t) (i : ∀ σ H Q, t' σ H Q → t σ H Q) : PI X tgE e t' := ⟨fun pins s σ H Q I q => h.run pins s σ H Q I (i σ H Q q)⟩
theorem monoWL (m : MonoE ta) : MonoW (wList ta) := fun ρ ok ok' ex ex' p n q => m _ _ _ _ _ (fun r ρ1 q1 => by
  cases r with
  | b i => exact q1
  | d d => cases d <;> first | exact p _ _ q1 | exact q1) n q
theorem monoWT (m : MonoE ta) : MonoW (wTup ta) := fun ρ ok ok' ex ex' p n q => m _ _ _ _ _ (fun r ρ1 q1 => by
  cases r with
  | b i => exact q1
  | d d => cases d <;> first | exact p _ _ q1 | exact q1) n q
theorem jk_list (ha : JE X c a ta) : JK X c tgE a (wList ta) := ⟨piI (pi_list ha.run) fun σ H Q ⟨Fo, Hs, ρ, R, q⟩ => by
  refine ⟨Fo, Hs, ρ, R, ha.mono _ _ _ _ _ (fun r ρ1 q1 => ?_) (fun x ρ1 q1 => q1) q⟩
  intro v Hs1 H1 e1 R1 a1
  cases r with
  | b i => exact q1.elim
  | d d =>
    cases d with
    | list ds =>
      have a1 : Dn c.K Hs1 v (.list ds) := a1
      cases a1 with
      | lst h r =>
        rename_i p vs
        refine ⟨p, rfl, ⟨vs, .inl (.inl (R1.hs _ _ h))⟩, q1 _ Hs1 H1 e1 R1 ⟨YAt vs, ?_, ?_⟩⟩
        · rw [← r.length]
          exact walk_list.mono (fun H' e => .inl (.inl (e _ _ h))) fun _ _ _ _ _ _ y => y
        · rintro i H2 x H3 hi e2 ⟨rfl, hx⟩
          obtain ⟨d, hd, dn⟩ := r.get' hx
          exact ⟨d, hd, .same dn⟩
    | _ => exact q1.elim, monoWL ha.mono⟩
theorem jk_tup (ha : JE X c a ta) : JK X c tgE a (wTup ta) := ⟨piI (pi_tup ha.run) fun σ H Q ⟨Fo, Hs, ρ, R, q⟩ => by
  refine ⟨Fo, Hs, ρ, R, ha.mono _ _ _ _ _ (fun r ρ1 q1 => ?_) (fun x ρ1 q1 => q1) q⟩
  intro v Hs1 H1 e1 R1 a1
  cases r with
  | b i => exact q1.elim
  | d d =>
    cases d with
    | tuple ds =>
      have a1 : Dn c.K Hs1 v (.tuple ds) := a1
      cases a1 with
      | tup h r =>
        rename_i p vs
        refine ⟨p, rfl, ⟨vs, .inl (.inl (R1.hs _ _ h))⟩, q1 _ Hs1 H1 e1 R1 ⟨YAt vs, ?_, ?_⟩⟩
        · rw [← r.length]
          exact walk_tup.mono (fun H' e => .inl (.inl (e _ _ h))) fun _ _ _ _ _ _ y => y
        · rintro i H2 x H3 hi e2 ⟨rfl, hx⟩
          obtain ⟨d, hd, dn⟩ := r.get' hx
          exact ⟨d, hd, .same dn⟩
    | _ => exact q1.elim, monoWT ha.mono⟩
theorem rangeD_len {a b : Int} : (rangeD a b).length = (b - a).toNat := by simp [rangeD]
theorem rangeD_get {a b : Int} {i : Nat} (h : i < (b - a).toNat) : (rangeD a b)[i]? = some (.int (a + (i : Int))) := by
  simp [rangeD, List.getElem?_map, List.getElem?_range h]
theorem walkD_range {K : PySem.W.Frag} {Hs : Hp} {a b : Int} : WalkD K Hs (Itr a (b - a).toNat) (rangeD a b) := by
  refine ⟨YFn fun i => .int (a + i), by rw [rangeD_len]; exact walk_range.mono (fun _ _ => True.intro) fun _ _ _ _ _ _ y => y, ?_⟩
  rintro i H x H' hi e ⟨rfl, rfl⟩
  rw [rangeD_len] at hi
  exact ⟨_, rangeD_get hi, .same (.int _)⟩
theorem monoWR1 (m : MonoA tA) : MonoW (wRange1 tA) := fun ρ ok ok' ex ex' p n q => m _ _ _ _ _ (fun rs ρ1 ⟨k, h1, h2, h3, h4⟩ => ⟨k, h1, h2, h3, p _ _ h4⟩) n q
theorem monoWR2 (m : MonoA tA) : MonoW (wRange2 tA) := fun ρ ok ok' ex ex' p n q => m _ _ _ _ _ (fun rs ρ1 ⟨k, l, h1, h2, h4⟩ => ⟨k, l, h1, h2, p _ _ h4⟩) n q
theorem jk_range1 {p : Pos} (hg : Gl X "range") (hm : X.mg "range" = none) (ha : JA X c [a] tA) (hs : starEach [a] X.env = [(false, eval a X.env)] := by rfl) : JK X c tgE (.Call (.Name "range" p) [a] [] pos) (wRange1 tA) := ⟨piI (pi_range1 hg hm ha.run hs) fun σ H Q ⟨Fo, Hs, ρ, R, q⟩ => by
  refine ⟨Fo, Hs, ρ, R, ha.mono _ _ _ _ _ (fun rs ρ1 q1 => ?_) (fun x ρ1 q1 => q1) q⟩
  intro vs Hs1 H1 e1 R1 a1
  obtain ⟨n, h1, h2, h3, h4⟩ := q1
  have := R1.views a1 h1
  cases this with
  | cons x r =>
    cases r
    refine ⟨n, by rw [x.int], h3, h2, ?_⟩
    have := h4 (Itr 0 (n - 0).toNat) Hs1 H1 e1 R1 walkD_range
    rwa [Int.sub_zero] at this, monoWR1 ha.mono⟩
theorem jk_range2 {p : Pos} (hg : Gl X "range") (hm : X.mg "range" = none) (ha : JA X c [a, b] tA) (hs : starEach [a, b] X.env = [(false, eval a X.env), (false, eval b X.env)] := by rfl) (hs2 : starEach [b] X.env = [(false, eval b X.env)] := by rfl) : JK X c tgE (.Call (.Name "range" p) [a, b] [] pos) (wRange2 tA) := ⟨piI (pi_range2 hg hm ha.run hs (by exact hs2)) fun σ H Q ⟨Fo, Hs, ρ, R, q⟩ => by
  refine ⟨Fo, Hs, ρ, R, ha.mono _ _ _ _ _ (fun rs ρ1 q1 => ?_) (fun x ρ1 q1 => q1) q⟩
  intro vs Hs1 H1 e1 R1 a1
  obtain ⟨m, n, h1, h2, h4⟩ := q1
  have := R1.views a1 h1
  cases this with
  | cons x r =>
    cases r with
    | cons y r =>
      cases r
      refine ⟨m, n, by rw [x.int, y.int], h2, ?_⟩
      exact h4 (Itr m (n - m).toNat) Hs1 H1 e1 R1 walkD_range, monoWR2 ha.mono⟩
theorem enumD_len {ds : List PyData} : (enumD ds).length = ds.length := by simp [enumD]
theorem enumD_get {ds : List PyData} {i : Nat} {d : PyData} (h : ds[i]? = some d) : (enumD ds)[i]? = some (.tuple [.int (i : Nat), d]) := by
  simp [enumD, List.getElem?_map, List.getElem?_zipIdx, h]
theorem monoWE (m : MonoA tA) : MonoW (wEnum tA) := fun ρ ok ok' ex ex' p n q => m _ _ _ _ _ (fun rs ρ1 q1 => by
  split at q1
  · exact p _ _ q1
  · exact q1.elim) n q
theorem jk_enum {p tpos : Pos} {elts : List Expr} {kk : Nat} (hg : Gl X "enumerate") (hm : X.mg "enumerate" = none) (ha : JA X c [a] tA) (hs : starEach [a] X.env = [(false, eval a X.env)] := by rfl) : JK X c (.Tuple elts kk tpos) (.Call (.Name "enumerate" p) [a] [] pos) (wEnum tA) := ⟨piI (pi_enum hg hm ha.run hs) fun σ H Q ⟨Fo, Hs, ρ, R, q⟩ => by
  refine ⟨Fo, Hs, ρ, R, ha.mono _ _ _ _ _ (fun rs ρ1 q1 => ?_) (fun x ρ1 q1 => q1) q⟩
  intro vs Hs1 H1 e1 R1 a1
  split at q1
  · rename_i ds
    cases a1 with
    | cons x r =>
      cases r
      have x : Dn c.K Hs1 _ (.list ds) := x
      cases x with
      | lst h r =>
        rename_i p vs
        refine ⟨p, vs, rfl, .inl (.inl (R1.hs _ _ h)), q1 _ Hs1 H1 e1 R1 ⟨YPair (fun i => some (.int (i : Nat))) (fun i => vs[i]?), ?_, ?_⟩⟩
        · rw [enumD_len, ← r.length]
          exact walk_enum.mono (fun H' e => .inl (.inl (e _ _ h))) fun _ _ _ _ _ _ y => y
        · rintro i H2 x H3 hi e2 ⟨T, y, z, rfl, hT, rfl, hy, hz⟩
          obtain ⟨d, hd, dn⟩ := r.get' hz
          cases hy
          exact ⟨_, enumD_get hd, .inr ⟨T, _, hT, rfl, rfl, rfl, .tup upd_same (.cons (.int _) (.cons (dn.ex (Ex.new (e2.free hT))) .nil))⟩⟩
  · exact q1.elim, monoWE ha.mono⟩
/-! ### blocks and statements -/
variable {st : Stmt} {sts rest : List Stmt} {t u ts : TSD}
theorem jb_nil : JB X c [] sNext := ⟨pssI pss_nil fun D σ H ⟨Fo, Hs, ρ, R, q⟩ => q σ Hs H (Ex.refl _) R, fun ρ D D' l h => l.nx _ h⟩
theorem monoSeq (m : MonoS t) (n : MonoS u) : MonoS (sSeq t u) := fun ρ D D' l h => m ρ { D with nx := u D } { D' with nx := u D' } ⟨fun ρ h => n _ _ _ l h, l.rt, l.bk, l.ct, l.ex⟩ h
theorem jb_cons (h1 : JS X c st t) (h2 : JB X c rest u) : JB X c (st :: rest) (sSeq t u) := ⟨pssI (pss_cons h1.run h2.run) fun D σ H ⟨Fo, Hs, ρ, R, q⟩ => by
  refine ⟨Fo, Hs, ρ, R, h1.mono ρ { c.ends Fo Hs D with nx := u (c.ends Fo Hs D) } _ ⟨fun ρ1 h => ?_, fun _ _ h => h, fun _ h => h, fun _ h => h, fun _ _ h => h⟩ q⟩
  intro σ' Hs' H' e R'
  exact ⟨Fo, Hs', ρ1, R', h2.mono _ _ _ (Cn.ends.at e) h⟩, monoSeq h1.mono h2.mono⟩
theorem jb_one (h1 : JS X c st t) : JB X c [st] t := ⟨pss_one h1.run, h1.mono⟩
theorem js_pass : JS X c (.Pass pos) sNext := ⟨psI ps_pass fun D σ H ⟨Fo, Hs, ρ, R, q⟩ => q σ Hs H (Ex.refl _) R, fun ρ D D' l h => l.nx _ h⟩
theorem js_break : JS X c (.Break pos) sBreak := ⟨psI ps_break fun D σ H ⟨Fo, Hs, ρ, R, q⟩ => q σ Hs H (Ex.refl _) R, fun ρ D D' l h => l.bk _ h⟩
theorem js_cont : JS X c (.Continue pos) sCont := ⟨psI ps_continue fun D σ H ⟨Fo, Hs, ρ, R, q⟩ => q σ Hs H (Ex.refl _) R, fun ρ D D' l h => l.ct _ h⟩
/-- an expression's reading under a statement's ends -/
theorem at_ends {D : Ends} {σ : L2.St} {H : Hp} {Fo Hs : Hp} {ρ : Env} {Q : VK} {k : Dl.R → Env → Prop} (m : MonoE te) (R : Rel c.toCg c.A Fo Hs H σ ρ) (q : te ρ k (c.ends Fo Hs D).ex)
    (h : ∀ r ρ1 v Hs1 H1, k r ρ1 → Ex Hs Hs1 → Rel c.toCg c.A Fo Hs1 H1 σ ρ1 → ResAt c.K Hs1 σ v r → Q v H1) : gE c te σ H Q :=
  ⟨Fo, Hs, ρ, R, m _ _ _ _ _ (fun r ρ1 q1 v Hs1 H1 e1 R1 a1 => h r ρ1 v Hs1 H1 q1 e1 R1 a1) (fun x ρ1 q1 => Cn.ends.ex_at q1 (Ex.refl _)) q⟩
theorem at_endsN {D : Ends} {σ : L2.St} {H : Hp} {Fo Hs : Hp} {ρ : Env} {Q : VK} {k : Sl → Env → Prop} (m : MonoN tn) (R : Rel c.toCg c.A Fo Hs H σ ρ) (q : tn ρ k (c.ends Fo Hs D).ex)
    (h : ∀ s ρ1 v Hs1 H1, k s ρ1 → Ex Hs Hs1 → RelN c.toCg c.A Fo Hs1 H1 σ ρ1 v s → isOwn s = true → Q v H1) : gN c tn σ H Q :=
  ⟨Fo, Hs, ρ, R, m _ _ _ _ _ (fun r ρ1 q1 v Hs1 H1 e1 R1 a1 => h r ρ1 v Hs1 H1 q1 e1 R1 a1) (fun x ρ1 q1 => Cn.ends.ex_at q1 (Ex.refl _)) q⟩
theorem at_endsT {D : Ends} {σ : L2.St} {H : Hp} {Fo Hs : Hp} {ρ : Env} {Q : Bool → Hp → Prop} {k : Bool → Env → Prop} (m : MonoT tt) (R : Rel c.toCg c.A Fo Hs H σ ρ) (q : tt ρ k (c.ends Fo Hs D).ex)
    (h : ∀ b ρ1 Hs1 H1, k b ρ1 → Ex Hs Hs1 → Rel c.toCg c.A Fo Hs1 H1 σ ρ1 → Q b H1) : gT c tt σ H Q :=
  ⟨Fo, Hs, ρ, R, m _ _ _ _ _ (fun r ρ1 q1 Hs1 H1 e1 R1 => h r ρ1 Hs1 H1 q1 e1 R1) (fun x ρ1 q1 => Cn.ends.ex_at q1 (Ex.refl _)) q⟩
theorem js_drop (ha : JE X c e te) (hp : PE X e (gE c te) → PS X st (tDrop (gE c te))) : JS X c st (sDrop te) := ⟨psI (hp ha.run) fun D σ H ⟨Fo, Hs, ρ, R, q⟩ =>
  at_ends ha.mono R q fun r ρ1 v Hs1 H1 k e1 R1 _ => k σ Hs1 H1 e1 R1, fun ρ D D' l h => ha.mono _ _ _ _ _ (fun _ _ h => l.nx _ h) l.ex h⟩
theorem js_if {k : Expr} {A B : List Stmt} (ht : JT X c k tt) (ha : JB X c A t) (hb : JB X c B u) : JS X c (.If k A B pos) (sIf tt t u) := ⟨psI (ps_if ht.run ha.run hb.run) fun D σ H ⟨Fo, Hs, ρ, R, q⟩ =>
  at_endsT ht.mono R q fun b ρ1 Hs1 H1 k e1 R1 => by
    cases b with
    | true =>
      rw [if_pos rfl]
      exact ⟨Fo, Hs1, ρ1, R1, ha.mono _ _ _ (Cn.ends.at e1) (k.1 rfl)⟩
    | false =>
      rw [if_neg Bool.false_ne_true]
      exact ⟨Fo, Hs1, ρ1, R1, hb.mono _ _ _ (Cn.ends.at e1) (k.2 rfl)⟩, fun ρ D D' l h => ht.mono _ _ _ _ _ (fun b ρ1 h => h.mono (ha.mono _ _ _ l) (hb.mono _ _ _ l)) l.ex h⟩
theorem js_ret (ha : JE X c e te) : JS X c (.Return (some e) pos) (sRet te) := ⟨psI (ps_ret ha.run) fun D σ H ⟨Fo, Hs, ρ, R, q⟩ =>
  at_ends ha.mono R q fun r ρ1 v Hs1 H1 k e1 R1 a1 => by
    cases r with
    | d d => exact k v σ Hs1 H1 e1 ⟨R1, a1⟩
    | b i =>
      obtain ⟨s, hs, k⟩ := wO.out k
      exact k v σ Hs1 H1 e1 (R1.move (Option.join_eq_some_iff.mp hs) a1), fun ρ D D' l h => ha.mono _ _ _ _ _ (fun r ρ1 h => by
    cases r with
    | d d => exact l.rt _ _ h
    | b i => exact h.mono fun s h => l.rt _ _ h) l.ex h⟩
theorem js_retN (ha : JN X c e tn) : JS X c (.Return (some e) pos) (sRetN tn) := ⟨psI (ps_ret ha.run) fun D σ H ⟨Fo, Hs, ρ, R, q⟩ =>
  at_endsN ha.mono R q fun s ρ1 v Hs1 H1 k e1 R1 a1 => k v σ Hs1 H1 e1 R1, fun ρ D D' l h => ha.mono _ _ _ _ _ (fun r ρ1 h => l.rt _ _ h) l.ex h⟩
theorem js_ret0 : JS X c (.Return none pos) sRetNone := ⟨psI ps_retN fun D σ H ⟨Fo, Hs, ρ, R, q⟩ => q .non σ Hs H (Ex.refl _) ⟨R, .non⟩, fun ρ D D' l h => l.rt _ _ h⟩
/-- x = e, or (x, y) = e: data -/
theorem js_set {tg : Tg} {tE : TE} (m : MonoE te) (hA : ∀ q ∈ c.A, q.1 ∉ tg.ix) (hE : ∀ σ H Q, gE c te σ H Q → tE σ H Q) (hp : PS X st (tAsg tE (gTg c.K tg))) : JS X c st (sSet tg te) := ⟨psI hp fun D σ H ⟨Fo, Hs, ρ, R, q⟩ =>
  hE _ _ _ (at_ends m R q fun r ρ1 v Hs1 H1 k e1 R1 a1 => by
    cases r with
    | b i => exact k.elim
    | d d =>
      obtain ⟨ρ2, h2, k⟩ := wO.out k
      exact Tg.sound R1 a1 h2 hA fun σ2 R2 _ _ => k σ2 Hs1 H1 e1 R2), fun ρ D D' l h => m _ _ _ _ _ (fun r ρ1 h => by
    cases r with
    | b i => exact h
    | d d => exact h.mono fun ρ2 h => l.nx _ h) l.ex h⟩
/-- x = e: a new thing of its own -/
theorem js_own {i : Nat} {tE : TE} (m : MonoN tn) (hA : ∀ q ∈ c.A, q.1 ≠ i) (hE : ∀ σ H Q, gN c tn σ H Q → tE σ H Q) (hp : PS X st (tAsg tE (gName i))) : JS X c st (sOwn i tn) := ⟨psI hp fun D σ H ⟨Fo, Hs, ρ, R, q⟩ =>
  hE _ _ _ (at_endsN m R q fun s ρ1 v Hs1 H1 k e1 R1 a1 => k _ Hs1 H1 e1 (RelN.set R1 R.alt hA)), fun ρ D D' l h => m _ _ _ _ _ (fun r ρ1 h => l.nx _ h) l.ex h⟩
theorem gN_of (m : MonoN tn) {σ : L2.St} {H : Hp} {Q : VK} (h : gE c (eN tn) σ H Q) : gN c tn σ H Q := by
  obtain ⟨Fo, Hs, ρ, R, q⟩ := h
  refine ⟨Fo, Hs, ρ, R, m _ _ _ _ _ (fun s ρ1 q1 => ?_) (fun x ρ1 q1 => q1) q⟩
  intro v Hs1 H1 e1 R1 o1
  obtain ⟨d, hd, q2⟩ := q1.out
  obtain ⟨Hs2, e2, R2, a2⟩ := R1.freeze R.alt hd
  exact q2 v Hs2 H1 (e1.trans e2) R2 a2
/-! ### while, for -/
theorem monoWhile (mt : MonoT tt) (mb : MonoS t) : MonoS (sWhile tt t) := fun ρ D D' l ⟨W, h0, h⟩ => ⟨W, h0, fun m ρ w => mt _ _ _ _ _ (fun b ρ1 q => q.mono (mb _ _ _ ⟨fun _ h => h, l.rt, l.nx, fun _ h => h, l.ex⟩) (l.nx _)) l.ex (h m ρ w)⟩
theorem js_while {k : Expr} {body : List Stmt} (hpo : PassesOwn (model X.prog X.w) X.A X.env X.xe) (ht : JT X c k tt) (hb : JB X c body t) : JS X c (.While k body [] pos) (sWhile tt t) := ⟨psI (ps_while hpo ht.run hb.run) fun D σ H ⟨Fo, Hs, ρ, R, W, ⟨m0, h0⟩, h⟩ => by
  refine ⟨fun m σ' H' => ∃ Hs' ρ', Ex Hs Hs' ∧ Rel c.toCg c.A Fo Hs' H' σ' ρ' ∧ W m ρ', ⟨m0, Hs, ρ, Ex.refl _, R, h0⟩, ?_⟩
  rintro m σ' H' ⟨Hs', ρ', e', R', w⟩
  have q := h m ρ' w
  have q := ht.mono _ _ _ _ _ (fun b ρ1 h => h) (fun x ρ1 h => (Cn.ends.at (D := D) e').ex x ρ1 h) q
  refine at_endsT ht.mono R' q fun b ρ1 Hs1 H1 k e1 R1 => ?_
  cases b with
  | true =>
    rw [if_pos rfl]
    refine ⟨fun σ2 H2 => ∃ m', m' < m ∧ ∃ Hs' ρ', Ex Hs Hs' ∧ Rel c.toCg c.A Fo Hs' H2 σ2 ρ' ∧ W m' ρ', fun σ2 H2 h => h, ?_⟩
    have e01 := e'.trans e1
    refine ⟨Fo, Hs1, ρ1, R1, hb.mono ρ1 { c.ends Fo Hs D with nx := fun ρ2 => ∃ m', m' < m ∧ W m' ρ2, ct := fun ρ2 => ∃ m', m' < m ∧ W m' ρ2, bk := (c.ends Fo Hs D).nx } _ ⟨fun ρ2 ⟨m', hm, w'⟩ σ2 Hs2 H2 e2 R2 => ⟨m', hm, Hs2, ρ2, e01.trans e2, R2, w'⟩, (Cn.ends.at e01).rt, fun ρ2 h => (Cn.ends.at e01).nx _ h, fun ρ2 ⟨m', hm, w'⟩ σ2 Hs2 H2 e2 R2 => ⟨m', hm, Hs2, ρ2, e01.trans e2, R2, w'⟩, (Cn.ends.at (D := D) e01).ex⟩ (k.1 rfl)⟩
  | false =>
    rw [if_neg Bool.false_ne_true]
    exact k.2 rfl σ' Hs1 H1 (e'.trans e1) R1, monoWhile ht.mono hb.mono⟩
theorem monoFor {tg : Tg} (ms : MonoW src) (mb : MonoS t) : MonoS (sFor src tg t) := fun ρ D D' l q => ms _ _ _ _ _ (fun ds ρ1 ⟨P, h0, h1, h2⟩ => ⟨P, h0, fun i x ρ hx hp => (h1 i x ρ hx hp).mono fun ρ2 h => mb ρ2 { D with nx := P (i + 1), ct := P (i + 1), bk := D.nx } { D' with nx := P (i + 1), ct := P (i + 1), bk := D'.nx } ⟨fun _ h => h, l.rt, l.nx, fun _ h => h, l.ex⟩ h, fun ρ h => l.nx _ (h2 ρ h)⟩) l.ex q
theorem js_for {tg : Tg} (hpo : PassesOwn (model X.prog X.w) X.A X.env X.xe) (hc : X.calm = true) (hA : ∀ q ∈ c.A, q.1 ∉ tg.ix) (hk : JK X c tgE e src) (hg : PG X tgE (gTg c.K tg)) (hb : JB X c sts t) (hs : ∀ x, foldedSetIterable e X.env x = pure x := by intro _; rfl) :
    JS X c (.For tgE e sts [] pos) (sFor src tg t) := ⟨psI (ps_for hpo hc hk.run hg hb.run hs) fun D σ H ⟨Fo, Hs, ρ, R, q⟩ => by
  refine ⟨Fo, Hs, ρ, R, hk.mono _ _ _ _ _ (fun ds ρ1 q1 => ?_) (fun x ρ1 q1 => Cn.ends.ex_at q1 (Ex.refl _)) q⟩
  intro J Hs1 H1 e1 R1 wd
  obtain ⟨P, h0, h1, h2⟩ := q1
  obtain ⟨Y, w, wy⟩ := wd
  refine for_it w (fun i σ' H' => ∃ Hs' ρ', Ex Hs1 Hs' ∧ Rel c.toCg c.A Fo Hs' H' σ' ρ' ∧ P i ρ') ⟨Hs1, ρ1, Ex.refl _, R1, h0⟩ (fun i σ' H' _ ⟨Hs', ρ', e', R', _⟩ => e'.trans R'.hs) ?_ ?_
  · rintro i x σ' H' H'' hi ⟨Hs', ρ', e', R', p⟩ y
    obtain ⟨d, hd, od⟩ := wy i H' x H'' hi (e'.trans R'.hs) y
    obtain ⟨Hs2, e2, R2, dn⟩ := (od.mono e').rel R'
    obtain ⟨ρ2, b2, q2⟩ := (h1 i d ρ' hd p).out
    refine Tg.sound R2 dn b2 hA fun σ2 R3 _ _ => ?_
    have e02 := e1.trans (e'.trans e2)
    exact ⟨Fo, Hs2, ρ2, R3, hb.mono ρ2 { c.ends Fo Hs D with nx := P (i + 1), ct := P (i + 1), bk := (c.ends Fo Hs D).nx } _ ⟨fun ρ3 p σ3 Hs3 H3 e3 R3 => ⟨Hs3, ρ3, (e'.trans e2).trans e3, R3, p⟩, (Cn.ends.at e02).rt, fun ρ3 h => (Cn.ends.at e02).nx _ h, fun ρ3 p σ3 Hs3 H3 e3 R3 => ⟨Hs3, ρ3, (e'.trans e2).trans e3, R3, p⟩, (Cn.ends.at (D := D) e02).ex⟩ q2⟩
  · rintro σ' H' ⟨Hs', ρ', e', R', p⟩
    exact h2 ρ' p σ' Hs' H' (e1.trans e') R', monoFor hk.mono hb.mono⟩
/-! ### raise -/
theorem js_raise {n : String} {C : Addr} (hC : c.cls n = some C) (hp : PS X st (fun _ σ H => c.W (.ref C) none σ H)) : JS X c st (sRaise { cls := n }) := ⟨psI hp fun D σ H ⟨Fo, Hs, ρ, R, q⟩ => q σ C none Hs H (Ex.refl _) R ⟨hC, rfl⟩, fun ρ D D' l h => l.ex _ _ h⟩
end
end Dl

/-! Do: the operations on data. -/
namespace Dl
open PySem
/-- ints of great size, but not too great -/
def bigN : Nat := 2 ^ 5000
theorem bigN_of {i : Int} (h : i.natAbs < 2 ^ 100) : i.natAbs < bigN := Nat.lt_of_lt_of_le h (by decide +kernel)
def smallI (i : Int) : Prop := -(2 ^ 62) ≤ i ∧ i < 2 ^ 62
def oAdd : Op2
  | .int i, .int j, k => k (.int (i + j))
  | .str x, .str y, k => x.length + y.length ≤ sizeLine ∧ k (.str (x ++ y))
  | .list xs, .list ys, k => xs.length + ys.length ≤ sizeLine ∧ k (.list (xs ++ ys))
  | .tuple xs, .tuple ys, k => xs.length + ys.length ≤ sizeLine ∧ k (.tuple (xs ++ ys))
  | _, _, _ => False
def oSub : Op2
  | .int i, .int j, k => k (.int (i - j))
  | _, _, _ => False
def oMul : Op2
  | .int i, .int j, k => (i.natAbs < bigN ∧ j.natAbs < bigN) ∧ k (.int (i * j))
  | _, _, _ => False
def oDiv : Op2
  | .int i, .int j, k => (0 < j ∧ j.natAbs < bigN) ∧ k (.int (i / j))
  | _, _, _ => False
def oMod : Op2
  | .int i, .int j, k => 0 < j ∧ k (.int (i % j))
  | _, _, _ => False
def oPow : Op2
  | .int i, .int j, k => (0 ≤ j ∧ j ≤ 100 ∧ i.natAbs < 2 ^ 64) ∧ k (.int (i ^ j.toNat))
  | _, _, _ => False
def oNeg : Op1
  | .int i, k => k (.int (-i))
  | _, _ => False
abbrev shp (d : PyData) : Prop := SeqAt.shaped d = true
def oEq : Op2 := fun x y k => (shp x ∧ shp y) ∧ k (.bool (PyData.eqv x y))
def oNe : Op2 := fun x y k => (shp x ∧ shp y) ∧ k (.bool (!PyData.eqv x y))
def oLt : Op2
  | .int i, .int j, k => k (.bool (decide (i < j)))
  | .str i, .str j, k => k (.bool (decide (i.cps.toList < j.cps.toList)))
  | _, _, _ => False
def oLe : Op2
  | .int i, .int j, k => k (.bool (decide (i ≤ j)))
  | _, _, _ => False
def oGt : Op2
  | .int i, .int j, k => k (.bool (decide (j < i)))
  | _, _, _ => False
def oGe : Op2
  | .int i, .int j, k => k (.bool (decide (j ≤ i)))
  | _, _, _ => False
def isNone : PyData → Bool
  | .none => true
  | _ => false
/-- x is None -/
def oIsN : Op2
  | x, .none, k => k (.bool (isNone x))
  | _, _, _ => False
def oNotN : Op2
  | x, .none, k => k (.bool (!isNone x))
  | _, _, _ => False
/-- x is True -/
def oIsB : Op2
  | .bool a, .bool b, k => k (.bool (decide (a = b)))
  | _, _, _ => False
def oNotB : Op2
  | .bool a, .bool b, k => k (.bool (!decide (a = b)))
  | _, _, _ => False
/-- x in y -/
def isFlat : PyData → Bool
  | .none => true
  | .bool _ => true
  | .int _ => true
  | .str _ => true
  | _ => false
def eqF : PyData → PyData → Bool
  | .none, .none => true
  | .bool a, .bool b => a == b
  | .bool a, .int j => (if a then 1 else 0) == j
  | .int i, .bool b => i == (if b then 1 else 0)
  | .int i, .int j => i == j
  | .str x, .str y => x == y
  | _, _ => false
def inF (x : PyData) (ys : List PyData) : Bool := ys.any fun y => PyData.eqv y x
def itemsOf : PyData → Option (List PyData)
  | .list ys => some ys
  | .tuple ys => some ys
  | _ => none
@[simp] theorem itemsOf_list (ys : List PyData) : itemsOf (.list ys) = some ys := rfl
@[simp] theorem itemsOf_tuple (ys : List PyData) : itemsOf (.tuple ys) = some ys := rfl
/-- in a list or tuple of plain things -/
def oIn : Op2 := fun x y k => wO (itemsOf y) fun ys => (isFlat x = true ∧ ys.all isFlat = true) ∧ k (.bool (inF x ys))
def oNotIn : Op2 := fun x y k => wO (itemsOf y) fun ys => (isFlat x = true ∧ ys.all isFlat = true) ∧ k (.bool (!inF x ys))
/-- an index, from either end -/
def ixD (n : Nat) (i : Int) : Option Nat := if 0 ≤ i then (if i < n then some i.toNat else none) else if -(n : Int) ≤ i then some (i + n).toNat else none
def scrOf : PyData → Option (List PyData)
  | .dict [(.none, .list xs)] => some xs
  | _ => none
/-- xs[i] -/
def oIx : Op2
  | .list xs, .int i, k => wO ((ixD xs.length i).bind fun j => xs[j]?) k
  | .tuple xs, .int i, k => wO ((ixD xs.length i).bind fun j => xs[j]?) k
  | .str x, .int i, k => x.length ≤ sizeLine ∧ wO ((ixD x.cps.toList.length i).bind fun j => x.cps.toList[j]?) fun c => k (.str ⟨#[c]⟩)
  | .dict [(.none, .list xs)], .int i, k => (∃ ns : List Int, xs = ns.map .int) ∧ wO ((ixD xs.length i).bind fun j => xs[j]?) k
  | _, _, _ => False
/-- slices -/
def clampD (n d : Nat) : Option Int → Nat
  | none => d
  | some i => if 0 ≤ i then min i.toNat n else (i + n).toNat
def cutD {α : Type} (xs : List α) (lo hi : Option Int) : List α := (xs.drop (clampD xs.length 0 lo)).take (clampD xs.length xs.length hi - clampD xs.length 0 lo)
/-! ### calls of built-ins -/
def oLen : OpN
  | [.list xs], k => k (.int xs.length)
  | [.tuple xs], k => k (.int xs.length)
  | [.str x], k => x.length ≤ sizeLine ∧ k (.int x.length)
  | [.dict [(.none, .list xs)]], k => (∃ ns : List Int, xs = ns.map .int) ∧ k (.int xs.length)
  | _, _ => False
def oAbs : OpN
  | [.int i], k => k (.int (if i < 0 then -i else i))
  | _, _ => False
def oMax2 : OpN
  | [.int i, .int j], k => k (.int (if j > i then j else i))
  | _, _ => False
def oMin2 : OpN
  | [.int i, .int j], k => k (.int (if j < i then j else i))
  | _, _ => False
def oInt : OpN
  | [.int i], k => k (.int i)
  | [.bool b], k => k (.int (if b then 1 else 0))
  | _, _ => False
def oDivmod : OpN
  | [.int i, .int j], k => (0 < j ∧ j.natAbs < bigN) ∧ k (.tuple [.int (i / j), .int (i % j)])
  | _, _ => False
/-- a list of ints, of truths -/
def intsOf : List PyData → Option (List Int)
  | [] => some []
  | .int i :: r => (intsOf r).map (i :: ·)
  | _ :: _ => none
@[simp] theorem intsOf_map (ns : List Int) : intsOf (ns.map .int) = some ns := by
  induction ns with
  | nil => rfl
  | cons n r ih => simp [intsOf, ih]
theorem intsOf_some : ∀ {xs : List PyData} {ns : List Int}, intsOf xs = some ns → xs = ns.map .int
  | [], ns, h => by
    simp [intsOf] at h
    subst h
    rfl
  | .int i :: r, ns, h => by
    simp only [intsOf, Option.map_eq_some_iff] at h
    obtain ⟨es, h1, rfl⟩ := h
    rw [intsOf_some h1]
    rfl
  | .none :: _, _, h => by simp [intsOf] at h
  | .bool _ :: _, _, h => by simp [intsOf] at h
  | .str _ :: _, _, h => by simp [intsOf] at h
  | .list _ :: _, _, h => by simp [intsOf] at h
  | .tuple _ :: _, _, h => by simp [intsOf] at h
  | .dict _ :: _, _, h => by simp [intsOf] at h
def boolsOf : List PyData → Option (List Bool)
  | [] => some []
  | .bool i :: r => (boolsOf r).map (i :: ·)
  | _ :: _ => none
@[simp] theorem boolsOf_map (ns : List Bool) : boolsOf (ns.map .bool) = some ns := by
  induction ns with
  | nil => rfl
  | cons n r ih => simp [boolsOf, ih]
theorem boolsOf_some : ∀ {xs : List PyData} {ns : List Bool}, boolsOf xs = some ns → xs = ns.map .bool
  | [], ns, h => by
    simp [boolsOf] at h
    subst h
    rfl
  | .bool i :: r, ns, h => by
    simp only [boolsOf, Option.map_eq_some_iff] at h
    obtain ⟨es, h1, rfl⟩ := h
    rw [boolsOf_some h1]
    rfl
  | .none :: _, _, h => by simp [boolsOf] at h
  | .int _ :: _, _, h => by simp [boolsOf] at h
  | .str _ :: _, _, h => by simp [boolsOf] at h
  | .list _ :: _, _, h => by simp [boolsOf] at h
  | .tuple _ :: _, _, h => by simp [boolsOf] at h
  | .dict _ :: _, _, h => by simp [boolsOf] at h
def oSum : OpN
  | [.list xs], k => wO (intsOf xs) fun ns => k (.int ns.sum)
  | _, _ => False
def oAll : OpN
  | [.list xs], k => wO (boolsOf xs) fun bs => k (.bool (bs.all id))
  | _, _ => False
/-- the greatest one, the least one -/
def isMax (ns : List Int) (m : Int) : Prop := m ∈ ns ∧ ∀ y ∈ ns, y ≤ m
def isMin (ns : List Int) (m : Int) : Prop := m ∈ ns ∧ ∀ y ∈ ns, m ≤ y
def oMax : OpN
  | [.list xs], k => wO (intsOf xs) fun ns => 0 < ns.length ∧ ∀ m, isMax ns m → k (.int m)
  | _, _ => False
def oMin : OpN
  | [.list xs], k => wO (intsOf xs) fun ns => 0 < ns.length ∧ ∀ m, isMin ns m → k (.int m)
  | _, _ => False
/-- list(xs), sorted(xs) of ints: a new list -/
def oList : OpL
  | [.list xs], k => k xs
  | [.tuple xs], k => k xs
  | _, _ => False
def oSorted : OpL
  | [.list xs], k => wO (intsOf xs) fun ns => ∀ ms : List Int, ms.Perm ns → ms.Pairwise (· ≤ ·) → k (ms.map .int)
  | _, _ => False
/-- tuple(xs) -/
def oTuple : OpN
  | [.list xs], k => k (.tuple xs)
  | [.tuple xs], k => k (.tuple xs)
  | _, _ => False
/-- the kinds of things, as isinstance tells them -/
def kindD : PyData → String
  | .none => "NoneType"
  | .bool _ => "bool"
  | .int _ => "int"
  | .str _ => "str"
  | .list _ => "list"
  | .tuple _ => "tuple"
  | .dict _ => "dict"
def isiD (T : String) (d : PyData) : Bool := kindD d == T || (T == "int" && kindD d == "bool")
/-- isinstance(x, T), T written -/
def oIsi (T : String) : Op1 := fun d k => scrOf d = none ∧ k (.bool (isiD T d))
/-- xs[lo:hi] of a list: a new list; of a tuple, of a text: data -/
def nSl (te : TED) (tl th : TOD) : TND := fun ρ ok ex => te ρ (fun r ρ1 => tl ρ1 (fun lo ρ2 => th ρ2 (fun hi ρ3 => wO (view ρ3 r) fun d => match d with
  | .list ds => ok (.lst ((cutD ds lo hi).map Sl.val)) ρ3
  | _ => False) ex) ex) ex
def eSl (te : TED) (tl th : TOD) : TED := fun ρ ok ex => te ρ (fun r ρ1 => tl ρ1 (fun lo ρ2 => th ρ2 (fun hi ρ3 => wO (view ρ3 r) fun d => match d with
  | .tuple ds => ok (.d (.tuple (cutD ds lo hi))) ρ3
  | .str x => x.length ≤ sizeLine ∧ ok (.d (.str ⟨(cutD x.cps.toList lo hi).toArray⟩)) ρ3
  | _ => False) ex) ex) ex
/-- list(range(n)), list(range(m, n)) -/
def nRg1 (te : TED) : TND := fun ρ ok ex => te ρ (fun r ρ1 => wO (view ρ1 r) fun d => match d with
  | .int n => (-(2 ^ 62) ≤ n ∧ n ≤ 2 ^ 24) ∧ ok (.lst ((rangeD 0 n).map Sl.val)) ρ1
  | _ => False) ex
/-- len(set(t)), t a tuple of ints -/
def oLenSet : Op1
  | .tuple xs, k => wO (intsOf xs) fun ns => ns.length ≤ 4000 ∧ ∀ c : Nat, (∃ ms : List Int, ms.Nodup ∧ (∀ z, z ∈ ms ↔ z ∈ ns) ∧ c = ms.length) → k (.int c)
  | _, _ => False
/-! ### methods of lists -/
def mAppend : OpM
  | es, [d], k => es.length < sizeLine ∧ k .none (es ++ [d])
  | _, _, _ => False
def mPop : OpM
  | es, [], k => wO es[es.length - 1]? fun d => k d es.dropLast
  | es, [.int i], k => (-(2 ^ 62) ≤ i ∧ i < 2 ^ 62) ∧ wO (ixD es.length i) fun j => wO es[j]? fun d => k d (es.eraseIdx j)
  | _, _, _ => False
def mExtend : OpM
  | es, [.list ds], k => es.length + ds.length ≤ sizeLine ∧ k .none (es ++ ds)
  | _, _, _ => False
def mClear : OpM
  | _, [], k => k .none []
  | _, _, _ => False
end Dl

/-! Dw8: the operations hold what they say. -/
namespace Dl
open PySem PySem.Spec PyProof.Rows L2
/-- either of two rules of one operator -/
def rOr (r r' : R2) : R2 := fun x y H Q => r x y H Q ∨ r' x y H Q
theorem opr_or {X : Cx} {f : Value → Value → Sem Value} {r r' : R2} (h : OpR X f r) (h' : OpR X f r') : OpR X f (rOr r r') := fun pins s σ H x y u v Q I rx ry q => q.elim (h pins s σ H x y u v Q I rx ry) (h' pins s σ H x y u v Q I rx ry)
theorem ixr_or {X : Cx} {r r' : R2} (h : IxR X r) (h' : IxR X r') : IxR X (rOr r r') := fun va sl pins s σ H x y v u Q I rx ry q p => Or.elim (show r x y H Q ∨ r' x y H Q from q) (fun q => h va sl pins s σ H x y v u Q I rx ry q p) (fun q => h' va sl pins s σ H x y v u Q I rx ry q p)
def cOr (r r' : List V → Hp → VK → Prop) : List V → Hp → VK → Prop := fun xs H Q => r xs H Q ∨ r' xs H Q
theorem callr_or {X : Cx} {f : Value} {r r' : List V → Hp → VK → Prop} (h : CallR X f r) (h' : CallR X f r') : CallR X f (cOr r r') := fun pins s σ H xs us Q I rx q => q.elim (h pins s σ H xs us Q I rx) (h' pins s σ H xs us Q I rx)
section
variable {K : PySem.W.Frag} {Hs H : Hp}
theorem eqAll_nil {vs : List V} {ds : List PyData} (h : DnAll K Hs vs ds) : vs = [] ↔ ds = [] := by
  cases h with
  | nil => simp
  | cons _ _ => simp
/-! ### sums and such -/
def rAddX (K : PySem.W.Frag) : R2 := rOr (rI0 fun i j => .int (i + j)) (rOr (fun x y H Q => ∃ i j, x = .str i ∧ y = .str j ∧ i.length + j.length ≤ sizeLine ∧ Q (.str (i ++ j)) H) (rOr rCat (rCatA K)))
theorem op_addX {X : Cx} : OpR X (binaryOp .Add) (rAddX X.K) := opr_or op_add (opr_or op_add_str (opr_or op_cat op_catA))
theorem ok_add : Op2Ok K (rAddX K) oAdd where
  run := fun Hs H x y d1 d2 k Q e hx hy ho q => by
    cases d1 <;> cases d2 <;> first | exact ho.elim | skip
    · cases hx.int
      cases hy.int
      exact .inl ⟨_, _, rfl, rfl, q _ _ _ (.same (.int _)) ho⟩
    · cases hx.str
      cases hy.str
      exact .inr (.inl ⟨_, _, rfl, rfl, ho.1, q _ _ _ (.same (.str _)) ho.2⟩)
    · obtain ⟨p, vs, rfl, hp, rp⟩ := hx.list e
      obtain ⟨p', vs', rfl, hp', rp'⟩ := hy.list e
      refine .inr (.inr (.inl ⟨p, p', vs, vs', rfl, rfl, hp, hp', by rw [rp.length, rp'.length]; exact ho.1, fun u hu => q _ _ _ (.inr ⟨u, _, hu, rfl, rfl, rfl, .lst upd_same ((rp.append rp').ex (Ex.new (e.free hu)))⟩) ho.2⟩))
    · obtain ⟨p, vs, rfl, hp, rp, dx⟩ := hx.tuple e
      obtain ⟨p', vs', rfl, hp', rp', dy⟩ := hy.tuple e
      rename_i xs ys
      refine .inr (.inr (.inr ⟨p, p', vs, vs', rfl, rfl, .inl (.inl hp), .inl (.inl hp'), by rw [rp.length, rp'.length]; exact ho.1, fun z => ?_, fun z z' => ?_, fun z z' u hu => q _ _ _ (.inr ⟨u, _, hu, rfl, rfl, rfl, .tup upd_same ((rp.append rp').ex (Ex.new (e.free hu)))⟩) ho.2⟩))
      · have : xs = [] := (eqAll_nil rp).mp z
        subst this
        exact q _ _ _ (.same dy) ho.2
      · have : ys = [] := (eqAll_nil rp').mp z'
        subst this
        have ho2 := ho.2
        rw [List.append_nil] at ho2
        exact q _ _ _ (.same dx) ho2
  mono := fun d1 d2 k k' m h => by
    cases d1 <;> cases d2 <;> first | exact h.elim | exact m _ h | exact ⟨h.1, m _ h.2⟩

theorem ok_int2 {op : Op2} {C : Int → Int → Prop} {C' : Int → Int → Prop} {gV : Int → Int → V} {gD : Int → Int → PyData} (h : ∀ d1 d2 k, op d1 d2 k → ∃ i j, d1 = .int i ∧ d2 = .int j ∧ C' i j ∧ k (gD i j)) (hc : ∀ i j, C' i j → C i j) (hg : ∀ (H : Hp) i j, Dn K H (gV i j) (gD i j))
    (m : ∀ (d1 d2 : PyData) (k k' : PyData → Prop), (∀ d, k d → k' d) → op d1 d2 k → op d1 d2 k') : Op2Ok K (rI C gV) op where
  run := fun Hs H x y d1 d2 k Q e hx hy ho q => by
    obtain ⟨i, j, rfl, rfl, c, hk⟩ := h _ _ _ ho
    cases hx.int
    cases hy.int
    exact ⟨i, j, rfl, rfl, hc i j c, q _ _ _ (.same (hg _ _ _)) hk⟩
  mono := m
theorem ok_int0 {op : Op2} {gV : Int → Int → V} {gD : Int → Int → PyData} (h : ∀ d1 d2 k, op d1 d2 k → ∃ i j, d1 = .int i ∧ d2 = .int j ∧ k (gD i j)) (hg : ∀ (H : Hp) i j, Dn K H (gV i j) (gD i j))
    (m : ∀ (d1 d2 : PyData) (k k' : PyData → Prop), (∀ d, k d → k' d) → op d1 d2 k → op d1 d2 k') : Op2Ok K (rI0 gV) op where
  run := fun Hs H x y d1 d2 k Q e hx hy ho q => by
    obtain ⟨i, j, rfl, rfl, hk⟩ := h _ _ _ ho
    cases hx.int
    cases hy.int
    exact ⟨i, j, rfl, rfl, q _ _ _ (.same (hg _ _ _)) hk⟩
  mono := m
theorem ok_sub : Op2Ok K (rI0 fun i j => .int (i - j)) oSub := ok_int0 (gD := fun i j => .int (i - j)) (fun d1 d2 k h => by cases d1 <;> cases d2 <;> first | exact h.elim | exact ⟨_, _, rfl, rfl, h⟩) (fun _ _ _ => .int _) fun d1 d2 k k' m h => by cases d1 <;> cases d2 <;> first | exact h.elim | exact m _ h
theorem bigN_log {i : Int} (h : i.natAbs < bigN) : i.natAbs.log2 < 5000 := PySem.Flt.log2_lt_of (by decide) h
theorem ok_mul : Op2Ok K (rI CMulW fun i j => .int (i * j)) oMul := ok_int2 (C' := fun i j => i.natAbs < bigN ∧ j.natAbs < bigN) (gD := fun i j => .int (i * j)) (fun d1 d2 k h => by cases d1 <;> cases d2 <;> first | exact h.elim | exact ⟨_, _, rfl, rfl, h.1, h.2⟩) (fun i j c => by
  have := bigN_log c.1
  have := bigN_log c.2
  unfold CMulW
  omega) (fun _ _ _ => .int _) fun d1 d2 k k' m h => by cases d1 <;> cases d2 <;> first | exact h.elim | exact ⟨h.1, m _ h.2⟩
theorem ok_div : Op2Ok K (rI CDivW fun i j => .int (i / j)) oDiv := ok_int2 (C' := fun i j => 0 < j ∧ j.natAbs < bigN) (gD := fun i j => .int (i / j)) (fun d1 d2 k h => by cases d1 <;> cases d2 <;> first | exact h.elim | exact ⟨_, _, rfl, rfl, h.1, h.2⟩) (fun i j c => by
  have := bigN_log c.2
  exact ⟨c.1, by omega⟩) (fun _ _ _ => .int _) fun d1 d2 k k' m h => by cases d1 <;> cases d2 <;> first | exact h.elim | exact ⟨h.1, m _ h.2⟩
theorem ok_mod : Op2Ok K (rI (fun _ j => 0 < j) fun i j => .int (i % j)) oMod := ok_int2 (C' := fun _ j => 0 < j) (gD := fun i j => .int (i % j)) (fun d1 d2 k h => by cases d1 <;> cases d2 <;> first | exact h.elim | exact ⟨_, _, rfl, rfl, h.1, h.2⟩) (fun i j c => c) (fun _ _ _ => .int _) fun d1 d2 k k' m h => by cases d1 <;> cases d2 <;> first | exact h.elim | exact ⟨h.1, m _ h.2⟩
theorem ok_pow : Op2Ok K (rI CPow fun i j => .int (i ^ j.toNat)) oPow := ok_int2 (C' := fun i j => 0 ≤ j ∧ j ≤ 100 ∧ i.natAbs < 2 ^ 64) (gD := fun i j => .int (i ^ j.toNat)) (fun d1 d2 k h => by cases d1 <;> cases d2 <;> first | exact h.elim | exact ⟨_, _, rfl, rfl, h.1, h.2⟩) (fun i j c => ⟨c.1, by omega, c.2.2⟩) (fun _ _ _ => .int _) fun d1 d2 k k' m h => by cases d1 <;> cases d2 <;> first | exact h.elim | exact ⟨h.1, m _ h.2⟩
theorem ok_neg : Op1Ok K (rU fun i => .int (-i)) oNeg where
  run := fun Hs H x d1 k Q e hx ho q => by
    cases d1 <;> first | exact ho.elim | skip
    cases hx.int
    exact ⟨_, rfl, q _ _ _ (.same (.int _)) ho⟩
  mono := fun d1 k k' m h => by cases d1 <;> first | exact h.elim | exact m _ h
/-! ### comparisons -/
mutual
theorem Dn.dp : ∀ {v : V} {d : PyData}, Dn K H v d → PyData.canLay0 d = true → Dp K H v d
  | _, _, .non, _ => .non
  | _, _, .bl b, _ => .bl b
  | _, _, .int i, _ => .int i
  | _, _, .str x, _ => .str x
  | _, _, .lst h r, n => .lst (.inl (.inl h)) (DnAll.dp r (by simpa [PyData.canLay0] using n))
  | _, _, .tup h r, n => .tup (.inl (.inl h)) (DnAll.dp r (by simpa [PyData.canLay0] using n))
  | _, _, .dK h r, n => by simp [PyData.canLay0] at n
  | _, _, .dT h r, n => by simp [PyData.canLay0] at n
  | _, _, .scr h, n => by simp [PyData.canLay0, scrD] at n
theorem DnAll.dp : ∀ {vs : List V} {ds : List PyData}, DnAll K H vs ds → PyData.canLayAll0 ds = true → DpAll K H vs ds
  | _, _, .nil, _ => .nil
  | _, _, .cons h r, n => by
    simp only [PyData.canLayAll0, Bool.and_eq_true] at n
    exact .cons (Dn.dp h n.1) (DnAll.dp r n.2)
end
theorem shp.lay {d : PyData} (h : shp d) : PyData.canLay0 d = true := SeqAt.canLay_of_shaped h
theorem ok_eq : Op2Ok K (rEqD K) oEq where
  run := fun Hs H x y d1 d2 k Q e hx hy ho q => ⟨d1, d2, (hx.dn e).dp ho.1.1.lay, (hy.dn e).dp ho.1.2.lay, ho.1.1, ho.1.2, q _ _ _ (.same (.bl _)) ho.2⟩
  mono := fun d1 d2 k k' m h => ⟨h.1, m _ h.2⟩
theorem ok_ne : Op2Ok K (rNeD K) oNe where
  run := fun Hs H x y d1 d2 k Q e hx hy ho q => ⟨d1, d2, (hx.dn e).dp ho.1.1.lay, (hy.dn e).dp ho.1.2.lay, ho.1.1, ho.1.2, q _ _ _ (.same (.bl _)) ho.2⟩
  mono := fun d1 d2 k k' m h => ⟨h.1, m _ h.2⟩
def rLtX : R2 := rOr (rI0 fun i j => .bl (decide (i < j))) (fun x y H Q => ∃ i j, x = .str i ∧ y = .str j ∧ Q (.bl (decide (i.cps.toList < j.cps.toList))) H)
theorem op_ltX {X : Cx} : OpR X (compareOp .Lt) rLtX := opr_or op_lt op_lt_str
theorem ok_lt : Op2Ok K rLtX oLt where
  run := fun Hs H x y d1 d2 k Q e hx hy ho q => by
    cases d1 <;> cases d2 <;> first | exact ho.elim | skip
    · cases hx.int
      cases hy.int
      exact .inl ⟨_, _, rfl, rfl, q _ _ _ (.same (.bl _)) ho⟩
    · cases hx.str
      cases hy.str
      exact .inr ⟨_, _, rfl, rfl, q _ _ _ (.same (.bl _)) ho⟩
  mono := fun d1 d2 k k' m h => by cases d1 <;> cases d2 <;> first | exact h.elim | exact m _ h
theorem ok_le : Op2Ok K (rI0 fun i j => .bl (decide (i ≤ j))) oLe := ok_int0 (gD := fun i j => .bool (decide (i ≤ j))) (fun d1 d2 k h => by cases d1 <;> cases d2 <;> first | exact h.elim | exact ⟨_, _, rfl, rfl, h⟩) (fun _ _ _ => .bl _) fun d1 d2 k k' m h => by cases d1 <;> cases d2 <;> first | exact h.elim | exact m _ h
theorem ok_gt : Op2Ok K (rI0 fun i j => .bl (decide (j < i))) oGt := ok_int0 (gD := fun i j => .bool (decide (j < i))) (fun d1 d2 k h => by cases d1 <;> cases d2 <;> first | exact h.elim | exact ⟨_, _, rfl, rfl, h⟩) (fun _ _ _ => .bl _) fun d1 d2 k k' m h => by cases d1 <;> cases d2 <;> first | exact h.elim | exact m _ h
theorem ok_ge : Op2Ok K (rI0 fun i j => .bl (decide (j ≤ i))) oGe := ok_int0 (gD := fun i j => .bool (decide (j ≤ i))) (fun d1 d2 k h => by cases d1 <;> cases d2 <;> first | exact h.elim | exact ⟨_, _, rfl, rfl, h⟩) (fun _ _ _ => .bl _) fun d1 d2 k k' m h => by cases d1 <;> cases d2 <;> first | exact h.elim | exact m _ h
theorem isNone_of {Hs H : Hp} {v : V} {d : PyData} (h : DnS K Hs H v d) : decide (v = .non) = isNone d := by
  cases h with
  | st h => cases h <;> simp [isNone, scrD]
  | _ => simp [isNone]
def rIsNX : R2 := fun x y H Q => y = .non ∧ Q (.bl (decide (x = .non))) H
def rNotNX : R2 := fun x y H Q => y = .non ∧ Q (.bl (!decide (x = .non))) H
theorem op_isNX {X : Cx} : OpR X (compareOp .Is) rIsNX := op_isN
theorem op_notNX {X : Cx} : OpR X (compareOp .IsNot) rNotNX := op_notN
theorem ok_isN : Op2Ok K rIsNX oIsN where
  run := fun Hs H x y d1 d2 k Q e hx hy ho q => by
    cases d2 <;> first | exact ho.elim | skip
    · refine ⟨hy.none, q _ _ _ (.same (.bl _)) ?_⟩
      rw [isNone_of hx]
      exact ho
  mono := fun d1 d2 k k' m h => by cases d2 <;> first | exact h.elim | exact m _ h
theorem ok_notN : Op2Ok K rNotNX oNotN where
  run := fun Hs H x y d1 d2 k Q e hx hy ho q => by
    cases d2 <;> first | exact ho.elim | skip
    · refine ⟨hy.none, q _ _ _ (.same (.bl _)) ?_⟩
      rw [isNone_of hx]
      exact ho
  mono := fun d1 d2 k k' m h => by cases d2 <;> first | exact h.elim | exact m _ h
theorem ok_isB : Op2Ok K rIsB oIsB where
  run := fun Hs H x y d1 d2 k Q e hx hy ho q => by
    cases d1 <;> cases d2 <;> first | exact ho.elim | skip
    exact ⟨_, _, hx.bool, hy.bool, q _ _ _ (.same (.bl _)) ho⟩
  mono := fun d1 d2 k k' m h => by cases d1 <;> cases d2 <;> first | exact h.elim | exact m _ h
theorem ok_notB : Op2Ok K rNotB oNotB where
  run := fun Hs H x y d1 d2 k Q e hx hy ho q => by
    cases d1 <;> cases d2 <;> first | exact ho.elim | skip
    exact ⟨_, _, hx.bool, hy.bool, q _ _ _ (.same (.bl _)) ho⟩
  mono := fun d1 d2 k k' m h => by cases d1 <;> cases d2 <;> first | exact h.elim | exact m _ h
/-! ### in -/
theorem flat_of {H : Hp} {v : V} {d : PyData} (h : Dn K H v d) (f : isFlat d = true) : flatV v = true := by
  cases h <;> first | rfl | simp [isFlat, scrD] at f
theorem eqv_flat {H : Hp} {v u : V} {d e : PyData} (h : Dn K H v d) (h' : Dn K H u e) (f : isFlat d = true) (f' : isFlat e = true) : eqV v u = PyData.eqv d e := by
  cases h <;> first | (simp [isFlat, scrD] at f; done) | skip
  all_goals
    cases h' <;> first | (simp [isFlat, scrD] at f'; done) | skip
  all_goals simp [eqV, PyData.eqv]
theorem inV_of {H : Hp} {v : V} {d : PyData} (h : Dn K H v d) (f : isFlat d = true) : ∀ {vs : List V} {ds : List PyData}, DnAll K H vs ds → ds.all isFlat = true → vs.all flatV = true ∧ inV v vs = inF d ds
  | _, _, .nil, _ => ⟨rfl, rfl⟩
  | _, _, .cons h1 r, q => by
    simp only [List.all_cons, Bool.and_eq_true] at q
    obtain ⟨a, b⟩ := inV_of h f r q.2
    refine ⟨by simp only [List.all_cons, flat_of h1 q.1, a]; rfl, ?_⟩
    unfold inV inF at *
    rw [List.any_cons, List.any_cons, eqv_flat h1 h q.1 f, b]
theorem items_at {Hs H : Hp} {v : V} {d : PyData} {ds : List PyData} (h : DnS K Hs H v d) (e : Ex Hs H) (i : itemsOf d = some ds) : ∃ p vs, v = .ref p ∧ (SqL K H p vs ∨ SqT K H p vs) ∧ DnAll K Hs vs ds := by
  cases d <;> simp [itemsOf] at i
  · subst i
    obtain ⟨p, vs, rfl, hp, r⟩ := h.list e
    exact ⟨p, vs, rfl, .inl (.inl (.inl hp)), r⟩
  · subst i
    obtain ⟨p, vs, rfl, hp, r, _⟩ := h.tuple e
    exact ⟨p, vs, rfl, .inr (.inl (.inl hp)), r⟩
theorem ok_in : Op2Ok K (rIn K false) oIn where
  run := fun Hs H x y d1 d2 k Q e hx hy ho q => by
    obtain ⟨ys, hi, ho⟩ := ho.out
    obtain ⟨p, vs, rfl, hp, r⟩ := items_at hy e hi
    obtain ⟨a, b⟩ := inV_of (hx.dn e) ho.1.1 (r.ex e) ho.1.2
    refine ⟨p, vs, rfl, hp, flat_of (hx.dn e) ho.1.1, a, q _ _ _ (.same (.bl _)) ?_⟩
    rw [if_neg Bool.false_ne_true, b]
    exact ho.2
  mono := fun d1 d2 k k' m h => h.mono fun _ h => ⟨h.1, m _ h.2⟩
theorem ok_notIn : Op2Ok K (rIn K true) oNotIn where
  run := fun Hs H x y d1 d2 k Q e hx hy ho q => by
    obtain ⟨ys, hi, ho⟩ := ho.out
    obtain ⟨p, vs, rfl, hp, r⟩ := items_at hy e hi
    obtain ⟨a, b⟩ := inV_of (hx.dn e) ho.1.1 (r.ex e) ho.1.2
    refine ⟨p, vs, rfl, hp, flat_of (hx.dn e) ho.1.1, a, q _ _ _ (.same (.bl _)) ?_⟩
    rw [if_pos rfl, b]
    exact ho.2
  mono := fun d1 d2 k k' m h => h.mono fun _ h => ⟨h.1, m _ h.2⟩
/-! ### items -/
theorem ixN_D (n : Nat) (i : Int) : ixN n i = ixD n i := rfl
theorem at_of {H : Hp} {vs : List V} {ds : List PyData} {i : Int} {d : PyData} (r : DnAll K H vs ds) (h : ((ixD ds.length i).bind fun j => ds[j]?) = some d) : ∃ v, atI vs i = some v ∧ Dn K H v d := by
  simp only [Option.bind_eq_some_iff] at h
  obtain ⟨j, h1, h2⟩ := h
  obtain ⟨v, h3, h4⟩ := r.get h2
  refine ⟨v, ?_, h4⟩
  unfold atI
  rw [ixN_D, r.length, h1]
  exact h3
def rIxX (K : PySem.W.Frag) : R2 := rOr (rIxL K) (rOr (rIxT K) rIxS)
theorem ix_X {X : Cx} : IxR X (rIxX X.K) := ixr_or ix_list (ixr_or ix_tup ix_str)
theorem ok_ix : Op2Ok K (rIxX K) oIx where
  run := fun Hs H x y d1 d2 k Q e hx hy ho q => by
    unfold oIx at ho
    split at ho
    · rename_i xs i
      cases hy.int
      obtain ⟨d, hd, ho⟩ := ho.out
      obtain ⟨p, vs, rfl, hp, r⟩ := hx.list e
      obtain ⟨v, hv, dn⟩ := at_of r hd
      exact .inl ⟨p, vs, i, v, rfl, rfl, .inl (.inl hp), hv, q _ _ _ (.same dn) ho⟩
    · rename_i xs i
      cases hy.int
      obtain ⟨d, hd, ho⟩ := ho.out
      obtain ⟨p, vs, rfl, hp, r, _⟩ := hx.tuple e
      obtain ⟨v, hv, dn⟩ := at_of r hd
      exact .inr (.inl ⟨p, vs, i, v, rfl, rfl, .inl (.inl hp), hv, q _ _ _ (.same dn) ho⟩)
    · rename_i z i
      cases hy.int
      cases hx.str
      obtain ⟨hl, ho⟩ := ho
      obtain ⟨cp, hc, ho⟩ := ho.out
      refine .inr (.inr ⟨z, i, cp, rfl, rfl, hl, ?_, q _ _ _ (.same (.str _)) ho⟩)
      unfold atI
      rw [ixN_D]
      exact hc
    · rename_i xs i
      cases hy.int
      obtain ⟨⟨ns, rfl⟩, ho⟩ := ho
      obtain ⟨d, hd, ho⟩ := ho.out
      obtain ⟨p, rfl, hp⟩ := DnS.scr (ns := ns) hx e
      obtain ⟨v, hv, dn⟩ := at_of (DnAll.of_ints (K := K) (H := Hs) ns) hd
      exact .inl ⟨p, _, i, v, rfl, rfl, hp, hv, q _ _ _ (.same dn) ho⟩
    · exact ho.elim
  mono := fun d1 d2 k k' m h => by
    unfold oIx at h ⊢
    split at h
    · exact h.mono m
    · exact h.mono m
    · exact ⟨h.1, h.2.mono fun _ h => m _ h⟩
    · exact ⟨h.1, h.2.mono m⟩
    · exact h.elim
theorem clamp_eq (n d : Nat) (o : Option Int) : HT.sIx n d o = clampD n d o := by
  cases o with
  | none => rfl
  | some i =>
    show (if i < 0 then (i + (n : Int)).toNat else min i.toNat n) = (if 0 ≤ i then min i.toNat n else (i + (n : Int)).toNat)
    by_cases h : i < 0
    · rw [if_pos h, if_neg (by omega)]
    · rw [if_neg h, if_pos (by omega)]
theorem cut_of {H : Hp} {vs : List V} {ds : List PyData} (lo hi : Option Int) (r : DnAll K H vs ds) : DnAll K H (cutV vs lo hi) (cutD ds lo hi) := by
  unfold cutV cutD
  rw [clamp_eq, clamp_eq, r.length]
  exact (r.drop _).take _
/-! ### calls -/
theorem one_of {Hs H : Hp} {xs : List V} {d : PyData} (h : DnSs K Hs H xs [d]) : ∃ v, xs = [v] ∧ DnS K Hs H v d := by
  cases h with
  | cons a r => cases r; exact ⟨_, rfl, a⟩
theorem two_of {Hs H : Hp} {xs : List V} {d e : PyData} (h : DnSs K Hs H xs [d, e]) : ∃ v u, xs = [v, u] ∧ DnS K Hs H v d ∧ DnS K Hs H u e := by
  cases h with
  | cons a r =>
    cases r with
    | cons b r => cases r; exact ⟨_, _, rfl, a, b⟩
def rLenX (K : PySem.W.Frag) : List V → Hp → VK → Prop := fun xs H Q => ∃ x n, xs = [x] ∧ LenV K x H n ∧ Q (.int n) H
theorem cr_len {X : Cx} : CallR X (.builtin "len") (rLenX X.K) := call_len
theorem ok_len : OpNOk K (rLenX K) oLen where
  run := fun Hs H xs ds k Q e hx ho q => by
    unfold oLen at ho
    split at ho
    · obtain ⟨v, rfl, a⟩ := one_of hx
      obtain ⟨p, vs, rfl, hp, r⟩ := a.list e
      exact ⟨_, vs.length, rfl, .inl ⟨vs, .inl (.inl hp), rfl⟩, q _ _ _ (.same (.int _)) (by rw [r.length]; exact ho)⟩
    · obtain ⟨v, rfl, a⟩ := one_of hx
      obtain ⟨p, vs, rfl, hp, r, _⟩ := a.tuple e
      exact ⟨_, vs.length, rfl, .inr ⟨vs, .inl (.inl hp), rfl⟩, q _ _ _ (.same (.int _)) (by rw [r.length]; exact ho)⟩
    · obtain ⟨v, rfl, a⟩ := one_of hx
      cases a.str
      exact ⟨_, _, rfl, ⟨ho.1, rfl⟩, q _ _ _ (.same (.int _)) ho.2⟩
    · obtain ⟨⟨ns, rfl⟩, ho⟩ := ho
      obtain ⟨v, rfl, a⟩ := one_of hx
      obtain ⟨p, rfl, hp⟩ := DnS.scr (ns := ns) a e
      exact ⟨_, ns.length, rfl, .inl ⟨_, hp, by simp⟩, q _ _ _ (.same (.int _)) (by simpa using ho)⟩
    · exact ho.elim
  mono := fun ds k k' m h => by
    unfold oLen at h ⊢
    split at h
    · exact m _ h
    · exact m _ h
    · exact ⟨h.1, m _ h.2⟩
    · exact ⟨h.1, m _ h.2⟩
    · exact h.elim
def rAbsX : List V → Hp → VK → Prop := fun xs H Q => ∃ i, xs = [.int i] ∧ Q (.int (if i < 0 then -i else i)) H
theorem cr_abs {X : Cx} : CallR X (.builtin "abs") rAbsX := call_abs
theorem ok_abs : OpNOk K rAbsX oAbs where
  run := fun Hs H xs ds k Q e hx ho q => by
    unfold oAbs at ho
    split at ho
    · obtain ⟨v, rfl, a⟩ := one_of hx
      cases a.int
      exact ⟨_, rfl, q _ _ _ (.same (.int _)) ho⟩
    · exact ho.elim
  mono := fun ds k k' m h => by
    unfold oAbs at h ⊢
    split at h
    · exact m _ h
    · exact h.elim
def rMax2X : List V → Hp → VK → Prop := fun xs H Q => ∃ i j, xs = [.int i, .int j] ∧ Q (.int (if j > i then j else i)) H
def rMin2X : List V → Hp → VK → Prop := fun xs H Q => ∃ i j, xs = [.int i, .int j] ∧ Q (.int (if j < i then j else i)) H
theorem cr_max2 {X : Cx} (hc : X.calm = true) : CallR X (.builtin "max") rMax2X := call_max2 hc
theorem cr_min2 {X : Cx} (hc : X.calm = true) : CallR X (.builtin "min") rMin2X := call_min2 hc
theorem ok_max2 : OpNOk K rMax2X oMax2 where
  run := fun Hs H xs ds k Q e hx ho q => by
    unfold oMax2 at ho
    split at ho
    · obtain ⟨v, u, rfl, a, b⟩ := two_of hx
      cases a.int
      cases b.int
      exact ⟨_, _, rfl, q _ _ _ (.same (.int _)) ho⟩
    · exact ho.elim
  mono := fun ds k k' m h => by
    unfold oMax2 at h ⊢
    split at h
    · exact m _ h
    · exact h.elim
theorem ok_min2 : OpNOk K rMin2X oMin2 where
  run := fun Hs H xs ds k Q e hx ho q => by
    unfold oMin2 at ho
    split at ho
    · obtain ⟨v, u, rfl, a, b⟩ := two_of hx
      cases a.int
      cases b.int
      exact ⟨_, _, rfl, q _ _ _ (.same (.int _)) ho⟩
    · exact ho.elim
  mono := fun ds k k' m h => by
    unfold oMin2 at h ⊢
    split at h
    · exact m _ h
    · exact h.elim
def rIntX : List V → Hp → VK → Prop := fun xs H Q => (∃ i, xs = [.int i] ∧ Q (.int i) H) ∨ ∃ k, xs = [.bl k] ∧ Q (.int (if k then 1 else 0)) H
theorem cr_int {X : Cx} : CallR X (.type "int") rIntX := call_int1
theorem ok_toInt : OpNOk K rIntX oInt where
  run := fun Hs H xs ds k Q e hx ho q => by
    unfold oInt at ho
    split at ho
    · obtain ⟨v, rfl, a⟩ := one_of hx
      cases a.int
      exact .inl ⟨_, rfl, q _ _ _ (.same (.int _)) ho⟩
    · obtain ⟨v, rfl, a⟩ := one_of hx
      cases a.bool
      exact .inr ⟨_, rfl, q _ _ _ (.same (.int _)) ho⟩
    · exact ho.elim
  mono := fun ds k k' m h => by
    unfold oInt at h ⊢
    split at h
    · exact m _ h
    · exact m _ h
    · exact h.elim
def rDivmodX : List V → Hp → VK → Prop := fun xs H Q => ∃ i j, xs = [.int i, .int j] ∧ CDivP i j ∧ ∀ p, H p = none → Q (.ref p) (upd H p (.tup [.int (i / j), .int (i % j)]))
theorem cr_divmod {X : Cx} : CallR X (.builtin "divmod") rDivmodX := call_divmodW
theorem ok_divmod : OpNOk K rDivmodX oDivmod where
  run := fun Hs H xs ds k Q e hx ho q => by
    unfold oDivmod at ho
    split at ho
    · obtain ⟨v, u, rfl, a, b⟩ := two_of hx
      cases a.int
      cases b.int
      have := bigN_log ho.1.2
      exact ⟨_, _, rfl, ⟨ho.1.1, PyProof.noPylong_of_log2 (by omega)⟩, fun p hp => q _ _ _ (.inr ⟨p, _, hp, rfl, rfl, rfl, .tup upd_same (.cons (.int _) (.cons (.int _) .nil))⟩) ho.2⟩
    · exact ho.elim
  mono := fun ds k k' m h => by
    unfold oDivmod at h ⊢
    split at h
    · exact ⟨h.1, m _ h.2⟩
    · exact h.elim
theorem ok_sum : OpNOk K (rSum K) oSum where
  run := fun Hs H xs ds k Q e hx ho q => by
    unfold oSum at ho
    split at ho
    · obtain ⟨ns, hn, ho⟩ := ho.out
      obtain ⟨v, rfl, a⟩ := one_of hx
      obtain ⟨p, vs, rfl, hp, r⟩ := a.list e
      rw [intsOf_some hn] at r
      rw [r.ints] at hp
      exact ⟨p, ns, rfl, .inl (.inl hp), q _ _ _ (.same (.int _)) ho⟩
    · exact ho.elim
  mono := fun ds k k' m h => by
    unfold oSum at h ⊢
    split at h
    · exact h.mono fun _ h => m _ h
    · exact h.elim
theorem ok_max : OpNOk K (rMax K) oMax where
  run := fun Hs H xs ds k Q e hx ho q => by
    unfold oMax at ho
    split at ho
    · obtain ⟨ns, hn, ho⟩ := ho.out
      obtain ⟨v, rfl, a⟩ := one_of hx
      obtain ⟨p, vs, rfl, hp, r⟩ := a.list e
      rw [intsOf_some hn] at r
      rw [r.ints] at hp
      exact ⟨p, ns, rfl, .inl (.inl hp), ho.1, fun m h1 h2 => q _ _ _ (.same (.int _)) (ho.2 m ⟨h1, h2⟩)⟩
    · exact ho.elim
  mono := fun ds k k' m h => by
    unfold oMax at h ⊢
    split at h
    · exact h.mono fun _ h => ⟨h.1, fun x hx => m _ (h.2 x hx)⟩
    · exact h.elim
theorem ok_min : OpNOk K (rMin K) oMin where
  run := fun Hs H xs ds k Q e hx ho q => by
    unfold oMin at ho
    split at ho
    · obtain ⟨ns, hn, ho⟩ := ho.out
      obtain ⟨v, rfl, a⟩ := one_of hx
      obtain ⟨p, vs, rfl, hp, r⟩ := a.list e
      rw [intsOf_some hn] at r
      rw [r.ints] at hp
      exact ⟨p, ns, rfl, .inl (.inl hp), ho.1, fun m h1 h2 => q _ _ _ (.same (.int _)) (ho.2 m ⟨h1, h2⟩)⟩
    · exact ho.elim
  mono := fun ds k k' m h => by
    unfold oMin at h ⊢
    split at h
    · exact h.mono fun _ h => ⟨h.1, fun x hx => m _ (h.2 x hx)⟩
    · exact h.elim
theorem ok_all : OpNOk K (rAll K) oAll where
  run := fun Hs H xs ds k Q e hx ho q => by
    unfold oAll at ho
    split at ho
    · obtain ⟨ns, hn, ho⟩ := ho.out
      obtain ⟨v, rfl, a⟩ := one_of hx
      obtain ⟨p, vs, rfl, hp, r⟩ := a.list e
      rw [boolsOf_some hn] at r
      rw [r.bools] at hp
      exact ⟨p, ns, rfl, .inl (.inl hp), q _ _ _ (.same (.bl _)) ho⟩
    · exact ho.elim
  mono := fun ds k k' m h => by
    unfold oAll at h ⊢
    split at h
    · exact h.mono fun _ h => m _ h
    · exact h.elim
def rListX (K : PySem.W.Frag) : List V → Hp → VK → Prop := fun xs H Q => ∃ p ys, xs = [.ref p] ∧ (SqL K H p ys ∨ SqT K H p ys) ∧ ∀ l, H l = none → Q (.ref l) (upd H l (.lst ys))
theorem cr_list {X : Cx} : CallR X (.type "list") (rListX X.K) := call_list_of
theorem ok_list : OpLOk K (rListX K) oList where
  run := fun Hs H xs ds k Q e hx ho q => by
    unfold oList at ho
    split at ho
    · obtain ⟨v, rfl, a⟩ := one_of hx
      obtain ⟨p, vs, rfl, hp, r⟩ := a.list e
      exact ⟨p, vs, rfl, .inl (.inl (.inl hp)), fun l hl => q _ l vs hl r ho⟩
    · obtain ⟨v, rfl, a⟩ := one_of hx
      obtain ⟨p, vs, rfl, hp, r, _⟩ := a.tuple e
      exact ⟨p, vs, rfl, .inr (.inl (.inl hp)), fun l hl => q _ l vs hl r ho⟩
    · exact ho.elim
  mono := fun ds k k' m h => by
    unfold oList at h ⊢
    split at h
    · exact m _ h
    · exact m _ h
    · exact h.elim
theorem ok_sorted : OpLOk K (rSortedI K) oSorted where
  run := fun Hs H xs ds k Q e hx ho q => by
    unfold oSorted at ho
    split at ho
    · obtain ⟨ns, hn, ho⟩ := ho.out
      obtain ⟨v, rfl, a⟩ := one_of hx
      obtain ⟨p, vs, rfl, hp, r⟩ := a.list e
      rw [intsOf_some hn] at r
      rw [r.ints] at hp
      exact ⟨p, ns, rfl, .inl (.inl hp), fun ms l h1 h2 hl => q _ l _ hl (DnAll.of_ints ms) (ho ms h1 h2)⟩
    · exact ho.elim
  mono := fun ds k k' m h => by
    unfold oSorted at h ⊢
    split at h
    · exact h.mono fun _ h ms h1 h2 => m _ (h ms h1 h2)
    · exact h.elim
def rTupleX (K : PySem.W.Frag) : List V → Hp → VK → Prop := fun xs H Q => ∃ p ys, xs = [.ref p] ∧ ((SqL K H p ys ∧ ∀ l, H l = none → Q (.ref l) (upd H l (.tup ys))) ∨ (SqT K H p ys ∧ Q (.ref p) H))
theorem cr_tuple {X : Cx} : CallR X (.type "tuple") (rTupleX X.K) := call_tuple_of
theorem ok_tuple : OpNOk K (rTupleX K) oTuple where
  run := fun Hs H xs ds k Q e hx ho q => by
    unfold oTuple at ho
    split at ho
    · obtain ⟨v, rfl, a⟩ := one_of hx
      obtain ⟨p, vs, rfl, hp, r⟩ := a.list e
      exact ⟨p, vs, rfl, .inl ⟨.inl (.inl hp), fun l hl => q _ _ _ (.inr ⟨l, _, hl, rfl, rfl, rfl, .tup upd_same (r.ex (Ex.new (e.free hl)))⟩) ho⟩⟩
    · obtain ⟨v, rfl, a⟩ := one_of hx
      obtain ⟨p, vs, rfl, hp, r, d⟩ := a.tuple e
      exact ⟨p, vs, rfl, .inr ⟨.inl (.inl hp), q _ _ _ (.same d) ho⟩⟩
    · exact ho.elim
  mono := fun ds k k' m h => by
    unfold oTuple at h ⊢
    split at h
    · exact m _ h
    · exact m _ h
    · exact h.elim
end
end Dl

/-! Dw9: comprehensions, methods, slices, try. -/
namespace Dl
open PySem PySem.Spec PyProof.Rows L2
section
variable {g : Cg} {A : List (Nat × V)} {Fo Hs Hs' H H' : Hp} {σ σ2 : L2.St} {ρ ρ2 : Env} {v : V} {d : PyData} {s : Sl} {i : Nat} {D : Addr} {vs : List V} {ds : List PyData}
/-- the thing beside is one of others -/
theorem RelN.hide (R : RelN g A Fo Hs H σ ρ (.ref D) (.lst (ds.map Sl.val))) (hA : ALt A σ) : ∃ vs, H D = some (.lst vs) ∧ DnAll g.K Hs vs ds ∧ Fo D = none ∧ Rel g A (upd Fo D (.lst vs)) Hs H σ ρ := by
  have R0 := R.drop hA
  have hlen : ρ.length = σ.length := R0.len
  obtain ⟨fps, h1, h2, h3, h4⟩ := R.env
  obtain ⟨w, h5, h6⟩ := h1 σ.length (.lst (ds.map Sl.val)) (by rw [← hlen, List.getElem?_append_right (Nat.le_refl _)]; simp)
  rw [List.getElem?_append_right (Nat.le_refl _)] at h5
  simp at h5
  subst h5
  generalize hfp : fps σ.length = fp at h6
  cases h6 with
  | lst h r =>
    rename_i vs fq
    obtain ⟨rfl, dn⟩ := r.vals
    have hm : D ∈ fps σ.length := by rw [hfp]; simp
    obtain ⟨n1, n2, u, n3, n4⟩ := h4 _ D hm
    refine ⟨vs, h, dn, n2, hlen, ⟨fpS fps σ.length [], fun j t hj => ?_, fpS_nd h2 List.nodup_nil, fun j k q hp hk => ?_, fun j q hq => ?_⟩, R.hs, fun b o e => ?_, fun b hb => ?_, R.nt, fun b o e => ?_, R.tabs, R0.anch⟩
    · have hlt := (List.getElem?_eq_some_iff.mp hj).1
      obtain ⟨w, h5, h6⟩ := h1 j t (by rw [List.getElem?_append_left hlt]; exact hj)
      refine ⟨w, by rw [List.getElem?_append_left (by omega)] at h5; exact h5, ?_⟩
      rw [fpS_ne (by omega)]
      exact h6
    · rcases fpS_mem hp with ⟨_, z⟩ | ⟨_, z⟩
      · simp at z
      · rcases fpS_mem hk with ⟨_, z2⟩ | ⟨_, z2⟩
        · simp at z2
        · exact h3 j k q z z2
    · rcases fpS_mem hq with ⟨_, z⟩ | ⟨a, z⟩
      · simp at z
      · obtain ⟨m1, m2, m3⟩ := h4 j q z
        refine ⟨m1, ?_, m3⟩
        rw [upd_ne (fun z2 => a (h3 j σ.length q z (by rw [z2]; exact hm)))]
        exact m2
    · by_cases hb : b = D
      · rw [hb, upd_same] at e; cases e; rw [hb]; exact h
      · rw [upd_ne hb] at e; exact R.fo b o e
    · by_cases hbD : b = D
      · rw [hbD] at hb; exact absurd n1 hb
      · rw [upd_ne hbD]; exact R.dj b hb
    · by_cases hb : b = D
      · rw [hb, upd_same] at e; cases e; rfl
      · rw [upd_ne hb] at e; exact R.ft b o e
/-- .. and back, with other items -/
theorem Rel.unhide {vs' : List V} {ds' : List PyData} (R : Rel g A (upd Fo D (.lst vs)) Hs H σ ρ) (hF : Fo D = none) (dn : DnAll g.K Hs vs' ds') : RelN g A Fo Hs (upd H D (.lst vs')) σ ρ (.ref D) (.lst (ds'.map Sl.val)) := by
  have hlen := R.len
  obtain ⟨fps, h1, h2, h3, h4⟩ := R.env
  have hD : H D = some (.lst vs) := R.fo D _ upd_same
  have nD : ∀ j q, q ∈ fps j → q ≠ D := fun j q hq z => by
    obtain ⟨_, n2, _⟩ := h4 j q hq
    rw [z, upd_same] at n2; cases n2
  have hsD : Hs D = none := by
    cases z : Hs D with
    | none => rfl
    | some o =>
      have := R.dj D (by rw [z]; simp)
      rw [upd_same] at this; cases this
  have tD := tabs_write (p := D) (o := .lst vs') R.tabs hD rfl (fun q z => by unfold LamX.CodeO at z; cases z)
  refine ⟨by simp [hlen], ⟨fpS fps σ.length [D], fun j t hj => ?_, fpS_nd h2 (by simp), fun j k q hp hk => ?_, fun j q hq => ?_⟩, R.hs.mut hsD, fun b o e => ?_, fun b hb => ?_, R.nt, fun b o e => ?_, tD, fun q hq => ?_⟩
  · by_cases hjl : j = σ.length
    · subst hjl
      rw [← hlen, List.getElem?_append_right (Nat.le_refl _)] at hj
      simp at hj
      subst hj
      refine ⟨.ref D, by rw [List.getElem?_append_right (Nat.le_refl _)]; simp, ?_⟩
      rw [fpS_same]
      exact .lst upd_same (OwnAll.of_vals dn)
    · obtain ⟨w, h5, h6⟩ := h1 j t (get_app hj (by omega))
      refine ⟨w, by rw [List.getElem?_append_left (List.getElem?_eq_some_iff.mp h5).1]; exact h5, ?_⟩
      rw [fpS_ne hjl]
      exact h6.frame (Ex.refl _) fun q hq => upd_ne (nD j q hq)
  · rcases fpS_mem hp with ⟨a, z⟩ | ⟨a, z⟩
    · rcases fpS_mem hk with ⟨a2, z2⟩ | ⟨a2, z2⟩
      · rw [a, a2]
      · exact absurd (by simpa using z) (nD k q z2)
    · rcases fpS_mem hk with ⟨a2, z2⟩ | ⟨a2, z2⟩
      · exact absurd (by simpa using z2) (nD j q z)
      · exact h3 j k q z z2
  · rcases fpS_mem hq with ⟨a, z⟩ | ⟨a, z⟩
    · have e : q = D := by simpa using z
      subst e
      exact ⟨hsD, hF, _, upd_same, rfl⟩
    · obtain ⟨m1, m2, u, m3, m4⟩ := h4 j q z
      rw [upd_ne (nD j q z)] at m2
      exact ⟨m1, m2, u, by rw [upd_ne (nD j q z)]; exact m3, m4⟩
  · have hb : b ≠ D := fun z => by rw [z, hF] at e; cases e
    rw [upd_ne hb]
    exact R.fo b o (by rw [upd_ne hb]; exact e)
  · have := R.dj b hb
    by_cases hbD : b = D
    · rw [hbD]; exact hF
    · rw [upd_ne hbD] at this; exact this
  · have hb : b ≠ D := fun z => by rw [z, hF] at e; cases e
    exact R.ft b o (by rw [upd_ne hb]; exact e)
  · have := R.anch q hq
    rw [List.getElem?_append_left (List.getElem?_eq_some_iff.mp this).1]
    exact this
theorem Rel.wipe (R : Rel g A Fo Hs H σ ρ) : ∀ {is : List Nat}, (∀ q ∈ A, q.1 ∉ is) → Rel g A Fo Hs H (L2.wipe σ is) (wipeD ρ is)
  | [], _ => R
  | i :: is, hA => (Rel.wipe R (is := is) fun q hq z => hA q hq (by simp [z])).setN none fun q hq z => hA q hq (by simp [z])
theorem wipe_get (σ : L2.St) : ∀ (is : List Nat) (j : Nat), (L2.wipe σ is)[j]? = if j ∈ is then (σ[j]?).map (fun _ => none) else σ[j]?
  | [], j => by simp [L2.wipe]
  | i :: is, j => by
    have ih := wipe_get σ is j
    unfold L2.wipe
    by_cases h : j = i
    · subst h
      by_cases hl : j < (L2.wipe σ is).length
      · rw [List.getElem?_set_self hl]
        have hl' : j < σ.length := by rwa [L2.wipe_length] at hl
        simp [hl']
      · have hl' : ¬ j < σ.length := by rwa [L2.wipe_length] at hl
        rw [List.getElem?_eq_none (by rw [List.length_set]; omega)]
        simp [List.getElem?_eq_none (show σ.length ≤ j by omega)]
    · rw [List.getElem?_set_ne (Ne.symm h), ih]
      by_cases hm : j ∈ is
      · simp [hm]
      · simp [hm, h]
theorem wipe_eq {σ σ2 : L2.St} {is ix : List Nat} (h : ∀ j, j ∉ ix → σ2[j]? = (L2.wipe σ is)[j]?) (hs : ∀ j ∈ ix, j ∈ is) (hl : σ2.length = σ.length) : L2.wipe σ2 is = L2.wipe σ is := by
  apply List.ext_getElem?
  intro j
  rw [wipe_get, wipe_get]
  by_cases hm : j ∈ is
  · rw [if_pos hm, if_pos hm]
    by_cases hj : j < σ.length
    · rw [List.getElem?_eq_getElem hj, List.getElem?_eq_getElem (by omega)]
      rfl
    · rw [List.getElem?_eq_none (by omega), List.getElem?_eq_none (by omega)]
  · rw [if_neg hm, if_neg hm, h j (fun z => hm (hs j z)), wipe_get, if_neg hm]
/-- behind a turn of a comprehension: its own names as they were -/
theorem Rel.back {is : List Nat} {H0 Hs0 : Hp} {Fo0 : Hp} (R0 : Rel g A Fo0 Hs0 H0 σ ρ) (R : Rel g A Fo Hs H σ2 ρ2) (e : Ex Hs0 Hs) (hl : σ2.length = σ.length) (h : ∀ j, j ∉ is → σ2[j]? = σ[j]?) (hv : ∀ j ∈ is, ∀ s, ρ[j]? = some (some s) → isOwn s = false) (hA : ∀ q ∈ A, q.1 ∉ is) : Rel g A Fo Hs H σ (backD is ρ ρ2) := by
  have l0 := R0.len
  have l2 := R.len
  obtain ⟨fps, h1, h2, h3, h4⟩ := R.env
  let f : Nat → List Addr := fun j => if j ∈ is then [] else fps j
  have fm : ∀ {j q}, q ∈ f j → j ∉ is ∧ q ∈ fps j := fun {j q} hq => by
    by_cases hj : j ∈ is
    · simp only [f, if_pos hj] at hq; simp at hq
    · simp only [f, if_neg hj] at hq; exact ⟨hj, hq⟩
  refine ⟨by simp [backD, l2, hl], ⟨f, fun j t hj => ?_, fun j => ?_, fun j k q hp hk => h3 j k q (fm hp).2 (fm hk).2, fun j q hq => h4 j q (fm hq).2⟩, R.hs, R.fo, R.dj, R.nt, R.ft, R.tabs, R0.anch⟩
  · unfold backD at hj
    rw [List.getElem?_mapIdx] at hj
    simp only [Option.map_eq_some_iff] at hj
    obtain ⟨o, ho, hj⟩ := hj
    by_cases hm : j ∈ is
    · rw [if_pos hm] at hj
      have hj' : ρ[j]? = some (some t) := by
        cases z : ρ[j]? with
        | none => rw [z] at hj; cases hj
        | some u => rw [z] at hj; simp at hj; rw [hj]
      obtain ⟨w, fp, hw, how⟩ := R0.get hj'
      refine ⟨w, hw, ?_⟩
      simp only [f, if_pos hm]
      have := hv j hm t hj'
      cases how with
      | val hd => exact .val (hd.ex e)
      | _ => simp [isOwn] at this
    · rw [if_neg hm] at hj
      subst hj
      obtain ⟨w, h5, h6⟩ := h1 j t ho
      refine ⟨w, by rw [← h j hm]; exact h5, ?_⟩
      simp only [f, if_neg hm]
      exact h6
  · by_cases hj : j ∈ is
    · simp only [f, if_pos hj]; exact List.nodup_nil
    · simp only [f, if_neg hj]; exact h2 j
theorem Rel.anchSub {A' : List (Nat × V)} (R : Rel g A Fo Hs H σ ρ) (h : ∀ q ∈ A', q ∈ A) : Rel g A' Fo Hs H σ ρ := ⟨R.len, R.env, R.hs, R.fo, R.dj, R.nt, R.ft, R.tabs, fun q hq => R.anch q (h q hq)⟩
end
def Cn.calmW (c : Cn) : Cn := { c with W := fun _ _ _ _ => False }
section
variable {X : Cx} {c : Cn} {e a b tgE : Expr} {es : List Expr} {ta tb te : TED} {tn : TND} {tA : TAD} {tt tu : TTD} {pos : Pos} {src : TWD} {tg : Tg} {is : List Nat}
theorem monoLc (ms : MonoW src) : MonoN (nLc src tg tt te is) := fun ρ ok ok' ex ex' p n q => ms _ _ _ _ _ (fun ds ρ1 ⟨P, h0, h1, h2⟩ => ⟨P, h0, h1, fun acc ρ h => p _ _ (h2 acc ρ h)⟩) n q
theorem cwF {c : Cn} {Fo Hs : Hp} {σ : L2.St} : ∀ (x : XV) (ρ : Env), (fun (_ : XV) (_ : Env) => False) x ρ → c.calmW.ex Fo Hs σ x ρ := fun _ _ h => h.elim
theorem lc_sound {σ : L2.St} {H : Hp} {Q : VK} (hA : ∀ q ∈ c.A, q.1 ∉ is) (hix : ∀ j ∈ tg.ix, j ∈ is) (ms : MonoW src) (mt : MonoT tt) (me : MonoE te) (q : gN c (nLc src tg tt te is) σ H Q) : tLc (gW c src) (gTg c.K tg) (gT c.calmW tt) (gE c.calmW te) is σ H Q := by
  obtain ⟨Fo, Hs, ρ, R, q⟩ := q
  refine ⟨Fo, Hs, ρ, R, ms _ _ _ _ _ (fun ds ρ1 q1 => ?_) (fun x ρ1 q1 => q1) q⟩
  intro J Hs1 H1 e1 R1 wd D hD
  obtain ⟨P, h0, h1, h2⟩ := q1
  obtain ⟨Y, w, wy⟩ := wd
  refine lc_it w (fun i H' => ∃ Hs' ρ' acc, Ex Hs1 Hs' ∧ RelN c.toCg c.A Fo Hs' H' σ ρ' (.ref D) (.lst (acc.map Sl.val)) ∧ P i acc ρ') ⟨Hs1, ρ1, [], Ex.refl _, R1.newN hD rfl (.lst upd_same .nil), h0⟩ (fun i H' _ ⟨Hs', ρ', acc, e', R', _⟩ => e'.trans R'.hs) ?_ ?_
  · rintro i x H' H'' hi ⟨Hs', ρ', acc, e', R', p⟩ y
    obtain ⟨vacc, hDl, dacc, hF, Rh⟩ := RelN.hide R' R.alt
    obtain ⟨d, hd, od⟩ := wy i H' x H'' hi (e'.trans R'.hs) y
    obtain ⟨Hs2, e2, R2, dn⟩ := (od.mono e').rel Rh
    obtain ⟨hv, q2⟩ := h1 i d acc ρ' hd p
    obtain ⟨ρ2, b2, q2⟩ := q2.out
    have hA' : ∀ q ∈ c.A, q.1 ∉ tg.ix := fun q hq z => hA q hq (hix _ z)
    refine Tg.sound (R2.wipe hA) dn b2 hA' fun σ2 R3 hs2 ls2 => ?_
    rw [L2.wipe_length] at ls2
    refine ⟨wipe_eq hs2 hix ls2, ?_⟩
    have hs2' : ∀ j, j ∉ is → σ2[j]? = σ[j]? := fun j hj => by
      rw [hs2 j (fun z => hj (hix j z)), wipe_get, if_neg hj]
    refine ⟨_, Hs2, ρ2, R3, mt _ _ _ _ _ (fun b ρ3 q3 => ?_) cwF q2⟩
    intro Hs3 H3 e3 R4
    have e23 := e2.trans e3
    cases b with
    | false =>
      rw [if_neg Bool.false_ne_true]
      have Rb := R2.back R4 e3 ls2 hs2' hv hA
      have hD3 : H3 D = some (.lst vacc) := R4.fo D _ upd_same
      have hu : upd H3 D (.lst vacc) = H3 := by
        funext z
        by_cases hz : z = D
        · rw [hz, upd_same, hD3]
        · rw [upd_ne hz]
      have Rn := Rel.unhide Rb hF (dacc.ex e23)
      rw [hu] at Rn
      exact ⟨Hs3, _, acc, e'.trans e23, Rn, q3.2 rfl⟩
    | true =>
      rw [if_pos rfl]
      refine ⟨_, Hs3, ρ3, R4, me _ _ _ _ _ (fun r ρ4 q4 => ?_) cwF (q3.1 rfl)⟩
      intro v Hs4 H4 e4 R5 a4
      obtain ⟨d', hd', q5⟩ := q4.out
      cases r with
      | b i => cases hd'
      | d _ =>
        cases hd'
        have hD4 : H4 D = some (.lst vacc) := R5.fo D _ upd_same
        have Rb := R2.back R5 (e3.trans e4) ls2 hs2' hv hA
        have dn4 : DnAll c.K Hs4 (vacc ++ [v]) (acc ++ [d']) := (dacc.ex (e23.trans e4)).append (.cons a4 .nil)
        refine ⟨vacc, hD4, by rw [dacc.length]; exact q5.1, Hs4, _, acc ++ [d'], e'.trans (e23.trans e4), Rel.unhide Rb hF dn4, q5.2⟩
  · rintro H' ⟨Hs', ρ', acc, e', R', p⟩
    exact h2 acc ρ' p (.ref D) Hs' H' (e1.trans e') R' rfl
/-- the tests of a comprehension -/
structure JTs (X : Cx) (c : Cn) (ifs : List Expr) (tt : TTD) : Prop where
  run : PTs X ifs (gT c tt)
  mono : MonoT tt
theorem jts_nil : JTs X c [] tTrue := ⟨⟨fun a1 a2 a3 a4 a5 a6 a7 => pts_nil.run a1 a2 a3 a4 a5 a6 (by
  obtain ⟨Fo, Hs, ρ, R, q⟩ := a7
  exact q Hs _ (Ex.refl _) R)⟩, fun ρ ok ok' ex ex' m n h => m _ _ h⟩
theorem jts_one (h : JT X c a tt) : JTs X c [a] tt := ⟨pts_one h.run, h.mono⟩
/-! ### slices -/
structure JO (X : Cx) (c : Cn) (e : Option Expr) (to : TOD) : Prop where
  run : PO X e (fun σ H Q => ∃ Fo Hs ρ, Rel c.toCg c.A Fo Hs H σ ρ ∧ to ρ (fun o ρ' => ∀ Hs' H', Ex Hs Hs' → Rel c.toCg c.A Fo Hs' H' σ ρ' → Q o H') (c.ex Fo Hs σ))
  mono : ∀ (ρ : Env) (ok ok' : Option Int → Env → Prop) (ex ex' : KX), (∀ r ρ', ok r ρ' → ok' r ρ') → (∀ x ρ', ex x ρ' → ex' x ρ') → to ρ ok ex → to ρ ok' ex'
theorem jo_none : JO X c none oNo := ⟨⟨fun a1 a2 a3 a4 a5 a6 a7 => po_none.run a1 a2 a3 a4 a5 a6 (by
  obtain ⟨Fo, Hs, ρ, R, q⟩ := a7
  exact q Hs _ (Ex.refl _) R)⟩, fun ρ ok ok' ex ex' m n h => m _ _ h⟩
theorem jo_some (h : JE X c a ta) : JO X c (some a) (oAt ta) := ⟨⟨fun a1 a2 a3 a4 a5 a6 a7 => (po_some h.run).run a1 a2 a3 a4 a5 a6 (by
  obtain ⟨Fo, Hs, ρ, R, q⟩ := a7
  refine ⟨Fo, Hs, ρ, R, h.mono _ _ _ _ _ (fun r ρ1 q1 => ?_) (fun x ρ1 q1 => q1) q⟩
  intro v Hs1 H1 e1 R1 b1
  obtain ⟨d, hd, q1⟩ := q1.out
  cases d <;> first | exact q1.elim | skip
  exact ⟨_, (R1.view b1 hd).int, q1 Hs1 H1 e1 R1⟩)⟩, fun ρ ok ok' ex ex' m n q => h.mono _ _ _ _ _ (fun r ρ1 q1 => q1.mono fun d q => by
    cases d <;> first | exact q.elim | exact m _ _ q) n q⟩
theorem monoNSl {tl th : TOD} (ma : MonoE ta) (ml : ∀ (ρ : Env) (ok ok' : Option Int → Env → Prop) (ex ex' : KX), (∀ r ρ', ok r ρ' → ok' r ρ') → (∀ x ρ', ex x ρ' → ex' x ρ') → tl ρ ok ex → tl ρ ok' ex') (mh : ∀ (ρ : Env) (ok ok' : Option Int → Env → Prop) (ex ex' : KX), (∀ r ρ', ok r ρ' → ok' r ρ') → (∀ x ρ', ex x ρ' → ex' x ρ') → th ρ ok ex → th ρ ok' ex') : MonoN (nSl ta tl th) := fun ρ ok ok' ex ex' p n q =>
  ma _ _ _ _ _ (fun r ρ1 q => ml _ _ _ _ _ (fun lo ρ2 q => mh _ _ _ _ _ (fun hi ρ3 q => q.mono fun d q => by cases d <;> first | exact q.elim | exact p _ _ q) n q) n q) n q
theorem jn_sl {lo hi : Option Expr} {tl th : TOD} {p2 : Pos} (ha : JE X c a ta) (hl : JO X c lo tl) (hh : JO X c hi th) : JN X c (.Subscript a (.Slice lo hi none p2) pos) (nSl ta tl th) := ⟨peI (pe_slice sl_list ha.run hl.run hh.run) fun σ H Q ⟨Fo, Hs, ρ, R, q⟩ => by
  refine ⟨Fo, Hs, ρ, R, ha.mono _ _ _ _ _ (fun r ρ1 q1 => ?_) (fun x ρ1 q1 => q1) q⟩
  intro v Hs1 H1 e1 R1 a1
  refine ⟨Fo, Hs1, ρ1, R1, hl.mono _ _ _ _ _ (fun lo ρ2 q2 => ?_) (fun x ρ2 q2 => Cn.ex.at q2 e1) q1⟩
  intro Hs2 H2 e2 R2
  refine ⟨Fo, Hs2, ρ2, R2, hh.mono _ _ _ _ _ (fun hi ρ3 q3 => ?_) (fun x ρ2 q2 => Cn.ex.at q2 (e1.trans e2)) q2⟩
  intro Hs3 H3 e3 R3
  obtain ⟨d, hd, q4⟩ := q3.out
  cases d <;> first | exact q4.elim | skip
  obtain ⟨p, vs, rfl, hp, dn⟩ := (R3.view ((a1.ex e2).ex e3) hd).list R3.hs
  exact ⟨p, vs, rfl, .inl (.inl hp), fun l hl => q4 (.ref l) Hs3 _ ((e1.trans e2).trans e3) (R3.newN hl rfl (.lst upd_same (OwnAll.of_vals (cut_of _ _ dn)))) rfl⟩, monoNSl ha.mono hl.mono hh.mono⟩
/-! ### list(range(n)) -/
theorem monoRg1 (ma : MonoE ta) : MonoN (nRg1 ta) := fun ρ ok ok' ex ex' p n q => ma _ _ _ _ _ (fun r ρ1 q => q.mono fun d q => by cases d <;> first | exact q.elim | exact ⟨q.1, p _ _ q.2⟩) n q
theorem rgV_dn {K : PySem.W.Frag} {H : Hp} {x y : Int} : DnAll K H (rgV x y) (rangeD x y) := by
  unfold rgV rangeD
  have go : ∀ l : List Nat, DnAll K H (l.map fun (i : Nat) => V.int (x + (i : Int))) (l.map fun (i : Nat) => PyData.int (x + (i : Int))) := by
    intro l
    induction l with
    | nil => exact .nil
    | cons i r ih => exact .cons (.int _) ih
  exact go _
theorem jn_rg1 {p p2 pos2 : Pos} (hc : X.calm = true) (hg : Gl X "list") (hm : X.mg "list" = none) (hg2 : Gl X "range") (hm2 : X.mg "range" = none) (ha : JE X c a ta) (na : starEach [a] X.env = (false, eval a X.env) :: starEach [] X.env := by rfl)
    (na2 : starEach [.Call (.Name "range" p2) [a] [] pos2] X.env = (false, eval (.Call (.Name "range" p2) [a] [] pos2) X.env) :: starEach [] X.env := by rfl) : JN X c (.Call (.Name "list" p) [.Call (.Name "range" p2) [a] [] pos2] [] pos) (nRg1 ta) := ⟨peI (pe_listRg hc hg hm (prg_1 hg2 hm2 ha.run na) na2) fun σ H Q ⟨Fo, Hs, ρ, R, q⟩ => by
  refine ⟨Fo, Hs, ρ, R, ha.mono _ _ _ _ _ (fun r ρ1 q1 => ?_) (fun x ρ1 q1 => q1) q⟩
  intro v Hs1 H1 e1 R1 a1
  obtain ⟨d, hd, q4⟩ := q1.out
  cases d <;> first | exact q4.elim | skip
  rename_i n
  obtain ⟨⟨b1, b2⟩, q4⟩ := q4
  exact ⟨n, (R1.view a1 hd).int, ⟨by omega, by omega, b1, by omega, by omega⟩, fun l hl => q4 (.ref l) Hs1 _ e1 (R1.newN hl rfl (.lst upd_same (OwnAll.of_vals rgV_dn))) rfl⟩, monoRg1 ha.mono⟩
/-! ### methods of a name's list -/
structure OpMOk (K : PySem.W.Frag) (r : V → List V → Hp → VK → Prop) (op : OpM) : Prop where
  run : ∀ (Hs H : Hp) (p : Addr) (vs : List V) (es : List PyData) (xs : List V) (ds : List PyData) (k : PyData → List PyData → Prop) (Q : VK), Ex Hs H → H p = some (.lst vs) → DnAll K Hs vs es → DnAll K Hs xs ds → op es ds k →
    (∀ d v es' vs', k d es' → Dn K Hs v d → DnAll K Hs vs' es' → Q v (upd H p (.lst vs'))) → r (.ref p) xs H Q
  mono : ∀ (es ds : List PyData) (k k' : PyData → List PyData → Prop), (∀ d e, k d e → k' d e) → op es ds k → op es ds k'
theorem lstOf_some {ρ : Env} {i : Nat} {es : List PyData} (h : lstOf ρ i = some es) : ρ[i]? = some (some (.lst (es.map Sl.val))) := by
  unfold lstOf at h
  split at h
  · rename_i xs hx
    rw [hx, vals_some h]
  · cases h
theorem monoM {i : Nat} {op : OpM} (mo : ∀ (es ds : List PyData) (k k' : PyData → List PyData → Prop), (∀ d e, k d e → k' d e) → op es ds k → op es ds k') (ma : MonoA tA) : MonoE (eM i op tA) := fun ρ ok ok' ex ex' p n q =>
  q.mono fun _ q => ma _ _ _ _ _ (fun rs ρ1 q => q.mono fun ds q => q.mono fun es q => mo _ _ _ _ (fun d e h => p _ _ h) q) n q
theorem Rel.lst {g : Cg} {A : List (Nat × V)} {Fo Hs H : Hp} {σ : L2.St} {ρ : Env} {i : Nat} {es : List PyData} (R : Rel g A Fo Hs H σ ρ) (h : lstOf ρ i = some es) : ∃ p vs, σ[i]? = some (some (.ref p)) ∧ H p = some (.lst vs) ∧ DnAll g.K Hs vs es := by
  obtain ⟨v, fp, hv, ho⟩ := R.get (lstOf_some h)
  cases ho with
  | lst h r => exact ⟨_, _, hv, h, r.vals.2⟩
theorem Rel.lstSet {g : Cg} {A : List (Nat × V)} {Fo Hs H : Hp} {σ : L2.St} {ρ : Env} {i : Nat} {es es' : List PyData} {p : Addr} {vs' : List V} (R : Rel g A Fo Hs H σ ρ) (h : lstOf ρ i = some es) (hv : σ[i]? = some (some (.ref p))) (dn : DnAll g.K Hs vs' es') :
    Rel g A Fo Hs (upd H p (.lst vs')) σ (ρ.set i (some (.lst (es'.map Sl.val)))) := by
  obtain ⟨p', vs, hv', hp, d0⟩ := R.lst h
  rw [hv] at hv'; cases hv'
  refine R.write (lstOf_some h) hv rfl rfl (fun fp ho nd => ?_) hp rfl (fun q z => by unfold LamX.CodeO at z; cases z)
  cases ho with
  | lst h r =>
    obtain ⟨rfl, _⟩ := r.vals
    exact ⟨[p], .lst upd_same (OwnAll.of_vals dn), by simp, fun q hq => hq⟩
theorem je_M {i : Nat} {op : OpM} {r : V → List V → Hp → VK → Prop} (h : OpMOk c.K r op) (ha : JA X c es tA) (hp : PA X es (gA c tA) → PE X e (tBM c.K "list" r (tVar i) (gA c tA))) : JE X c e (eM i op tA) := ⟨peI (hp ha.run) fun σ H Q ⟨Fo, Hs, ρ, R, q⟩ => by
  obtain ⟨es0, h0, q⟩ := q.out
  obtain ⟨p, vs, hv, hp, dn⟩ := R.lst h0
  refine ⟨.ref p, hv, .inl ⟨rfl, vs, .inl (.inl hp)⟩, Fo, Hs, ρ, R, ha.mono _ _ _ _ _ (fun rs ρ1 q1 => ?_) (fun x ρ1 q1 => q1) q⟩
  intro xs Hs1 H1 e1 R1 a1
  obtain ⟨ds, hd, q1⟩ := q1.out
  obtain ⟨es1, h1, q1⟩ := q1.out
  obtain ⟨p1, vs1, hv1, hp1, dn1⟩ := R1.lst h1
  rw [hv] at hv1; cases hv1
  refine h.run Hs1 H1 p vs1 es1 xs ds _ Q R1.hs hp1 dn1 (a1.dats hd) q1 fun d v es' vs' k hd' dn' => ?_
  exact k v Hs1 _ e1 (R1.lstSet h1 hv dn') hd', monoM h.mono ha.mono⟩
/-- .. without arguments -/
theorem je_M0 {i : Nat} {op : OpM} {r : V → List V → Hp → VK → Prop} (h : OpMOk c.K r op) (hp : PE X e (tBM0 c.K "list" r (tVar i))) : JE X c e (eM i op aN) := ⟨peI hp fun σ H Q ⟨Fo, Hs, ρ, R, q⟩ => by
  obtain ⟨es0, h0, q⟩ := q.out
  obtain ⟨p, vs, hv, hp, dn⟩ := R.lst h0
  refine ⟨.ref p, hv, .inl ⟨rfl, vs, .inl (.inl hp)⟩, ?_⟩
  have q1 : wO (dats []) (fun ds => wO (lstOf ρ i) fun es => op es ds fun d es' => c.ok Fo Hs σ Q (.d d) (ρ.set i (some (.lst (es'.map Sl.val))))) := q
  obtain ⟨ds, hd, q1⟩ := q1.out
  cases hd
  obtain ⟨es1, h1, q1⟩ := wO.out q1
  rw [h0] at h1; cases h1
  refine h.run Hs H p vs es0 [] [] _ Q R.hs hp dn .nil q1 fun d v es' vs' k hd' dn' => ?_
  exact k v Hs _ (Ex.refl _) (R.lstSet h0 hv dn') hd', monoM h.mono monoA0⟩
theorem ok_append {K : PySem.W.Frag} : OpMOk K rAppend mAppend where
  run := fun Hs H p vs es xs ds k Q e hp dn dx ho q => by
    unfold mAppend at ho
    split at ho
    · cases dx with
      | cons h r =>
        cases r
        exact ⟨p, vs, _, rfl, rfl, hp, by rw [dn.length]; exact ho.1, q _ _ _ _ ho.2 .non (dn.append (.cons h .nil))⟩
    · exact ho.elim
  mono := fun es ds k k' m h => by
    unfold mAppend at h ⊢
    split at h
    · exact ⟨h.1, m _ _ h.2⟩
    · exact h.elim
/-! ### isinstance -/
theorem je_isi {T : String} (hT : ∀ n ∈ ["NoneType", "bool", "int", "str", "list", "tuple", "dict"], kitB n T = some (n == T || (T == "int" && n == "bool"))) (ha : JE X c a ta) (hp : PE X a (gE c ta) → PE X e (tCB (rIsi c.K) (tCons (gE c ta) (tCons (tC (.ty T)) tNil)))) : JE X c e (e1 (oIsi T) ta) := by
  have mo : ∀ (d1 : PyData) (k k' : PyData → Prop), (∀ d, k d → k' d) → oIsi T d1 k → oIsi T d1 k' := fun d k k' m h => ⟨h.1, m _ h.2⟩
  refine ⟨peI (hp ha.run) fun σ H Q q => ?_, mono1 mo ha.mono⟩
  obtain ⟨Fo, Hs, ρ, R, q⟩ := q
  refine ⟨Fo, Hs, ρ, R, ha.mono _ _ _ _ _ (fun r ρ1 q1 => ?_) (fun x ρ1 q1 => q1) q⟩
  intro v Hs1 H1 e1 R1 a1
  obtain ⟨d1, hd1, q2⟩ := q1.out
  have dn := (R1.view a1 hd1).dn R1.hs
  have ty : ∃ n, n ∈ ["NoneType", "bool", "int", "str", "list", "tuple", "dict"] ∧ n = kindD d1 ∧ TyX c.K H1 v (.type n) := by
    cases dn with
    | non => exact ⟨"NoneType", by simp, rfl, .base .non⟩
    | bl b => exact ⟨"bool", by simp, rfl, .base (.bl b)⟩
    | int i => exact ⟨"int", by simp, rfl, .base (.int i)⟩
    | str x => exact ⟨"str", by simp, rfl, .base (.str x)⟩
    | lst h r => exact ⟨"list", by simp, rfl, .base (.lst h)⟩
    | tup h r => exact ⟨"tuple", by simp, rfl, .base (.tup h)⟩
    | dK h r =>
      rcases h with h | ⟨o, h⟩
      · exact ⟨"dict", by simp, rfl, .base (.dK h)⟩
      · exact ⟨"dict", by simp, rfl, .fDict h⟩
    | dT h r => exact ⟨"dict", by simp, rfl, .base (.dT h)⟩
    | scr h =>
      have := q2.1
      simp [scrD, scrOf] at this
  obtain ⟨n, hn, rfl, ty⟩ := ty
  exact ⟨v, .ty T, _, _, _, rfl, .ty T, ty, kit_ty (hT _ hn), q2.2 (.bl _) Hs1 H1 e1 R1 (.bl _)⟩
end
end Dl

/-! Dk: sorted(ints, key=lambda number: (int, int)), the lambda told by two pure int expressions. -/
namespace Dl
open PySem PySem.Spec PyProof.Rows L2
/-- an int; the heap is only read -/
def PurI (prog : Program) (w : World) (A : Around) (env : PySem.Env) (e : Expr) (h : Heap) (z : Int) : Prop :=
  ∀ (s : Shared) (Q : Value → Shared → Prop) (E : Value → Shared → Prop), s.heap = h → (∀ tk t, Q (.int z t) { s with toks := tk }) → wpAny (model prog w) A (eval e env) Q E s
section
variable {prog : Program} {w : World} {A : Around} {env : PySem.Env} {h : Heap} {z : Int} {x y : Str} {p pos : Pos} {e e1 e2 : Expr}
theorem pur_loc {m : Str → Option Value} {t : Tok} (kind : env.scope.kind = .function) (hk : env.kindOf x = some .local) (hn : h.Ns env.locals m) (hm : m x = some (.int z t)) (hd : (x == ("__debug__" : Str)) = false) : PurI prog w A env (.Name x p) h z := fun s Q E hs q => by
  subst hs
  exact wpAny_Name (wpAny_loadName_local kind hk hn hm (q s.toks t)) hd
theorem pur_ix {c l : Addr} {vs : List Value} {ms : List Int} {i : Int} (kind : env.scope.kind = .function) (hk : env.kindOf y = some .free) (hc : env.cells.lookup y = some c) (hv : h.IsCell c (some (.ref l))) (hl : h.IsList l vs.toArray) (hr : Vals (ms.map V.int) vs) (hz : ms.length ≤ sizeLine)
    (h0 : 0 ≤ i) (hm : ms[i.toNat]? = some z) (he : PurI prog w A env e h i) (hp : PlainIx e) (hd : (y == ("__debug__" : Str)) = false) (hcd : (y == ("__classdict__" : Str)) = false) : PurI prog w A env (.Subscript (.Name y p) e pos) h z := fun s Q E hs q => by
  subst hs
  refine Subscript_ (wpAny_Name (wpAny_loadName_free kind hk hc hv ?_ hcd) hd)
  refine he s _ _ rfl fun tk t => ?_
  have hv : (ms.map V.int)[i.toNat]? = some (V.int z) := by rw [List.getElem?_map, hm]; rfl
  obtain ⟨u, hu, ru⟩ := hr.get hv
  obtain ⟨t2, rfl⟩ := ru
  have hlt := (List.getElem?_eq_some_iff.mp hm).1
  have hn := line63
  exact item_listR hl h0 (by omega) (by simpa using hu) (q tk t2) (hp _ _)
end
/-- a call of the lambda: the tuple of its two ints, the heap kept -/
theorem lam_turn {prog : Program} {w : World} {A : Around} {s : Shared} {f c' : Addr} {q x : Str} {params : Arguments} {e1 e2 : Expr} {b : Nat} {bp : Pos} {scope : Scope} {cl : List (Str × Addr)} {pm ctv : Value} {z z1 z2 : Int} {t : Tok}
    (hroom : A.depth < recursionLimit) (hf : s.heap.get? f = some (PySem.W.kla_obj "<lambda>" q params (.Tuple [e1, e2] b bp) scope cl pm c' ctv)) (hcd : s.heap.CodeRec (.ref c') q) (lim : s.heap.NoLimit)
    (kind : scope.kind = .function) (co : scope.isCoroutine = false) (gen : scope.isGenerator = false) (ncell : ∀ y ∈ scope.names, y.2 ≠ .cell) (hx : scope.names.lookup x = some .local)
    (hbind : ∀ (u : Value) (pm cv ctv : Value), bindArgs (PySem.W.kla_fn "<lambda>" q params (.Tuple [e1, e2] b bp) scope cl pm cv ctv) ⟨[u], []⟩ = pure [(x, u)])
    (he : ∀ (env : PySem.Env) (A' : Around) (h : Heap) (m : Str → Option Value), env.scope = scope → env.cells = cl → h.Ns env.locals m → m x = some (.int z t) → (∀ b o, s.heap.get? b = some o → h.get? b = some o) → PurI prog w A' env e1 h z1 ∧ PurI prog w A' env e2 h z2)
    (n1 : ∀ env : PySem.Env, starEach [e1, e2] env = [(false, eval e1 env), (false, eval e2 env)]) :
    wpAny (model prog w) A (call (.ref f) [.int z t]) (PySem.W.KeyPure (.tuple [.int z1, .int z2]) s) (fun _ _ => False) s := by
  refine wpAny_call ?_
  refine PySem.W.kla_callFunE hroom hf rfl co gen rfl hcd ?_
  rw [hbind]
  refine wpAny_pure (wpAny_newFunctionEnv (fun y hy => ncell y hy) (fun y hy => ?_) (fun h₁ hns hsb => ⟨lim.fresh _ hsb, ?_⟩) kind)
  · simp at hy; rw [hy]; exact hx
  have kp : ∀ b o, s.heap.get? b = some o → h₁.get? b = some o := fun b o e => hsb.extBut b o (Nat.ne_of_lt (Heap.lt_size e)) (Heap.get?_push_of_some _ e)
  show codeAny _ _ (.expr (.Tuple [e1, e2] b bp) (PySem.W.envX q scope s.heap.objs.size f (.ref c') cl)) _ _
  refine PySem.W.kla_codeExpr (wpAny_Tuple_spliced ?_)
  obtain ⟨p1, p2⟩ := he (PySem.W.envX q scope s.heap.objs.size f (.ref c') cl) (A.deeper (PySem.W.envX q scope s.heap.objs.size f (.ref c') cl)) h₁ _ rfl rfl hns (by simp [List.lookup]) kp
  rw [n1]
  show wpAny _ _ (spliced [(false, eval e1 _), (false, eval e2 _)]) _ _ _
  refine Calls.spliced_cons (p1 _ _ _ rfl fun tk1 t1 => ?_)
  refine Calls.spliced_cons (p2 _ _ _ rfl fun tk2 t2 => ?_)
  refine Calls.spliced_nil ⟨by have := line63; simp; exact Nat.le_of_lt (by decide), ?_⟩
  refine ⟨_, _, rfl, fun b o e => Heap.get?_push_of_some _ (kp b o e), ?_⟩
  exact .tuple (Heap.get?_push_size _ rfl) rfl rfl (.cons (.int _ _) (.cons (.int _ _) .nil))
/-! ### sorted(ns, key=lambda x: (e1, e2)) -/
def leK (k : Int → Int × Int) (p q : Int) : Bool := decide ((k p).1 < (k q).1 ∨ ((k p).1 = (k q).1 ∧ (k p).2 ≤ (k q).2))
def tSortK (T : List (Addr × Str)) (K : PySem.W.Frag) (C : L2.St → Hp → (Int → Int × Int) → List Int → Prop) (ta : TE) : TE := fun σ H Q => ta σ H fun v H1 => ∃ (a : Addr) (ns : List Int) (k : Int → Int × Int), v = .ref a ∧ SqL K H1 a (ns.map V.int) ∧ LamX.Tabs T H1 ∧ C σ H1 k ns ∧
  ∀ (H2 : Hp) (p : Addr), LamX.ExtN H1 H2 → LamX.Tabs T H2 → H2 p = none → Q (.ref p) (upd H2 p (.lst ((ns.mergeSort (leK k)).map V.int)))
theorem each_int {vs : List Value} : ∀ {ns : List Int}, Vals (ns.map V.int) vs → PySem.W.EachIs (fun v z => ∃ t, v = Value.int z t) vs ns
  | [], h => by cases h; exact .nil
  | n :: ns, h => by
    cases h with
    | cons a b => exact .cons a (each_int b)
theorem int_each {vs : List Value} {ns : List Int} (h : PySem.W.EachIs (fun v z => ∃ t, v = Value.int z t) vs ns) : Vals (ns.map V.int) vs := by
  induction h with
  | nil => exact .nil
  | cons a _ ih => exact .cons a ih
theorem pe_sortK {X : Cx} {T : List (Addr × Str)} {C : L2.St → Hp → (Int → Int × Int) → List Int → Prop} {c P : Addr} {a e1 e2 : Expr} {ta : TE} {x : Str} {params : Arguments} {b : Nat} {scope : Scope} {p pos kp lp bp : Pos} {fr : List Str} {js : List Nat}
    (hg : Gl X "sorted") (hm : X.mg "sorted" = none) (hr : Room 1 X.A) (TB : LamX.TabB X.base X.mg c P) (hcode : X.env.code = .ref c) (hT : (P, X.env.qual ++ "<lambda>") ∈ T) (hu : ∀ p ∈ T, p.1 = P → p.2 = X.env.qual ++ "<lambda>")
    (hfree : ∀ y ∈ scope.names, y.2 = .free → X.env.scope.names.lookup y.1 = some .cell ∨ X.env.scope.names.lookup y.1 = some .free) (hfr : ∀ y ∈ fr, (y, NameKind.free) ∈ scope.names) (hjs : js.map (fun j => X.N[j]?) = fr.map some)
    (hdef : defaultsOf params X.env = ([], [])) (kind : scope.kind = .function) (co : scope.isCoroutine = false) (gen : scope.isGenerator = false) (ncell : ∀ y ∈ scope.names, y.2 ≠ .cell) (hx : scope.names.lookup x = some .local)
    (hbind : ∀ (q : Str) (cl : List (Str × Addr)) (u : Value) (pm cv ctv : Value), bindArgs (PySem.W.kla_fn "<lambda>" q params (.Tuple [e1, e2] b bp) scope cl pm cv ctv) ⟨[u], []⟩ = pure [(x, u)])
    (hC : ∀ (pins : List (Addr × Obj)) (s : Shared) (σ : L2.St) (H : Hp) (k : Int → Int × Int) (ns : List Int) (cl : List (Str × Addr)), Inv X pins σ H s → NdefX.CellsAt cl fr (js.map (NdefX.slotAt σ)) s.heap H → C σ H k ns → ∀ z ∈ ns, ∀ (env : PySem.Env) (A' : Around) (h : Heap) (m : Str → Option Value) (t : Tok), env.scope = scope → env.cells = cl → h.Ns env.locals m → m x = some (.int z t) → (∀ b o, s.heap.get? b = some o → h.get? b = some o) → PurI X.prog X.w A' env e1 h (k z).1 ∧ PurI X.prog X.w A' env e2 h (k z).2)
    (hCe : ∀ σ H H' k ns, LamX.ExtN H H' → C σ H k ns → C σ H' k ns) (ha : PE X a ta)
    (n1 : ∀ env : PySem.Env, starEach [e1, e2] env = [(false, eval e1 env), (false, eval e2 env)])
    (na : starEach [a] X.env = (false, eval a X.env) :: starEach [] X.env := by rfl) :
    PE X (.Call (.Name "sorted" p) [a] [⟨some "key", .Lambda params (.Tuple [e1, e2] b bp) scope lp, kp⟩] pos) (tSortK T X.K C ta) := by
  refine ⟨fun pins s σ H Q I h => ?_⟩
  refine wpAny_Call_Name_kw (ld_blt I hg hm boot_sorted ?_ (by decide) (by decide))
  refine PyProof.Rows.callWith_kw (args_cons (thn (ha.run pins s σ H _ I h) fun u s1 ⟨v, H1, I1, r1, q1⟩ => args_nil ?_) na) (by rw [na]; rfl) (by rw [na]; rfl) rfl rfl
  obtain ⟨l, ns, k, rfl, hs, hTb, hc, q⟩ := q1
  obtain rfl : u = Value.ref l := r1
  show wpAny _ _ (evalAll [(do let v ← eval (.Lambda params (.Tuple [e1, e2] b bp) scope lp) X.env; standAt pos; pure v)]) _ _ s1
  refine PyProof.Rows.evalAll_cons (wpAny_bind ?_)
  have hf2 : ∀ y ∈ scope.names, y.2 = .free → ∃ c, X.env.cells.lookup y.1 = some c := fun y hy e => (hfree y hy e).elim (fun z => I1.ok.has _ (.inl z)) fun z => I1.ok.has _ (.inr z)
  refine LamX.lam_make2 I1 TB hcode hT hu hTb hdef hf2 fun f c' pm ctv H2 s2 I2 eN T2 hfo hfn hfrs hco => ?_
  refine wpAny_bind (wpAny_standAt (wpAny_pure (PyProof.Rows.evalAll_nil ?_)))
  show wpAny _ _ (call (.builtin "sorted") [.ref l] [(Str.ofString "key", .ref f)]) _ _ s2
  have hs2 : SqL X.K H2 l (ns.map V.int) := by
    rcases hs with z | z
    · rcases z with z | ⟨o, z⟩
      · exact .inl (.inl (eN _ _ z fun ps e => by cases e))
      · exact .inl (.inr ⟨o, eN _ _ z fun ps e => by cases e⟩)
    · exact .inr z
  obtain ⟨its, rv, hl, hz⟩ := I2.list hs2
  have hz' : ns.length ≤ sizeLine := by simpa using hz
  have CA := NdefX.cells_of I2 (NdefX.Caps.made I2.ok hfree hfr hjs)
  have hcs : s2.heap.CodeRec (.ref c') (X.env.qual ++ "<lambda>") := NdefX.codeO_at I2.hok hco
  have room := hr.dp
  have units := hr.un
  refine PySem.W.sorted_key_data (b := false) (R := fun v z => ∃ t, v = Value.int z t) (bs := ns) (fun z : Int => .tuple [.int (k z).1, .int (k z).2]) hl.isList (each_int rv) (PySem.W.AllAlike.of fun _ _ => by simp [PySem.W.alike, PySem.W.alikeAll]) (PySem.W.Sortable.tuples fun _ => ⟨_, _, rfl⟩) hz' (fun z _ => ?_) (PyProof.Rows.ksk_s1 _ _) (fun _ => PyProof.Rows.ksk_l1 _ _) (fun _ => PyProof.Rows.ksk_t1 _ _)
    (fun v z ⟨t, ev⟩ hm h tk kp => ?_) fun out c h' tk kp _ hD hlen eo => ?_
  · have hd : (PyData.tuple [.int (k z).1, .int (k z).2]).depth = 1 := by simp [PyData.depth, PyData.depthAll]
    rw [hd]
    omega
  · subst ev
    refine lam_turn (w := X.w) (x := x) (by show X.A.depth < _; omega) (kp _ _ hfo) (hcs.keeps kp) (I2.nolimit.keeps kp) kind co gen ncell hx (fun u pm cv ctv => hbind _ _ u pm cv ctv) (fun env A' h2 m e1 e2 e3 e4 e5 => ?_) n1
    exact hC pins s2 σ H2 k ns _ I2 CA (hCe _ _ _ _ _ eN hc) z hm env A' h2 m t e1 e2 e3 e4 fun b o e => e5 b o (kp b o e)
  · have e2 : ns.mergeSort (PySem.W.dataLe false fun z : Int => .tuple [.int (k z).1, .int (k z).2]) = ns.mergeSort (leK k) := by
      rw [PySem.W.dataLe_ii (fun z : Int => (k z).1) (fun z => (k z).2)]
      rfl
    rw [e2] at eo
    have rv2 := int_each eo
    refine ⟨.ref (s2.heap.objs.size + 1), upd H2 (s2.heap.objs.size + 1) (.lst ((ns.mergeSort (leK k)).map V.int)), I2.laid (t' := tk) kp (Nat.le_succ _) ⟨?_, out, c, rv2, hD⟩, rfl, q _ _ eN T2 (I2.hok.fresh (Nat.le_succ _))⟩
    rw [List.length_map, (List.mergeSort_perm _ _).length_eq]
    exact hz'
/-! ### the same, told of data -/
theorem Rel.extN {g : Cg} {A : List (Nat × V)} {Fo Hs H H1 : Hp} {σ : L2.St} {ρ : Env} (R : Rel g A Fo Hs H σ ρ) (e : LamX.ExtN H H1) (t : LamX.Tabs g.T H1) : Rel g A Fo Hs H1 σ ρ := by
  have nt : ∀ {o : HO}, isTbl o = false → ∀ ps, o ≠ .tbl ps := fun {o} h ps z => by rw [z] at h; cases h
  obtain ⟨fps, h1, h2, h3, h4⟩ := R.env
  refine ⟨R.len, ⟨fps, fun i s hi => ?_, h2, h3, fun i p hp => ?_⟩, fun b o h => e b o (R.hs b o h) (nt (R.nt b o h)), fun b o h => e b o (R.fo b o h) (nt (R.ft b o h)), R.dj, R.nt, R.ft, t, R.anch⟩
  · obtain ⟨v, hv, ho⟩ := h1 i s hi
    refine ⟨v, hv, ho.frame (Ex.refl _) fun p hp => ?_⟩
    obtain ⟨_, _, o, ho2, hn⟩ := h4 i p hp
    rw [ho2]
    exact e p o ho2 (nt hn)
  · obtain ⟨a, b, o, ho2, hn⟩ := h4 i p hp
    exact ⟨a, b, o, e p o ho2 (nt hn), hn⟩
abbrev Cap := Env → List Int → Option (Int → Int × Int)
def nSortK (cap : Cap) (ta : TED) : TND := fun ρ ok ex => ta ρ (fun r ρ1 => wO (view ρ1 r) fun d => wO (match d with | .list ds => intsOf ds | _ => none) fun ns => wO (cap ρ1 ns) fun k => ok (.lst (((ns.mergeSort (leK k)).map PyData.int).map Sl.val)) ρ1) ex
/-- number: (the list that the i-th name holds [number], number) -/
def capIx (i : Nat) : Cap := fun ρ ns => match (lstOf ρ i).bind intsOf with
  | some ms => if ns.all (fun z => decide (0 ≤ z) && decide (z < ms.length)) then some (fun z => (ms.getD z.toNat 0, z)) else none
  | none => none
theorem dn_ints {K : PySem.W.Frag} {H : Hp} : ∀ {vs : List V} {ns : List Int}, DnAll K H vs (ns.map PyData.int) → vs = ns.map V.int
  | [], [], _ => rfl
  | v :: vs, n :: ns, h => by
    cases h with
    | cons a b =>
      rw [dn_ints b]
      cases a
      rfl
theorem ints_dn {K : PySem.W.Frag} {H : Hp} : ∀ {ns : List Int}, DnAll K H (ns.map V.int) (ns.map PyData.int)
  | [] => .nil
  | n :: ns => .cons (.int n) ints_dn
def CIx (i : Nat) : L2.St → Hp → (Int → Int × Int) → List Int → Prop := fun σ H k ns => ∃ (l : Addr) (ms : List Int), σ[i]? = some (some (.ref l)) ∧ H l = some (.lst (ms.map V.int)) ∧ (∀ z ∈ ns, 0 ≤ z ∧ ms[z.toNat]? = some (k z).1 ∧ (k z).2 = z)
theorem monoSortK {cap : Cap} {ta : TED} (ma : MonoE ta) : MonoN (nSortK cap ta) := fun ρ ok ok' ex ex' p n q => ma _ _ _ _ _ (fun r ρ1 q => q.mono fun d q => q.mono fun ns q => q.mono fun k q => p _ _ q) n q
theorem capIx_some {i : Nat} {ρ : Env} {ns : List Int} {k : Int → Int × Int} (h : capIx i ρ ns = some k) : ∃ ms : List Int, lstOf ρ i = some (ms.map PyData.int) ∧ ∀ z ∈ ns, 0 ≤ z ∧ ms[z.toNat]? = some (k z).1 ∧ (k z).2 = z := by
  unfold capIx at h
  cases e : (lstOf ρ i).bind intsOf with
  | none => rw [e] at h; cases h
  | some ms =>
    rw [e] at h
    dsimp only at h
    split at h
    · rename_i ha
      cases h
      obtain ⟨ds, h1, h2⟩ := Option.bind_eq_some_iff.mp e
      rw [intsOf_some h2] at h1
      refine ⟨ms, h1, fun z hz => ?_⟩
      have := List.all_eq_true.mp ha z hz
      simp at this
      obtain ⟨a, b⟩ := this
      refine ⟨a, ?_, rfl⟩
      have hlt : z.toNat < ms.length := by omega
      simp [hlt]
    · cases h
theorem jn_sortIx {X : Cx} {c : Cn} {cc P : Addr} {a : Expr} {ta : TED} {x y : Str} {params : Arguments} {b i : Nat} {scope : Scope} {p pos kp lp bp p1 p2 p3 p4 : Pos}
    (hg : Gl X "sorted") (hm : X.mg "sorted" = none) (hr : Room 1 X.A) (TB : LamX.TabB X.base X.mg cc P) (hcode : X.env.code = .ref cc) (hK : X.K = c.K) (hT : (P, X.env.qual ++ "<lambda>") ∈ c.T) (hu : ∀ p ∈ c.T, p.1 = P → p.2 = X.env.qual ++ "<lambda>")
    (hfree : ∀ y ∈ scope.names, y.2 = .free → X.env.scope.names.lookup y.1 = some .cell ∨ X.env.scope.names.lookup y.1 = some .free) (hfr : (y, NameKind.free) ∈ scope.names) (hfl : scope.names.lookup y = some .free) (hjs : X.N[i]? = some y)
    (hdef : defaultsOf params X.env = ([], [])) (kind : scope.kind = .function) (co : scope.isCoroutine = false) (gen : scope.isGenerator = false) (ncell : ∀ y ∈ scope.names, y.2 ≠ .cell) (hx : scope.names.lookup x = some .local)
    (hbind : ∀ (q : Str) (cl : List (Str × Addr)) (u : Value) (pm cv ctv : Value), bindArgs (PySem.W.kla_fn "<lambda>" q params (.Tuple [.Subscript (.Name y p1) (.Name x p2) p3, .Name x p4] b bp) scope cl pm cv ctv) ⟨[u], []⟩ = pure [(x, u)])
    (hdx : (x == ("__debug__" : Str)) = false) (hdy : (y == ("__debug__" : Str)) = false) (hcy : (y == ("__classdict__" : Str)) = false) (hpi : PlainIx (.Name x p2)) (ha : JE X c a ta)
    (na : starEach [a] X.env = (false, eval a X.env) :: starEach [] X.env := by rfl) :
    JN X c (.Call (.Name "sorted" p) [a] [⟨some "key", .Lambda params (.Tuple [.Subscript (.Name y p1) (.Name x p2) p3, .Name x p4] b bp) scope lp, kp⟩] pos) (nSortK (capIx i) ta) := by
  refine ⟨peI (pe_sortK (T := c.T) (C := CIx i) (fr := [y]) (js := [i]) hg hm hr TB hcode hT hu hfree (fun z hz => by simp at hz; rw [hz]; exact hfr) (by simp [hjs]) hdef kind co gen ncell hx hbind ?_ ?_ ha.run (fun env => rfl) na) fun σ H Q ⟨Fo, Hs, ρ, R, q⟩ => ?_, monoSortK ha.mono⟩
  · intro pins s σ H k ns cl I CA ⟨l, ms, hs, hl, hz⟩ z hm env A' h m t e1 e2 hn hmx kp
    obtain ⟨cA, hcl, hv⟩ := CA.has 0 y rfl
    obtain ⟨u, ru, hcell⟩ := hv (.ref l) (by simp [NdefX.slotAt_of hs])
    cases ru
    obtain ⟨o, ho, hd⟩ := hcell
    obtain ⟨hlen, its, n, rv, hob⟩ := I.hok l _ hl
    obtain ⟨z0, z1, z2⟩ := hz z hm
    have hl2 : h.IsList l its.toArray := ⟨_, kp _ _ hob, rfl, n, rfl⟩
    have pl : ∀ p : Pos, PurI X.prog X.w A' env (.Name x p) h z := fun p => pur_loc (by rw [e1]; exact kind) (by unfold Env.kindOf; rw [e1]; exact hx) hn hmx hdx
    refine ⟨pur_ix (by rw [e1]; exact kind) (by unfold Env.kindOf; rw [e1]; exact hfl) (by rw [e2]; exact hcl) ⟨o, kp _ _ ho, hd⟩ hl2 rv (by simpa using hlen) z0 z1 (pl p2) hpi hdy hcy, ?_⟩
    rw [z2]
    exact pl p4
  · rintro σ H H' k ns e ⟨l, ms, hs, hl, hz⟩
    exact ⟨l, ms, hs, e _ _ hl (fun ps z => by cases z), hz⟩
  · refine ⟨Fo, Hs, ρ, R, ha.mono _ _ _ _ _ (fun r ρ1 q1 => ?_) (fun x ρ1 q1 => q1) q⟩
    intro v Hs1 H1 e1 R1 a1
    obtain ⟨d, hd, q1⟩ := q1.out
    obtain ⟨ns, hns, q2⟩ := q1.out
    obtain ⟨k, hk, q3⟩ := q2.out
    clear q1 q2
    obtain ⟨ds, rfl, hns⟩ : ∃ ds, d = .list ds ∧ intsOf ds = some ns := by cases d <;> first | exact ⟨_, rfl, hns⟩ | cases hns
    rw [intsOf_some hns] at hd
    obtain ⟨p, vs, rfl, hp, dn⟩ := (R1.view a1 hd).list R1.hs
    rw [dn_ints dn] at hp
    obtain ⟨ms, h1, h2⟩ := capIx_some hk
    obtain ⟨l, vs2, hv, hl, dn2⟩ := R1.lst h1
    rw [dn_ints dn2] at hl
    refine ⟨p, ns, k, rfl, by rw [hK]; exact .inl (.inl hp), R1.tabs, ⟨l, ms, hv, hl, h2⟩, fun H2 p2 eN T2 f2 => ?_⟩
    have R2 := R1.extN eN T2
    refine q3 _ Hs1 _ e1 (R2.newN f2 rfl (.lst upd_same ?_)) rfl
    exact OwnAll.of_vals ints_dn
end Dl

/-! Dt: try .. except C as e. -/
namespace Dl
open PySem PySem.Spec PyProof.Rows L2
def Cn.withW (c : Cn) (W : WX) : Cn := { c with W := W }
def Cn.inS (c : Cn) (i : Nat) (a : Addr) : Cn := { c with A := (i, .ref a) :: c.A, W := fun _ _ _ _ => False }
section
variable {X : Cx} {c : Cn} {x n : Str} {cv : Value} {i : Nat} {body suite : List Stmt} {b₀ : Stmt} {np pos pos' : Pos} {tb : TSD} {ts : XV → TSD} {cn sub : String → Bool}
theorem set_none_set (ρ : List α) (i : Nat) (a b : α) : (ρ.set i a).set i b = ρ.set i b := by simp
theorem js_try (hs : X.stack = X.env :: X.outer) (hf : X.env.frame = some X.env.locals) (hN : X.N.Nodup) (hi : X.N[i]? = some n) (hln : X.env.kindOf n = some .local) (hc : Names X x cv) (tk : Takes X c.W) (hA : ∀ q ∈ c.A, q.1 ≠ i)
    (hcn : ∀ (n : String) (C : Addr), c.cls n = some C → PySem.W.exmOne X.K (.ref C) cv = some (cn n))
    (hb : ∀ (W : WX) (pn : List (Addr × Obj)) (xe : Value → Shared → Prop), Takes (X.tr pn xe) W → PassesOwn (model X.prog X.w) X.A X.env xe → JB (X.tr pn xe) (c.withW W) body tb)
    (hsu : ∀ (a : Addr) (oe : Obj) (xv : XV) (C : Addr) (d : Option Addr) (pn : List (Addr × Obj)), c.cls xv.cls = some C → (xv.fs = [] → d = none) → cn xv.cls = true → Zc (.ref C) d oe → (∃ vs, oe.data = .fields vs) → JB (X.suite a ((a, oe) :: pn)) (c.inS i a) (b₀ :: suite) (ts xv)) (hcl : ∀ n, cn n = true → ∃ C, c.cls n = some C) (hpo : PassesOwn (model X.prog X.w) X.A X.env X.xe) :
    JS X c (.Try body [.ExceptHandler (some (.Name x np)) (some n) (b₀ :: suite) pos'] [] [] pos) (sTry cn i tb ts) := by
  have mtb : MonoS tb := (hb (fun _ _ _ _ => False) X.pn X.xe takes0 hpo).mono
  have mts : ∀ xv, cn xv.cls = true → MonoS (ts xv) := fun xv e => by
    obtain ⟨C, hC⟩ := hcl _ e
    exact (hsu 0 { cls := .ref C, data := .fields #[] } xv C none [] hC (fun _ => rfl) e ⟨rfl, rfl⟩ ⟨_, rfl⟩).mono
  refine ⟨psI (ps_try_as (tb := fun W => gS (c.withW W) tb) (ts := fun a cls d => fun D σ H => ∃ xv C, cls = .ref C ∧ c.cls xv.cls = some C ∧ (xv.fs = [] → d = none) ∧ cn xv.cls = true ∧ gS (c.inS i a) (ts xv) D σ H) (Wout := c.W)
    hs hf hN hi hln hc tk (fun W pn xe t p => (hb W pn xe t p).run) fun a oe cls d pn hz hv => ⟨fun pins s σ H D I ⟨xv, C, e, h1, h2, h3, h4⟩ => ?_⟩) fun D σ H ⟨Fo, Hs, ρ, R, q⟩ => ?_, ?_⟩
  · subst e
    exact (hsu a oe xv C d pn h1 h2 h3 hz hv).run.run pins s σ H D I h4
  · refine ⟨Fo, Hs, ρ, R, mtb ρ { c.ends Fo Hs D with ex := fun x ρ1 => wB (cn x.cls) (i < ρ1.length ∧ ts x (outD i (c.ends Fo Hs D)) (ρ1.set i none)) ((c.ends Fo Hs D).ex x ρ1) } _ ⟨fun ρ h => h, fun r ρ h => h, fun ρ h => h, fun ρ h => h, fun xv ρ1 h => ?_⟩ q⟩
    intro σ1 C d Hs1 H1 e1 R1 a1
    refine ⟨cn xv.cls, hcn _ _ a1.1, fun hb' a ha => ?_, fun hb' => h.2 hb' σ1 C d Hs1 H1 e1 R1 a1⟩
    obtain ⟨hl, h⟩ := h.1 hb'
    have R2 : Rel (c.inS i a).toCg (c.inS i a).A Fo Hs1 H1 (σ1.set i (some (.ref a))) (ρ1.set i none) := by
      have := R1.setN (some (.ref a)) hA
      refine ⟨this.len, this.env, this.hs, this.fo, this.dj, this.nt, this.ft, this.tabs, fun q hq => ?_⟩
      rcases List.mem_cons.mp hq with rfl | hq
      · have hl2 : i < σ1.length := by rw [← R1.len]; exact hl
        exact List.getElem?_set_self hl2
      · exact this.anch q hq
    have back : ∀ {Hs2 H2 σ2 ρ2}, Rel (c.inS i a).toCg (c.inS i a).A Fo Hs2 H2 σ2 ρ2 → Rel c.toCg c.A Fo Hs2 H2 (σ2.set i none) (ρ2.set i none) := fun r => (r.anchSub (A' := c.A) fun q hq => List.mem_cons_of_mem _ hq).setN none hA
    refine ⟨xv, C, rfl, a1.1, fun hx => ?_, hb', Fo, Hs1, _, R2, mts xv hb' _ (outD i (c.ends Fo Hs D)) _ ⟨fun ρ2 h2 => ?_, fun r ρ2 h2 => ?_, fun ρ2 h2 => ?_, fun ρ2 h2 => ?_, fun x2 ρ2 h2 => h2.elim⟩ h⟩
    · cases d with
      | none => rfl
      | some d => exact absurd hx a1.2.1
    · intro σ2 Hs2 H2 e2 r2
      exact h2 _ Hs2 H2 (e1.trans e2) (back r2)
    · intro v σ2 Hs2 H2 e2 r2
      exact h2 v σ2 Hs2 H2 (e1.trans e2) (by
        cases r with
        | d d => exact ⟨Rel.anchSub r2.1 fun q hq => List.mem_cons_of_mem _ hq, r2.2⟩
        | new s => exact Rel.anchSub (show RelN _ _ _ _ _ _ _ _ _ from r2) fun q hq => List.mem_cons_of_mem _ hq)
    · intro σ2 Hs2 H2 e2 r2
      exact h2 _ Hs2 H2 (e1.trans e2) (back r2)
    · intro σ2 Hs2 H2 e2 r2
      exact h2 _ Hs2 H2 (e1.trans e2) (back r2)
  · intro ρ D D' l h
    refine mtb ρ { D with ex := fun x ρ1 => wB (cn x.cls) (i < ρ1.length ∧ ts x (outD i D) (ρ1.set i none)) (D.ex x ρ1) } _ ⟨l.nx, l.rt, l.bk, l.ct, fun xv ρ1 h => ?_⟩ h
    refine ⟨fun e => ⟨(h.1 e).1, mts xv e _ (outD i D) _ ⟨fun ρ => l.nx _, l.rt, fun ρ => l.bk _, fun ρ => l.ct _, fun _ _ h => h⟩ (h.1 e).2⟩, fun e => l.ex _ _ (h.2 e)⟩
theorem je_isE {e : Expr} {a C : Addr} {oe : Obj} {pn : List (Addr × Obj)} {tv : V} {xv : XV} {d : Option Addr} (hz : Zc (.ref C) d oe) (hx : xv.fs = [] → d = none) (hC : c.cls xv.cls = some C) (E : ExcC X.K C) (hf : ∃ vs, oe.data = .fields vs) (hcv : ∀ u, RelV tv u → u = cv) (hsub : PySem.W.kitOne X.K (.ref C) cv = some (sub xv.cls))
    (hp : d = none → CallR (X.suite a ((a, oe) :: pn)) (.builtin "isinstance") (rIsE X.K C a) → PE (X.suite a ((a, oe) :: pn)) e (tCB (rIsE X.K C a) (tCons (tVar i) (tCons (tC tv) tNil)))) : JE (X.suite a ((a, oe) :: pn)) (c.inS i a) e (eIsE sub xv) := by
  refine ⟨⟨fun pins s σ H Q I ⟨Fo, Hs, ρ, R, q⟩ => ?_⟩, fun ρ ok ok' ex ex' p n q => ⟨q.1, p _ _ q.2⟩⟩
  have hd := hx q.1
  subst hd
  refine (hp rfl (call_isE E hz hf)).run pins s σ H Q I ?_
  exact ⟨.ref a, R.anch _ List.mem_cons_self, tv, cv, _, rfl, hcv, hsub, q.2 (.bl _) Hs H (Ex.refl _) R (.bl _)⟩
end
end Dl

/-! Du: xs[i] = e; len(set(t)); written dicts. -/
namespace Dl
open PySem PySem.Spec PyProof.Rows L2
/-- xs[k] = e, xs the i-th name's own list -/
def sPut (i : Nat) (ti te : TED) : TSD := fun D ρ => te ρ (fun r ρ1 => match r with
  | .d d => wO (lstOf ρ1 i) fun _ => ti ρ1 (fun r2 ρ2 => wO (view ρ2 r2) fun d2 => match d2 with
    | .int k => wO (lstOf ρ2 i) fun es => wO (ixD es.length k) fun j => D.nx (ρ2.set i (some (.lst ((es.set j d).map Sl.val))))
    | _ => False) D.ex
  | _ => False) D.ex
section
variable {X : Cx} {c : Cn} {e a b : Expr} {te ti ta tb : TED} {i : Nat} {pos : Pos} {st : Stmt}
theorem DnAll.set {K : PySem.W.Frag} {H : Hp} {v : V} {d : PyData} (h : Dn K H v d) : ∀ {vs : List V} {ds : List PyData} {j : Nat}, DnAll K H vs ds → DnAll K H (vs.set j v) (ds.set j d)
  | [], [], _, .nil => .nil
  | _ :: _, _ :: _, 0, .cons _ r => .cons h r
  | _ :: _, _ :: _, j + 1, .cons a r => .cons a (DnAll.set h r)
theorem monoPut (me : MonoE te) (mi : MonoE ti) : MonoS (sPut i ti te) := fun ρ D D' l h => me _ _ _ _ _ (fun r ρ1 h => by
  cases r with
  | b j => exact h
  | d d => exact h.mono fun _ h => mi _ _ _ _ _ (fun r2 ρ2 h => h.mono fun d2 h => by
      cases d2 <;> first | exact h.elim | skip
      exact h.mono fun es h => h.mono fun j h => l.nx _ h) l.ex h) l.ex h
theorem js_put (he : JE X c e te) (hi : JE X c a ti) (hp : PE X e (gE c te) → PE X a (gE c ti) → PS X st (tAsg (gE c te) (gSub (tVar i) (gE c ti) rSetL))) : JS X c st (sPut i ti te) := ⟨psI (hp he.run hi.run) fun D σ H ⟨Fo, Hs, ρ, R, q⟩ =>
  at_ends he.mono R q fun r ρ1 v Hs1 H1 k e1 R1 a1 => by
    cases r with
    | b j => exact k.elim
    | d d =>
      have a1 : Dn c.K Hs1 v d := a1
      obtain ⟨es0, h0, k⟩ := wO.out k
      obtain ⟨p, vs0, hv, hp0, _⟩ := R1.lst h0
      refine ⟨.ref p, hv, ?_⟩
      refine ⟨Fo, Hs1, ρ1, R1, hi.mono _ _ _ _ _ (fun r2 ρ2 q2 => ?_) (fun x ρ2 q2 => (show _ from Cn.ends.ex_at (D := D) q2 e1)) k⟩
      intro v2 Hs2 H2 e2 R2 a2
      obtain ⟨d2, hd2, q3⟩ := q2.out
      cases d2 <;> first | exact q3.elim | skip
      rename_i z
      obtain ⟨es, h1, q4⟩ := q3.out
      obtain ⟨j, hj, q5⟩ := q4.out
      obtain ⟨p1, vs, hv1, hp1, dn1⟩ := R2.lst h1
      rw [hv] at hv1; cases hv1
      refine ⟨p, vs, z, j, rfl, (R2.view a2 hd2).int, hp1, by rw [ixN_D, dn1.length]; exact hj, ?_⟩
      exact q5 σ Hs2 _ (e1.trans e2) (R2.lstSet h1 hv (DnAll.set (a1.ex e2) dn1)), monoPut he.mono hi.mono⟩
/-! ### len(set(t)), t a tuple of ints -/
def tLenSetT (K : PySem.W.Frag) (ta : TE) : TE := fun σ H Q => ta σ H fun x H1 => ∃ (l : Addr) (ns : List Int), x = .ref l ∧ SqT K H1 l (ns.map V.int) ∧ ns.length ≤ 4000 ∧ ∀ n : Nat, (∃ ms : List Int, ms.Nodup ∧ (∀ z, z ∈ ms ↔ z ∈ ns) ∧ n = ms.length) → Q (.int n) H1
theorem ints_of : ∀ {ns : List Int} {us : List Value}, Vals (ns.map V.int) us → PyProof.Rows.IntsAre us ns
  | [], _, .nil => .nil
  | n :: ns, _, .cons r t => by
    obtain ⟨k, rfl⟩ := r
    exact .cons n k (ints_of t)
theorem pe_lenSetT {p p2 q pos : Pos} {ta : TE} (hc : X.calm = true) (hg : Gl X "len") (hm : X.mg "len" = none) (hg2 : Gl X "set") (hm2 : X.mg "set" = none) (ha : PE X a ta)
    (na : starEach [a] X.env = (false, eval a X.env) :: starEach [] X.env := by rfl) : PE X (.Call (.Name "len" p) [.Call (.Name "set" p2) [a] [] q] [] pos) (tLenSetT X.K ta) := by
  refine ⟨fun pins s σ H Q I h => ?_⟩
  refine Call_ (ld_blt I hg hm PySem.boot_len ?_)
  refine PyProof.Rows.callWith_builtin1 (PyProof.Rows.args_cons ?_ rfl) rfl rfl
  refine Call_ (ld_blt I hg2 hm2 PyProof.Rows.boot_set ?_)
  refine PyProof.Rows.callWith_type1 (PyProof.Rows.args_cons (thn (ha.run pins s σ H _ I h) fun v s1 ⟨x, H1, I1, r1, q1⟩ => PyProof.Rows.args_nil ?_) na) na rfl
  obtain ⟨l, ns, rfl, hq, hl, q1⟩ := q1
  cases r1
  obtain ⟨its, r, pl, hz⟩ := I1.tuple hq
  refine call_set_tupI ns (I1.ok.hd hc) (show s1.heap.IsTuple l its.toArray from pl) (by simpa using ints_of r) (by unfold scanBound; omega) fun h' tk c R hcn hk => ?_
  refine PyProof.Rows.args_nil ?_
  obtain ⟨o, es, ep, t, ho, hex, hd, hg, hnd, hmm, hb, hf, hn, _, _⟩ := R
  have I2 : Inv X pins σ H1 { s1 with heap := h', toks := tk } := I1.kept fun b o e => hk b o e
  have hlt : (es.size : Int) < 2 ^ 63 := by have := hb; unfold scanBound at this; omega
  refine call_len_set ho hex hd hf hlt ⟨.int es.size, H1, I2.tok _, ⟨_, rfl⟩, q1 es.size ⟨es.toList.map keyOf, hnd, fun z => ?_, by simp⟩⟩
  rw [← hmm z]
  simp
theorem je_lenSet {p p2 q pos : Pos} (hK : X.K = c.K) (hc : X.calm = true) (hg : Gl X "len") (hm : X.mg "len" = none) (hg2 : Gl X "set") (hm2 : X.mg "set" = none) (ha : JE X c a ta)
    (na : starEach [a] X.env = (false, eval a X.env) :: starEach [] X.env := by rfl) : JE X c (.Call (.Name "len" p) [.Call (.Name "set" p2) [a] [] q] [] pos) (e1 oLenSet ta) :=
  ⟨peI (pe_lenSetT hc hg hm hg2 hm2 ha.run na) fun σ H Q ⟨Fo, Hs, ρ, R, q⟩ => by
    refine ⟨Fo, Hs, ρ, R, ha.mono _ _ _ _ _ (fun r ρ1 q1 => ?_) (fun x ρ1 q1 => q1) q⟩
    intro v Hs1 H1 e1 R1 a1
    obtain ⟨d, hd, q2⟩ := q1.out
    cases d <;> first | exact q2.elim | skip
    obtain ⟨ns, hns, q3⟩ := wO.out q2
    rw [intsOf_some hns] at hd
    have dn := (R1.view a1 hd).dn R1.hs
    cases dn with
    | tup h r =>
      rw [dn_ints r] at h
      rw [hK]
      exact ⟨_, ns, rfl, .inl (.inl h), q3.1, fun n hn => q3.2 n hn _ Hs1 H1 e1 R1 (.int n)⟩, mono1 (fun d1 k k' m h => by
    cases d1 <;> first | exact h.elim | skip
    exact h.mono fun ns h => ⟨h.1, fun n hn => m _ (h.2 n hn)⟩) ha.mono⟩
/-! ### {..}: constants -/
def cPairs (kvs : List (Key × V)) : List (TE × TE) := kvs.map fun kv => (tC (kV kv.1), tC kv.2)
theorem cPairs_run (σ : L2.St) (H : Hp) : ∀ (kvs : List (Key × V)) (Q : List (V × V) → Hp → Prop), Q (kvs.map fun kv => (kV kv.1, kv.2)) H → tPairs (cPairs kvs) σ H Q
  | [], Q, q => q
  | kv :: r, Q, q => by
    show tC (kV kv.1) σ H fun x H1 => tC kv.2 σ H1 fun y H2 => tPairs (cPairs r) σ H2 fun ps H3 => Q ((x, y) :: ps) H3
    exact cPairs_run σ H r _ q
theorem je_dispC {kvs : List (Key × V)} {ds : List (PyData × PyData)} (hd : ∀ H, DnKV c.K H (mergeK [] kvs) ds) (h15 : kvs.length ≤ 15) (hp : PE X e (tDisp (cPairs kvs))) : JE X c e (eC (.dict ds)) := ⟨peI hp fun σ H Q ⟨Fo, Hs, ρ, R, q⟩ => by
  intro p hp
  refine cPairs_run _ _ _ _ ⟨upd_same, kvs, rfl, h15, ?_⟩
  have e : upd (upd H p (.dK [])) p (.dK (mergeK [] kvs)) = upd H p (.dK (mergeK [] kvs)) := by
    funext z
    by_cases hz : z = p
    · rw [hz, upd_same, upd_same]
    · rw [upd_ne hz, upd_ne hz, upd_ne hz]
  rw [e]
  have h0 : Hs p = none := R.hs.free hp
  exact q _ (upd Hs p (.dK (mergeK [] kvs))) _ (Ex.new h0) (R.newS hp rfl) (.dK (.inl upd_same) (hd _)), fun ρ ok ok' ex ex' m n h => m _ _ h⟩
end
end Dl

/-! Dx: the rules in short, for printed derivations. -/
namespace Dl
open PySem PySem.Spec PyProof.Rows L2
theorem anch_ne {own : List Nat} {vs : List V} {i : Nat} (h : own.contains i = false) : ∀ q ∈ anchOf own vs, q.1 ≠ i := fun q hq z => by
  have := (anchOf_mem hq).2
  rw [z] at this
  simp at h
  exact h this
theorem anch_nin {own : List Nat} {vs : List V} {is : List Nat} (h : is.all (fun i => !own.contains i) = true) : ∀ q ∈ anchOf own vs, q.1 ∉ is := fun q hq z => by
  have h1 := (anchOf_mem hq).2
  have := List.all_eq_true.mp h _ z
  simp at this
  exact this h1
section
variable {X : Cx} {c : Cn} {e a b : Expr} {es : List Expr} {ta tb te : TED} {tn : TND} {tA : TAD} {tt : TTD} {pos p : Pos} {x : Str} {id T : String} {i : Nat}
theorem je_bin {op : Operator} {r : R2} {o : Op2} (h : Op2Ok X.K r o) (ho : OpR X (binaryOp op) r) (ha : JE X c a ta) (hb : JE X c b tb) (hK : X.K = c.K := by rfl) : JE X c (.BinOp a op b pos) (e2 o ta tb) :=
  je_2 (Eq.mp (congrArg (fun K => Op2Ok K r o) hK) h) (fun p q => pe_op ho p q) ha hb
theorem je_cmp {op : CmpOp} {r : R2} {o : Op2} (h : Op2Ok X.K r o) (ho : OpR X (compareOp op) r) (ha : JE X c a ta) (hb : JE X c b tb) (hm : behindInMarks op b = false := by first | exact nomark _ | rfl | with_unfolding_all rfl) (hK : X.K = c.K := by rfl) : JE X c (.Compare a [op] [b] pos) (e2 o ta tb) :=
  je_2 (Eq.mp (congrArg (fun K => Op2Ok K r o) hK) h) (fun p q => pe_cmpR ho p q hm) ha hb
theorem jt_cm {op : CmpOp} {r : R2} {o : Op2} (h : Op2Ok X.K r o) (ho : OpR X (compareOp op) r) (ha : JE X c a ta) (hb : JE X c b tb) (hm : behindInMarks op b = false := by first | exact nomark _ | rfl | with_unfolding_all rfl) (hK : X.K = c.K := by rfl) : JT X c (.Compare a [op] [b] pos) (tV (e2 o ta tb)) :=
  jt_cmp (Eq.mp (congrArg (fun K => Op2Ok K r o) hK) h) ho ha hb hm
theorem je_chn {op op' : CmpOp} {r r' : R2} {o o' : Op2} {d : Expr} {td : TED} (h : Op2Ok X.K r o) (ho : OpR X (compareOp op) r) (h' : Op2Ok X.K r' o') (ho' : OpR X (compareOp op') r') (ha : JE X c a ta) (hb : JE X c b tb) (hd : JE X c d td) (hm : lastMarks [op, op'] [b, d] = false := by rfl) (hK : X.K = c.K := by rfl) :
    JE X c (.Compare a [op, op'] [b, d] pos) (eCh o o' ta tb td) := je_ch (Eq.mp (congrArg (fun K => Op2Ok K r o) hK) h) (Eq.mp (congrArg (fun K => Op2Ok K r' o') hK) h') ho ho' ha hb hd hm
theorem jt_chn {op op' : CmpOp} {r r' : R2} {o o' : Op2} {d : Expr} {td : TED} (h : Op2Ok X.K r o) (ho : OpR X (compareOp op) r) (h' : Op2Ok X.K r' o') (ho' : OpR X (compareOp op') r') (ha : JE X c a ta) (hb : JE X c b tb) (hd : JE X c d td) (hm : lastMarks [op, op'] [b, d] = false := by rfl) (hK : X.K = c.K := by rfl) :
    JT X c (.Compare a [op, op'] [b, d] pos) (tV (eCh o o' ta tb td)) := jt_ch (Eq.mp (congrArg (fun K => Op2Ok K r o) hK) h) (Eq.mp (congrArg (fun K => Op2Ok K r' o') hK) h') ho ho' ha hb hd hm
theorem je_un {op : UnaryOp} {r : V → Hp → VK → Prop} {o : Op1} (h : Op1Ok X.K r o) (ho : UnR X (unaryOp op) r) (ha : JE X c a ta) (hK : X.K = c.K := by rfl) : JE X c (.UnaryOp op a pos) (e1 o ta) :=
  je_1 (Eq.mp (congrArg (fun K => Op1Ok K r o) hK) h) (fun p => pe_un ho p) ha
theorem je_sub {r : R2} {o : Op2} (h : Op2Ok X.K r o) (ho : IxR X r) (ha : JE X c a ta) (hb : JE X c b tb) (hs : PlainIx b := by intro _ _; rfl) (hK : X.K = c.K := by rfl) : JE X c (.Subscript a b pos) (e2 o ta tb) :=
  je_2 (Eq.mp (congrArg (fun K => Op2Ok K r o) hK) h) (fun p q => pe_ix ho p q hs) ha hb
theorem je_and2 {rest : List Expr} (ha : JE X c a ta) (hb : JE X c (.BoolOp .And (b :: rest) pos) tb) : JE X c (.BoolOp .And (a :: b :: rest) pos) (eAnd ta tb) := je_and (fun p q => pe_and p q) ha hb
theorem je_or2 {rest : List Expr} (ha : JE X c a ta) (hb : JE X c (.BoolOp .Or (b :: rest) pos) tb) : JE X c (.BoolOp .Or (a :: b :: rest) pos) (eOr ta tb) := je_or (fun p q => pe_or p q) ha hb
theorem je_cB {r : List V → Hp → VK → Prop} {o : OpN} (h : OpNOk X.K r o) (hc : CallR X (.builtin id) r) (hg : Gl X x) (hm : X.mg x = none) (hv : bootBuiltins x = some (.builtin id)) (ha : JA X c (e :: es) tA) (hn : x ≠ "__name__" := by decide) (hdb : (x == ("__debug__" : Str)) = false := by decide)
    (he : starEach (e :: es) X.env = (false, eval e X.env) :: starEach es X.env := by rfl) (hpl : (backTo pos (starEach es X.env)).any (·.1) = false := by rfl) (hK : X.K = c.K := by rfl) : JE X c (.Call (.Name x p) (e :: es) [] pos) (eF o tA) :=
  je_F (Eq.mp (congrArg (fun K => OpNOk K r o) hK) h) (fun q => pe_callB hc hg hm hv q hn hdb he hpl) ha
theorem je_cT {r : List V → Hp → VK → Prop} {o : OpN} (h : OpNOk X.K r o) (hc : CallR X (.type T) r) (hg : Gl X x) (hm : X.mg x = none) (hv : bootBuiltins x = some (.type T)) (ha : JA X c (e :: es) tA) (hn : x ≠ "__name__" := by decide) (hdb : (x == ("__debug__" : Str)) = false := by decide)
    (he : starEach (e :: es) X.env = (false, eval e X.env) :: starEach es X.env := by rfl) (hpl : (backTo pos (starEach es X.env)).any (·.1) = false := by rfl) (hK : X.K = c.K := by rfl) : JE X c (.Call (.Name x p) (e :: es) [] pos) (eF o tA) :=
  je_F (Eq.mp (congrArg (fun K => OpNOk K r o) hK) h) (fun q => pe_callTy hc hg hm hv q hn hdb he hpl) ha
theorem jn_cB {r : List V → Hp → VK → Prop} {o : OpL} (h : OpLOk X.K r o) (hc : CallR X (.builtin id) r) (hg : Gl X x) (hm : X.mg x = none) (hv : bootBuiltins x = some (.builtin id)) (ha : JA X c (e :: es) tA) (hn : x ≠ "__name__" := by decide) (hdb : (x == ("__debug__" : Str)) = false := by decide)
    (he : starEach (e :: es) X.env = (false, eval e X.env) :: starEach es X.env := by rfl) (hpl : (backTo pos (starEach es X.env)).any (·.1) = false := by rfl) (hK : X.K = c.K := by rfl) : JN X c (.Call (.Name x p) (e :: es) [] pos) (nF o tA) :=
  jn_F (Eq.mp (congrArg (fun K => OpLOk K r o) hK) h) (fun q => pe_callB hc hg hm hv q hn hdb he hpl) ha
theorem jn_cT {r : List V → Hp → VK → Prop} {o : OpL} (h : OpLOk X.K r o) (hc : CallR X (.type T) r) (hg : Gl X x) (hm : X.mg x = none) (hv : bootBuiltins x = some (.type T)) (ha : JA X c (e :: es) tA) (hn : x ≠ "__name__" := by decide) (hdb : (x == ("__debug__" : Str)) = false := by decide)
    (he : starEach (e :: es) X.env = (false, eval e X.env) :: starEach es X.env := by rfl) (hpl : (backTo pos (starEach es X.env)).any (·.1) = false := by rfl) (hK : X.K = c.K := by rfl) : JN X c (.Call (.Name x p) (e :: es) [] pos) (nF o tA) :=
  jn_F (Eq.mp (congrArg (fun K => OpLOk K r o) hK) h) (fun q => pe_callTy hc hg hm hv q hn hdb he hpl) ha
/-- a name's thing; i: its slot -/
theorem jv (i : Nat) {x : Str} {pos : Pos} (hN : X.N[i]? = some x := by rfl) (hv : Vis X.env.scope x := by first | exact Or.inl rfl | exact Or.inr (Or.inl rfl) | exact Or.inr (Or.inr rfl)) (hd : (x == ("__debug__" : Str)) = false := by decide)
    (hcd : (x == ("__classdict__" : Str)) = false := by decide) : JE X c (.Name x pos) (eV i) := je_v (pe_var hN hv hd hcd)
theorem jisi (T : String) {p q2 : Pos} {y : Str} (hT : ∀ n ∈ ["NoneType", "bool", "int", "str", "list", "tuple", "dict"], kitB n T = some (n == T || (T == "int" && n == "bool"))) (hg : Gl X "isinstance") (hm : X.mg "isinstance" = none) (hg2 : Gl X y) (hm2 : X.mg y = none) (hv2 : bootBuiltins y = some (.type T)) (ha : JE X c a ta)
    (hn2 : y ≠ "__name__" := by decide) (hdb2 : (y == ("__debug__" : Str)) = false := by decide) (he : starEach [a, .Name y q2] X.env = (false, eval a X.env) :: starEach [.Name y q2] X.env := by rfl) (hpl : (backTo pos (starEach [.Name y q2] X.env)).any (·.1) = false := by rfl) (hK : X.K = c.K := by rfl) :
    JE X c (.Call (.Name "isinstance" p) [a, .Name y q2] [] pos) (e1 (oIsi T) ta) :=
  je_isi hT ha fun q => Eq.mp (congrArg (fun K => PE X (.Call (.Name "isinstance" p) [a, .Name y q2] [] pos) (tCB (rIsi K) (tCons (gE c ta) (tCons (tC (.ty T)) tNil)))) hK) (pe_callB call_isi hg hm boot_isinstance (pa_cons q (pa_cons (pe_bltn hg2 hm2 hv2 rfl hn2 hdb2) pa_nil) he) (by decide) (by decide) he hpl)
theorem japp (i : Nat) {x : Str} {apos cpos px : Pos} (ha : JA X c (e :: es) tA) (hN : X.N[i]? = some x := by rfl) (hv : Vis X.env.scope x := by first | exact Or.inl rfl | exact Or.inr (Or.inl rfl) | exact Or.inr (Or.inr rfl)) (hd : (x == ("__debug__" : Str)) = false := by decide) (hcd : (x == ("__classdict__" : Str)) = false := by decide)
    (hbase : attributeBase (.Name x px) "append" X.env (eval (.Name x px) X.env) = eval (.Name x px) X.env := by rfl)
    (hfew : ((backTo cpos (starEach (e :: es) X.env)).all (fun x => !x.1) && (backToKw cpos (keywordEach [] X.env)).all (fun x => x.1.isSome)
      && decide ((e :: es).length + ([] : List Keyword).length + (if ([] : List Keyword).isEmpty then 0 else 1) < 30)) = true := by rfl)
    (hline : (apos.endLine == cpos.line) = true := by rfl) (hs : starEach (e :: es) X.env = (false, eval e X.env) :: starEach es X.env := by rfl) (hplain : (backTo cpos (starEach es X.env)).any (·.1) = false := by rfl) (hK : X.K = c.K := by rfl) :
    JE X c (.Call (.Attribute (.Name x px) "append" apos) (e :: es) [] cpos) (eM i mAppend tA) :=
  je_M ok_append ha fun q => Eq.mp (congrArg (fun K => PE X (.Call (.Attribute (.Name x px) "append" apos) (e :: es) [] cpos) (tBM K "list" rAppend (tVar i) (gA c tA))) hK) (pe_bm PySem.F.plainAttrs_list PySem.F.slot_list_append PySem.F.type_list_append mt_append (pe_var hN hv hd hcd) q hbase hfew hline hs hplain)
/-- arguments, their number told -/
structure JAn (X : Cx) (c : Cn) (es : List Expr) (tA : TAD) (n : Nat) : Prop where
  ja : JA X c es tA
  nu : NumA tA n
theorem jan_nil : JAn X c [] aN 0 := ⟨ja_nil, num0⟩
theorem jan_cons {tr : TAD} {n : Nat} (ha : JE X c a ta) (hr : JAn X c es tr n) (hs : starEach (a :: es) X.env = (false, eval a X.env) :: starEach es X.env := by rfl) : JAn X c (a :: es) (aC ta tr) (n + 1) := ⟨ja_cons ha hr.ja hs, num1 ha.mono hr.ja.mono hr.nu⟩
theorem je_tupn {x1 n : Nat} (h : JAn X c es tA n) (hz : n ≤ sizeLine) : JE X c (.Tuple es x1 pos) (eTup tA) := je_tup h.ja n h.nu hz
theorem jn_lstn {n : Nat} (h : JAn X c es tA n) (hz : n ≤ sizeLine) : JN X c (.List es pos) (nLst tA) := jn_lst h.ja n h.nu hz
/-! ### statements -/
theorem jdrop (ha : JE X c e te) (hs : swapsWith e none pos.line X.env = pure false := by rfl) : JS X c (.Expr e pos) (sDrop te) := js_drop ha fun q => ps_expr q hs
theorem jset (i : Nat) {x : Str} {px : Pos} (he : JE X c e te) (hA : ∀ q ∈ c.A, q.1 ≠ i) (hN : X.N.Nodup) (hi : X.N[i]? = some x := by rfl) (hx : Loc X.env.scope x := by first | exact Or.inl rfl | exact Or.inr rfl) (hs : swapsWith e (some (.Name x px)) pos.line X.env = pure false := by rfl) (hf : X.fn x = true ∨ X.env.scope.names.lookup x = some .local := by first | exact .inl rfl | exact .inr rfl | assumption) :
    JS X c (.Assign [.Name x px] e pos) (sSet (.n i) te) := js_set he.mono (fun q hq z => hA q hq (by simpa [Tg.ix] using z)) (fun _ _ _ h => h) (ps_set hN hi hx he.run hs hf)
theorem jown (i : Nat) {x : Str} {px : Pos} (he : JN X c e tn) (hA : ∀ q ∈ c.A, q.1 ≠ i) (hN : X.N.Nodup) (hi : X.N[i]? = some x := by rfl) (hx : Loc X.env.scope x := by first | exact Or.inl rfl | exact Or.inr rfl) (hs : swapsWith e (some (.Name x px)) pos.line X.env = pure false := by rfl) (hf : X.fn x = true ∨ X.env.scope.names.lookup x = some .local := by first | exact .inl rfl | exact .inr rfl | assumption) :
    JS X c (.Assign [.Name x px] e pos) (sOwn i tn) := js_own he.mono hA (fun _ _ _ h => h) (ps_set hN hi hx he.run hs hf)
theorem jset2 (i j : Nat) {x y : Str} {px py tp : Pos} {k : Nat} (he : JE X c e te) (hA : ∀ q ∈ c.A, q.1 ∉ [i, j]) (h2 : PG X (.Tuple [.Name x px, .Name y py] k tp) (gTup X.K 2 (gCons (gName i) (gCons (gName j) gNil))))
    (hs : swapsWithSole [.Tuple [.Name x px, .Name y py] k tp] e pos.line X.env = pure false := by rfl) (hw : swappedStores [.Tuple [.Name x px, .Name y py] k tp] e X.env = pure none := by rfl)
    (h1 : (assignEach [.Tuple [.Name x px, .Name y py] k tp] X.env).map (·.2) = [assign (.Tuple [.Name x px, .Name y py] k tp) X.env] := by rfl) (hK : X.K = c.K := by rfl) :
    JS X c (.Assign [.Tuple [.Name x px, .Name y py] k tp] e pos) (sSet (.t [i, j]) te) := js_set he.mono hA (fun _ _ _ h => h) (Eq.mp (congrArg (fun K => PS X (.Assign [.Tuple [.Name x px, .Name y py] k tp] e pos) (tAsg (gE c te) (gTup K 2 (gCons (gName i) (gCons (gName j) gNil))))) hK) (ps_asg he.run h2 hs hw h1))
def blkB (N : List Str) (sc scope : Scope) (own : List (Str × Nat)) : Bool :=
  decide (scope.kind = .function) && scope.names.all (fun y => decide (scope.names.lookup y.1 = some y.2)) && own.all (fun p => decide (N[p.2]? = some p.1)) && scope.names.all (fun y => !decide (y.2 = .free) || decide (sc.names.lookup y.1 = some .cell) || decide (sc.names.lookup y.1 = some .free)) &&
    scope.names.all (fun y => !(decide (y.2 = .local) || decide (y.2 = .cell)) || decide (y.1 ∈ own.map (·.1)) || decide (y.1 ∉ N))
theorem blk_by {N : List Str} {sc scope : Scope} {own : List (Str × Nat)} (h : blkB N sc scope own = true) : BlkOk N sc scope own := by
  unfold blkB at h
  simp only [Bool.and_eq_true, decide_eq_true_eq, List.all_eq_true, Bool.or_eq_true, Bool.not_eq_true', decide_eq_false_iff_not, Bool.or_eq_false_iff] at h
  obtain ⟨⟨⟨⟨h1, h2⟩, h3⟩, h4⟩, h5⟩ := h
  refine ⟨h1, h2, h3, fun y hy e => ?_, fun y hy e => ?_⟩
  · rcases h4 y hy with (z | z) | z
    · exact absurd e z
    · exact .inl z
    · exact .inr z
  · rcases h5 y hy with (z | z) | z
    · rcases e with e | e
      · exact absurd e z.1
      · exact absurd e z.2
    · exact .inl z
    · exact .inr z
def lamB (sc scope : Scope) (x y : Str) : Bool :=
  scope.names.all (fun y => !decide (y.2 = .free) || decide (sc.names.lookup y.1 = some .cell) || decide (sc.names.lookup y.1 = some .free)) && decide ((y, NameKind.free) ∈ scope.names) && decide (scope.names.lookup y = some .free) && decide (scope.kind = .function) && !scope.isCoroutine && !scope.isGenerator &&
    scope.names.all (fun y => !decide (y.2 = .cell)) && decide (scope.names.lookup x = some .local) && !(x == ("__debug__" : Str)) && !(y == ("__debug__" : Str)) && !(y == ("__classdict__" : Str))
theorem jn_sortIxB (i : Nat) {cc P : Addr} {a : Expr} {ta : TED} {x y : Str} {params : Arguments} {b : Nat} {scope : Scope} {p pos kp lp bp p1 p2 p3 p4 : Pos}
    (hg : Gl X "sorted") (hm : X.mg "sorted" = none) (hr : Room 1 X.A) (TB : LamX.TabB X.base X.mg cc P) (hcode : X.env.code = .ref cc) (hT : (P, X.env.qual ++ "<lambda>") ∈ c.T) (hu : ∀ p ∈ c.T, p.1 = P → p.2 = X.env.qual ++ "<lambda>") (hB : lamB X.env.scope scope x y = true)
    (hjs : X.N[i]? = some y) (hdef : defaultsOf params X.env = ([], []))
    (hbind : ∀ (q : Str) (cl : List (Str × Addr)) (u : Value) (pm cv ctv : Value), bindArgs (PySem.W.kla_fn "<lambda>" q params (.Tuple [.Subscript (.Name y p1) (.Name x p2) p3, .Name x p4] b bp) scope cl pm cv ctv) ⟨[u], []⟩ = pure [(x, u)])
    (hpi : PlainIx (.Name x p2)) (ha : JE X c a ta) (na : starEach [a] X.env = (false, eval a X.env) :: starEach [] X.env := by rfl) (hK : X.K = c.K := by rfl) :
    JN X c (.Call (.Name "sorted" p) [a] [⟨some "key", .Lambda params (.Tuple [.Subscript (.Name y p1) (.Name x p2) p3, .Name x p4] b bp) scope lp, kp⟩] pos) (nSortK (capIx i) ta) := by
  unfold lamB at hB
  simp only [Bool.and_eq_true, decide_eq_true_eq, List.all_eq_true, Bool.or_eq_true, Bool.not_eq_true', decide_eq_false_iff_not] at hB
  obtain ⟨⟨⟨⟨⟨⟨⟨⟨⟨⟨h1, h2⟩, h3⟩, h4⟩, h5⟩, h6⟩, h7⟩, h8⟩, h9⟩, h10⟩, h11⟩ := hB
  exact jn_sortIx hg hm hr TB hcode hK hT hu (fun y hy e => by
    rcases h1 y hy with (z | z) | z
    · exact absurd e z
    · exact .inl z
    · exact .inr z) h2 h3 hjs hdef h4 h5 h6 h7 h8 hbind h9 h10 h11 hpi ha na
/-! ### list comprehensions -/
theorem jn_lc {elt tg iter : Expr} {ifs : List Expr} {scope : Scope} {own : List (Str × Nat)} {src : TWD} {tgD : Tg} (hc : X.calm = true) (hN : X.N.Nodup) (hi : JK X c tg iter src) (ok : BlkOk X.N X.env.scope scope own) (hA : ∀ q ∈ c.A, q.1 ∉ own.map (·.2)) (hix : ∀ j ∈ tgD.ix, j ∈ own.map (·.2))
    (hg : ∀ (s : Shared) (H : Hp) (C : Addr) (cl : List (Str × Addr)) (fp : List Addr), PG (X.blk s H scope (compEnvC scope cl C X.env) fp) tg (gTg c.K tgD)) (ht : ∀ (s : Shared) (H : Hp) (C : Addr) (cl : List (Str × Addr)) (fp : List Addr), JTs (X.blk s H scope (compEnvC scope cl C X.env) fp) c.calmW ifs tt)
    (he : ∀ (s : Shared) (H : Hp) (C : Addr) (cl : List (Str × Addr)) (fp : List Addr), JE (X.blk s H scope (compEnvC scope cl C X.env) fp) c.calmW elt te) (hs : ∀ x, foldedSetIterable iter X.env x = pure x := by intro _; rfl) :
    JN X c (.ListComp elt [⟨tg, iter, ifs, 0⟩] scope pos) (nLc src tgD tt te (own.map (·.2))) := by
  have mt := fun (s : Shared) => (ht s (fun _ => none) 0 [] []).mono
  have me := fun (s : Shared) => (he s (fun _ => none) 0 [] []).mono
  exact ⟨peI (pe_lc hc hN hi.run ok hg (fun s H C cl fp => (ht s H C cl fp).run) (fun s H C cl fp => (he s H C cl fp).run) hs) fun σ H Q q => lc_sound hA hix hi.mono (mt X.s_0) (me X.s_0) q, monoLc hi.mono⟩
theorem jset_lc (i : Nat) {y : Str} {py spos : Pos} {elt tg iter : Expr} {ifs : List Expr} {scope : Scope} {own : List (Str × Nat)} {src : TWD} {tgD : Tg} (hc : X.calm = true) (hN : X.N.Nodup) (hk : JK X c tg iter src) (ok : BlkOk X.N X.env.scope scope own) (hA : ∀ q ∈ c.A, q.1 ∉ own.map (·.2)) (hAi : ∀ q ∈ c.A, q.1 ≠ i) (hix : ∀ j ∈ tgD.ix, j ∈ own.map (·.2))
    (hg : ∀ (s : Shared) (H : Hp) (C : Addr) (cl : List (Str × Addr)) (fp : List Addr), PG (X.blk s H scope (compEnvC scope cl C X.env) fp) tg (gTg c.K tgD)) (ht : ∀ (s : Shared) (H : Hp) (C : Addr) (cl : List (Str × Addr)) (fp : List Addr), JTs (X.blk s H scope (compEnvC scope cl C X.env) fp) c.calmW ifs tt)
    (he : ∀ (s : Shared) (H : Hp) (C : Addr) (cl : List (Str × Addr)) (fp : List Addr), JE (X.blk s H scope (compEnvC scope cl C X.env) fp) c.calmW elt te) (hy : X.N[i]? = some y := by rfl) (hyl : X.env.scope.names.lookup y = some .local := by rfl)
    (hsw : swapsWith (.ListComp elt [⟨tg, iter, ifs, 0⟩] scope pos) (some (.Name y py)) spos.line X.env = pure true := by rfl) (hs : ∀ x, foldedSetIterable iter X.env x = pure x := by intro _; rfl) :
    JS X c (.Assign [.Name y py] (.ListComp elt [⟨tg, iter, ifs, 0⟩] scope pos) spos) (sSet (.n i) (eN (nLc src tgD tt te (own.map (·.2))))) := by
  have mt := fun (s : Shared) => (ht s (fun _ => none) 0 [] []).mono
  have me := fun (s : Shared) => (he s (fun _ => none) 0 [] []).mono
  exact js_set (monoEN (monoLc hk.mono)) (fun q hq z => hAi q hq (by simpa [Tg.ix] using z)) (fun σ H Q h => lc_sound hA hix hk.mono (mt X.s_0) (me X.s_0) (gN_of (monoLc hk.mono) h))
    (ps_setLc hc hN hy hyl hsw hk.run ok hg (fun s H C cl fp => (ht s H C cl fp).run) (fun s H C cl fp => (he s H C cl fp).run) hs)
end
/-! ### defs that may be called -/
structure CalD (P : Program) (w : World) (K : PySem.W.Frag) (g : Cg) (mg : Str → Option Value) (base : Heap) (k : Nat) (x : Str) (S : Spec) : Prop where
  ex : ∃ (f : Addr) (fd : FuncData) (ps : List Str), FnOk P w K mg base (L2.CX P w) k f fd ps (spD g S) ∧ mg x = some (.ref f) ∧ PySem.W.keepIn K (.ref f) = true ∧ Binds K fd ps []
section
variable {X : Cx} {c : Cn} {e : Expr} {es : List Expr} {tA : TAD} {pos p : Pos} {x : Str} {k k2 : Nat} {S : Spec}
theorem jcall (ms : List Bool) (C : CalD X.prog X.w X.K c.toCg X.mg X.base k x S) (hr : Room k2 X.A) (hk : k ≤ k2) (tk : Takes X c.W) (hg : Gl X x) (ha : JA X c (e :: es) tA)
    (hdb : (x == ("__debug__" : Str)) = false := by decide) (he : starEach (e :: es) X.env = (false, eval e X.env) :: starEach es X.env := by rfl) (hpl : (backTo pos (starEach es X.env)).any (·.1) = false := by rfl) : JE X c (.Call (.Name x p) (e :: es) [] pos) (eCall S ms tA) := by
  obtain ⟨f, fd, ps, F, hm, hkp, hb⟩ := C.ex
  exact je_call F (hr.mono hk) hg hm hkp hb tk ha hdb he hpl
theorem jncall (ms : List Bool) (C : CalD X.prog X.w X.K c.toCg X.mg X.base k x S) (hr : Room k2 X.A) (hk : k ≤ k2) (tk : Takes X c.W) (hg : Gl X x) (ha : JA X c (e :: es) tA)
    (hdb : (x == ("__debug__" : Str)) = false := by decide) (he : starEach (e :: es) X.env = (false, eval e X.env) :: starEach es X.env := by rfl) (hpl : (backTo pos (starEach es X.env)).any (·.1) = false := by rfl) : JN X c (.Call (.Name x p) (e :: es) [] pos) (nCall S ms tA) := by
  obtain ⟨f, fd, ps, F, hm, hkp, hb⟩ := C.ex
  exact jn_call F (hr.mono hk) hg hm hkp hb tk ha hdb he hpl
end
end Dl

/-! Ds: the readings as equations, for plain proofs. -/
namespace Dl
open PySem
/-- a list of data as a thing of its own -/
def lstS (ds : List PyData) : Sl := .lst (ds.map Sl.val)
abbrev intL (ns : List Int) : PyData := .list (ns.map .int)
abbrev intT (ns : List Int) : PyData := .tuple (ns.map .int)
@[simp] theorem flat_lstS (ds : List PyData) : flat (lstS ds) = some (.list ds) := flat_lst ds
@[simp] theorem isOwn_lstS (ds : List PyData) : isOwn (lstS ds) = true := rfl
@[simp] theorem isOwn_val (d : PyData) : isOwn (.val d) = false := rfl
@[simp] theorem lstOf_S0 (ρ : Env) (ds : List PyData) : lstOf (some (lstS ds) :: ρ) 0 = some ds := lstOf_0 ρ ds
/-- what a name's slot gives -/
def slotR (i : Nat) : Option (Option Sl) → Option R
  | some (some (.val d)) => some (.d d)
  | some (some _) => some (.b i)
  | _ => none
@[simp] theorem slotR_val (i : Nat) (d : PyData) : slotR i (some (some (.val d))) = some (.d d) := rfl
@[simp] theorem slotR_lst (i : Nat) (ds : List PyData) : slotR i (some (some (lstS ds))) = some (.b i) := rfl
/-- .. lent as data; .. handed over -/
def lendS : Option (Option Sl) → Option Sl
  | some (some (.lst xs)) => (flat (.lst xs)).map Sl.val
  | some (some (.dct xs)) => (flat (.dct xs)).map Sl.val
  | _ => none
@[simp] theorem lendS_lst (ds : List PyData) : lendS (some (some (lstS ds))) = some (.val (.list ds)) := by
  show (flat (lstS ds)).map Sl.val = _
  rw [lstS, flat_lst]; rfl
def refS : Option (Option Sl) → Option Sl
  | some (some s) => if isOwn s then some s else none
  | _ => none
@[simp] theorem refS_lst (ds : List PyData) : refS (some (some (lstS ds))) = some (lstS ds) := rfl
theorem lstS_def (ds : List PyData) : Sl.lst (ds.map Sl.val) = lstS ds := rfl
section
variable {ρ : Env} {ok : R → Env → Prop} {okN : Sl → Env → Prop} {okA : List R → Env → Prop} {okT : Bool → Env → Prop} {okW : List PyData → Env → Prop} {okO : Option Int → Env → Prop} {ex : KX} {ta tb tc te ti : TED} {tn : TND} {tA : TAD} {tt tu : TTD} {D : DEnds} {t u : TSD} {i : Nat} {d : PyData} {tl th : TOD} {src : TWD}
@[simp] theorem eV_eq : eV i ρ ok ex = wO (slotR i ρ[i]?) fun r => ok r ρ := by
  unfold eV slotR
  cases h : ρ[i]? with
  | none => rfl
  | some o => cases o with
    | none => rfl
    | some s => cases s <;> rfl
@[simp] theorem e2_eq {op : Op2} : e2 op ta tb ρ ok ex = ta ρ (fun r1 ρ1 => tb ρ1 (fun r2 ρ2 => wO (view ρ2 r1) fun d1 => wO (view ρ2 r2) fun d2 => op d1 d2 fun d => ok (.d d) ρ2) ex) ex := rfl
@[simp] theorem e1_eq {op : Op1} : e1 op ta ρ ok ex = ta ρ (fun r1 ρ1 => wO (view ρ1 r1) fun d1 => op d1 fun d => ok (.d d) ρ1) ex := rfl
@[simp] theorem aC_eq {tr : TAD} : aC ta tr ρ okA ex = ta ρ (fun r ρ1 => tr ρ1 (fun rs ρ2 => okA (r :: rs) ρ2) ex) ex := rfl
@[simp] theorem eF_eq {op : OpN} : eF op tA ρ ok ex = tA ρ (fun rs ρ1 => wO (views ρ1 rs) fun ds => op ds fun d => ok (.d d) ρ1) ex := rfl
@[simp] theorem nF_eq {op : OpL} : nF op tA ρ okN ex = tA ρ (fun rs ρ1 => wO (views ρ1 rs) fun ds => op ds fun es => okN (lstS es) ρ1) ex := rfl
@[simp] theorem eN_eq : eN tn ρ ok ex = tn ρ (fun s ρ1 => wO (flat s) fun d => ok (.d d) ρ1) ex := rfl
@[simp] theorem eTup_eq : eTup tA ρ ok ex = tA ρ (fun rs ρ1 => wO (dats rs) fun ds => ok (.d (.tuple ds)) ρ1) ex := rfl
@[simp] theorem nLst_eq : nLst tA ρ okN ex = tA ρ (fun rs ρ1 => wO (dats rs) fun ds => okN (lstS ds) ρ1) ex := rfl
@[simp] theorem eAnd_eq : eAnd ta tb ρ ok ex = ta ρ (fun r ρ1 => wO (viewB ρ1 r) fun b => wB b (tb ρ1 ok ex) (ok (.d (.bool false)) ρ1)) ex := rfl
@[simp] theorem eOr_eq : eOr ta tb ρ ok ex = ta ρ (fun r ρ1 => wO (viewB ρ1 r) fun b => wB b (ok (.d (.bool true)) ρ1) (tb ρ1 ok ex)) ex := rfl
@[simp] theorem eNot_eq : eNot ta ρ ok ex = ta ρ (fun r ρ1 => wO (viewB ρ1 r) fun b => ok (.d (.bool (!b))) ρ1) ex := rfl
@[simp] theorem eIf_eq : eIf tt ta tb ρ ok ex = tt ρ (fun b ρ1 => wB b (ta ρ1 ok ex) (tb ρ1 ok ex)) ex := rfl
@[simp] theorem eCh_eq {op op' : Op2} : eCh op op' ta tb tc ρ ok ex = ta ρ (fun r1 ρ1 => tb ρ1 (fun r2 ρ2 => wO (view ρ2 r1) fun d1 => wO (view ρ2 r2) fun d2 => op d1 d2 fun d => wO (asB d) fun b =>
  wB b (tc ρ2 (fun r3 ρ3 => wO (view ρ3 r2) fun d2 => wO (view ρ3 r3) fun d3 => op' d2 d3 fun d => ok (.d d) ρ3) ex) (ok (.d (.bool false)) ρ2)) ex) ex := rfl
@[simp] theorem tV_eq : tV ta ρ okT ex = ta ρ (fun r ρ1 => wO (viewB ρ1 r) fun b => okT b ρ1) ex := rfl
@[simp] theorem tAnd_eq : tAnd tt tu ρ okT ex = tt ρ (fun b ρ1 => wB b (tu ρ1 okT ex) (okT false ρ1)) ex := rfl
@[simp] theorem tOr_eq : tOr tt tu ρ okT ex = tt ρ (fun b ρ1 => wB b (okT true ρ1) (tu ρ1 okT ex)) ex := rfl
@[simp] theorem tNot_eq : tNot tt ρ okT ex = tt ρ (fun b ρ1 => okT (!b) ρ1) ex := rfl
@[simp] theorem tTrue_eq : tTrue ρ okT ex = okT true ρ := rfl
@[simp] theorem eCall_eq {S : Spec} {ms : List Bool} : eCall S ms tA ρ ok ex = tA ρ (fun rs ρ1 => wO (argsOf ρ1 ms rs) fun ss => okRefs ms rs ∧
  S.run ss (fun r os => okOut ss os → (match r with
    | .d d => (lentOf ms rs = [] ∨ noL d = true) ∧ ok (.d d) (putAll ρ1 ms rs os)
    | .new s => lentOf ms rs = [] ∧ wO (flat s) fun d => ok (.d d) (putAll ρ1 ms rs os)))
    (fun x os => okOut ss os → (lentOf ms rs = [] ∨ x.fs = []) ∧ ex x (putAll ρ1 ms rs os))) ex := rfl
@[simp] theorem nCall_eq {S : Spec} {ms : List Bool} : nCall S ms tA ρ okN ex = tA ρ (fun rs ρ1 => wO (argsOf ρ1 ms rs) fun ss => okRefs ms rs ∧ lentOf ms rs = [] ∧
  S.run ss (fun r os => okOut ss os → (match r with
    | .d _ => False
    | .new s => isOwn s = true ∧ okN s (putAll ρ1 ms rs os)))
    (fun x os => okOut ss os → (lentOf ms rs = [] ∨ x.fs = []) ∧ ex x (putAll ρ1 ms rs os))) ex := rfl
@[simp] theorem wList_eq : wList ta ρ okW ex = ta ρ (fun r ρ1 => match r with | .d (.list ds) => okW ds ρ1 | _ => False) ex := rfl
@[simp] theorem wTup_eq : wTup ta ρ okW ex = ta ρ (fun r ρ1 => match r with | .d (.tuple ds) => okW ds ρ1 | _ => False) ex := rfl
@[simp] theorem wRange1_eq : wRange1 tA ρ okW ex = tA ρ (fun rs ρ1 => ∃ n : Int, views ρ1 rs = some [.int n] ∧ n < 2 ^ 62 ∧ -(2 ^ 62) ≤ n ∧ okW (rangeD 0 n) ρ1) ex := rfl
@[simp] theorem wRange2_eq : wRange2 tA ρ okW ex = tA ρ (fun rs ρ1 => ∃ m n : Int, views ρ1 rs = some [.int m, .int n] ∧ (-(2 ^ 62) ≤ m ∧ m < 2 ^ 62 ∧ -(2 ^ 62) ≤ n ∧ n < 2 ^ 62) ∧ okW (rangeD m n) ρ1) ex := rfl
@[simp] theorem wEnum_eq : wEnum tA ρ okW ex = tA ρ (fun rs ρ1 => match rs with | [.d (.list ds)] => okW (enumD ds) ρ1 | _ => False) ex := rfl
@[simp] theorem oNo_eq : oNo ρ okO ex = okO none ρ := rfl
@[simp] theorem oAt_eq : oAt te ρ okO ex = te ρ (fun r ρ1 => wO (view ρ1 r) fun d => match d with | .int i => okO (some i) ρ1 | _ => False) ex := rfl
@[simp] theorem nSl_eq : nSl te tl th ρ okN ex = te ρ (fun r ρ1 => tl ρ1 (fun lo ρ2 => th ρ2 (fun hi ρ3 => wO (view ρ3 r) fun d => match d with | .list ds => okN (lstS (cutD ds lo hi)) ρ3 | _ => False) ex) ex) ex := rfl
@[simp] theorem nRg1_eq : nRg1 te ρ okN ex = te ρ (fun r ρ1 => wO (view ρ1 r) fun d => match d with | .int n => (-(2 ^ 62) ≤ n ∧ n ≤ 2 ^ 24) ∧ okN (lstS (rangeD 0 n)) ρ1 | _ => False) ex := rfl
@[simp] theorem sNext_eq : sNext D ρ = D.nx ρ := rfl
@[simp] theorem sSeq_eq : sSeq t u D ρ = t { D with nx := u D } ρ := rfl
@[simp] theorem sBreak_eq : sBreak D ρ = D.bk ρ := rfl
@[simp] theorem sCont_eq : sCont D ρ = D.ct ρ := rfl
@[simp] theorem sDrop_eq : sDrop te D ρ = te ρ (fun _ ρ1 => D.nx ρ1) D.ex := rfl
@[simp] theorem sIf_eq : sIf tt t u D ρ = tt ρ (fun c ρ1 => wB c (t D ρ1) (u D ρ1)) D.ex := rfl
@[simp] theorem sRet_eq : sRet te D ρ = te ρ (fun r ρ1 => match r with | .d d => D.rt (.d d) ρ1 | .b i => wO (ρ1[i]?.join) fun s => D.rt (.new s) (ρ1.set i none)) D.ex := rfl
@[simp] theorem sRetNone_eq : sRetNone D ρ = D.rt (.d .none) ρ := rfl
@[simp] theorem sRetN_eq : sRetN tn D ρ = tn ρ (fun s ρ1 => D.rt (.new s) ρ1) D.ex := rfl
@[simp] theorem sSet_n : sSet (.n i) te D ρ = te ρ (fun r ρ1 => match r with | .d d => D.nx (ρ1.set i (some (.val d))) | _ => False) D.ex := rfl
@[simp] theorem sSet_t {is : List Nat} : sSet (.t is) te D ρ = te ρ (fun r ρ1 => match r with | .d (.tuple ds) => wO (bindAll ρ1 is ds) D.nx | _ => False) D.ex := by
  unfold sSet
  congr 1
  funext r ρ1
  cases r with
  | b i => rfl
  | d d => cases d <;> rfl
@[simp] theorem sOwn_eq : sOwn i tn D ρ = tn ρ (fun s ρ1 => D.nx (ρ1.set i (some s))) D.ex := rfl
@[simp] theorem sPut_eq : sPut i ti te D ρ = te ρ (fun r ρ1 => match r with
  | .d d => wO (lstOf ρ1 i) fun _ => ti ρ1 (fun r2 ρ2 => wO (view ρ2 r2) fun d2 => match d2 with
    | .int k => wO (lstOf ρ2 i) fun es => wO (ixD es.length k) fun j => D.nx (ρ2.set i (some (lstS (es.set j d))))
    | _ => False) D.ex
  | _ => False) D.ex := rfl
@[simp] theorem eM_eq {op : OpM} : eM i op tA ρ ok ex = wO (lstOf ρ i) fun _ => tA ρ (fun rs ρ1 => wO (dats rs) fun ds => wO (lstOf ρ1 i) fun es => op es ds fun d es' => ok (.d d) (ρ1.set i (some (lstS es')))) ex := rfl
@[simp] theorem sRaise_eq {x : XV} : sRaise x D ρ = D.ex x ρ := rfl
@[simp] theorem eIsE_eq {sub : String → Bool} {x : XV} : eIsE sub x ρ ok ex = (x.fs = [] ∧ ok (.d (.bool (sub x.cls))) ρ) := rfl
@[simp] theorem sTry_eq {cn : String → Bool} {su : XV → TSD} : sTry cn i t su D ρ = t { D with ex := fun x ρ1 => wB (cn x.cls) (i < ρ1.length ∧ su x (outD i D) (ρ1.set i none)) (D.ex x ρ1) } ρ := rfl
@[simp] theorem outD_nx : (outD i D).nx ρ = D.nx (ρ.set i none) := rfl
@[simp] theorem outD_rt {r : Ret} : (outD i D).rt r ρ = D.rt r ρ := rfl
@[simp] theorem nSortK_eq {cap : Cap} : nSortK cap ta ρ okN ex = ta ρ (fun r ρ1 => wO (view ρ1 r) fun d => wO (match d with | .list ds => intsOf ds | _ => none) fun ns => wO (cap ρ1 ns) fun k => okN (lstS ((ns.mergeSort (leK k)).map PyData.int)) ρ1) ex := rfl
@[simp] theorem argsOf_nil : argsOf ρ [] [] = some [] := rfl
@[simp] theorem argsOf_cons {m : Bool} {ms : List Bool} {r : R} {rs : List R} : argsOf ρ (m :: ms) (r :: rs) = (argOf ρ m r).bind fun s => (argsOf ρ ms rs).map (s :: ·) := rfl
@[simp] theorem argOf_d : argOf ρ false (.d d) = some (.val d) := rfl
@[simp] theorem argOf_b : argOf ρ false (.b i) = lendS ρ[i]? := by
  simp only [argOf, lendS]
  all_goals
    generalize ρ[i]? = o
    rcases o with _ | _ | s
    · rfl
    · rfl
    · cases s <;> rfl
@[simp] theorem argOf_r : argOf ρ true (.b i) = refS ρ[i]? := by
  simp only [argOf, refS]
  all_goals
    generalize ρ[i]? = o
    rcases o with _ | _ | s <;> rfl
@[simp] theorem okRefs_def {ms : List Bool} {rs : List R} : okRefs ms rs = ((refsOf ms rs).Nodup ∧ (refsOf ms rs = [] ∨ lentOf ms rs = [])) := rfl
@[simp] theorem afterD_nil : afterD [] ρ = some [] := by cases ρ <;> rfl
@[simp] theorem afterD_val {ss : List Sl} {o : Option Sl} : afterD (.val d :: ss) (o :: ρ) = (afterD ss ρ).map (.val d :: ·) := by cases o <;> rfl
@[simp] theorem afterD_lst {ds : List PyData} {ss : List Sl} {s : Sl} : afterD (lstS ds :: ss) (some s :: ρ) = if isOwn s then (afterD ss ρ).map (s :: ·) else none := rfl
@[simp] theorem okOut_nil : okOut [] [] = True := rfl
@[simp] theorem okOut_val {o : Sl} {ss os : List Sl} : okOut (.val d :: ss) (o :: os) = (o = .val d ∧ okOut ss os) := rfl
@[simp] theorem okOut_lst {ds : List PyData} {o : Sl} {ss os : List Sl} : okOut (lstS ds :: ss) (o :: os) = (isOwn o = true ∧ okOut ss os) := rfl
@[simp] theorem putAll_nil : putAll ρ [] [] [] = ρ := rfl
@[simp] theorem putAll_ref {ms : List Bool} {rs : List R} {o : Sl} {os : List Sl} : putAll ρ (true :: ms) (.b i :: rs) (o :: os) = putAll (ρ.set i (some o)) ms rs os := rfl
@[simp] theorem putAll_f {ms : List Bool} {r : R} {rs : List R} {o : Sl} {os : List Sl} : putAll ρ (false :: ms) (r :: rs) (o :: os) = putAll ρ ms rs os := by cases r <;> rfl
@[simp] theorem putAll_d {m : Bool} {ms : List Bool} {rs : List R} {o : Sl} {os : List Sl} : putAll ρ (m :: ms) (.d d :: rs) (o :: os) = putAll ρ ms rs os := by cases m <;> rfl
@[simp] theorem refsOf_nil : refsOf [] [] = [] := rfl
@[simp] theorem refsOf_t {ms : List Bool} {rs : List R} : refsOf (true :: ms) (.b i :: rs) = i :: refsOf ms rs := rfl
@[simp] theorem refsOf_f {ms : List Bool} {r : R} {rs : List R} : refsOf (false :: ms) (r :: rs) = refsOf ms rs := by cases r <;> rfl
@[simp] theorem refsOf_d {m : Bool} {ms : List Bool} {rs : List R} : refsOf (m :: ms) (.d d :: rs) = refsOf ms rs := by cases m <;> rfl
@[simp] theorem lentOf_nil : lentOf [] [] = [] := rfl
@[simp] theorem lentOf_f {ms : List Bool} {rs : List R} : lentOf (false :: ms) (.b i :: rs) = i :: lentOf ms rs := rfl
@[simp] theorem lentOf_t {ms : List Bool} {r : R} {rs : List R} : lentOf (true :: ms) (r :: rs) = lentOf ms rs := by cases r <;> rfl
@[simp] theorem lentOf_d {m : Bool} {ms : List Bool} {rs : List R} : lentOf (m :: ms) (.d d :: rs) = lentOf ms rs := by cases m <;> rfl
end
/-! ### comprehensions without effect -/
theorem wipe_get? (ρ : Env) (i j : Nat) : (wipeD ρ [i])[j]? = if j = i then (ρ[j]?).map (fun _ => none) else ρ[j]? := by
  show (ρ.set i none)[j]? = _
  by_cases h : j = i
  · subst h
    rw [if_pos rfl]
    by_cases hl : j < ρ.length
    · rw [List.getElem?_set_self hl]; simp [hl]
    · rw [List.getElem?_eq_none (by simp; omega), List.getElem?_eq_none (by omega)]; rfl
  · rw [if_neg h, List.getElem?_set_ne (Ne.symm h)]
theorem wipe_len (ρ : Env) (i : Nat) : (wipeD ρ [i]).length = ρ.length := by
  show (ρ.set i none).length = _
  simp
theorem back_bind (ρ : Env) (i : Nat) (x : PyData) : backD [i] ρ ((wipeD ρ [i]).set i (some (.val x))) = ρ := by
  apply List.ext_getElem?
  intro j
  unfold backD
  rw [List.getElem?_mapIdx]
  by_cases h : j = i
  · subst h
    by_cases hl : j < ρ.length
    · rw [List.getElem?_set_self (by rw [wipe_len]; exact hl)]; simp [hl]
    · rw [List.getElem?_eq_none (l := ρ) (by omega), List.getElem?_eq_none (l := (wipeD ρ [j]).set j _) (by rw [List.length_set, wipe_len]; omega)]; rfl
  · rw [List.getElem?_set_ne (Ne.symm h), wipe_get?, if_neg h]
    by_cases hl : j < ρ.length
    · simp [hl, h]
    · simp [List.getElem?_eq_none (show ρ.length ≤ j by omega)]
/-- [elt for v in .. if ..], neither elt nor the test with an effect -/
theorem lc_pure {src : TWD} {i : Nat} {tt : TTD} {te : TED} {ρ : Env} {ok : Sl → Env → Prop} {ex : KX} (p : PyData → Bool) (f : PyData → PyData)
    (ms : ∀ (k k' : List PyData → Env → Prop), (∀ ds ρ1, k ds ρ1 → k' ds ρ1) → src ρ k ex → src ρ k' ex)
    (h : src ρ (fun ds ρ1 => ds.length ≤ sizeLine ∧ (∀ s, ρ1[i]? = some (some s) → isOwn s = false) ∧ (∀ x ∈ ds, (∀ k : Bool → Env → Prop, k (p x) ((wipeD ρ1 [i]).set i (some (.val x))) → tt ((wipeD ρ1 [i]).set i (some (.val x))) k fun _ _ => False) ∧
      (p x = true → ∀ k : R → Env → Prop, k (.d (f x)) ((wipeD ρ1 [i]).set i (some (.val x))) → te ((wipeD ρ1 [i]).set i (some (.val x))) k fun _ _ => False)) ∧ ok (lstS ((ds.filter p).map f)) ρ1) ex) : nLc src (.n i) tt te [i] ρ ok ex := by
  refine ms _ _ (fun ds ρ1 h => ?_) h
  obtain ⟨hl, hown, hb, hok⟩ := h
  refine ⟨fun j acc ρ' => ρ' = ρ1 ∧ acc = ((ds.take j).filter p).map f, ⟨rfl, rfl⟩, ?_, ?_⟩
  · rintro j x acc ρ' hj ⟨rfl, rfl⟩
    have hm : x ∈ ds := List.mem_of_getElem? hj
    have hjl : j < ds.length := (List.getElem?_eq_some_iff.mp hj).1
    obtain ⟨h1, h2⟩ := hb x hm
    refine ⟨fun q hq s hs => by simp at hq; subst hq; exact hown s hs, ?_⟩
    show wO (some ((wipeD ρ' [i]).set i (some (.val x)))) _
    have tk : ds.take (j + 1) = ds.take j ++ [x] := by rw [List.take_add_one, hj]; rfl
    refine h1 _ ⟨fun hp => ?_, fun hp => ?_⟩
    · refine h2 hp _ ⟨?_, back_bind _ _ _, ?_⟩
      · rw [List.length_map]
        refine Nat.lt_of_le_of_lt (List.length_filter_le _ _) ?_
        rw [List.length_take]; omega
      · rw [tk, List.filter_append, List.map_append]
        simp [hp]
    · refine ⟨back_bind _ _ _, ?_⟩
      rw [tk, List.filter_append, List.map_append]
      simp [hp]
  · rintro acc ρ' ⟨rfl, rfl⟩
    rw [List.take_length]
    exact hok
/-! ### specs without effect -/
/-- data in, data out -/
def fS (n : Nat) (pre : List PyData → Prop) (f : List PyData → PyData) : Spec where
  A := { a : List PyData // a.length = n }
  args := fun a => a.1.map Sl.val
  pre := fun a => pre a.1
  out := fun a r os => r = .d (f a.1) ∧ os = a.1.map Sl.val
theorem fS_run {n : Nat} {pre : List PyData → Prop} {f : List PyData → PyData} {as : List PyData} {k : Ret → List Sl → Prop} {e : XV → List Sl → Prop} (hn : as.length = n) : (fS n pre f).run (as.map Sl.val) k e ↔ pre as ∧ k (.d (f as)) (as.map Sl.val) := by
  constructor
  · rintro ⟨⟨a, ha⟩, h1, h2, h3, _⟩
    have e : as = a := by
      have := congrArg vals h1
      rw [vals_map, show (fS n pre f).args ⟨a, ha⟩ = a.map Sl.val from rfl, vals_map] at this
      exact Option.some.inj this
    subst e
    exact ⟨h2, h3 _ _ ⟨rfl, rfl⟩⟩
  · rintro ⟨h1, h2⟩
    exact ⟨⟨as, hn⟩, rfl, h1, fun r os ⟨e1, e2⟩ => by rw [e1, e2]; exact h2, fun x os h => h.elim⟩
section
variable {pre : List PyData → Prop} {f : List PyData → PyData} {a b c d : PyData} {k : Ret → List Sl → Prop} {e : XV → List Sl → Prop}
@[simp] theorem fS_run1 : (fS 1 pre f).run [.val a] k e ↔ pre [a] ∧ k (.d (f [a])) [.val a] := fS_run (as := [a]) rfl
@[simp] theorem fS_run2 : (fS 2 pre f).run [.val a, .val b] k e ↔ pre [a, b] ∧ k (.d (f [a, b])) [.val a, .val b] := fS_run (as := [a, b]) rfl
@[simp] theorem fS_run3 : (fS 3 pre f).run [.val a, .val b, .val c] k e ↔ pre [a, b, c] ∧ k (.d (f [a, b, c])) [.val a, .val b, .val c] := fS_run (as := [a, b, c]) rfl
@[simp] theorem fS_run4 : (fS 4 pre f).run [.val a, .val b, .val c, .val d] k e ↔ pre [a, b, c, d] ∧ k (.d (f [a, b, c, d])) [.val a, .val b, .val c, .val d] := fS_run (as := [a, b, c, d]) rfl
end
section
variable {S : Spec} {a : S.A} {ρ : Env} {r : Ret} {x : XV}
@[simp] theorem bodyEnds_nx : (bodyEnds S a).nx ρ = wO (afterD (S.args a) ρ) fun os => S.out a (.d .none) os := rfl
@[simp] theorem bodyEnds_rt : (bodyEnds S a).rt r ρ = wO (afterD (S.args a) ρ) fun os => S.out a r os := rfl
@[simp] theorem bodyEnds_ex : (bodyEnds S a).ex x ρ = wO (afterD (S.args a) ρ) fun os => S.exc a x os := rfl
@[simp] theorem bodyEnds_bk : (bodyEnds S a).bk ρ = False := rfl
@[simp] theorem bodyEnds_ct : (bodyEnds S a).ct ρ = False := rfl
end
section
variable {n : Nat} {pre : List PyData → Prop} {f : List PyData → PyData} {a : (fS n pre f).A} {r : Ret} {os : List Sl}
@[simp] theorem fS_args : (fS n pre f).args a = a.1.map Sl.val := rfl
@[simp] theorem fS_pre : (fS n pre f).pre a = pre a.1 := rfl
@[simp] theorem fS_out : (fS n pre f).out a r os = (r = .d (f a.1) ∧ os = a.1.map Sl.val) := rfl
end
/-- the ends of a def without effects -/
def endsF (ss : List Sl) (v : PyData) : DEnds where
  nx := fun ρ => wO (afterD ss ρ) fun os => Ret.d .none = .d v ∧ os = ss
  rt := fun r ρ => wO (afterD ss ρ) fun os => r = .d v ∧ os = ss
  ex := fun x ρ => wO (afterD ss ρ) fun os => False
section
variable {ss : List Sl} {v : PyData} {ρ : Env} {r : Ret} {x : XV}
@[simp] theorem endsF_nx : (endsF ss v).nx ρ = wO (afterD ss ρ) fun os => Ret.d .none = .d v ∧ os = ss := rfl
@[simp] theorem endsF_rt : (endsF ss v).rt r ρ = wO (afterD ss ρ) fun os => r = .d v ∧ os = ss := rfl
@[simp] theorem endsF_ex : (endsF ss v).ex x ρ = wO (afterD ss ρ) fun os => False := rfl
@[simp] theorem endsF_bk : (endsF ss v).bk ρ = False := rfl
@[simp] theorem endsF_ct : (endsF ss v).ct ρ = False := rfl
variable {pre : List PyData → Prop} {f : List PyData → PyData} {ts : TSD} {n : Nat}
theorem fS_1 (h : ∀ a, pre [a] → ts (endsF [.val a] (f [a])) (startD n [.val a])) : ∀ a, (fS 1 pre f).pre a → ts (bodyEnds (fS 1 pre f) a) (startD n ((fS 1 pre f).args a)) := by
  rintro ⟨as, hl⟩ hp
  match as, hl with
  | [a], _ => exact h a hp
theorem fS_2 (h : ∀ a b, pre [a, b] → ts (endsF [.val a, .val b] (f [a, b])) (startD n [.val a, .val b])) : ∀ a, (fS 2 pre f).pre a → ts (bodyEnds (fS 2 pre f) a) (startD n ((fS 2 pre f).args a)) := by
  rintro ⟨as, hl⟩ hp
  match as, hl with
  | [a, b], _ => exact h a b hp
theorem fS_3 (h : ∀ a b c, pre [a, b, c] → ts (endsF [.val a, .val b, .val c] (f [a, b, c])) (startD n [.val a, .val b, .val c])) : ∀ a, (fS 3 pre f).pre a → ts (bodyEnds (fS 3 pre f) a) (startD n ((fS 3 pre f).args a)) := by
  rintro ⟨as, hl⟩ hp
  match as, hl with
  | [a, b, c], _ => exact h a b c hp
theorem fS_4 (h : ∀ a b c d, pre [a, b, c, d] → ts (endsF [.val a, .val b, .val c, .val d] (f [a, b, c, d])) (startD n [.val a, .val b, .val c, .val d])) : ∀ a, (fS 4 pre f).pre a → ts (bodyEnds (fS 4 pre f) a) (startD n ((fS 4 pre f).args a)) := by
  rintro ⟨as, hl⟩ hp
  match as, hl with
  | [a, b, c, d], _ => exact h a b c d hp
end
/-- .. of any def -/
def endsX (ss : List Sl) (out : Ret → List Sl → Prop) (exc : XV → List Sl → Prop) : DEnds where
  nx := fun ρ => wO (afterD ss ρ) fun os => out (.d .none) os
  rt := fun r ρ => wO (afterD ss ρ) fun os => out r os
  ex := fun x ρ => wO (afterD ss ρ) fun os => exc x os
section
variable {ss : List Sl} {out : Ret → List Sl → Prop} {exc : XV → List Sl → Prop} {ρ : Env} {r : Ret} {x : XV}
@[simp] theorem endsX_nx : (endsX ss out exc).nx ρ = wO (afterD ss ρ) fun os => out (.d .none) os := rfl
@[simp] theorem endsX_rt : (endsX ss out exc).rt r ρ = wO (afterD ss ρ) fun os => out r os := rfl
@[simp] theorem endsX_ex : (endsX ss out exc).ex x ρ = wO (afterD ss ρ) fun os => exc x os := rfl
@[simp] theorem endsX_bk : (endsX ss out exc).bk ρ = False := rfl
@[simp] theorem endsX_ct : (endsX ss out exc).ct ρ = False := rfl
end
theorem int_of {p : Int → Prop} {d : PyData} (h : match d with | .int i => p i | _ => False) : ∃ i, d = .int i ∧ p i := by
  cases d <;> first | exact ⟨_, rfl, h⟩ | exact h.elim
/-- a comprehension without effects over ds -/
theorem lc_do {src : TWD} {i : Nat} {tt : TTD} {te : TED} {ρ : Env} {ok : Sl → Env → Prop} {ex : KX} (ds : List PyData) (p : PyData → Bool) (f : PyData → PyData)
    (hs : ∀ k : List PyData → Env → Prop, k ds ρ → src ρ k ex) (hl : ds.length ≤ sizeLine) (hown : ∀ s, ρ[i]? = some (some s) → isOwn s = false)
    (hp : ∀ x ∈ ds, ∀ k : Bool → Env → Prop, k (p x) ((wipeD ρ [i]).set i (some (.val x))) → tt ((wipeD ρ [i]).set i (some (.val x))) k fun _ _ => False)
    (hf : ∀ x ∈ ds, p x = true → ∀ k : R → Env → Prop, k (.d (f x)) ((wipeD ρ [i]).set i (some (.val x))) → te ((wipeD ρ [i]).set i (some (.val x))) k fun _ _ => False)
    (h : ok (lstS ((ds.filter p).map f)) ρ) : nLc src (.n i) tt te [i] ρ ok ex := by
  refine hs _ ⟨fun j acc ρ' => ρ' = ρ ∧ acc = ((ds.take j).filter p).map f, ⟨rfl, rfl⟩, ?_, ?_⟩
  · rintro j x acc ρ' hj ⟨rfl, rfl⟩
    have hm : x ∈ ds := List.mem_of_getElem? hj
    have hjl : j < ds.length := (List.getElem?_eq_some_iff.mp hj).1
    refine ⟨fun q hq s hs => by simp at hq; subst hq; exact hown s hs, ?_⟩
    show wO (some ((wipeD ρ' [i]).set i (some (.val x)))) _
    have tk : ds.take (j + 1) = ds.take j ++ [x] := by rw [List.take_add_one, hj]; rfl
    refine hp x hm _ ⟨fun hpx => ?_, fun hpx => ?_⟩
    · refine hf x hm hpx _ ⟨?_, back_bind _ _ _, ?_⟩
      · rw [List.length_map]
        refine Nat.lt_of_le_of_lt (List.length_filter_le _ _) ?_
        rw [List.length_take]; omega
      · rw [tk, List.filter_append, List.map_append]
        simp [hpx]
    · refine ⟨back_bind _ _ _, ?_⟩
      rw [tk, List.filter_append, List.map_append]
      simp [hpx]
  · rintro acc ρ' ⟨rfl, rfl⟩
    rw [List.take_length]
    exact h
/-- .. without a test -/
theorem lc_all {src : TWD} {i : Nat} {te : TED} {ρ : Env} {ok : Sl → Env → Prop} {ex : KX} (ds : List PyData) (f : PyData → PyData)
    (hs : ∀ k : List PyData → Env → Prop, k ds ρ → src ρ k ex) (hl : ds.length ≤ sizeLine) (hown : ∀ s, ρ[i]? = some (some s) → isOwn s = false)
    (hf : ∀ x ∈ ds, ∀ k : R → Env → Prop, k (.d (f x)) ((wipeD ρ [i]).set i (some (.val x))) → te ((wipeD ρ [i]).set i (some (.val x))) k fun _ _ => False)
    (h : ok (lstS (ds.map f)) ρ) : nLc src (.n i) tTrue te [i] ρ ok ex := by
  refine lc_do ds (fun _ => true) f hs hl hown (fun _ _ _ hk => hk) (fun x hx _ => hf x hx) ?_
  rw [List.filter_eq_self.mpr (fun _ _ => rfl)]
  exact h
/-- a walk: P i, behind i items -/
theorem for_do {src : TWD} {tg : Tg} {b : TSD} {D : DEnds} {ρ : Env} (ds : List PyData) (P : Nat → Env → Prop) (hs : ∀ k : List PyData → Env → Prop, k ds ρ → src ρ k D.ex) (h0 : P 0 ρ)
    (h1 : ∀ i x ρ, ds[i]? = some x → P i ρ → wO (tg.bind ρ x) fun ρ2 => b { D with nx := P (i + 1), ct := P (i + 1), bk := D.nx } ρ2) (h2 : ∀ ρ, P ds.length ρ → D.nx ρ) : sFor src tg b D ρ := hs _ ⟨P, h0, h1, h2⟩
@[simp] theorem bind_n (ρ : Env) (i : Nat) (d : PyData) : Tg.bind ρ (.n i) d = some (ρ.set i (some (.val d))) := rfl
@[simp] theorem bind_t (ρ : Env) (is : List Nat) (ds : List PyData) : Tg.bind ρ (.t is) (.tuple ds) = bindAll ρ is ds := rfl
@[simp] theorem bindAll_nil (ρ : Env) : bindAll ρ [] [] = some ρ := rfl
@[simp] theorem bindAll_cons (ρ : Env) (i : Nat) (is : List Nat) (d : PyData) (ds : List PyData) : bindAll ρ (i :: is) (d :: ds) = bindAll (ρ.set i (some (.val d))) is ds := rfl
@[simp] theorem wipeD_cons (ρ : Env) (i : Nat) (is : List Nat) : wipeD ρ (i :: is) = (wipeD ρ is).set i none := rfl
@[simp] theorem wipeD_nil (ρ : Env) : wipeD ρ [] = ρ := rfl
/-! ### lists of ints -/
section
variable {k : PyData → Prop} {kL : List PyData → Prop} {ns ms : List Int} {i j : Int}
@[simp] theorem oLen_intL : oLen [intL ns] k = k (.int ns.length) := by simp [oLen, intL]
@[simp] theorem oLen_intT : oLen [intT ns] k = k (.int ns.length) := by simp [oLen, intT]
@[simp] theorem oLen_list {ds : List PyData} : oLen [.list ds] k = k (.int ds.length) := rfl
@[simp] theorem oLen_tuple {ds : List PyData} : oLen [.tuple ds] k = k (.int ds.length) := rfl
@[simp] theorem oList_intL : oList [intL ns] kL = kL (ns.map .int) := rfl
@[simp] theorem oList_list {ds : List PyData} : oList [.list ds] kL = kL ds := rfl
@[simp] theorem oSum_list {ds : List PyData} : oSum [.list ds] k = wO (intsOf ds) fun ns => k (.int ns.sum) := rfl
@[simp] theorem oAll_list {ds : List PyData} : oAll [.list ds] k = wO (boolsOf ds) fun bs => k (.bool (bs.all id)) := rfl
@[simp] theorem oTuple_list {ds : List PyData} : oTuple [.list ds] k = k (.tuple ds) := rfl
@[simp] theorem oMax_list {ds : List PyData} : oMax [.list ds] k = wO (intsOf ds) fun ns => 0 < ns.length ∧ ∀ m, isMax ns m → k (.int m) := rfl
@[simp] theorem oAdd_int : oAdd (.int i) (.int j) k = k (.int (i + j)) := rfl
@[simp] theorem oSub_int : oSub (.int i) (.int j) k = k (.int (i - j)) := rfl
@[simp] theorem oMul_int : oMul (.int i) (.int j) k = ((i.natAbs < bigN ∧ j.natAbs < bigN) ∧ k (.int (i * j))) := rfl
@[simp] theorem oDiv_int : oDiv (.int i) (.int j) k = ((0 < j ∧ j.natAbs < bigN) ∧ k (.int (i / j))) := rfl
@[simp] theorem oMod_int : oMod (.int i) (.int j) k = (0 < j ∧ k (.int (i % j))) := rfl
@[simp] theorem oLt_int : oLt (.int i) (.int j) k = k (.bool (decide (i < j))) := rfl
@[simp] theorem oLe_int : oLe (.int i) (.int j) k = k (.bool (decide (i ≤ j))) := rfl
@[simp] theorem oGt_int : oGt (.int i) (.int j) k = k (.bool (decide (j < i))) := rfl
@[simp] theorem oGe_int : oGe (.int i) (.int j) k = k (.bool (decide (j ≤ i))) := rfl
@[simp] theorem oNeg_int : oNeg (.int i) k = k (.int (-i)) := rfl
@[simp] theorem oAbs_int : oAbs [.int i] k = k (.int (if i < 0 then -i else i)) := rfl
@[simp] theorem oAdd_list {xs ys : List PyData} : oAdd (.list xs) (.list ys) k = (xs.length + ys.length ≤ sizeLine ∧ k (.list (xs ++ ys))) := rfl
@[simp] theorem oEq_int : oEq (.int i) (.int j) k = k (.bool (decide (i = j))) := by
  have h1 : shp (.int i) := rfl
  have h2 : shp (.int j) := rfl
  have h3 : PyData.eqv (.int i) (.int j) = decide (i = j) := by simp [PyData.eqv]; rfl
  show ((shp _ ∧ shp _) ∧ k (.bool (PyData.eqv _ _))) = _
  rw [h3]
  exact propext ⟨fun h => h.2, fun h => ⟨⟨h1, h2⟩, h⟩⟩
@[simp] theorem oNe_int : oNe (.int i) (.int j) k = k (.bool (!decide (i = j))) := by
  have h1 : shp (.int i) := rfl
  have h2 : shp (.int j) := rfl
  have h3 : PyData.eqv (.int i) (.int j) = decide (i = j) := by simp [PyData.eqv]; rfl
  show ((shp _ ∧ shp _) ∧ k (.bool (!PyData.eqv _ _))) = _
  rw [h3]
  exact propext ⟨fun h => h.2, fun h => ⟨⟨h1, h2⟩, h⟩⟩
theorem ixD_nat {n : Nat} (h0 : 0 ≤ i) (h1 : i < n) : ixD n i = some i.toNat := by
  unfold ixD
  rw [if_pos h0, if_pos h1]
theorem oIx_of {xs : List PyData} (h0 : 0 ≤ i) (h1 : i < xs.length) (h : ∀ d, xs[i.toNat]? = some d → k d) : oIx (.list xs) (.int i) k := by
  show wO ((ixD xs.length i).bind fun j => xs[j]?) k
  rw [ixD_nat h0 h1]
  have hlt : i.toNat < xs.length := by omega
  simp only [Option.bind_some, List.getElem?_eq_getElem hlt, wO_some]
  exact h _ (List.getElem?_eq_getElem hlt)
theorem oIx_mem {xs : List PyData} (h0 : 0 ≤ i) (h1 : i < xs.length) (h : ∀ d ∈ xs, k d) : oIx (.list xs) (.int i) k := oIx_of h0 h1 fun d hd => h d (List.mem_of_getElem? hd)
theorem oIx_int (h0 : 0 ≤ i) (h1 : i < ns.length) (h : k (.int (ns.getD i.toNat 0))) : oIx (.list (ns.map .int)) (.int i) k := oIx_of h0 (by simpa using h1) fun d hd => by
  have hlt : i.toNat < ns.length := by omega
  rw [List.getElem?_map, List.getElem?_eq_getElem hlt] at hd
  simp at hd
  subst hd
  simpa [List.getD_eq_getElem?_getD, hlt] using h
@[simp] theorem oLen_scr : oLen [scrD ns] k = k (.int ns.length) := by
  show ((∃ ms : List Int, ns.map PyData.int = ms.map PyData.int) ∧ k (.int (ns.map PyData.int).length)) = _
  rw [List.length_map]
  exact propext ⟨fun h => h.2, fun h => ⟨⟨ns, rfl⟩, h⟩⟩
theorem oIx_scr (h0 : 0 ≤ i) (h1 : i < ns.length) (h : k (.int (ns.getD i.toNat 0))) : oIx (scrD ns) (.int i) k := by
  unfold scrD
  exact ⟨⟨ns, rfl⟩, oIx_int (ns := ns) h0 h1 h⟩
end
theorem big_of {i : Int} (h : -(2 ^ 62) < i) (h2 : i < 2 ^ 62) : i.natAbs < bigN := Nat.lt_of_lt_of_le (show i.natAbs < 2 ^ 62 by omega) (by decide +kernel)
theorem big_nat {n : Nat} (h : n < 2 ^ 62) : n < bigN := Nat.lt_trans h (by decide +kernel)
theorem oPow_int {i j : Int} {k : PyData → Prop} (h : 0 ≤ j ∧ j ≤ 100 ∧ i.natAbs < 2 ^ 64) (q : k (.int (i ^ j.toNat))) : oPow (.int i) (.int j) k := ⟨h, q⟩
/-! ### == of lists of ints, of lists of tuples of ints -/
section
variable {k : PyData → Prop}
theorem lay_ints (ns : List Int) : PyData.canLayAll0 (ns.map .int) = true ∧ PyData.depthAll (ns.map .int) = 0 := by
  induction ns with
  | nil => exact ⟨rfl, rfl⟩
  | cons n r ih => simp [PyData.canLayAll0, PyData.canLay0, PyData.depthAll, PyData.depth, ih]
theorem lay_tups (ts : List (List Int)) : PyData.canLayAll0 (ts.map intT) = true ∧ PyData.depthAll (ts.map intT) ≤ 1 := by
  induction ts with
  | nil => exact ⟨rfl, by simp [PyData.depthAll]⟩
  | cons n r ih => simp [PyData.canLayAll0, PyData.canLay0, PyData.depthAll, PyData.depth, lay_ints, ih]
theorem shp_intL (ns : List Int) : shp (.list (ns.map .int)) := by
  show SeqAt.shaped _ = true
  simp [SeqAt.shaped, PyData.canLay0, PyData.depth, lay_ints]
theorem shp_intT (ns : List Int) : shp (.tuple (ns.map .int)) := by
  show SeqAt.shaped _ = true
  simp [SeqAt.shaped, PyData.canLay0, PyData.depth, lay_ints]
theorem shp_tups (ts : List (List Int)) : shp (.list (ts.map intT)) := by
  show SeqAt.shaped _ = true
  have := (lay_tups ts).2
  simp [SeqAt.shaped, PyData.canLay0, PyData.depth, lay_tups]
  omega
theorem eqv_ints : ∀ a b : List Int, PyData.eqvAll (a.map .int) (b.map .int) = decide (a = b)
  | [], [] => by simp [PyData.eqvAll]
  | x :: a, [] => by simp [PyData.eqvAll]
  | [], y :: b => by simp [PyData.eqvAll]
  | x :: a, y :: b => by
    have ih := eqv_ints a b
    simp only [List.map_cons, PyData.eqvAll, PyData.eqv, ih, List.cons.injEq]
    by_cases h : x = y <;> simp [h]
theorem eqv_tups : ∀ a b : List (List Int), PyData.eqvAll (a.map intT) (b.map intT) = decide (a = b)
  | [], [] => by simp [PyData.eqvAll]
  | x :: a, [] => by simp [PyData.eqvAll]
  | [], y :: b => by simp [PyData.eqvAll]
  | x :: a, y :: b => by
    have ih := eqv_tups a b
    simp only [List.map_cons, PyData.eqvAll, PyData.eqv, ih, List.cons.injEq, eqv_ints]
    by_cases h : x = y <;> simp [h]
theorem oEq_sh {x y : PyData} {b : Bool} (h1 : shp x) (h2 : shp y) (h3 : PyData.eqv x y = b) : oEq x y k = k (.bool b) := by
  show ((shp _ ∧ shp _) ∧ k (.bool (PyData.eqv _ _))) = _
  rw [h3]
  exact propext ⟨fun h => h.2, fun h => ⟨⟨h1, h2⟩, h⟩⟩
theorem oNe_sh {x y : PyData} {b : Bool} (h1 : shp x) (h2 : shp y) (h3 : PyData.eqv x y = b) : oNe x y k = k (.bool (!b)) := by
  show ((shp _ ∧ shp _) ∧ k (.bool (!PyData.eqv _ _))) = _
  rw [h3]
  exact propext ⟨fun h => h.2, fun h => ⟨⟨h1, h2⟩, h⟩⟩
@[simp] theorem oEq_ints (a b : List Int) : oEq (.list (a.map .int)) (.list (b.map .int)) k = k (.bool (decide (a = b))) := oEq_sh (shp_intL a) (shp_intL b) (by simp [PyData.eqv, eqv_ints])
@[simp] theorem oNe_ints (a b : List Int) : oNe (.list (a.map .int)) (.list (b.map .int)) k = k (.bool (!decide (a = b))) := oNe_sh (shp_intL a) (shp_intL b) (by simp [PyData.eqv, eqv_ints])
@[simp] theorem oNe_ints0 (a : List Int) : oNe (.list (a.map .int)) (.list []) k = k (.bool (!decide (a = []))) := oNe_ints a []
@[simp] theorem oEq_ints0 (a : List Int) : oEq (.list (a.map .int)) (.list []) k = k (.bool (decide (a = []))) := oEq_ints a []
@[simp] theorem oEq_tups (a b : List (List Int)) : oEq (.list (a.map intT)) (.list (b.map intT)) k = k (.bool (decide (a = b))) := oEq_sh (shp_tups a) (shp_tups b) (by simp only [PyData.eqv, eqv_tups])
@[simp] theorem oNe_tups (a b : List (List Int)) : oNe (.list (a.map intT)) (.list (b.map intT)) k = k (.bool (!decide (a = b))) := oNe_sh (shp_tups a) (shp_tups b) (by simp only [PyData.eqv, eqv_tups])
@[simp] theorem oEq_tups0 (a : List (List Int)) : oEq (.list (a.map intT)) (.list []) k = k (.bool (decide (a = []))) := oEq_tups a []
@[simp] theorem oNe_tups0 (a : List (List Int)) : oNe (.list (a.map intT)) (.list []) k = k (.bool (!decide (a = []))) := oNe_tups a []
theorem oSorted_ints (a : List Int) {kL : List PyData → Prop} (h : ∀ ms : List Int, ms.Perm a → ms.Pairwise (· ≤ ·) → kL (ms.map .int)) : oSorted [.list (a.map .int)] kL := by
  show wO (intsOf (a.map .int)) _
  rw [intsOf_map]
  exact h
theorem cutD_to {α : Type} (xs : List α) {t : Int} (h : 0 ≤ t) : cutD xs none (some t) = xs.take t.toNat := by
  unfold cutD clampD
  simp [h]
theorem cutD_from {α : Type} (xs : List α) {t : Int} (h : 0 ≤ t) : cutD xs (some t) none = xs.drop t.toNat := by
  unfold cutD clampD
  simp [h]
  by_cases hl : t.toNat ≤ xs.length
  · rw [Nat.min_eq_left hl, List.take_of_length_le (by simp)]
  · rw [Nat.min_eq_right (by omega), List.drop_eq_nil_of_le (by omega)]
    simp
    omega
theorem range_map (n : Nat) : rangeD 0 (n : Int) = ((List.range n).map fun (i : Nat) => (i : Int)).map PyData.int := by
  simp [rangeD]
theorem map_tk (ns : List Int) (n : Nat) : (ns.map PyData.int).take n = (ns.take n).map PyData.int := by simp [List.map_take]
theorem map_dr (ns : List Int) (n : Nat) : (ns.map PyData.int).drop n = (ns.drop n).map PyData.int := by simp [List.map_drop]
end
/-- one statement after another, by what stands between -/
theorem seq_do {t u : TSD} {D : DEnds} {ρ : Env} (ρ' : Env) (h : ∀ k : Env → Prop, k ρ' → t { D with nx := k } ρ) (h2 : u D ρ') : sSeq t u D ρ := h _ h2
theorem sorted_eq {a b : List Int} (h1 : a.Pairwise (· ≤ ·)) (h2 : b.Pairwise (· ≤ ·)) (h : a.Perm b) : a = b := by
  induction a generalizing b with
  | nil => exact (List.nil_perm.mp h).symm
  | cons x a ih =>
    cases b with
    | nil => exact absurd (List.perm_nil.mp h) (by simp)
    | cons y b =>
      have e : x = y := by
        have m1 : x ∈ y :: b := h.mem_iff.mp List.mem_cons_self
        have m2 : y ∈ x :: a := h.mem_iff.mpr List.mem_cons_self
        rcases List.mem_cons.mp m1 with e | m1
        · exact e
        · rcases List.mem_cons.mp m2 with e | m2
          · exact e.symm
          · exact Int.le_antisymm ((List.pairwise_cons.mp h1).1 y m2) ((List.pairwise_cons.mp h2).1 x m1)
      subst e
      rw [ih (List.pairwise_cons.mp h1).2 (List.pairwise_cons.mp h2).2 (List.Perm.cons_inv h)]
@[simp] theorem mAppend_one {es : List PyData} {d : PyData} {k : PyData → List PyData → Prop} : mAppend es [d] k = (es.length < sizeLine ∧ k .none (es ++ [d])) := rfl
/-- an int function on data -/
def dI (f : Int → Int) : PyData → PyData
  | .int z => .int (f z)
  | d => d
@[simp] theorem dI_int (f : Int → Int) (z : Int) : dI f (.int z) = .int (f z) := rfl
theorem dI_map (f : Int → Int) (l : List Int) : (l.map PyData.int).map (dI f) = (l.map f).map PyData.int := by simp
theorem line_big {n : Nat} (h : n ≤ 100000) : n < sizeLine := by rw [sizeLine_eq]; omega
theorem seq_of {t u : TSD} {D : DEnds} {ρ : Env} (P : Env → Prop) (h : ∀ k : Env → Prop, (∀ ρ', P ρ' → k ρ') → t { D with nx := k } ρ) (h2 : ∀ ρ', P ρ' → u D ρ') : sSeq t u D ρ := h _ h2
theorem enum_get {ds : List PyData} {i : Nat} {x : PyData} (h : (enumD ds)[i]? = some x) : ∃ d, ds[i]? = some d ∧ x = .tuple [.int (i : Nat), d] := by
  unfold enumD at h
  rw [List.getElem?_map, List.getElem?_zipIdx] at h
  cases e : ds[i]? with
  | none => rw [e] at h; simp at h
  | some d =>
    rw [e] at h
    simp at h
    exact ⟨d, rfl, h.symm⟩
theorem enum_len (ds : List PyData) : (enumD ds).length = ds.length := by simp [enumD]
@[simp] theorem oMax2_int {i j : Int} {k : PyData → Prop} : oMax2 [.int i, .int j] k = k (.int (if j > i then j else i)) := rfl
@[simp] theorem oMin2_int {i j : Int} {k : PyData → Prop} : oMin2 [.int i, .int j] k = k (.int (if j < i then j else i)) := rfl
@[simp] theorem oInt_int {i : Int} {k : PyData → Prop} : oInt [.int i] k = k (.int i) := rfl
@[simp] theorem oInt_bool {b : Bool} {k : PyData → Prop} : oInt [.bool b] k = k (.int (if b then 1 else 0)) := rfl
@[simp] theorem oNotB_bool {a b : Bool} {k : PyData → Prop} : oNotB (.bool a) (.bool b) k = k (.bool (!decide (a = b))) := rfl
@[simp] theorem oIsB_bool {a b : Bool} {k : PyData → Prop} : oIsB (.bool a) (.bool b) k = k (.bool (decide (a = b))) := rfl
@[simp] theorem oNe_nil {k : PyData → Prop} : oNe (.list []) (.list []) k = k (.bool false) := by simpa using oNe_ints (k := k) [] []
@[simp] theorem oEq_nil {k : PyData → Prop} : oEq (.list []) (.list []) k = k (.bool true) := by simpa using oEq_ints (k := k) [] []
/-! ### which arguments are own -/
theorem own_nil {own : List Nat} {n : Nat} : ∀ (q : Nat) (s : Sl), ([] : List Sl)[q]? = some s → isOwn s = true → q + n ∈ own := fun q s h => by simp at h
theorem own_v {own : List Nat} {n : Nat} {d : PyData} {ss : List Sl} (h : ∀ (q : Nat) (s : Sl), ss[q]? = some s → isOwn s = true → q + (n + 1) ∈ own) : ∀ (q : Nat) (s : Sl), (Sl.val d :: ss)[q]? = some s → isOwn s = true → q + n ∈ own
  | 0, s, e, o => by simp at e; subst e; cases o
  | q + 1, s, e, o => by have := h q s (by simpa using e) o; rw [show q + 1 + n = q + (n + 1) by omega]; exact this
theorem own_o {own : List Nat} {n : Nat} {s0 : Sl} {ss : List Sl} (hn : n ∈ own) (h : ∀ (q : Nat) (s : Sl), ss[q]? = some s → isOwn s = true → q + (n + 1) ∈ own) : ∀ (q : Nat) (s : Sl), (s0 :: ss)[q]? = some s → isOwn s = true → q + n ∈ own
  | 0, s, e, o => by simpa using hn
  | q + 1, s, e, o => by have := h q s (by simpa using e) o; rw [show q + 1 + n = q + (n + 1) by omega]; exact this
theorem own_map {own : List Nat} {l : List PyData} : ∀ (q : Nat) (s : Sl), (l.map Sl.val)[q]? = some s → isOwn s = true → q ∈ own := fun q s h o => by
  rw [List.getElem?_map] at h
  cases e : l[q]? with
  | none => rw [e] at h; simp at h
  | some d => rw [e] at h; simp at h; subst h; cases o
end Dl

/-! Dz: the law's start and its end. -/
namespace Dl
open PySem PySem.Spec PyProof.Rows L2
/-- the heap of one object -/
def oneH (H : Hp) (a : Addr) : Hp := fun b => if b = a then (match H b with | some (.tbl _) => none | o => o) else none
theorem oneH_ex (H : Hp) (a : Addr) : Ex (oneH H a) H := fun b o e => by
  unfold oneH at e
  split at e
  · cases h : H b with
    | none => rw [h] at e; cases e
    | some u =>
      rw [h] at e
      cases u <;> first | exact e | cases e
  · cases e
theorem oneH_nt (H : Hp) (a : Addr) : ∀ b o, oneH H a b = some o → isTbl o = false := fun b o e => by
  unfold oneH at e
  split at e
  · cases h : H b with
    | none => rw [h] at e; cases e
    | some u =>
      rw [h] at e
      cases u <;> first | (cases e; done) | (cases e; rfl)
  · cases e
theorem oneH_sq {K : PySem.W.Frag} {H : Hp} {a : Addr} {xs : List V} (h : SqL K H a xs) : SqL K (oneH H a) a xs := by
  rcases h with h | h
  · refine .inl ?_
    rcases h with h | ⟨o, h⟩
    · exact .inl (by unfold oneH; rw [if_pos rfl, h])
    · exact .inr ⟨o, by unfold oneH; rw [if_pos rfl, h]⟩
  · exact .inr h
theorem sp_start {g : Cg} {S : Spec} {H : Hp} {a : Addr} {ns : List Int} (hs : SqL g.K H a (ns.map V.int)) (ht : LamX.Tabs g.T H) (h : ∀ (k : Ret → List Sl → Prop) (e : XV → List Sl → Prop), k (.d (.bool true)) [.val (scrD ns)] → S.run [.val (scrD ns)] k e) :
    spD g S [.ref a] H (fun v _ => v = .bl true) fun _ _ _ => False := by
  refine ⟨fun _ => none, oneH H a, [.val (scrD ns)], ⟨rfl, ⟨fun _ => [], fun i s hi => ?_, fun _ => List.nodup_nil, fun i j p hp => by simp at hp, fun i p hp => by simp at hp⟩, oneH_ex H a, (fun b o e => by cases e), fun _ _ => rfl, oneH_nt H a, (fun b o e => by cases e), ht, fun q hq => by simp at hq⟩, ?_⟩
  · match i, hi with
    | 0, hi =>
      simp at hi
      subst hi
      exact ⟨.ref a, rfl, .val (.scr (oneH_sq hs))⟩
    | i + 1, hi => simp at hi
  · refine h _ _ ?_
    intro _ v Hs' H' e r
    obtain ⟨_, dn⟩ := r
    cases dn
    rfl
theorem cx_false {P : Program} {w : World} {H : Hp} {s : Shared} {e : Value} {s' : Shared} (h : L2.CX P w [] H s (fun _ _ _ => False) e s') : False := by
  obtain ⟨_, _, _, _, _, _, _, _, _, _, _, _, z⟩ := h
  exact z
theorem walkD {l : PySem.W.OpenLaw} {n k : Nat} {q : Program} {loose : List Str} {XP : (Str → Option Value) → Heap → Prop} {YP : World → Heap → Prop} {d : DefRec} {K : Params → PySem.W.Frag}
    (hn : l.most = some n) (hn2 : n ≤ sizeLine) (hdf : d.params.defaults = []) (hr : Room k callerA) (hY : ∀ (w : World) (h : Heap), YP w h → (K w.params).In h)
    (F : ∀ (w : World) (mg : Str → Option Value) (fa : Addr) (h : Heap), YP w h → (K w.params).In h → h.Ns mainGlobals mg → mg d.name = some (.ref fa) → LamX.LawAtS l w (K w.params) (L2.CX l.prog w) k n "script" mg fa h) :
    PySem.W.WalkO q loose XP YP l.row.toRowW d [] (fun f vs => PySem.call f vs) :=
  LamX.walk_ofTs (CX := fun w => L2.CX l.prog w) hn hn2 hdf hr hY F fun w H s e s' h => cx_false h
end Dl

namespace L41
open PySem Dl
/-! ### what the defs compute -/
/-- data that isinstance can be asked of -/
def okI (d : PyData) : Prop := scrOf d = none
def isW : PyData → Bool
  | .int _ => true
  | _ => false
def isBt (d : PyData) (a b : Int) : Bool := match d with
  | .int i => decide (a ≤ i) && decide (i ≤ b)
  | _ => false
def S_is_whole : Dl.Spec := fS 1 (fun as => match as with | [d] => okI d | _ => False) (fun as => match as with | [d] => .bool (isW d) | _ => .none)
def S_is_between : Dl.Spec := fS 3 (fun as => match as with | [d, .int a, .int b] => okI d | _ => False) (fun as => match as with | [d, .int a, .int b] => .bool (isBt d a b) | _ => .none)
def S_need_width : Dl.Spec where
  A := PyData
  args := fun d => [.val d]
  pre := fun d => okI d
  out := fun d r os => isBt d 2 8 = true ∧ r = .d .none ∧ os = [.val d]
  exc := fun d x os => isBt d 2 8 = false ∧ x = { cls := "NoWidth" } ∧ os = [.val d]
@[simp] theorem S_nw_run {d : PyData} {k : Ret → List Sl → Prop} {e : XV → List Sl → Prop} : S_need_width.run [.val d] k e ↔ okI d ∧ (isBt d 2 8 = true → k (.d .none) [.val d]) ∧ (isBt d 2 8 = false → e { cls := "NoWidth" } [.val d]) := by
  constructor
  · rintro ⟨a, h1, h2, h3, h4⟩
    cases h1
    exact ⟨h2, fun h => h3 _ _ ⟨h, rfl, rfl⟩, fun h => h4 _ _ ⟨h, rfl, rfl⟩⟩
  · rintro ⟨h1, h2, h3⟩
    exact ⟨d, rfl, h1, fun r os ⟨a, b, c⟩ => by rw [b, c]; exact h2 a, fun x os ⟨a, b, c⟩ => by rw [b, c]; exact h3 a⟩
def S_first_take : Dl.Spec := fS 2 (fun as => match as with | [.int m, .int w] => 1 < w | _ => False) (fun as => match as with | [.int m, .int w] => .int (2 + (m - 2) % (w - 1)) | _ => .none)
def S__law_cell : Dl.Spec where
  A := List Int × Int
  args := fun p => [.val (scrD p.1), .val (.int p.2)]
  pre := fun p => 0 ≤ p.2
  out := fun p r os => (∃ z : Int, r = .d (.int z)) ∧ os = [.val (scrD p.1), .val (.int p.2)]
theorem scrD_inj {a b : List Int} (h : scrD a = scrD b) : a = b := by
  unfold scrD at h
  simp at h
  exact (List.map_inj_right (f := PyData.int) (fun x y e => by cases e; rfl)).mp h
@[simp] theorem S_cell_run {ns : List Int} {i : Int} {k : Ret → List Sl → Prop} {e : XV → List Sl → Prop} : S__law_cell.run [.val (scrD ns), .val (.int i)] k e ↔ 0 ≤ i ∧ ∀ z : Int, k (.d (.int z)) [.val (scrD ns), .val (.int i)] := by
  constructor
  · rintro ⟨⟨x, y⟩, h1, h2, h3, h4⟩
    simp [S__law_cell] at h1
    obtain ⟨h1, rfl⟩ := h1
    cases scrD_inj h1
    exact ⟨h2, fun z => h3 _ _ ⟨⟨z, rfl⟩, rfl⟩⟩
  · rintro ⟨h1, h2⟩
    exact ⟨(ns, i), rfl, h1, fun r os ⟨⟨z, a⟩, c⟩ => by rw [a, c]; exact h2 z, fun x os h => h.elim⟩
/-- ints in, an int of a kind out -/
def iS2 (pre : Int → Int → Prop) (out : Int → Int → Int → Prop) : Dl.Spec where
  A := Int × Int
  args := fun p => [.val (.int p.1), .val (.int p.2)]
  pre := fun p => pre p.1 p.2
  out := fun p r os => (∃ z : Int, r = .d (.int z) ∧ out p.1 p.2 z) ∧ os = [.val (.int p.1), .val (.int p.2)]
@[simp] theorem iS2_run {pre : Int → Int → Prop} {out : Int → Int → Int → Prop} {i j : Int} {k : Ret → List Sl → Prop} {e : XV → List Sl → Prop} : (iS2 pre out).run [.val (.int i), .val (.int j)] k e ↔ pre i j ∧ ∀ z : Int, out i j z → k (.d (.int z)) [.val (.int i), .val (.int j)] := by
  constructor
  · rintro ⟨⟨x, y⟩, h1, h2, h3, h4⟩
    simp [iS2] at h1
    obtain ⟨rfl, rfl⟩ := h1
    exact ⟨h2, fun z hz => h3 _ _ ⟨⟨z, rfl, hz⟩, rfl⟩⟩
  · rintro ⟨h1, h2⟩
    exact ⟨(i, j), rfl, h1, fun r os ⟨⟨z, a, b⟩, c⟩ => by rw [a, c]; exact h2 z b, fun x os h => h.elim⟩
theorem iS2_p {pre : Int → Int → Prop} {out : Int → Int → Int → Prop} {t : TSD} {n : Nat} (h : ∀ i j, pre i j → t (endsX [.val (.int i), .val (.int j)] (fun r os => (∃ z : Int, r = .d (.int z) ∧ out i j z) ∧ os = [.val (.int i), .val (.int j)]) (fun _ _ => False)) (startD n [.val (.int i), .val (.int j)])) :
    ∀ a, (iS2 pre out).pre a → t (bodyEnds (iS2 pre out) a) (startD n ((iS2 pre out).args a)) := fun a hp => h a.1 a.2 hp
def S__law_mix : Dl.Spec := iS2 (fun _ k => 0 ≤ k ∧ k ≤ 100) (fun _ _ z => 0 ≤ z ∧ z < 10 ^ 9)
def S__law_box : Dl.Spec where
  A := List Int × Int
  args := fun p => [.val (scrD p.1), .val (.int p.2)]
  pre := fun p => 0 ≤ p.2
  out := fun p r os => (∃ z : Int, r = .new (lstS [.int z])) ∧ os = [.val (scrD p.1), .val (.int p.2)]
@[simp] theorem S_box_run {ns : List Int} {i : Int} {k : Ret → List Sl → Prop} {e : XV → List Sl → Prop} : S__law_box.run [.val (scrD ns), .val (.int i)] k e ↔ 0 ≤ i ∧ ∀ z : Int, k (.new (lstS [.int z])) [.val (scrD ns), .val (.int i)] := by
  constructor
  · rintro ⟨⟨x, y⟩, h1, h2, h3, h4⟩
    simp [S__law_box] at h1
    obtain ⟨h1, rfl⟩ := h1
    cases scrD_inj h1
    exact ⟨h2, fun z => h3 _ _ ⟨⟨z, rfl⟩, rfl⟩⟩
  · rintro ⟨h1, h2⟩
    exact ⟨(ns, i), rfl, h1, fun r os ⟨⟨z, a⟩, c⟩ => by rw [a, c]; exact h2 z, fun x os h => h.elim⟩
def S__law_take : Dl.Spec where
  A := Int × Int
  args := fun p => [lstS [.int p.1], .val (.int p.2)]
  pre := fun p => 0 < p.2 ∧ p.2.natAbs < bigN
  out := fun p r os => r = .d (.int (p.1 % p.2)) ∧ os = [lstS [.int (p.1 / p.2)], .val (.int p.2)]
@[simp] theorem S_take_run {b m : Int} {k : Ret → List Sl → Prop} {e : XV → List Sl → Prop} : S__law_take.run [lstS [.int b], .val (.int m)] k e ↔ (0 < m ∧ m.natAbs < bigN) ∧ k (.d (.int (b % m))) [lstS [.int (b / m)], .val (.int m)] := by
  constructor
  · rintro ⟨⟨x, y⟩, h1, h2, h3, h4⟩
    simp [S__law_take, lstS] at h1
    obtain ⟨rfl, rfl⟩ := h1
    exact ⟨h2, h3 _ _ ⟨rfl, rfl⟩⟩
  · rintro ⟨h1, h2⟩
    exact ⟨(b, m), rfl, h1, fun r os ⟨a, c⟩ => by rw [a, c]; exact h2, fun x os h => h.elim⟩
def S__law_whole : Dl.Spec := S_is_whole
/-- a list of ints, its length from 1 to m -/
def S__law_lengths : Dl.Spec where
  A := Int × Int
  args := fun p => [lstS [.int p.1], .val (.int p.2)]
  pre := fun p => 0 < p.2 ∧ p.2 ≤ 1000
  out := fun p r os => ∃ (ls : List Int) (b : Int), 1 ≤ ls.length ∧ (ls.length : Int) ≤ p.2 ∧ (∀ x ∈ ls, 0 ≤ x) ∧ r = .d (intL ls) ∧ os = [lstS [.int b], .val (.int p.2)]
@[simp] theorem S_lengths_run {b m : Int} {k : Ret → List Sl → Prop} {e : XV → List Sl → Prop} : S__law_lengths.run [lstS [.int b], .val (.int m)] k e ↔ (0 < m ∧ m ≤ 1000) ∧ ∀ (ls : List Int) (b' : Int), 1 ≤ ls.length → (ls.length : Int) ≤ m → (∀ x ∈ ls, 0 ≤ x) → k (.d (intL ls)) [lstS [.int b'], .val (.int m)] := by
  constructor
  · rintro ⟨⟨x, y⟩, h1, h2, h3, h4⟩
    simp [S__law_lengths, lstS] at h1
    obtain ⟨rfl, rfl⟩ := h1
    exact ⟨h2, fun ls b' a1 a2 a5 => h3 _ _ ⟨ls, b', a1, a2, a5, rfl, rfl⟩⟩
  · rintro ⟨h1, h2⟩
    exact ⟨(b, m), rfl, h1, fun r os ⟨ls, b', a1, a2, a5, a3, a4⟩ => by rw [a3, a4]; exact h2 ls b' a1 a2 a5, fun x os h => h.elim⟩
def S__law_no_width : Dl.Spec where
  A := Int
  args := fun b => [lstS [.int b]]
  pre := fun _ => True
  out := fun _ r os => ∃ (d : PyData) (b : Int), okI d ∧ isBt d 2 8 = false ∧ r = .d d ∧ os = [lstS [.int b]]
@[simp] theorem S_nowidth_run {b : Int} {k : Ret → List Sl → Prop} {e : XV → List Sl → Prop} : S__law_no_width.run [lstS [.int b]] k e ↔ ∀ (d : PyData) (b' : Int), okI d → isBt d 2 8 = false → k (.d d) [lstS [.int b']] := by
  constructor
  · rintro ⟨x, h1, h2, h3, h4⟩
    simp [S__law_no_width, lstS] at h1
    exact fun d b' a1 a2 => h3 _ _ ⟨d, b', a1, a2, rfl, rfl⟩
  · intro h2
    exact ⟨b, rfl, True.intro, fun r os ⟨d, b', a1, a2, a3, a4⟩ => by rw [a3, a4]; exact h2 d b' a1 a2, fun x os h => h.elim⟩
def S__law_first_take : Dl.Spec := iS2 (fun _ w => 2 ≤ w) (fun m w z => z = 2 + (m - 2) % (w - 1))
/-! ### goings -/
def sz (sizes : List Int) (z : Int) : Int := sizes.getD z.toNat 0
def takeF (w : Int) (first : Bool) (n : Nat) : Int := if first then 2 + ((n : Int) - 2) % (w - 1) else w
def isort (ns : List Int) : List Int := ns.mergeSort fun a b => decide (a ≤ b)
def srt (sizes there : List Int) : List Int := there.mergeSort (leK fun z => (sz sizes z, z))
def goL (w : Int) : Nat → Bool → List Int → List Int → List (List Int)
  | 0, _, _, _ => []
  | f + 1, first, sizes, there => if 1 < there.length then
      isort ((srt sizes there).take (takeF w first there.length).toNat) :: goL w f false (sizes ++ [(((srt sizes there).take (takeF w first there.length).toNat).map (sz sizes)).sum]) ((srt sizes there).drop (takeF w first there.length).toNat ++ [(sizes.length : Int)])
    else []
def ups (n : Nat) : List Int := (List.range n).map fun (i : Nat) => (i : Int)
def goF (w : Int) (ls : List Int) : List (List Int) := goL w ls.length true ls (ups ls.length)
def wf (sizes there : List Int) : Prop := there.Nodup ∧ ∀ z ∈ there, 0 ≤ z ∧ z < sizes.length
/-- groups that may be taken, one after the other -/
inductive Goes (w : Int) : Bool → List Int → List Int → List (List Int) → Prop
  | done {first : Bool} {sizes there : List Int} : there.length = 1 → Goes w first sizes there []
  | step {first : Bool} {sizes there g : List Int} {gs : List (List Int)} : 2 ≤ there.length → (g.length : Int) = takeF w first there.length → g.Nodup → (∀ z ∈ g, z ∈ there) → (∀ a ∈ g, ∀ b ∈ there, b ∉ g → sz sizes a ≤ sz sizes b) →
      Goes w false (sizes ++ [(g.map (sz sizes)).sum]) (there.filter (fun z => !decide (z ∈ g)) ++ [(sizes.length : Int)]) gs → Goes w first sizes there (g :: gs)
/-- lists of ints, a width -/
def gArgs (ls : List Int) (d : PyData) : List Sl := [.val (intL ls), .val d]
def S_going : Dl.Spec where
  A := List Int × PyData
  args := fun p => [.val (intL p.1), .val p.2]
  pre := fun p => okI p.2 ∧ p.1.length ≤ 1000
  out := fun p r os => ∃ w : Int, p.2 = .int w ∧ 2 ≤ w ∧ w ≤ 8 ∧ r = .new (lstS ((goF w p.1).map intT)) ∧ os = [.val (intL p.1), .val p.2]
  exc := fun p x os => isBt p.2 2 8 = false ∧ x = { cls := "NoWidth" } ∧ os = [.val (intL p.1), .val p.2]
theorem intL_inj {a b : List Int} (h : a.map PyData.int = b.map PyData.int) : a = b := (List.map_inj_right (f := PyData.int) (fun x y e => by cases e; rfl)).mp h
@[simp] theorem S_going_run {ls : List Int} {d : PyData} {k : Ret → List Sl → Prop} {e : XV → List Sl → Prop} : S_going.run [.val (.list (ls.map .int)), .val d] k e ↔ (okI d ∧ ls.length ≤ 1000) ∧ (∀ w : Int, d = .int w → 2 ≤ w → w ≤ 8 → k (.new (lstS ((goF w ls).map intT))) [.val (intL ls), .val d]) ∧ (isBt d 2 8 = false → e { cls := "NoWidth" } [.val (intL ls), .val d]) := by
  constructor
  · rintro ⟨⟨x, y⟩, h1, h2, h3, h4⟩
    simp [S_going] at h1
    obtain ⟨h1, rfl⟩ := h1
    cases intL_inj h1
    exact ⟨h2, fun w a b c => h3 _ _ ⟨w, a, b, c, rfl, rfl⟩, fun h => h4 _ _ ⟨h, rfl, rfl⟩⟩
  · rintro ⟨h1, h2, h3⟩
    exact ⟨(ls, d), rfl, h1, fun r os ⟨w, a, b, c, e1, e2⟩ => by rw [e1, e2]; exact h2 w a b c, fun x os ⟨a, b, c⟩ => by rw [b, c]; exact h3 a⟩
structure GA where
  g : List Int
  sizes : List Int
  there : List Int
  take : Int
def GA.ok (p : GA) : Prop := (p.g.length : Int) = p.take ∧ p.g.Nodup ∧ (∀ z ∈ p.g, z ∈ p.there) ∧ (∀ a ∈ p.g, ∀ b ∈ p.there, b ∉ p.g → sz p.sizes a ≤ sz p.sizes b) ∧ wf p.sizes p.there ∧ 1 ≤ p.g.length ∧ p.sizes.length ≤ 100000 ∧ p.there.length ≤ 100000 ∧ p.g.length ≤ 4000
def S_goes : Dl.Spec where
  A := GA
  args := fun p => [.val (intT p.g), .val (intL p.sizes), .val (intL p.there), .val (.int p.take)]
  pre := GA.ok
  out := fun p r os => r = .d (.bool true) ∧ os = [.val (intT p.g), .val (intL p.sizes), .val (intL p.there), .val (.int p.take)]
@[simp] theorem S_goes_run {g sizes there : List Int} {take : Int} {k : Ret → List Sl → Prop} {e : XV → List Sl → Prop} : S_goes.run [.val (.tuple (g.map .int)), .val (.list (sizes.map .int)), .val (.list (there.map .int)), .val (.int take)] k e ↔ GA.ok ⟨g, sizes, there, take⟩ ∧ k (.d (.bool true)) [.val (intT g), .val (intL sizes), .val (intL there), .val (.int take)] := by
  constructor
  · rintro ⟨⟨g', s', t', k'⟩, h1, h2, h3, h4⟩
    simp [S_goes] at h1
    obtain ⟨a, b, c, rfl⟩ := h1
    cases intL_inj a; cases intL_inj b; cases intL_inj c
    exact ⟨h2, h3 _ _ ⟨rfl, rfl⟩⟩
  · rintro ⟨h1, h2⟩
    exact ⟨⟨g, sizes, there, take⟩, rfl, h1, fun r os ⟨a, b⟩ => by rw [a, b]; exact h2, fun x os h => h.elim⟩
theorem intT_inj {a b : List (List Int)} (h : a.map intT = b.map intT) : a = b := (List.map_inj_right (f := intT) (fun x y e => by simp at e; exact intL_inj e)).mp h
structure IA where
  gs : List (List Int)
  ls : List Int
  w : PyData
def IA.ok (p : IA) : Prop := okI p.w ∧ p.ls.length ≤ 1000 ∧ p.gs.length ≤ 1000 ∧ ∀ w : Int, p.w = .int w → 2 ≤ w → w ≤ 8 → Goes w true p.ls (ups p.ls.length) p.gs
def S_is_going : Dl.Spec where
  A := IA
  args := fun p => [.val (.list (p.gs.map intT)), .val (intL p.ls), .val p.w]
  pre := IA.ok
  out := fun p r os => isBt p.w 2 8 = true ∧ r = .d (.bool true) ∧ os = [.val (.list (p.gs.map intT)), .val (intL p.ls), .val p.w]
  exc := fun p x os => isBt p.w 2 8 = false ∧ x = { cls := "NoWidth" } ∧ os = [.val (.list (p.gs.map intT)), .val (intL p.ls), .val p.w]
@[simp] theorem S_is_going_run {gs : List (List Int)} {ls : List Int} {d : PyData} {k : Ret → List Sl → Prop} {e : XV → List Sl → Prop} : S_is_going.run [.val (.list (gs.map intT)), .val (.list (ls.map .int)), .val d] k e ↔ IA.ok ⟨gs, ls, d⟩ ∧ (isBt d 2 8 = true → k (.d (.bool true)) [.val (.list (gs.map intT)), .val (intL ls), .val d]) ∧ (isBt d 2 8 = false → e { cls := "NoWidth" } [.val (.list (gs.map intT)), .val (intL ls), .val d]) := by
  constructor
  · rintro ⟨⟨g', s', t'⟩, h1, h2, h3, h4⟩
    simp only [S_is_going, List.cons.injEq, Sl.val.injEq, PyData.list.injEq] at h1
    obtain ⟨a, b, rfl, _⟩ := h1
    cases intT_inj a; cases intL_inj b
    exact ⟨h2, fun h => h3 _ _ ⟨h, rfl, rfl⟩, fun h => h4 _ _ ⟨h, rfl, rfl⟩⟩
  · rintro ⟨h1, h2, h3⟩
    exact ⟨⟨gs, ls, d⟩, rfl, h1, fun r os ⟨c, a, b⟩ => by rw [a, b]; exact h2 c, fun x os ⟨c, a, b⟩ => by rw [a, b]; exact h3 c⟩
/-- refused -/
def badS : Dl.Spec where
  A := List Int × PyData
  args := fun p => [.val (intL p.1), .val p.2]
  pre := fun p => okI p.2 ∧ p.1.length ≤ 1000 ∧ isBt p.2 2 8 = false
  out := fun _ _ _ => False
  exc := fun p x os => x = { cls := "NoWidth" } ∧ os = [.val (intL p.1), .val p.2]
@[simp] theorem badS_run {ls : List Int} {d : PyData} {k : Ret → List Sl → Prop} {e : XV → List Sl → Prop} : badS.run [.val (.list (ls.map .int)), .val d] k e ↔ (okI d ∧ ls.length ≤ 1000 ∧ isBt d 2 8 = false) ∧ e { cls := "NoWidth" } [.val (intL ls), .val d] := by
  constructor
  · rintro ⟨⟨x, y⟩, h1, h2, h3, h4⟩
    simp [badS] at h1
    obtain ⟨h1, rfl⟩ := h1
    cases intL_inj h1
    exact ⟨h2, h4 _ _ ⟨rfl, rfl⟩⟩
  · rintro ⟨h1, h2⟩
    exact ⟨(ls, d), rfl, h1, fun r os h => h.elim, fun x os ⟨a, b⟩ => by rw [a, b]; exact h2⟩
def S_least_moved : Dl.Spec := badS
def S_least_plan : Dl.Spec := badS
structure LA where
  gs : List (List Int)
  ls : List Int
  w : Int
def LA.ok (p : LA) : Prop := (∀ x ∈ p.ls, 0 ≤ x) ∧ p.ls.length ≤ 1000 ∧ p.gs.length ≤ 1000 ∧ 2 ≤ p.w ∧ p.w ≤ 8 ∧ Goes p.w true p.ls (ups p.ls.length) p.gs
def S__law_is_going : Dl.Spec where
  A := LA
  args := fun p => [.val (.list (p.gs.map intT)), .val (intL p.ls), .val (.int p.w)]
  pre := LA.ok
  out := fun p r os => r = .d (.bool true) ∧ os = [.val (.list (p.gs.map intT)), .val (intL p.ls), .val (.int p.w)]
@[simp] theorem S__law_is_going_run {gs : List (List Int)} {ls : List Int} {w : Int} {k : Ret → List Sl → Prop} {e : XV → List Sl → Prop} : S__law_is_going.run [.val (.list (gs.map intT)), .val (.list (ls.map .int)), .val (.int w)] k e ↔ LA.ok ⟨gs, ls, w⟩ ∧ k (.d (.bool true)) [.val (.list (gs.map intT)), .val (intL ls), .val (.int w)] := by
  constructor
  · rintro ⟨⟨g', s', t'⟩, h1, h2, h3, h4⟩
    simp only [S__law_is_going, List.cons.injEq, Sl.val.injEq, PyData.list.injEq, PyData.int.injEq] at h1
    obtain ⟨a, b, rfl, _⟩ := h1
    cases intT_inj a; cases intL_inj b
    exact ⟨h2, h3 _ _ ⟨rfl, rfl⟩⟩
  · rintro ⟨h1, h2⟩
    exact ⟨⟨gs, ls, w⟩, rfl, h1, fun r os ⟨a, b⟩ => by rw [a, b]; exact h2, fun x os h => h.elim⟩
def S__law_refused : Dl.Spec where
  A := Int × List Int × PyData
  args := fun p => [.val (.int p.1), .val (intL p.2.1), .val p.2.2]
  pre := fun p => okI p.2.2 ∧ p.2.1.length ≤ 1000 ∧ isBt p.2.2 2 8 = false
  out := fun p r os => r = .d (.bool true) ∧ os = [.val (.int p.1), .val (intL p.2.1), .val p.2.2]
@[simp] theorem S_refused_run {way : Int} {ls : List Int} {d : PyData} {k : Ret → List Sl → Prop} {e : XV → List Sl → Prop} : S__law_refused.run [.val (.int way), .val (.list (ls.map .int)), .val d] k e ↔ (okI d ∧ ls.length ≤ 1000 ∧ isBt d 2 8 = false) ∧ k (.d (.bool true)) [.val (.int way), .val (intL ls), .val d] := by
  constructor
  · rintro ⟨⟨x, y, z⟩, h1, h2, h3, h4⟩
    simp [S__law_refused] at h1
    obtain ⟨rfl, h1, rfl⟩ := h1
    cases intL_inj h1
    exact ⟨h2, h3 _ _ ⟨rfl, rfl⟩⟩
  · rintro ⟨h1, h2⟩
    exact ⟨(way, ls, d), rfl, h1, fun r os ⟨a, b⟩ => by rw [a, b]; exact h2, fun x os h => h.elim⟩
def S_law : Dl.Spec where
  A := List Int
  args := fun ns => [.val (scrD ns)]
  pre := fun _ => True
  out := fun ns r os => r = .d (.bool true) ∧ os = [.val (scrD ns)]
/-! ### classes -/
def catch_PourError : String → Bool := fun n => n == "NoWidth"
def sub_NoWidth : String → Bool := fun n => n == "NoWidth"
def sub_ValueError : String → Bool := fun _ => true
def sub_NoRoom : String → Bool := fun n => n == "NoRoom"
end L41

namespace L41
open PySem Dl
def t_is_whole : TSD := (sRet (eAnd (e1 (oIsi "int") (eV 0)) (eNot (e1 (oIsi "bool") (eV 0)))))

def t_is_between : TSD := (sRet (eAnd (eCall S_is_whole [false] (aC (eV 0) aN)) (eCh oLe oLe (eV 1) (eV 0) (eV 2))))

def t_need_width : TSD := (sIf (tNot (tV (eCall S_is_between [false, false, false] (aC (eV 0) (aC (eC (.int 2)) (aC (eC (.int 8)) aN)))))) (sRaise { cls := "NoWidth" }) sNext)

def t_first_take : TSD := (sRet (e2 oAdd (eC (.int 2)) (e2 oMod (e2 oSub (eV 0) (eC (.int 2))) (e2 oSub (eV 1) (eC (.int 1))))))

def t_going : TSD := (sSeq (sDrop (eCall S_need_width [false] (aC (eV 1) aN)))
    (sSeq (sOwn 2 (nF oList (aC (eV 0) aN)))
    (sSeq (sSet (.n 3) (eN (nRg1 (eF oLen (aC (eV 2) aN)))))
    (sSeq (sOwn 4 (nLst aN))
    (sSeq (sWhile (tV (e2 oGt (eF oLen (aC (eV 3) aN)) (eC (.int 1)))) (sSeq (sSet (.n 5) (eV 1))
    (sSeq (sIf (tV (e2 oEq (eV 4) (eN (nLst aN)))) (sSet (.n 5) (eCall S_first_take [false, false] (aC (eF oLen (aC (eV 3) aN)) (aC (eV 1) aN)))) sNext)
    (sSeq (sSet (.n 3) (eN (nSortK (capIx 2) (eV 3))))
    (sSeq (sDrop (eM 4 mAppend (aC (eF oTuple (aC (eN (nF oSorted (aC (eN (nSl (eV 3) oNo (oAt (eV 5)))) aN))) aN)) aN)))
    (sSeq (sDrop (eM 2 mAppend (aC (eF oSum (aC (eN (nLc (wList (eN (nSl (eV 3) oNo (oAt (eV 5))))) (.n 6) tTrue (e2 oIx (eV 2) (eV 6)) [6])) aN)) aN)))
    (sSet (.n 3) (e2 oAdd (eN (nSl (eV 3) (oAt (eV 5)) oNo)) (eN (nLst (aC (e2 oSub (eF oLen (aC (eV 2) aN)) (eC (.int 1))) aN)))))))))))
    (sRet (eV 4)))))))

def t_goes : TSD := (sSeq (sIf (tOr (tNot (tV (e1 (oIsi "tuple") (eV 0)))) (tOr (tV (e2 oNe (eF oLen (aC (eV 0) aN)) (eV 3))) (tNot (tV (eF oAll (aC (eN (nLc (wTup (eV 0)) (.n 4) tTrue (eCall S_is_whole [false] (aC (eV 4) aN)) [4])) aN)))))) (sRet (eC (.bool false))) sNext)
    (sSeq (sIf (tOr (tV (e2 oNe (e1 oLenSet (eV 0)) (eV 3))) (tNot (tV (eF oAll (aC (eN (nLc (wTup (eV 0)) (.n 4) tTrue (e2 oIn (eV 4) (eV 2)) [4])) aN))))) (sRet (eC (.bool false))) sNext)
    (sSeq (sSet (.n 5) (eF oMax (aC (eN (nLc (wTup (eV 0)) (.n 4) tTrue (e2 oIx (eV 1) (eV 4)) [4])) aN)))
    (sRet (eF oAll (aC (eN (nLc (wList (eV 2)) (.n 4) (tV (e2 oNotIn (eV 4) (eV 0))) (e2 oGe (e2 oIx (eV 1) (eV 4)) (eV 5)) [4])) aN))))))

def t_is_going : TSD := (sSeq (sDrop (eCall S_need_width [false] (aC (eV 2) aN)))
    (sSeq (sIf (tNot (tV (e1 (oIsi "list") (eV 0)))) (sRet (eC (.bool false))) sNext)
    (sSeq (sOwn 3 (nF oList (aC (eV 1) aN)))
    (sSeq (sSet (.n 4) (eN (nRg1 (eF oLen (aC (eV 3) aN)))))
    (sSeq (sFor (wEnum (aC (eV 0) aN)) (.t [5, 6]) (sSeq (sSet (.n 7) (eV 2))
    (sSeq (sIf (tV (e2 oEq (eV 5) (eC (.int 0)))) (sSet (.n 7) (eCall S_first_take [false, false] (aC (eF oMax2 (aC (eC (.int 2)) (aC (eF oLen (aC (eV 4) aN)) aN))) (aC (eV 2) aN)))) sNext)
    (sSeq (sIf (tOr (tV (e2 oLt (eF oLen (aC (eV 4) aN)) (eC (.int 2)))) (tNot (tV (eCall S_goes [false, false, false, false] (aC (eV 6) (aC (eV 3) (aC (eV 4) (aC (eV 7) aN)))))))) (sRet (eC (.bool false))) sNext)
    (sSeq (sDrop (eM 3 mAppend (aC (eF oSum (aC (eN (nLc (wTup (eV 6)) (.n 8) tTrue (e2 oIx (eV 3) (eV 8)) [8])) aN)) aN)))
    (sSet (.n 4) (e2 oAdd (eN (nLc (wList (eV 4)) (.n 8) (tV (e2 oNotIn (eV 8) (eV 6))) (eV 8) [8])) (eN (nLst (aC (e2 oSub (eF oLen (aC (eV 3) aN)) (eC (.int 1))) aN))))))))))
    (sRet (e2 oEq (eF oLen (aC (eV 4) aN)) (eC (.int 1)))))))))

def t_least_moved : TSD := (sSeq (sOwn 2 (nF oList (aC (eV 0) aN)))
    (sSeq (sSet (.n 3) (eC (.int 0)))
    (sSeq (sFor (wList (eN (nCall S_going [false, false] (aC (eV 0) (aC (eV 1) aN))))) (.n 4) (sSeq (sDrop (eM 2 mAppend (aC (eF oSum (aC (eN (nLc (wTup (eV 4)) (.n 5) tTrue (e2 oIx (eV 2) (eV 5)) [5])) aN)) aN)))
    (sSet (.n 3) (e2 oAdd (eV 3) (e2 oIx (eV 2) (e1 oNeg (eC (.int 1))))))))
    (sRet (eV 3)))))

def t_least_plan : TSD := (sSeq (sOwn 2 (nRg1 (eF oLen (aC (eV 0) aN))))
    (sSeq (sFor (wList (eN (nCall S_going [false, false] (aC (eV 0) (aC (eV 1) aN))))) (.n 3) (sDrop (eM 2 mAppend (aC (eF oTuple (aC (eN (nLc (wTup (eV 3)) (.n 4) tTrue (e2 oIx (eV 2) (eV 4)) [4])) aN)) aN))))
    (sRet (e2 oIx (eV 2) (e1 oNeg (eC (.int 1)))))))

def t__law_cell : TSD := (sSeq (sIf (tV (e2 oLt (eV 1) (eF oLen (aC (eV 0) aN)))) (sRet (e2 oIx (eV 0) (eV 1))) sNext)
    (sRet (eC (.int 0))))

def t__law_mix : TSD := (sSeq (sSet (.n 2) (eN (nLst (aC (eC (.int 48271)) (aC (eC (.int 69621)) (aC (eC (.int 16807)) (aC (eC (.int 39373)) (aC (eC (.int 30269)) (aC (eC (.int 40014)) (aC (eC (.int 40692)) (aC (eC (.int 50021)) (aC (eC (.int 61687)) (aC (eC (.int 71993)) (aC (eC (.int 83869)) (aC (eC (.int 95561)) (aC (eC (.int 30307)) aN))))))))))))))))
    (sSeq (sSet (.n 3) (e2 oAdd (e2 oAdd (e2 oMul (e2 oAdd (e2 oMod (eV 0) (eC (.int 2147483647))) (eC (.int 12345))) (e2 oIx (eV 2) (e2 oMod (eV 1) (eC (.int 13))))) (e2 oMul (eC (.int 977)) (eV 1))) (e2 oMul (eC (.int 7919)) (e2 oDiv (eV 1) (eC (.int 13))))))
    (sSeq (sSet (.n 3) (e2 oMod (eV 3) (eC (.int 1000000007))))
    (sRet (e2 oDiv (e2 oMod (e2 oAdd (e2 oMul (eV 3) (eV 3)) (e2 oMul (eC (.int 48271)) (eV 1))) (eC (.int 1000000007))) (eC (.int 7)))))))

def t__law_box : TSD := (sSeq (sSet (.n 2) (eCall S__law_cell [false, false] (aC (eV 0) (aC (eV 1) aN))))
    (sSeq (sIf (tV (e2 oEq (e2 oMod (eV 2) (eC (.int 2))) (eC (.int 0)))) (sRetN (nLst (aC (e2 oDiv (eF oAbs (aC (eV 2) aN)) (eC (.int 2))) aN))) sNext)
    (sSeq (sSet (.n 3) (eC (.int 0)))
    (sSeq (sFor (wRange1 (aC (eC (.int 40)) aN)) (.n 4) (sSet (.n 3) (e2 oAdd (e2 oMul (eV 3) (eC (.int 142857143))) (eCall S__law_mix [false, false] (aC (eV 2) (aC (eV 4) aN))))))
    (sRetN (nLst (aC (eV 3) aN)))))))

def t__law_take : TSD := (sSeq (sSet (.t [2, 3]) (eF oDivmod (aC (e2 oIx (eV 0) (eC (.int 0))) (aC (eV 1) aN))))
    (sSeq (sPut 0 (eC (.int 0)) (eV 2))
    (sRet (eV 3))))

def t__law_whole : TSD := (sRet (eAnd (e1 (oIsi "int") (eV 0)) (eNot (e1 (oIsi "bool") (eV 0)))))

def t__law_lengths : TSD := (sSeq (sSet (.n 2) (e2 oIx (eN (nLst (aC (eC (.int 4)) (aC (eC (.int 10)) (aC (eC (.int 100)) (aC (e2 oPow (eC (.int 10)) (eC (.int 6))) aN)))))) (eCall S__law_take [true, false] (aC (eV 0) (aC (eC (.int 4)) aN)))))
    (sRet (eN (nLc (wRange1 (aC (e2 oAdd (eC (.int 1)) (eCall S__law_take [true, false] (aC (eV 0) (aC (eV 1) aN)))) aN)) (.n 3) tTrue (eCall S__law_take [true, false] (aC (eV 0) (aC (eV 2) aN))) [3]))))

def t__law_no_width : TSD := (sSeq (sSet (.n 1) (eN (nLst (aC (eC (.int 0)) (aC (eC (.int 1)) (aC (eC (.int 9)) (aC (e1 oNeg (eC (.int 1))) (aC (eC .none) (aC (eC (.bool true)) (aC (eC (.bool false)) (aC (eC (.str "3")) (aC (eTup (aC (eC (.int 3)) aN)) (aC (eN (nLst (aC (eC (.int 3)) aN))) (aC (e2 oPow (eC (.int 10)) (eC (.int 39))) (aC (eC (.dict [(.str "a", .int 3)])) aN)))))))))))))))
    (sRet (e2 oIx (eV 1) (eCall S__law_take [true, false] (aC (eV 0) (aC (eC (.int 12)) aN))))))

def t__law_first_take : TSD := (sSeq (sSet (.n 2) (eC (.int 2)))
    (sSeq (sWhile (tV (e2 oGt (e2 oMod (e2 oSub (eV 0) (eV 2)) (e2 oSub (eV 1) (eC (.int 1)))) (eC (.int 0)))) (sSet (.n 2) (e2 oAdd (eV 2) (eC (.int 1)))))
    (sRet (eV 2))))

def t__law_is_going : TSD := (sSeq (sIf (tNot (tV (e1 (oIsi "list") (eV 0)))) (sRet (eC (.bool false))) sNext)
    (sSeq (sOwn 3 (nF oList (aC (eV 1) aN)))
    (sSeq (sSet (.n 4) (eN (nRg1 (eF oLen (aC (eV 3) aN)))))
    (sSeq (sFor (wEnum (aC (eV 0) aN)) (.t [5, 6]) (sSeq (sIf (tOr (tV (e2 oLt (eF oLen (aC (eV 4) aN)) (eC (.int 2)))) (tOr (tNot (tV (e1 (oIsi "tuple") (eV 6)))) (tNot (tV (eF oAll (aC (eN (nLc (wTup (eV 6)) (.n 7) tTrue (eCall S__law_whole [false] (aC (eV 7) aN)) [7])) aN)))))) (sRet (eC (.bool false))) sNext)
    (sSeq (sIf (tOr (tV (e2 oNe (eF oLen (aC (eV 6) aN)) (e2 oIx (eN (nLst (aC (eV 2) (aC (eCall S__law_first_take [false, false] (aC (eF oLen (aC (eV 4) aN)) (aC (eV 2) aN))) aN)))) (eF oInt (aC (e2 oEq (eV 5) (eC (.int 0))) aN))))) (tV (e2 oNe (e1 oLenSet (eV 6)) (eF oLen (aC (eV 6) aN))))) (sRet (eC (.bool false))) sNext)
    (sSeq (sSet (.n 8) (eN (nLc (wList (eV 4)) (.n 7) (tV (e2 oNotIn (eV 7) (eV 6))) (eV 7) [7])))
    (sSeq (sSet (.n 9) (eF oMax (aC (e2 oAdd (eN (nLc (wTup (eV 6)) (.n 7) (tV (e2 oIn (eV 7) (eV 4))) (e2 oIx (eV 3) (eV 7)) [7])) (eN (nLst (aC (eC (.int 0)) aN)))) aN)))
    (sSeq (sIf (tOr (tV (e2 oNe (e2 oAdd (eF oLen (aC (eV 8) aN)) (eF oLen (aC (eV 6) aN))) (eF oLen (aC (eV 4) aN)))) (tV (e2 oNe (eN (nLc (wList (eV 8)) (.n 7) (tV (e2 oLt (e2 oIx (eV 3) (eV 7)) (eV 9))) (eV 7) [7])) (eN (nLst aN))))) (sRet (eC (.bool false))) sNext)
    (sSeq (sDrop (eM 3 mAppend (aC (eF oSum (aC (eN (nLc (wTup (eV 6)) (.n 7) tTrue (e2 oIx (eV 3) (eV 7)) [7])) aN)) aN)))
    (sSet (.n 4) (e2 oAdd (eV 8) (eN (nLst (aC (e2 oSub (eF oLen (aC (eV 3) aN)) (eC (.int 1))) aN))))))))))))
    (sRet (e2 oEq (eF oLen (aC (eV 4) aN)) (eC (.int 1))))))))

def t__law_refused : TSD := (sSeq (sTry catch_PourError 3 (sIf (tV (e2 oEq (eV 0) (eC (.int 0)))) (sDrop (eN (nCall S_going [false, false] (aC (eV 1) (aC (eV 2) aN))))) (sIf (tV (e2 oEq (eV 0) (eC (.int 1)))) (sDrop (eCall S_is_going [false, false, false] (aC (eN (nLst aN)) (aC (eV 1) (aC (eV 2) aN))))) (sIf (tV (e2 oEq (eV 0) (eC (.int 2)))) (sDrop (eCall S_least_moved [false, false] (aC (eV 1) (aC (eV 2) aN)))) (sDrop (eCall S_least_plan [false, false] (aC (eV 1) (aC (eV 2) aN))))))) (fun x => (sRet (eAnd (eIsE (sub_NoWidth) x) (eAnd (eIsE (sub_ValueError) x) (eNot (eIsE (sub_NoRoom) x)))))))
    (sRet (eC (.bool false))))

def t_law : TSD := (sSeq (sFor (wRange1 (aC (eF oMax2 (aC (eC (.int 1)) (aC (eF oMin2 (aC (eF oLen (aC (eV 0) aN)) (aC (eC (.int 5)) aN))) aN))) aN)) (.n 1) (sSeq (sOwn 2 (nCall S__law_box [false, false] (aC (eV 0) (aC (eV 1) aN))))
    (sSeq (sSet (.n 3) (eCall S__law_lengths [true, false] (aC (eV 2) (aC (e2 oIx (eN (nLst (aC (eC (.int 9)) (aC (eC (.int 9)) (aC (eC (.int 9)) (aC (eC (.int 9)) (aC (eC (.int 9)) (aC (eC (.int 9)) (aC (eC (.int 9)) (aC (eC (.int 60)) aN)))))))))) (eCall S__law_take [true, false] (aC (eV 2) (aC (eC (.int 8)) aN)))) aN))))
    (sSeq (sSet (.n 4) (e2 oAdd (eC (.int 2)) (eCall S__law_take [true, false] (aC (eV 2) (aC (eC (.int 7)) aN)))))
    (sSeq (sSet (.n 5) (eN (nF oList (aC (eV 3) aN))))
    (sSeq (sOwn 6 (nCall S_going [false, false] (aC (eV 5) (aC (eV 4) aN))))
    (sSeq (sIf (tOr (tNot (tV (eCall S__law_is_going [false, false, false] (aC (eV 6) (aC (eV 3) (aC (eV 4) aN)))))) (tV (e2 oNe (eV 5) (eV 3)))) (sRet (eC (.bool false))) sNext)
    (sSeq (sIf (tV (e2 oNotB (eCall S_is_going [false, false, false] (aC (eV 6) (aC (eV 5) (aC (eV 4) aN)))) (eC (.bool true)))) (sRet (eC (.bool false))) sNext)
    (sSeq (sSet (.n 7) (eN (nF oList (aC (eV 6) aN))))
    (sSeq (sDrop (eM 6 mAppend (aC (eTup (aC (eC (.int 0)) (aC (eC (.int 1)) aN))) aN)))
    (sSeq (sIf (tOr (tV (e2 oNe (eN (nCall S_going [false, false] (aC (eV 5) (aC (eV 4) aN)))) (eV 7))) (tAnd (tV (e2 oEq (eF oLen (aC (eV 3) aN)) (eC (.int 1)))) (tV (e2 oNe (eV 7) (eN (nLst aN)))))) (sRet (eC (.bool false))) sNext)
    (sSeq (sSet (.n 8) (eCall S__law_no_width [true] (aC (eV 2) aN)))
    (sFor (wRange1 (aC (eC (.int 4)) aN)) (.n 9) (sIf (tNot (tV (eCall S__law_refused [false, false, false] (aC (eV 9) (aC (eV 5) (aC (eV 8) aN)))))) (sRet (eC (.bool false))) sNext))))))))))))))
    (sRet (eC (.bool true))))
end L41

namespace L41
open PySem Dl
theorem p_is_whole : ∀ a, S_is_whole.pre a → t_is_whole (bodyEnds S_is_whole a) (startD 1 (S_is_whole.args a)) := fS_1 fun d hp => by
  have hp : scrOf d = none := hp
  cases d <;> simp [t_is_whole, startD, oIsi, hp, isiD, kindD, isW]
theorem p_is_between : ∀ a, S_is_between.pre a → t_is_between (bodyEnds S_is_between a) (startD 3 (S_is_between.args a)) := fS_3 fun d a b hp => by
  obtain ⟨a, rfl⟩ : ∃ i, a = .int i := by cases a <;> first | exact ⟨_, rfl⟩ | exact hp.elim
  obtain ⟨b, rfl⟩ : ∃ i, b = .int i := by cases b <;> first | exact ⟨_, rfl⟩ | exact hp.elim
  have hp : okI d := hp
  simp [t_is_between, S_is_whole, startD, hp, noL]
  cases d with
  | int i => by_cases h : a ≤ i <;> simp [isW, isBt, h]
  | _ => simp [isW, isBt]
theorem p_need_width : ∀ a, S_need_width.pre a → t_need_width (bodyEnds S_need_width a) (startD 1 (S_need_width.args a)) := by
  intro (d : PyData) (hp : okI d)
  show t_need_width (endsX [.val d] (fun r os => isBt d 2 8 = true ∧ r = .d .none ∧ os = [.val d]) (fun x os => isBt d 2 8 = false ∧ x = { cls := "NoWidth" } ∧ os = [.val d])) (startD 1 [.val d])
  simp [t_need_width, startD, S_is_between, hp, noL]
  cases isBt d 2 8 <;> simp
theorem p_first_take : ∀ a, S_first_take.pre a → t_first_take (bodyEnds S_first_take a) (startD 2 (S_first_take.args a)) := fS_2 fun m w hp => by
  obtain ⟨m, rfl⟩ : ∃ i, m = .int i := by cases m <;> first | exact ⟨_, rfl⟩ | exact hp.elim
  obtain ⟨w, rfl⟩ : ∃ i, w = .int i := by cases w <;> first | exact ⟨_, rfl⟩ | exact hp.elim
  have hp : 1 < w := hp
  simp [t_first_take, startD]
  omega
theorem p__law_take : ∀ a, S__law_take.pre a → t__law_take (bodyEnds S__law_take a) (startD 4 (S__law_take.args a)) := by
  rintro ⟨b, m⟩ (hp : 0 < m ∧ m.natAbs < bigN)
  show t__law_take (endsX [lstS [.int b], .val (.int m)] (fun r os => r = .d (.int (b % m)) ∧ os = [lstS [.int (b / m)], .val (.int m)]) (fun _ _ => False)) (startD 4 [lstS [.int b], .val (.int m)])
  simp [t__law_take, startD, oDivmod, oIx, ixD, hp.1, hp.2]
theorem p__law_whole : ∀ a, S__law_whole.pre a → t__law_whole (bodyEnds S__law_whole a) (startD 1 (S__law_whole.args a)) := p_is_whole
theorem p__law_cell : ∀ a, S__law_cell.pre a → t__law_cell (bodyEnds S__law_cell a) (startD 2 (S__law_cell.args a)) := by
  rintro ⟨ns, i⟩ (hp : 0 ≤ i)
  show t__law_cell (endsX [.val (scrD ns), .val (.int i)] (fun r os => (∃ z : Int, r = .d (.int z)) ∧ os = [.val (scrD ns), .val (.int i)]) (fun _ _ => False)) (startD 2 [.val (scrD ns), .val (.int i)])
  simp [t__law_cell, startD]
  by_cases h : i < ns.length
  · simp [h]
    refine oIx_scr hp h ?_
    simp
  · simp [h]
end L41

namespace L41
open PySem Dl
theorem p__law_mix : ∀ a, S__law_mix.pre a → t__law_mix (bodyEnds S__law_mix a) (startD 4 (S__law_mix.args a)) := iS2_p fun c k ⟨h0, h1⟩ => by
  simp [t__law_mix, startD]
  refine oIx_mem (by omega) (by simp; omega) fun d hd => ?_
  obtain ⟨v, rfl, v0, v1⟩ : ∃ v : Int, d = .int v ∧ 0 ≤ v ∧ v < 100000 := by
    simp at hd
    rcases hd with h | h | h | h | h | h | h | h | h | h | h | h | h <;> exact ⟨_, h, by decide, by decide⟩
  simp
  generalize hx : (c % 2147483647 + 12345) = x
  generalize hq : (x * v + 977 * k + 7919 * (k / 13)) % 1000000007 = q
  have x0 : 0 ≤ x ∧ x < 2 ^ 40 := by omega
  have q0 : 0 ≤ q ∧ q < 1000000007 := by omega
  refine ⟨⟨big_of (by omega) (by omega), big_of (by omega) (by omega)⟩, ⟨big_nat (by decide), big_of (by omega) (by omega)⟩, big_nat (by decide), ⟨big_nat (by decide), big_of (by omega) (by omega)⟩, big_of (by omega) (by omega), ⟨big_nat (by decide), big_of (by omega) (by omega)⟩, big_nat (by decide), ?_⟩
  omega
theorem p__law_box : ∀ a, S__law_box.pre a → t__law_box (bodyEnds S__law_box a) (startD 5 (S__law_box.args a)) := by
  rintro ⟨ns, i⟩ (hp : 0 ≤ i)
  show t__law_box (endsX [.val (scrD ns), .val (.int i)] (fun r os => (∃ z : Int, r = .new (lstS [.int z])) ∧ os = [.val (scrD ns), .val (.int i)]) (fun _ _ => False)) (startD 5 [.val (scrD ns), .val (.int i)])
  simp [t__law_box, startD]
  refine ⟨hp, fun z => wB_dec (fun _ => ⟨big_nat (by decide), _, rfl⟩) (fun _ => ?_)⟩
  refine for_do (rangeD 0 40) (fun j ρ => ∃ (n : Nat) (o : Option Sl), n < 2 ^ (29 * j + 30) ∧ ρ = [some (.val (scrD ns)), some (.val (.int i)), some (.val (.int z)), some (.val (.int n)), o]) (fun k hk => by simp; exact hk) ⟨0, none, by decide, rfl⟩ ?_ ?_
  · rintro j x ρ hj ⟨n, o, hn, rfl⟩
    have hj40 : j < 40 := by have := (List.getElem?_eq_some_iff.mp hj).1; simpa [rangeD] using this
    obtain rfl : x = .int (j : Int) := by
      simp [rangeD, hj40] at hj
      exact hj.symm
    simp [S__law_mix]
    have hb : n < bigN := Nat.lt_of_lt_of_le hn (Nat.pow_le_pow_right (by decide) (by omega))
    refine ⟨⟨hb, big_nat (by decide)⟩, by omega, fun y hy0 hy1 => ?_⟩
    refine ⟨n * 142857143 + y.toNat, ?_, by omega⟩
    have e : 29 * (j + 1) + 30 = (29 * j + 30) + 29 := by omega
    rw [e, Nat.pow_add]
    have h30 : 2 ^ 30 ≤ 2 ^ (29 * j + 30) := Nat.pow_le_pow_right (by decide) (by omega)
    generalize 2 ^ (29 * j + 30) = p at hn h30 ⊢
    omega
  · rintro ρ ⟨n, o, hn, rfl⟩
    simp
    exact ⟨_, rfl⟩
theorem p__law_lengths : ∀ a, S__law_lengths.pre a → t__law_lengths (bodyEnds S__law_lengths a) (startD 4 (S__law_lengths.args a)) := by
  rintro ⟨b, m⟩ (hp : 0 < m ∧ m ≤ 1000)
  show t__law_lengths (endsX [lstS [.int b], .val (.int m)] (fun r os => ∃ (ls : List Int) (b : Int), 1 ≤ ls.length ∧ (ls.length : Int) ≤ m ∧ (∀ x ∈ ls, 0 ≤ x) ∧ r = .d (intL ls) ∧ os = [lstS [.int b], .val (.int m)]) (fun _ _ => False)) (startD 4 [lstS [.int b], .val (.int m)])
  simp [t__law_lengths, startD]
  refine oPow_int (by decide) ?_
  refine ⟨big_nat (by decide), ?_⟩
  refine oIx_mem (by omega) (by simp; omega) fun d hd => ?_
  obtain ⟨v, rfl, v0, v1⟩ : ∃ v : Int, d = .int v ∧ 0 < v ∧ v < 10000000 := by
    simp at hd
    rcases hd with h | h | h | h <;> exact ⟨_, h, by decide, by decide⟩
  generalize b / 4 = b1
  have hm1 := Int.emod_nonneg b1 (show m ≠ 0 by omega)
  have hm2 := Int.emod_lt_of_pos b1 hp.1
  unfold nLc
  simp
  refine ⟨⟨hp.1, big_of (by omega) (by omega)⟩, by omega, by omega, ?_⟩
  have hlen : (rangeD 0 (1 + b1 % m)).length = (1 + b1 % m).toNat := by simp [rangeD]
  refine ⟨fun j acc ρ => ∃ (ls : List Int) (b : Int), acc = ls.map .int ∧ ls.length = j ∧ (∀ x ∈ ls, 0 ≤ x) ∧ ρ = [some (lstS [.int b]), some (.val (.int m)), some (.val (.int v)), none], ⟨[], b1 / m, rfl, rfl, by simp, rfl⟩, ?_, ?_⟩
  · rintro j x acc ρ hj ⟨ls, b2, rfl, hl, hnn, rfl⟩
    have hjl := (List.getElem?_eq_some_iff.mp hj).1
    rw [hlen] at hjl
    simp [backD]
    exact ⟨⟨v0, big_of (by omega) (by omega)⟩, by rw [hl, sizeLine_eq]; omega, ls ++ [b2 % v], by simp, by simp [hl], fun x hx => by
      rcases List.mem_append.mp hx with h | h
      · exact hnn x h
      · simp at h; subst h; exact Int.emod_nonneg _ (by omega), ⟨b2 / v, rfl⟩⟩
  · rintro acc ρ ⟨ls, b2, rfl, hl, hnn, rfl⟩
    rw [hlen] at hl
    simp
    exact ⟨ls, by omega, by omega, hnn, rfl, b2, rfl⟩
theorem p__law_no_width : ∀ a, S__law_no_width.pre a → t__law_no_width (bodyEnds S__law_no_width a) (startD 2 (S__law_no_width.args a)) := by
  rintro (b : Int) -
  show t__law_no_width (endsX [lstS [.int b]] (fun r os => ∃ (d : PyData) (b : Int), okI d ∧ isBt d 2 8 = false ∧ r = .d d ∧ os = [lstS [.int b]]) (fun _ _ => False)) (startD 2 [lstS [.int b]])
  simp [t__law_no_width, startD]
  refine oPow_int (by decide) ?_
  simp
  refine ⟨big_nat (by decide), ?_⟩
  refine oIx_mem (by omega) (by simp; omega) fun d hd => ?_
  simp at hd ⊢
  have key : okI d ∧ isBt d 2 8 = false := by
    rcases hd with h | h | h | h | h | h | h | h | h | h | h | h <;> subst h <;> exact ⟨rfl, by decide +kernel⟩
  exact ⟨d, key.1, key.2, rfl, _, rfl⟩
theorem p__law_first_take : ∀ a, S__law_first_take.pre a → t__law_first_take (bodyEnds S__law_first_take a) (startD 3 (S__law_first_take.args a)) := iS2_p fun m w hp => by
  simp [t__law_first_take, startD]
  refine ⟨fun n ρ => ∃ j : Nat, ρ = [some (.val (.int m)), some (.val (.int w)), some (.val (.int (2 + j)))] ∧ (j : Int) ≤ (m - 2) % (w - 1) ∧ (n : Int) = (m - 2) % (w - 1) - j, ⟨((m - 2) % (w - 1)).toNat, 0, ?_, ?_, ?_⟩, ?_⟩
  · simp
  · have := Int.emod_nonneg (m - 2) (show w - 1 ≠ 0 by omega); omega
  · have := Int.emod_nonneg (m - 2) (show w - 1 ≠ 0 by omega); omega
  · rintro n ρ ⟨j, rfl, hj, hn⟩
    simp
    have h1 := Int.emod_nonneg (m - 2) (show w - 1 ≠ 0 by omega)
    have h2 := Int.emod_lt_of_pos (m - 2) (show 0 < w - 1 by omega)
    have e : (m - (2 + (j : Int))) % (w - 1) = (m - 2) % (w - 1) - j := by
      have e2 : m - (2 + (j : Int)) = ((m - 2) % (w - 1) - j) + (w - 1) * ((m - 2) / (w - 1)) := by
        have := Int.emod_add_mul_ediv (m - 2) (w - 1)
        omega
      rw [e2, Int.add_mul_emod_self_left, Int.emod_eq_of_lt (by omega) (by omega)]
    refine ⟨by omega, ?_⟩
    rw [e]
    refine wB_dec (fun h => ?_) (fun h => ?_)
    · exact ⟨n - 1, by omega, j + 1, by simp; omega, by push_cast; omega, by push_cast; omega⟩
    · omega
end L41

namespace L41
open PySem Dl
theorem ups_len (n : Nat) : (ups n).length = n := by simp [ups]
theorem ups_wf (ls : List Int) : wf ls (ups ls.length) := by
  refine ⟨?_, fun z hz => ?_⟩
  · unfold ups
    rw [List.nodup_iff_pairwise_ne, List.pairwise_map]
    exact List.nodup_range.imp (fun h e => h (by omega))
  · unfold ups at hz
    simp at hz
    omega
theorem srt_perm (sizes there : List Int) : (srt sizes there).Perm there := List.mergeSort_perm _ _
theorem takeF_ge {w : Int} {first : Bool} {n : Nat} (h : 2 ≤ w) : 2 ≤ takeF w first n := by
  unfold takeF
  have := Int.emod_nonneg ((n : Int) - 2) (show w - 1 ≠ 0 by omega)
  split <;> omega
theorem wf_next {sizes there : List Int} (h : wf sizes there) (k : Nat) (x : Int) : wf (sizes ++ [x]) ((srt sizes there).drop k ++ [(sizes.length : Int)]) := by
  obtain ⟨h1, h2⟩ := h
  have hp := srt_perm sizes there
  have hm : ∀ z ∈ (srt sizes there).drop k, 0 ≤ z ∧ z < sizes.length := fun z hz => h2 z (hp.mem_iff.mp (List.mem_of_mem_drop hz))
  refine ⟨?_, fun z hz => ?_⟩
  · rw [List.nodup_append]
    refine ⟨(hp.nodup_iff.mpr h1).sublist (List.drop_sublist _ _), by simp, fun a ha b hb => ?_⟩
    have := hm a ha
    simp at hb
    omega
  · simp at hz ⊢
    rcases hz with hz | hz
    · have := hm z hz; omega
    · omega
theorem isort_sorted (a : List Int) : (isort a).Pairwise (· ≤ ·) := by
  have := List.pairwise_mergeSort (le := fun a b : Int => decide (a ≤ b)) (by intro a b c; simp; omega) (by intro a b; simp; omega) a
  exact this.imp (by simp)
theorem isort_of {a ms : List Int} (h : ms.Perm a) (hs : ms.Pairwise (· ≤ ·)) : ms = isort a := sorted_eq hs (isort_sorted a) (h.trans (List.mergeSort_perm _ _).symm)
theorem capIx_of {i : Nat} {ρ : Dl.Env} {sizes ns : List Int} (h : lstOf ρ i = some (sizes.map .int)) (hn : ∀ z ∈ ns, 0 ≤ z ∧ z < sizes.length) : capIx i ρ ns = some (fun z => (sz sizes z, z)) := by
  unfold capIx
  rw [h]
  simp
  exact ⟨hn, rfl⟩
theorem goL_s {w : Int} {f : Nat} {first : Bool} {sizes there : List Int} : goL w (f + 1) first sizes there = if 1 < there.length then
      isort ((srt sizes there).take (takeF w first there.length).toNat) :: goL w f false (sizes ++ [(((srt sizes there).take (takeF w first there.length).toNat).map (sz sizes)).sum]) ((srt sizes there).drop (takeF w first there.length).toNat ++ [(sizes.length : Int)])
    else [] := rfl
def goB (ls : List Int) (w : Int) (sizes there : List Int) (found : List (List Int)) (o : Option Sl) : Dl.Env := [some (.val (intL ls)), some (.val (.int w)), some (lstS (sizes.map .int)), some (.val (intL there)), some (lstS (found.map intT)), o, none]
theorem p_going : ∀ a, S_going.pre a → t_going (bodyEnds S_going a) (startD 7 (S_going.args a)) := by
  rintro ⟨ls, d⟩ ⟨(hd : okI d), (hl : ls.length ≤ 1000)⟩
  show t_going (endsX [.val (intL ls), .val d] (fun r os => ∃ w : Int, d = .int w ∧ 2 ≤ w ∧ w ≤ 8 ∧ r = .new (lstS ((goF w ls).map intT)) ∧ os = [.val (intL ls), .val d]) (fun x os => isBt d 2 8 = false ∧ x = { cls := "NoWidth" } ∧ os = [.val (intL ls), .val d])) (startD 7 [.val (intL ls), .val d])
  simp [t_going, startD, noL, hd]
  intro hb
  obtain ⟨w, rfl, w2, w8⟩ : ∃ w : Int, d = .int w ∧ 2 ≤ w ∧ w ≤ 8 := by
    cases d <;> simp [isBt] at hb
    exact ⟨_, rfl, hb.1, hb.2⟩
  refine ⟨by omega, ?_⟩
  refine ⟨fun m ρ => ∃ (sizes there : List Int) (found : List (List Int)) (f : Nat) (o : Option Sl), ρ = goB ls w sizes there found o ∧ wf sizes there ∧ m = there.length ∧ there.length ≤ f ∧
    found ++ goL w f found.isEmpty sizes there = goF w ls ∧ sizes.length = ls.length + found.length ∧ sizes.length + there.length ≤ 2000, ⟨ls.length, ls, ups ls.length, [], ls.length, none, ?_, ups_wf ls, (ups_len _).symm, Nat.le_of_eq (ups_len _), rfl, by simp, by rw [ups_len]; omega⟩, ?_⟩
  · rw [range_map]; rfl
  · rintro m ρ ⟨sizes, there, found, f, o, rfl, hw, rfl, hf, hg, hfl, hsz⟩
    simp [-sSeq_eq, goB]
    refine wB_dec (fun h1 => ?_) (fun h1 => ?_)
    · have hn : 1 < there.length := by omega
      have ht2 := takeF_ge (w := w) (first := found.isEmpty) (n := there.length) w2
      generalize ht : takeF w found.isEmpty there.length = take at ht2
      have hsl := (srt_perm sizes there).length_eq
      refine seq_do (goB ls w sizes there found (some (.val (.int w)))) (fun k hk => by simp; exact hk) ?_
      refine seq_do (goB ls w sizes there found (some (.val (.int take)))) (fun k hk => ?_) ?_
      · simp [goB]
        refine wB_dec (fun h => ?_) (fun h => ?_)
        · subst h
          simp [S_first_take]
          refine ⟨by omega, ?_⟩
          simp [takeF] at ht
          rw [ht]
          exact hk
        · have e : found.isEmpty = false := by cases found <;> simp at h ⊢
          rw [e] at ht
          simp [takeF] at ht
          subst ht
          exact hk
      refine seq_do (goB ls w sizes (srt sizes there) found (some (.val (.int take)))) (fun k hk => ?_) ?_
      · simp [goB]
        rw [capIx_of (sizes := sizes) (by simp) hw.2]
        exact hk
      refine seq_do (goB ls w sizes (srt sizes there) (found ++ [isort ((srt sizes there).take take.toNat)]) (some (.val (.int take)))) (fun k hk => ?_) ?_
      · simp [goB]
        rw [cutD_to _ (by omega), map_tk]
        refine oSorted_ints _ fun ms hp hs => ?_
        rw [isort_of hp hs]
        refine ⟨line_big (by omega), ?_⟩
        simpa [goB] using hk
      generalize hgr : (srt sizes there).take take.toNat = grp
      have hgm : ∀ z ∈ grp, 0 ≤ z ∧ z < sizes.length := fun z hz => by
        rw [← hgr] at hz
        exact hw.2 z ((srt_perm sizes there).mem_iff.mp (List.mem_of_mem_take hz))
      have hgl : grp.length ≤ 2000 := by rw [← hgr, List.length_take]; omega
      refine seq_do (goB ls w (sizes ++ [(grp.map (sz sizes)).sum]) (srt sizes there) (found ++ [isort grp]) (some (.val (.int take)))) (fun k hk => ?_) ?_
      · simp [goB, -List.map_append]
        refine lc_all (grp.map .int) (dI (sz sizes)) (fun k hk => ?_) (Nat.le_of_lt (line_big (by simp; omega))) (by simp) (fun x hx k hk => ?_) ?_
        · simp [-List.map_append]
          rw [cutD_to _ (by omega), map_tk, hgr]
          exact hk
        · obtain ⟨z, hz, rfl⟩ := List.mem_map.mp hx
          simp [-List.map_append]
          exact oIx_int (hgm z hz).1 (hgm z hz).2 hk
        · rw [dI_map]
          simp [-List.map_map, -List.map_append]
          refine ⟨line_big (by omega), ?_⟩
          simpa [goB] using hk
      · simp [goB, -List.map_append]
        rw [cutD_from _ (by omega), map_dr]
        obtain ⟨f', rfl⟩ : ∃ f', f = f' + 1 := ⟨f - 1, by omega⟩
        have hdl : ((srt sizes there).drop take.toNat ++ [(sizes.length : Int)]).length + 1 ≤ there.length := by
          simp; omega
        refine ⟨Nat.le_of_lt (line_big (by simp; omega)), _, ?_, sizes ++ [(grp.map (sz sizes)).sum], (srt sizes there).drop take.toNat ++ [(sizes.length : Int)], found ++ [isort grp], ⟨rfl, by simp, rfl⟩, wf_next hw _ _, rfl, f', by omega, ?_, by simp; omega, by simp at hdl ⊢; omega⟩
        · omega
        · rw [← hg]
          rw [goL_s, if_pos hn, ht, hgr, show (found ++ [isort grp]).isEmpty = false by cases found <;> rfl]
          simp
    · refine ⟨w2, w8, ?_⟩
      have hg0 : goL w f found.isEmpty sizes there = [] := by
        cases f with
        | zero => rfl
        | succ f =>
          unfold goL
          rw [if_neg (by omega)]
      rw [hg0] at hg
      rw [← hg]
      simp
end L41

namespace L41
open PySem Dl
theorem perm_sum {a b : List Int} (h : a.Perm b) : a.sum = b.sum := by
  induction h with
  | nil => rfl
  | cons x _ ih => simp [ih]
  | swap x y l => simp; omega
  | trans _ _ i1 i2 => exact i1.trans i2
theorem srt_sorted (sizes there : List Int) : (srt sizes there).Pairwise (fun a b => sz sizes a ≤ sz sizes b) := by
  have := List.pairwise_mergeSort (le := leK fun z => (sz sizes z, z)) (by intro a b c; simp [leK]; omega) (by intro a b; simp [leK]; omega) there
  exact this.imp (by intro a b h; simp [leK] at h; omega)
theorem isort_perm (a : List Int) : (isort a).Perm a := List.mergeSort_perm _ _
/-- whether a first group must even things out -/
def evenOk (w : Int) (first : Bool) (n : Nat) : Prop := first = true ∨ ((n : Int) - 1) % (w - 1) = 0
theorem take_le {w : Int} {first : Bool} {n : Nat} (w2 : 2 ≤ w) (hn : 2 ≤ n) (h : evenOk w first n) : takeF w first n ≤ n ∧ evenOk w false (n - (takeF w first n).toNat + 1) := by
  unfold takeF
  cases first with
  | true =>
    simp only [if_true]
    have h1 := Int.emod_nonneg ((n : Int) - 2) (show w - 1 ≠ 0 by omega)
    have h2 : ((n : Int) - 2) % (w - 1) ≤ (n : Int) - 2 := by
      have e1 := Int.emod_add_mul_ediv ((n : Int) - 2) (w - 1)
      have e2 : 0 ≤ (w - 1) * (((n : Int) - 2) / (w - 1)) := Int.mul_nonneg (by omega) (Int.ediv_nonneg (by omega) (by omega))
      omega
    refine ⟨by omega, .inr ?_⟩
    have e : ((n - (2 + ((n : Int) - 2) % (w - 1)).toNat + 1 : Nat) : Int) - 1 = (w - 1) * (((n : Int) - 2) / (w - 1)) := by
      have := Int.emod_add_mul_ediv ((n : Int) - 2) (w - 1)
      omega
    rw [e]
    exact Int.mul_emod_right _ _
  | false =>
    simp only [Bool.false_eq_true, if_false]
    rcases h with h | h
    · cases h
    · have h3 : w - 1 ≤ (n : Int) - 1 := Int.le_of_dvd (by omega) (Int.dvd_of_emod_eq_zero h)
      refine ⟨by omega, .inr ?_⟩
      have e : ((n - w.toNat + 1 : Nat) : Int) - 1 = ((n : Int) - 1) - (w - 1) := by omega
      rw [e, Int.sub_emod, h]
      simp
theorem goes_goL {w : Int} (w2 : 2 ≤ w) : ∀ (f : Nat) (first : Bool) (sizes there there' : List Int), wf sizes there → 1 ≤ there.length → there.length ≤ f → evenOk w first there.length → there'.Perm there → Goes w first sizes there' (goL w f first sizes there)
  | 0, _, _, there, _, _, h1, h2, _, _ => by omega
  | f + 1, first, sizes, there, there', hw, h1, h2, he, hp => by
    rw [goL_s]
    by_cases hn : 1 < there.length
    · rw [if_pos hn]
      obtain ⟨ht, he'⟩ := take_le w2 (by omega) he
      have ht2 := takeF_ge (w := w) (first := first) (n := there.length) w2
      have hpl := hp.length_eq
      generalize hk : takeF w first there.length = take at ht ht2 he'
      have hsp := srt_perm sizes there
      have hsl := hsp.length_eq
      have split : srt sizes there = (srt sizes there).take take.toNat ++ (srt sizes there).drop take.toNat := (List.take_append_drop _ _).symm
      have hso := srt_sorted sizes there
      have hnd : (srt sizes there).Nodup := hsp.nodup_iff.mpr hw.1
      have hwn := wf_next hw take.toNat
      have hmem : ∀ z, z ∈ there' ↔ z ∈ srt sizes there := fun z => by rw [hp.mem_iff, hsp.mem_iff]
      have hdl : ((srt sizes there).drop take.toNat).length = there.length - take.toNat := by simp [hsl]
      have hgl : ((srt sizes there).take take.toNat).length = take.toNat := by simp [hsl]; omega
      have hpt : there'.Perm (srt sizes there) := hp.trans hsp.symm
      rw [split] at hso hnd hmem hpt
      generalize (srt sizes there).take take.toNat = g0 at *
      generalize (srt sizes there).drop take.toNat = r0 at *
      have hig := isort_perm g0
      have hdis : ∀ z ∈ g0, z ∉ r0 := fun z hz hz2 => (List.nodup_append.mp hnd).2.2 z hz z hz2 rfl
      refine .step (by omega) ?_ (hig.nodup_iff.mpr (List.nodup_append.mp hnd).1) (fun z hz => (hmem z).mpr (List.mem_append.mpr (.inl (hig.mem_iff.mp hz)))) (fun a ha b hb hbg => ?_) ?_
      · rw [hig.length_eq, hgl, hpl, hk]; omega
      · have hbr : b ∈ r0 := by
          rcases List.mem_append.mp ((hmem b).mp hb) with h | h
          · exact absurd (hig.mem_iff.mpr h) hbg
          · exact h
        exact (List.pairwise_append.mp hso).2.2 a (hig.mem_iff.mp ha) b hbr
      · have hs : ((isort g0).map (sz sizes)).sum = (g0.map (sz sizes)).sum := perm_sum (hig.map _)
        rw [hs]
        refine goes_goL w2 f false _ _ _ (hwn _) (by simp) (by simp; omega) ?_ ?_
        · have : (r0 ++ [(sizes.length : Int)]).length = there.length - take.toNat + 1 := by simp [hdl]
          rw [this]
          exact he'
        · refine List.Perm.append_right _ ((hpt.filter _).trans ?_)
          rw [List.filter_append]
          have e1 : g0.filter (fun z => !decide (z ∈ isort g0)) = [] := by
            rw [List.filter_eq_nil_iff]
            intro z hz
            simp [hig.mem_iff, hz]
          have e2 : r0.filter (fun z => !decide (z ∈ isort g0)) = r0 := by
            rw [List.filter_eq_self]
            intro z hz
            simp [hig.mem_iff]
            exact fun h => hdis z h hz
          rw [e1, e2]
          exact List.Perm.refl _
    · rw [if_neg hn]
      exact .done (by rw [hp.length_eq]; omega)
theorem goes_goF {w : Int} {ls : List Int} (w2 : 2 ≤ w) (h : 1 ≤ ls.length) : Goes w true ls (ups ls.length) (goF w ls) :=
  goes_goL w2 _ _ _ _ _ (ups_wf ls) (by rw [ups_len]; exact h) (by rw [ups_len]; exact Nat.le_refl _) (.inl rfl) (List.Perm.refl _)
end L41

namespace L41
open PySem Dl
theorem any_int (g : List Int) (z : Int) : inF (.int z) (g.map .int) = g.contains z := by
  unfold inF
  induction g with
  | nil => rfl
  | cons a r ih =>
    simp only [List.map_cons, List.any_cons, ih, List.contains_cons, PyData.eqv]
    congr 1
    exact Bool.beq_comm
theorem flat_ints (g : List Int) : (g.map PyData.int).all isFlat = true := by
  induction g with
  | nil => rfl
  | cons a r ih => simp [isFlat]
theorem oIn_ints {g : List Int} {z : Int} {k : PyData → Prop} (h : k (.bool (g.contains z))) : oIn (.int z) (.list (g.map .int)) k ∧ oIn (.int z) (.tuple (g.map .int)) k := by
  refine ⟨?_, ?_⟩ <;>
  · show wO (some (g.map PyData.int)) _
    exact ⟨⟨rfl, flat_ints g⟩, by rw [any_int]; exact h⟩
theorem oNotIn_ints {g : List Int} {z : Int} {k : PyData → Prop} (h : k (.bool (!decide (z ∈ g)))) : oNotIn (.int z) (.list (g.map .int)) k ∧ oNotIn (.int z) (.tuple (g.map .int)) k := by
  refine ⟨?_, ?_⟩ <;>
  · show wO (some (g.map PyData.int)) _
    exact ⟨⟨rfl, flat_ints g⟩, by rw [any_int]; simpa using h⟩
/-- a truth of each int -/
def bI (f : Int → Bool) : PyData → PyData
  | .int z => .bool (f z)
  | d => d
@[simp] theorem bI_int (f : Int → Bool) (z : Int) : bI f (.int z) = .bool (f z) := rfl
theorem bI_map (f : Int → Bool) (l : List Int) : (l.map PyData.int).map (bI f) = (l.map f).map PyData.bool := by simp
def pI (f : Int → Bool) : PyData → Bool
  | .int z => f z
  | _ => false
@[simp] theorem pI_int (f : Int → Bool) (z : Int) : pI f (.int z) = f z := rfl
theorem pI_filter (f : Int → Bool) (l : List Int) : (l.map PyData.int).filter (pI f) = (l.filter f).map PyData.int := by
  induction l with
  | nil => rfl
  | cons a r ih =>
    simp only [List.map_cons, List.filter_cons, pI_int, ih]
    split <;> rfl
theorem p_goes : ∀ a, S_goes.pre a → t_goes (bodyEnds S_goes a) (startD 6 (S_goes.args a)) := by
  rintro ⟨g, sizes, there, take⟩ ⟨h1, h2, h3, h4, h5, h6, h7, h8, h9⟩
  dsimp only at h1 h2 h3 h4 h5 h6 h7 h8 h9
  show t_goes (endsX [.val (intT g), .val (intL sizes), .val (intL there), .val (.int take)] (fun r os => r = .d (.bool true) ∧ os = [.val (intT g), .val (intL sizes), .val (intL there), .val (.int take)]) (fun _ _ => False)) (startD 6 [.val (intT g), .val (intL sizes), .val (intL there), .val (.int take)])
  have hgz : ∀ z ∈ g, 0 ≤ z ∧ z < sizes.length := fun z hz => h5.2 z (h3 z hz)
  unfold t_goes
  simp [-sSeq_eq, startD]
  refine seq_do [some (.val (intT g)), some (.val (intL sizes)), some (.val (intL there)), some (.val (.int take)), none, none] (fun k hk => ?_) ?_
  · simp [oIsi, scrOf, isiD, kindD, h1]
    refine lc_all (g.map .int) (bI fun _ => true) (fun k hk => by simp; exact hk) (Nat.le_of_lt (line_big (by simp; omega))) (by simp) (fun x hx k hk => ?_) ?_
    · obtain ⟨z, hz, rfl⟩ := List.mem_map.mp hx
      simp [S_is_whole, okI, scrOf, isW, noL] at hk ⊢
      exact hk
    · rw [bI_map]
      simp only [flat_lstS, wO_some, oAll_list, boolsOf_map, List.all_map]
      rw [show g.all (id ∘ fun _ => true) = true by simp]
      simpa using hk
  refine seq_do [some (.val (intT g)), some (.val (intL sizes)), some (.val (intL there)), some (.val (.int take)), none, none] (fun k hk => ?_) ?_
  · simp [oLenSet]
    refine ⟨h9, fun c ms hnd hms hc => ?_⟩
    have hcg : c = g.length := by
      rw [hc]
      exact (((List.perm_ext_iff_of_nodup hnd h2).mpr fun z => hms z)).length_eq
    rw [hcg, h1]
    simp
    refine lc_all (g.map .int) (bI fun z => there.contains z) (fun k hk => by simp; exact hk) (Nat.le_of_lt (line_big (by simp; omega))) (by simp) (fun x hx k hk => ?_) ?_
    · obtain ⟨z, hz, rfl⟩ := List.mem_map.mp hx
      simp
      exact (oIn_ints hk).1
    · rw [bI_map]
      simp only [flat_lstS, wO_some, oAll_list, boolsOf_map, List.all_map]
      rw [show g.all (id ∘ fun z => there.contains z) = true by simp; exact h3]
      simpa using hk
  -- the longest
  refine seq_of (fun ρ => ∃ m : Int, isMax (g.map (sz sizes)) m ∧ ρ = [some (.val (intT g)), some (.val (intL sizes)), some (.val (intL there)), some (.val (.int take)), none, some (.val (.int m))]) (fun k hk => ?_) ?_
  · simp
    refine lc_all (g.map .int) (dI (sz sizes)) (fun k hk => by simp; exact hk) (Nat.le_of_lt (line_big (by simp; omega))) (by simp) (fun x hx k hk => ?_) ?_
    · obtain ⟨z, hz, rfl⟩ := List.mem_map.mp hx
      simp
      exact oIx_int (hgz z hz).1 (hgz z hz).2 hk
    · rw [dI_map]
      simp only [flat_lstS, wO_some, oMax_list, intsOf_map]
      exact ⟨by simp; omega, fun m hm => hk _ ⟨m, hm, rfl⟩⟩
  rintro ρ ⟨m, hm, rfl⟩
  simp
  refine lc_do (there.map .int) (pI fun z => !decide (z ∈ g)) (bI fun z => decide (m ≤ sz sizes z)) (fun k hk => by simp; exact hk) (Nat.le_of_lt (line_big (by simp; omega))) (by simp) (fun x hx k hk => ?_) (fun x hx _ k hk => ?_) ?_
  · obtain ⟨z, hz, rfl⟩ := List.mem_map.mp hx
    simp
    exact (oNotIn_ints (by simpa using hk)).2
  · obtain ⟨z, hz, rfl⟩ := List.mem_map.mp hx
    simp
    exact oIx_int (h5.2 z hz).1 (h5.2 z hz).2 (by simpa [sz] using hk)
  · rw [pI_filter, bI_map]
    simp only [flat_lstS, wO_some, oAll_list, boolsOf_map, List.all_map]
    rw [show (there.filter fun z => !decide (z ∈ g)).all (id ∘ fun z => decide (m ≤ sz sizes z)) = true by
      rw [List.all_eq_true]
      intro z hz
      simp at hz ⊢
      obtain ⟨hm1, _⟩ := hm
      obtain ⟨a, ha, rfl⟩ := List.mem_map.mp hm1
      exact h4 a ha z hz.1 hz.2]
    simp
end L41

namespace L41
open PySem Dl
theorem wf_filter {sizes there : List Int} (h : wf sizes there) (p : Int → Bool) (x : Int) : wf (sizes ++ [x]) (there.filter p ++ [(sizes.length : Int)]) := by
  obtain ⟨h1, h2⟩ := h
  have hm : ∀ z ∈ there.filter p, 0 ≤ z ∧ z < sizes.length := fun z hz => h2 z (List.mem_filter.mp hz).1
  refine ⟨?_, fun z hz => ?_⟩
  · rw [List.nodup_append]
    refine ⟨h1.sublist List.filter_sublist, by simp, fun a ha b hb => ?_⟩
    have := hm a ha
    simp at hb
    omega
  · rw [List.mem_append] at hz
    simp at hz ⊢
    rcases hz with hz | hz
    · have := h2 z hz.1; omega
    · omega
theorem takeF_le {w : Int} {first : Bool} {n : Nat} (h : 2 ≤ w) : takeF w first n ≤ w := by
  unfold takeF
  have := Int.emod_lt_of_pos ((n : Int) - 2) (show 0 < w - 1 by omega)
  split <;> omega
theorem tups_get {gs : List (List Int)} {i : Nat} {d : PyData} (h : (gs.map intT)[i]? = some d) : ∃ g, gs[i]? = some g ∧ d = intT g ∧ gs.drop i = g :: gs.drop (i + 1) := by
  rw [List.getElem?_map] at h
  cases e : gs[i]? with
  | none => rw [e] at h; simp at h
  | some g =>
    rw [e] at h
    simp at h
    have hl := (List.getElem?_eq_some_iff.mp e).1
    refine ⟨g, rfl, h.symm, ?_⟩
    rw [List.drop_eq_getElem_cons hl]
    congr 1
    exact (List.getElem?_eq_some_iff.mp e).2
def igB (gs : List (List Int)) (ls : List Int) (w : Int) (sizes there : List Int) (o5 o6 o7 : Option Sl) : Dl.Env := [some (.val (.list (gs.map intT))), some (.val (intL ls)), some (.val (.int w)), some (lstS (sizes.map .int)), some (.val (intL there)), o5, o6, o7, none]
theorem p_is_going : ∀ a, S_is_going.pre a → t_is_going (bodyEnds S_is_going a) (startD 9 (S_is_going.args a)) := by
  rintro ⟨gs, ls, d⟩ ⟨(hd : okI d), (hl : ls.length ≤ 1000), (hgl : gs.length ≤ 1000), hg⟩
  dsimp only at hg
  show t_is_going (endsX [.val (.list (gs.map intT)), .val (intL ls), .val d] (fun r os => isBt d 2 8 = true ∧ r = .d (.bool true) ∧ os = [.val (.list (gs.map intT)), .val (intL ls), .val d]) (fun x os => isBt d 2 8 = false ∧ x = { cls := "NoWidth" } ∧ os = [.val (.list (gs.map intT)), .val (intL ls), .val d])) (startD 9 [.val (.list (gs.map intT)), .val (intL ls), .val d])
  simp [t_is_going, startD, noL, hd, oIsi, scrOf, isiD, kindD]
  intro hb
  obtain ⟨w, rfl, w2, w8⟩ : ∃ w : Int, d = .int w ∧ 2 ≤ w ∧ w ≤ 8 := by
    cases d <;> simp [isBt] at hb
    exact ⟨_, rfl, hb.1, hb.2⟩
  have hg := hg w rfl w2 w8
  refine ⟨by omega, ?_⟩
  refine for_do (enumD (gs.map intT)) (fun i ρ => ∃ (sizes there : List Int) (o5 o6 o7 : Option Sl), ρ = igB gs ls w sizes there o5 o6 o7 ∧ wf sizes there ∧ Goes w (i == 0) sizes there (gs.drop i) ∧ sizes.length = ls.length + i ∧ there.length ≤ ls.length + i) (fun k hk => by simp; exact hk) ⟨ls, ups ls.length, none, none, none, by rw [range_map]; rfl, ups_wf ls, hg, rfl, by rw [ups_len]; exact Nat.le_refl _⟩ ?_ ?_
  · rintro i x ρ hx ⟨sizes, there, o5, o6, o7, rfl, hw, hgo, hsl, htl⟩
    obtain ⟨d, hd, rfl⟩ := enum_get hx
    obtain ⟨g, hgi, rfl, hdr⟩ := tups_get hd
    have hi := (List.getElem?_eq_some_iff.mp hgi).1
    rw [hdr] at hgo
    cases hgo with
    | step h1 h2 h3 h4 h5 h6 =>
      have hgz : ∀ z ∈ g, 0 ≤ z ∧ z < sizes.length := fun z hz => hw.2 z (h4 z hz)
      have ht2 := takeF_ge (w := w) (first := i == 0) (n := there.length) w2
      generalize ht : takeF w (i == 0) there.length = take at h2 ht2
      have htw := takeF_le (first := i == 0) (n := there.length) w2
      rw [ht] at htw
      simp [-sSeq_eq, igB]
      refine seq_do (igB gs ls w sizes there (some (.val (.int (i : Nat)))) (some (.val (intT g))) (some (.val (.int w)))) (fun k hk => by simp; exact hk) ?_
      refine seq_do (igB gs ls w sizes there (some (.val (.int (i : Nat)))) (some (.val (intT g))) (some (.val (.int take)))) (fun k hk => ?_) ?_
      · simp [igB]
        by_cases h0 : i = 0
        · subst h0
          simp [S_first_take]
          refine ⟨by omega, ?_⟩
          simp [takeF] at ht
          rw [show (if 2 < (there.length : Int) then (there.length : Int) else 2) = there.length by split <;> omega, ht]
          exact hk
        · have e : (i == 0) = false := by simp [h0]
          rw [e] at ht
          simp [takeF] at ht
          subst ht
          simp [h0]
          exact hk
      refine seq_do (igB gs ls w sizes there (some (.val (.int (i : Nat)))) (some (.val (intT g))) (some (.val (.int take)))) (fun k hk => ?_) ?_
      · simp [igB]
        rw [show decide ((there.length : Int) < 2) = false by simp; omega]
        simp [noL]
        exact ⟨⟨h2, h3, h4, h5, hw, by dsimp only; omega, by dsimp only; omega, by dsimp only; omega, by dsimp only; omega⟩, hk⟩
      refine seq_do (igB gs ls w (sizes ++ [(g.map (sz sizes)).sum]) there (some (.val (.int (i : Nat)))) (some (.val (intT g))) (some (.val (.int take)))) (fun k hk => ?_) ?_
      · simp [igB, -List.map_append]
        refine lc_all (g.map .int) (dI (sz sizes)) (fun k hk => by simp; exact hk) (Nat.le_of_lt (line_big (by simp; omega))) (by simp) (fun x hx k hk => ?_) ?_
        · obtain ⟨z, hz, rfl⟩ := List.mem_map.mp hx
          simp [-List.map_append]
          exact oIx_int (hgz z hz).1 (hgz z hz).2 hk
        · rw [dI_map]
          simp [-List.map_map, -List.map_append]
          refine ⟨line_big (by omega), ?_⟩
          simpa [igB] using hk
      · simp [igB, -List.map_append]
        refine lc_do (there.map .int) (pI fun z => !decide (z ∈ g)) id (fun k hk => by simp [-List.map_append]; exact hk) (Nat.le_of_lt (line_big (by simp; omega))) (by simp) (fun x hx k hk => ?_) (fun x hx _ k hk => ?_) ?_
        · obtain ⟨z, hz, rfl⟩ := List.mem_map.mp hx
          simp [-List.map_append]
          exact (oNotIn_ints (by simpa [-List.map_append] using hk)).2
        · obtain ⟨z, hz, rfl⟩ := List.mem_map.mp hx
          simp [-List.map_append]
          simpa [-List.map_append] using hk
        · rw [pI_filter, List.map_id]
          simp [-List.map_append]
          have hfl := List.length_filter_le (fun z => !decide (z ∈ g)) there
          refine ⟨Nat.le_of_lt (line_big (by omega)), sizes ++ [(g.map (sz sizes)).sum], there.filter (fun z => !decide (z ∈ g)) ++ [(sizes.length : Int)], ⟨rfl, by simp⟩, wf_filter hw _ _, by simpa using h6, by simp; omega, by simp; omega⟩
  · rintro ρ ⟨sizes, there, o5, o6, o7, rfl, hw, hgo, hsl, htl⟩
    rw [enum_len, List.length_map, List.drop_length] at hgo
    cases hgo with
    | done h1 =>
      simp [igB, h1, w2, w8, isBt]
end L41

namespace L41
open PySem Dl
theorem filter_split (p : Int → Bool) : ∀ l : List Int, (l.filter p).length + (l.filter fun z => !p z).length = l.length
  | [] => rfl
  | a :: r => by
    have := filter_split p r
    simp only [List.filter_cons]
    cases p a <;> simp <;> omega
theorem filter_len {g there : List Int} (h2 : g.Nodup) (h1 : there.Nodup) (h3 : ∀ z ∈ g, z ∈ there) : (there.filter fun z => !decide (z ∈ g)).length + g.length = there.length := by
  have e : (there.filter fun z => decide (z ∈ g)).Perm g := by
    refine (List.perm_ext_iff_of_nodup (h1.sublist List.filter_sublist) h2).mpr fun z => ?_
    simp
    exact h3 z
  have e3 := filter_split (fun z => decide (z ∈ g)) there
  have e2 := e.length_eq
  omega
theorem sz_nn {ls : List Int} (h : ∀ x ∈ ls, 0 ≤ x) (z : Int) : 0 ≤ sz ls z := by
  unfold sz
  rw [List.getD_eq_getElem?_getD]
  cases e : ls[z.toNat]? with
  | none => simp
  | some x => exact h x (List.mem_of_getElem? e)
theorem nn_of {ls : List Int} (h : ∀ z, 0 ≤ sz ls z) : ∀ x ∈ ls, 0 ≤ x := fun x hx => by
  obtain ⟨i, hi, e⟩ := List.getElem_of_mem hx
  have := h (i : Int)
  simp [sz, hi, e] at this
  exact this
theorem sum_nn : ∀ {l : List Int}, (∀ x ∈ l, 0 ≤ x) → 0 ≤ l.sum
  | [], _ => by simp
  | a :: r, h => by
    have := sum_nn fun x hx => h x (List.mem_cons_of_mem _ hx)
    have := h a List.mem_cons_self
    simp
    omega
def lgB (gs : List (List Int)) (ls : List Int) (w : Int) (sizes there : List Int) (o5 o6 o8 o9 : Option Sl) : Dl.Env := [some (.val (.list (gs.map intT))), some (.val (intL ls)), some (.val (.int w)), some (lstS (sizes.map .int)), some (.val (intL there)), o5, o6, none, o8, o9]
theorem p__law_is_going : ∀ a, S__law_is_going.pre a → t__law_is_going (bodyEnds S__law_is_going a) (startD 10 (S__law_is_going.args a)) := by
  rintro ⟨gs, ls, w⟩ ⟨(hnn : ∀ x ∈ ls, 0 ≤ x), (hl : ls.length ≤ 1000), (hgl : gs.length ≤ 1000), (w2 : 2 ≤ w), (w8 : w ≤ 8), hg⟩
  dsimp only at hg
  show t__law_is_going (endsX [.val (.list (gs.map intT)), .val (intL ls), .val (.int w)] (fun r os => r = .d (.bool true) ∧ os = [.val (.list (gs.map intT)), .val (intL ls), .val (.int w)]) (fun _ _ => False)) (startD 10 [.val (.list (gs.map intT)), .val (intL ls), .val (.int w)])
  simp [t__law_is_going, startD, oIsi, scrOf, isiD, kindD]
  refine ⟨by omega, ?_⟩
  refine for_do (enumD (gs.map intT)) (fun i ρ => ∃ (sizes there : List Int) (o5 o6 o8 o9 : Option Sl), ρ = lgB gs ls w sizes there o5 o6 o8 o9 ∧ wf sizes there ∧ Goes w (i == 0) sizes there (gs.drop i) ∧ sizes.length = ls.length + i ∧ there.length ≤ ls.length + i ∧ ∀ z, 0 ≤ sz sizes z) (fun k hk => by simp; exact hk) ⟨ls, ups ls.length, none, none, none, none, by rw [range_map]; rfl, ups_wf ls, hg, rfl, by rw [ups_len]; exact Nat.le_refl _, sz_nn hnn⟩ ?_ ?_
  · rintro i x ρ hx ⟨sizes, there, o5, o6, o8, o9, rfl, hw, hgo, hsl, htl, hsn⟩
    obtain ⟨d, hd, rfl⟩ := enum_get hx
    obtain ⟨g, hgi, rfl, hdr⟩ := tups_get hd
    have hi := (List.getElem?_eq_some_iff.mp hgi).1
    rw [hdr] at hgo
    cases hgo with
    | step h1 h2 h3 h4 h5 h6 =>
      have hgz : ∀ z ∈ g, 0 ≤ z ∧ z < sizes.length := fun z hz => hw.2 z (h4 z hz)
      have ht2 := takeF_ge (w := w) (first := i == 0) (n := there.length) w2
      have htw := takeF_le (first := i == 0) (n := there.length) w2
      generalize ht : takeF w (i == 0) there.length = take at h2 ht2 htw
      have gl8 : g.length ≤ 8 := by omega
      have hln : ∀ {n : Nat}, n ≤ 100000 → n ≤ sizeLine := fun h => Nat.le_of_lt (line_big h)
      simp [-sSeq_eq, lgB]
      refine seq_do (lgB gs ls w sizes there (some (.val (.int (i : Nat)))) (some (.val (intT g))) o8 o9) (fun k hk => ?_) ?_
      · simp [oIsi, scrOf, isiD, kindD, lgB]
        rw [show decide ((there.length : Int) < 2) = false by simp; omega]
        simp
        refine lc_all (g.map .int) (bI fun _ => true) (fun k hk => by simp; exact hk) (hln (by simp; omega)) (by simp) (fun x hx k hk => ?_) ?_
        · obtain ⟨z, hz, rfl⟩ := List.mem_map.mp hx
          simp [S__law_whole, S_is_whole, okI, scrOf, isW, noL] at hk ⊢
          exact hk
        · rw [bI_map]
          simp only [flat_lstS, wO_some, oAll_list, boolsOf_map, List.all_map]
          rw [show g.all (id ∘ fun _ => true) = true by simp]
          simpa [lgB] using hk
      refine seq_do (lgB gs ls w sizes there (some (.val (.int (i : Nat)))) (some (.val (intT g))) o8 o9) (fun k hk => ?_) ?_
      · simp [lgB, S__law_first_take]
        refine ⟨w2, ?_⟩
        refine oIx_of (by split <;> omega) (by split <;> simp) fun d hd => ?_
        have e : d = .int g.length := by
          by_cases h0 : i = 0
          · subst h0
            simp [takeF] at ht
            simp at hd
            rw [← hd, h2, ← ht]
          · have e : (i == 0) = false := by simp [h0]
            rw [e] at ht
            simp [takeF] at ht
            simp [h0] at hd
            rw [← hd, h2, ← ht]
        rw [e]
        simp [oLenSet]
        refine ⟨by omega, fun c ms hnd hms hc => ?_⟩
        have hcg : c = g.length := by
          rw [hc]
          exact (((List.perm_ext_iff_of_nodup hnd h3).mpr fun z => hms z)).length_eq
        rw [hcg]
        simpa [lgB] using hk
      refine seq_do (lgB gs ls w sizes there (some (.val (.int (i : Nat)))) (some (.val (intT g))) (some (.val (intL (there.filter fun z => !decide (z ∈ g))))) o9) (fun k hk => ?_) ?_
      · simp [lgB]
        refine lc_do (there.map .int) (pI fun z => !decide (z ∈ g)) id (fun k hk => by simp; exact hk) (hln (by simp; omega)) (by simp) (fun x hx k hk => ?_) (fun x hx _ k hk => ?_) ?_
        · obtain ⟨z, hz, rfl⟩ := List.mem_map.mp hx
          simp
          exact (oNotIn_ints (by simpa using hk)).2
        · obtain ⟨z, hz, rfl⟩ := List.mem_map.mp hx
          simp
          simpa using hk
        · rw [pI_filter, List.map_id]
          simp only [flat_lstS, wO_some]
          exact hk
      refine seq_of (fun ρ => ∃ m : Int, isMax (g.map (sz sizes) ++ [0]) m ∧ ρ = lgB gs ls w sizes there (some (.val (.int (i : Nat)))) (some (.val (intT g))) (some (.val (intL (there.filter fun z => !decide (z ∈ g))))) (some (.val (.int m)))) (fun k hk => ?_) ?_
      · simp [lgB]
        refine lc_do (g.map .int) (pI fun z => there.contains z) (dI (sz sizes)) (fun k hk => by simp; exact hk) (hln (by simp; omega)) (by simp) (fun x hx k hk => ?_) (fun x hx _ k hk => ?_) ?_
        · obtain ⟨z, hz, rfl⟩ := List.mem_map.mp hx
          simp
          exact (oIn_ints (by simpa using hk)).1
        · obtain ⟨z, hz, rfl⟩ := List.mem_map.mp hx
          simp
          exact oIx_int (hgz z hz).1 (hgz z hz).2 hk
        · rw [pI_filter, dI_map, List.filter_eq_self.mpr (fun z hz => by simpa using h4 z hz)]
          simp only [flat_lstS, wO_some, oAdd_list]
          refine ⟨hln (by simp; omega), ?_⟩
          rw [show (g.map (sz sizes)).map PyData.int ++ [PyData.int 0] = (g.map (sz sizes) ++ [0]).map PyData.int by simp]
          simp only [oMax_list, intsOf_map, wO_some]
          exact ⟨by simp, fun m hm => hk _ ⟨m, hm, rfl⟩⟩
      rintro ρ ⟨m, hm, rfl⟩
      have hfl := filter_len h3 hw.1 h4
      refine seq_do (lgB gs ls w sizes there (some (.val (.int (i : Nat)))) (some (.val (intT g))) (some (.val (intL (there.filter fun z => !decide (z ∈ g))))) (some (.val (.int m)))) (fun k hk => ?_) ?_
      · generalize hst : (there.filter fun z => !decide (z ∈ g)) = stays at *
        have hstm : ∀ z ∈ stays, z ∈ there ∧ z ∉ g := fun z hz => by rw [← hst] at hz; simpa using hz
        simp [lgB]
        rw [show decide ((stays.length : Int) + (g.length : Int) = (there.length : Int)) = true by simp; omega]
        simp
        refine lc_do (stays.map .int) (pI fun z => decide (sz sizes z < m)) id (fun k hk => by simp; exact hk) (hln (by simp; omega)) (by simp) (fun x hx k hk => ?_) (fun x hx _ k hk => ?_) ?_
        · obtain ⟨z, hz, rfl⟩ := List.mem_map.mp hx
          have := hw.2 z (hstm z hz).1
          simp
          exact oIx_int this.1 this.2 (by simpa [sz] using hk)
        · obtain ⟨z, hz, rfl⟩ := List.mem_map.mp hx
          simp
          simpa using hk
        · rw [pI_filter, List.map_id]
          have e : stays.filter (fun z => decide (sz sizes z < m)) = [] := by
            rw [List.filter_eq_nil_iff]
            intro z hz
            have hz2 := hstm z hz
            obtain ⟨hm1, _⟩ := hm
            simp
            rcases List.mem_append.mp hm1 with h | h
            · obtain ⟨a, ha, rfl⟩ := List.mem_map.mp h
              exact h5 a ha z hz2.1 hz2.2
            · simp at h
              rw [h]
              exact hsn z
          rw [e]
          simp
          exact hk
      refine seq_do (lgB gs ls w (sizes ++ [(g.map (sz sizes)).sum]) there (some (.val (.int (i : Nat)))) (some (.val (intT g))) (some (.val (intL (there.filter fun z => !decide (z ∈ g))))) (some (.val (.int m)))) (fun k hk => ?_) ?_
      · simp [lgB, -List.map_append]
        refine lc_all (g.map .int) (dI (sz sizes)) (fun k hk => by simp; exact hk) (hln (by simp; omega)) (by simp) (fun x hx k hk => ?_) ?_
        · obtain ⟨z, hz, rfl⟩ := List.mem_map.mp hx
          simp [-List.map_append]
          exact oIx_int (hgz z hz).1 (hgz z hz).2 hk
        · rw [dI_map]
          simp [-List.map_map, -List.map_append]
          refine ⟨line_big (by omega), ?_⟩
          simpa [lgB] using hk
      · simp [lgB, -List.map_append]
        have hnn2 : ∀ z, 0 ≤ sz (sizes ++ [(g.map (sz sizes)).sum]) z := sz_nn fun x hx => by
          rcases List.mem_append.mp hx with h | h
          · exact nn_of hsn x h
          · simp at h
            rw [h]
            exact sum_nn fun y hy => by
              obtain ⟨a, _, rfl⟩ := List.mem_map.mp hy
              exact hsn a
        refine ⟨hln (by omega), sizes ++ [(g.map (sz sizes)).sum], there.filter (fun z => !decide (z ∈ g)) ++ [(sizes.length : Int)], ⟨rfl, by simp⟩, wf_filter hw _ _, by simpa using h6, by simp; omega, ?_, hnn2⟩
        simp at hfl ⊢
        omega
  · rintro ρ ⟨sizes, there, o5, o6, o8, o9, rfl, hw, hgo, hsl, htl, hsn⟩
    rw [enum_len, List.length_map, List.drop_length] at hgo
    cases hgo with
    | done h1 =>
      simp [lgB, h1]
end L41

namespace L41
open PySem Dl
theorem isBt_int {d : PyData} (h : isBt d 2 8 = false) {w : Int} (e : d = .int w) (h2 : 2 ≤ w) (h8 : w ≤ 8) : False := by
  subst e
  simp [isBt] at h
  have := h h2
  omega
theorem igr0 {ls : List Int} {d : PyData} {k : Ret → List Sl → Prop} {e : XV → List Sl → Prop} : S_is_going.run [.val (.list []), .val (.list (ls.map .int)), .val d] k e ↔ IA.ok ⟨[], ls, d⟩ ∧ (isBt d 2 8 = true → k (.d (.bool true)) [.val (.list []), .val (intL ls), .val d]) ∧ (isBt d 2 8 = false → e { cls := "NoWidth" } [.val (.list []), .val (intL ls), .val d]) := S_is_going_run (gs := [])
theorem p_least_moved : ∀ a, S_least_moved.pre a → t_least_moved (bodyEnds S_least_moved a) (startD 6 (S_least_moved.args a)) := by
  rintro ⟨ls, d⟩ ⟨(hd : okI d), (hl : ls.length ≤ 1000), (hb : isBt d 2 8 = false)⟩
  show t_least_moved (endsX [.val (intL ls), .val d] (fun _ _ => False) (fun x os => x = { cls := "NoWidth" } ∧ os = [.val (intL ls), .val d])) (startD 6 [.val (intL ls), .val d])
  simp [t_least_moved, startD]
  unfold sFor
  simp [hd, hl, hb]
  intro w e w2 w8
  exact (isBt_int hb e w2 w8).elim
theorem p_least_plan : ∀ a, S_least_plan.pre a → t_least_plan (bodyEnds S_least_plan a) (startD 5 (S_least_plan.args a)) := by
  rintro ⟨ls, d⟩ ⟨(hd : okI d), (hl : ls.length ≤ 1000), (hb : isBt d 2 8 = false)⟩
  show t_least_plan (endsX [.val (intL ls), .val d] (fun _ _ => False) (fun x os => x = { cls := "NoWidth" } ∧ os = [.val (intL ls), .val d])) (startD 5 [.val (intL ls), .val d])
  simp [t_least_plan, startD]
  refine ⟨by omega, ?_⟩
  unfold sFor
  simp [hd, hl, hb]
  intro w e w2 w8
  exact (isBt_int hb e w2 w8).elim
theorem p__law_refused : ∀ a, S__law_refused.pre a → t__law_refused (bodyEnds S__law_refused a) (startD 4 (S__law_refused.args a)) := by
  rintro ⟨way, ls, d⟩ ⟨(hd : okI d), (hl : ls.length ≤ 1000), (hb : isBt d 2 8 = false)⟩
  show t__law_refused (endsX [.val (.int way), .val (intL ls), .val d] (fun r os => r = .d (.bool true) ∧ os = [.val (.int way), .val (intL ls), .val d]) (fun _ _ => False)) (startD 4 [.val (.int way), .val (intL ls), .val d])
  simp [t__law_refused, startD]
  refine wB_dec (fun _ => ?_) fun _ => wB_dec (fun _ => ?_) fun _ => wB_dec (fun _ => ?_) fun _ => ?_
  · simp [hd, hl, hb, catch_PourError, sub_NoWidth, sub_ValueError, sub_NoRoom]
    intro w e w2
    exact Int.not_le.mp fun w8 => isBt_int hb e w2 w8
  · simp [igr0, hd, hl, hb, catch_PourError, sub_NoWidth, sub_ValueError, sub_NoRoom]
    exact ⟨hd, hl, by simp, fun w e w2 w8 => (isBt_int hb e w2 w8).elim⟩
  · simp [S_least_moved, hd, hl, hb, catch_PourError, sub_NoWidth, sub_ValueError, sub_NoRoom]
  · simp [S_least_plan, hd, hl, hb, catch_PourError, sub_NoWidth, sub_ValueError, sub_NoRoom]
theorem goL_len (w : Int) : ∀ (f : Nat) (first : Bool) (sizes there : List Int), (goL w f first sizes there).length ≤ f
  | 0, _, _, _ => Nat.le_refl _
  | f + 1, first, sizes, there => by
    rw [goL_s]
    split
    · simp
      exact goL_len w f _ _ _
    · simp
def lwB (ns : List Int) (a b c d e f g h i : Option Sl) : Dl.Env := [some (.val (scrD ns)), a, b, c, d, e, f, g, h, i]
theorem p_law : ∀ a, S_law.pre a → t_law (bodyEnds S_law a) (startD 10 (S_law.args a)) := by
  rintro (ns : List Int) -
  show t_law (endsX [.val (scrD ns)] (fun r os => r = .d (.bool true) ∧ os = [.val (scrD ns)]) (fun _ _ => False)) (startD 10 [.val (scrD ns)])
  unfold t_law
  refine seq_of (fun ρ => ∃ a b c d e f g h i, ρ = lwB ns a b c d e f g h i) (fun k hk => ?_) ?_
  · generalize hm : (if (1 : Int) < (if 5 < (ns.length : Int) then (5 : Int) else (ns.length : Int)) then (if 5 < (ns.length : Int) then 5 else (ns.length : Int)) else 1) = n
    refine for_do (rangeD 0 n) (fun _ ρ => ∃ a b c d e f g h i, ρ = lwB ns a b c d e f g h i) (fun k hk => ?_) ⟨none, none, none, none, none, none, none, none, none, rfl⟩ ?_ (fun ρ h => hk ρ h)
    · simp [startD]
      rw [hm]
      have : -100 ≤ n ∧ n ≤ 100 := by
        rw [← hm]
        split <;> (try split) <;> omega
      exact ⟨by omega, by omega, hk⟩
    · rintro j x ρ hx ⟨a, b, c, d, e, f, g, h, i, rfl⟩
      obtain ⟨z, rfl, z0⟩ : ∃ z : Int, x = .int z ∧ 0 ≤ z := by
        have := List.mem_of_getElem? hx
        simp [rangeD] at this
        obtain ⟨y, _, rfl⟩ := this
        exact ⟨_, rfl, by omega⟩
      simp [-sSeq_eq, lwB]
      refine seq_of (fun ρ => ∃ b0 : Int, ρ = lwB ns (some (.val (.int z))) (some (lstS [.int b0])) c d e f g h i) (fun k hk => ?_) ?_
      · simp
        exact ⟨z0, fun y => hk _ ⟨y, rfl⟩⟩
      rintro ρ ⟨b0, rfl⟩
      refine seq_of (fun ρ => ∃ (b0 : Int) (ls : List Int), (1 ≤ ls.length ∧ ls.length ≤ 60 ∧ ∀ x ∈ ls, 0 ≤ x) ∧ ρ = lwB ns (some (.val (.int z))) (some (lstS [.int b0])) (some (.val (intL ls))) d e f g h i) (fun k hk => ?_) ?_
      · simp [lwB]
        refine ⟨big_nat (by decide), ?_⟩
        refine oIx_mem (by omega) (by simp; omega) fun y hy => ?_
        obtain ⟨m, rfl, m0, m1⟩ : ∃ m : Int, y = .int m ∧ 0 < m ∧ m ≤ 60 := by
          simp at hy
          rcases hy with h | h <;> exact ⟨_, h, by decide, by decide⟩
        simp
        exact ⟨⟨m0, by omega⟩, fun ls b' h1 h2 h3 => hk _ ⟨b', ls, ⟨h1, by omega, h3⟩, rfl⟩⟩
      rintro ρ ⟨b1, ls, ⟨hl1, hl60, hnn⟩, rfl⟩
      refine seq_of (fun ρ => ∃ (b0 w : Int), 2 ≤ w ∧ w ≤ 8 ∧ ρ = lwB ns (some (.val (.int z))) (some (lstS [.int b0])) (some (.val (intL ls))) (some (.val (.int w))) e f g h i) (fun k hk => ?_) ?_
      · simp [lwB]
        exact ⟨big_nat (by decide), hk _ ⟨b1 / 7, 2 + b1 % 7, by omega, by omega, rfl⟩⟩
      rintro ρ ⟨b2, w, w2, w8, rfl⟩
      refine seq_do (lwB ns (some (.val (.int z))) (some (lstS [.int b2])) (some (.val (intL ls))) (some (.val (.int w))) (some (.val (intL ls))) f g h i) (fun k hk => by simp [lwB]; exact hk) ?_
      refine seq_do (lwB ns (some (.val (.int z))) (some (lstS [.int b2])) (some (.val (intL ls))) (some (.val (.int w))) (some (.val (intL ls))) (some (lstS ((goF w ls).map intT))) g h i) (fun k hk => ?_) ?_
      · simp [lwB, okI, scrOf, isBt, w2, w8]
        exact ⟨by omega, hk⟩
      have hgo := goes_goF (w := w) w2 hl1
      have hgl : (goF w ls).length ≤ 60 := Nat.le_trans (goL_len _ _ _ _ _) hl60
      have hbt : isBt (.int w) 2 8 = true := by simp [isBt, w2, w8]
      generalize hF : goF w ls = F at *
      refine seq_do (lwB ns (some (.val (.int z))) (some (lstS [.int b2])) (some (.val (intL ls))) (some (.val (.int w))) (some (.val (intL ls))) (some (lstS (F.map intT))) g h i) (fun k hk => ?_) ?_
      · simp [lwB, noL]
        exact ⟨⟨hnn, by dsimp only; omega, by dsimp only; omega, w2, w8, hgo⟩, hk⟩
      refine seq_do (lwB ns (some (.val (.int z))) (some (lstS [.int b2])) (some (.val (intL ls))) (some (.val (.int w))) (some (.val (intL ls))) (some (lstS (F.map intT))) g h i) (fun k hk => ?_) ?_
      · simp [lwB, noL, hbt]
        exact ⟨⟨rfl, by dsimp only; omega, by dsimp only; omega, fun w' e _ _ => by cases e; exact hgo⟩, hk⟩
      refine seq_do (lwB ns (some (.val (.int z))) (some (lstS [.int b2])) (some (.val (intL ls))) (some (.val (.int w))) (some (.val (intL ls))) (some (lstS (F.map intT))) (some (.val (.list (F.map intT)))) h i) (fun k hk => by simp [lwB]; exact hk) ?_
      refine seq_do (lwB ns (some (.val (.int z))) (some (lstS [.int b2])) (some (.val (intL ls))) (some (.val (.int w))) (some (.val (intL ls))) (some (lstS (F.map intT ++ [.tuple [.int 0, .int 1]]))) (some (.val (.list (F.map intT)))) h i) (fun k hk => ?_) ?_
      · simp [lwB]
        exact ⟨line_big (by omega), hk⟩
      refine seq_do (lwB ns (some (.val (.int z))) (some (lstS [.int b2])) (some (.val (intL ls))) (some (.val (.int w))) (some (.val (intL ls))) (some (lstS (F.map intT ++ [.tuple [.int 0, .int 1]]))) (some (.val (.list (F.map intT)))) h i) (fun k hk => ?_) ?_
      · simp [lwB, okI, scrOf, hbt, w2, w8]
        refine ⟨by omega, ?_⟩
        rw [hF]
        simp
        refine wB_dec (fun h1 => ?_) fun _ => hk
        have e : F = [] := by
          rw [← hF]
          unfold goF
          rw [show ls.length = 0 + 1 by omega, goL_s, if_neg (by rw [ups_len]; omega)]
        simp [e] at hk ⊢
        exact hk
      refine seq_of (fun ρ => ∃ (b0 : Int) (d : PyData), okI d ∧ isBt d 2 8 = false ∧ ρ = lwB ns (some (.val (.int z))) (some (lstS [.int b0])) (some (.val (intL ls))) (some (.val (.int w))) (some (.val (intL ls))) (some (lstS (F.map intT ++ [.tuple [.int 0, .int 1]]))) (some (.val (.list (F.map intT)))) (some (.val d)) i) (fun k hk => ?_) ?_
      · simp [lwB]
        exact fun d b' h1 h2 => hk _ ⟨b', d, h1, h2, rfl⟩
      rintro ρ ⟨b3, d, hd, hdb, rfl⟩
      refine for_do (rangeD 0 4) (fun _ ρ => ∃ i, ρ = lwB ns (some (.val (.int z))) (some (lstS [.int b3])) (some (.val (intL ls))) (some (.val (.int w))) (some (.val (intL ls))) (some (lstS (F.map intT ++ [.tuple [.int 0, .int 1]]))) (some (.val (.list (F.map intT)))) (some (.val d)) i) (fun k hk => by simp [lwB]; exact hk) ⟨_, rfl⟩ ?_ ?_
      · rintro j x ρ hx ⟨i, rfl⟩
        obtain ⟨z2, rfl⟩ : ∃ z : Int, x = .int z := by
          have := List.mem_of_getElem? hx
          simp [rangeD] at this
          obtain ⟨y, _, rfl⟩ := this
          exact ⟨_, rfl⟩
        simp [lwB, hd, hdb, noL]
        omega
      · rintro ρ ⟨i, rfl⟩
        exact ⟨_, _, _, _, _, _, _, _, _, rfl⟩
  · rintro ρ ⟨a, b, c, d, e, f, g, h, i, rfl⟩
    simp [lwB]
theorem law_runs {ns : List Int} {k : Ret → List Sl → Prop} {e : XV → List Sl → Prop} (h : k (.d (.bool true)) [.val (scrD ns)]) : S_law.run [.val (scrD ns)] k e :=
  ⟨ns, rfl, True.intro, fun r os ⟨a, b⟩ => by rw [a, b]; exact h, fun x os h => h.elim⟩
end L41

namespace L41
open PySem PySem.Spec PyProof.Rows L2 Dl
def top (i : Nat) : Stmt := PySem.Challenge.pw_pourwright_k41_goings_told.main.body.getD i (.Pass ⟨0, 0, 0, 0⟩)
abbrev s_is_whole : Stmt := top 5
abbrev s_is_between : Stmt := top 6
abbrev s_need_width : Stmt := top 7
abbrev s_first_take : Stmt := top 9
abbrev s_going : Stmt := top 10
abbrev s_goes : Stmt := top 11
abbrev s_is_going : Stmt := top 12
abbrev s_least_moved : Stmt := top 13
abbrev s_least_plan : Stmt := top 14
abbrev s__law_cell : Stmt := top 16
abbrev s__law_mix : Stmt := top 17
abbrev s__law_box : Stmt := top 18
abbrev s__law_take : Stmt := top 19
abbrev s__law_whole : Stmt := top 20
abbrev s__law_lengths : Stmt := top 21
abbrev s__law_no_width : Stmt := top 22
abbrev s__law_first_take : Stmt := top 23
abbrev s__law_is_going : Stmt := top 24
abbrev s__law_refused : Stmt := top 25
abbrev s_law : Stmt := top 26
theorem sc_is_whole : FnScope ["thing"] ["thing"] (defScope s_is_whole) := ⟨rfl, rfl, rfl, by decide +kernel, rfl, by decide +kernel, by decide +kernel⟩
theorem sc_is_between : FnScope ["thing", "least", "most"] ["thing", "least", "most"] (defScope s_is_between) := ⟨rfl, rfl, rfl, by decide +kernel, rfl, by decide +kernel, by decide +kernel⟩
theorem sc_need_width : FnScope ["width"] ["width"] (defScope s_need_width) := ⟨rfl, rfl, rfl, by decide +kernel, rfl, by decide +kernel, by decide +kernel⟩
theorem sc_first_take : FnScope ["many", "width"] ["many", "width"] (defScope s_first_take) := ⟨rfl, rfl, rfl, by decide +kernel, rfl, by decide +kernel, by decide +kernel⟩
theorem sc_going : FnScope ["lengths", "width", "sizes", "there", "found", "take", "number"] ["lengths", "width"] (defScope s_going) := ⟨rfl, rfl, rfl, by decide +kernel, rfl, by decide +kernel, by decide +kernel⟩
theorem sc_goes : FnScope ["taken", "sizes", "there", "take", "number", "longest"] ["taken", "sizes", "there", "take"] (defScope s_goes) := ⟨rfl, rfl, rfl, by decide +kernel, rfl, by decide +kernel, by decide +kernel⟩
theorem sc_is_going : FnScope ["thing", "lengths", "width", "sizes", "there", "at", "taken", "take", "number"] ["thing", "lengths", "width"] (defScope s_is_going) := ⟨rfl, rfl, rfl, by decide +kernel, rfl, by decide +kernel, by decide +kernel⟩
theorem sc_least_moved : FnScope ["lengths", "width", "sizes", "total", "taken", "number"] ["lengths", "width"] (defScope s_least_moved) := ⟨rfl, rfl, rfl, by decide +kernel, rfl, by decide +kernel, by decide +kernel⟩
theorem sc_least_plan : FnScope ["lengths", "width", "plans", "taken", "number"] ["lengths", "width"] (defScope s_least_plan) := ⟨rfl, rfl, rfl, by decide +kernel, rfl, by decide +kernel, by decide +kernel⟩
theorem sc__law_cell : FnScope ["script", "k"] ["script", "k"] (defScope s__law_cell) := ⟨rfl, rfl, rfl, by decide +kernel, rfl, by decide +kernel, by decide +kernel⟩
theorem sc__law_mix : FnScope ["cell", "k", "some", "stir"] ["cell", "k"] (defScope s__law_mix) := ⟨rfl, rfl, rfl, by decide +kernel, rfl, by decide +kernel, by decide +kernel⟩
theorem sc__law_box : FnScope ["script", "k", "cell", "number", "j"] ["script", "k"] (defScope s__law_box) := ⟨rfl, rfl, rfl, by decide +kernel, rfl, by decide +kernel, by decide +kernel⟩
theorem sc__law_take : FnScope ["box", "many", "left", "digit"] ["box", "many"] (defScope s__law_take) := ⟨rfl, rfl, rfl, by decide +kernel, rfl, by decide +kernel, by decide +kernel⟩
theorem sc__law_whole : FnScope ["thing"] ["thing"] (defScope s__law_whole) := ⟨rfl, rfl, rfl, by decide +kernel, rfl, by decide +kernel, by decide +kernel⟩
theorem sc__law_lengths : FnScope ["box", "most", "top", "k"] ["box", "most"] (defScope s__law_lengths) := ⟨rfl, rfl, rfl, by decide +kernel, rfl, by decide +kernel, by decide +kernel⟩
theorem sc__law_no_width : FnScope ["box", "some"] ["box"] (defScope s__law_no_width) := ⟨rfl, rfl, rfl, by decide +kernel, rfl, by decide +kernel, by decide +kernel⟩
theorem sc__law_first_take : FnScope ["many", "width", "take"] ["many", "width"] (defScope s__law_first_take) := ⟨rfl, rfl, rfl, by decide +kernel, rfl, by decide +kernel, by decide +kernel⟩
theorem sc__law_is_going : FnScope ["thing", "lengths", "width", "sizes", "there", "at", "one", "number", "stays", "most"] ["thing", "lengths", "width"] (defScope s__law_is_going) := ⟨rfl, rfl, rfl, by decide +kernel, rfl, by decide +kernel, by decide +kernel⟩
theorem sc__law_refused : FnScope ["way", "lengths", "width", "e"] ["way", "lengths", "width"] (defScope s__law_refused) := ⟨rfl, rfl, rfl, by decide +kernel, rfl, by decide +kernel, by decide +kernel⟩
theorem sc_law : FnScope ["script", "k", "box", "lengths", "width", "handed", "found", "kept", "bad", "way"] ["script"] (defScope s_law) := ⟨rfl, rfl, rfl, by decide +kernel, rfl, by decide +kernel, by decide +kernel⟩
structure Bl (mg : Str → Option Value) : Prop where
  ValueError_ : mg "ValueError" = none
  abs_ : mg "abs" = none
  all_ : mg "all" = none
  bool_ : mg "bool" = none
  divmod_ : mg "divmod" = none
  enumerate_ : mg "enumerate" = none
  int_ : mg "int" = none
  isinstance_ : mg "isinstance" = none
  len_ : mg "len" = none
  list_ : mg "list" = none
  max_ : mg "max" = none
  min_ : mg "min" = none
  range_ : mg "range" = none
  set_ : mg "set" = none
  sorted_ : mg "sorted" = none
  sum_ : mg "sum" = none
  tuple_ : mg "tuple" = none
structure Xc (K : PySem.W.Frag) (mg : Str → Option Value) (cls : String → Option Addr) (C_PourError C_NoRoom C_NoWidth : Addr) : Prop where
  g_PourError : mg "PourError" = some (.ref C_PourError)
  g_NoRoom : mg "NoRoom" = some (.ref C_NoRoom)
  g_NoWidth : mg "NoWidth" = some (.ref C_NoWidth)
  c_NoWidth : cls "NoWidth" = some C_NoWidth
  x_NoWidth : PySem.W.excIn K C_NoWidth [.type "ValueError", .type "Exception", .type "BaseException", .type "object"] "ValueError.__new__" = true
  k_NoWidth : PySem.W.keepIn K (.ref C_NoWidth) = true
  b_NoWidth : PySem.W.subIn K (.ref C_NoWidth) (.type "BaseException") = some true
  t_NoWidth : PySem.W.typeIn K (.ref C_NoWidth) = some (.type "type")
  hcatch_PourError : ∀ (n : String) (C : Addr), cls n = some C → PySem.W.exmOne K (.ref C) (.ref C_PourError) = some (catch_PourError n)
  hcl : ∀ n, catch_PourError n = true → ∃ C, cls n = some C
  exc : ∀ {n : String} {C : Addr}, cls n = some C → ExcC K C
  hsub_NoWidth : ∀ {n : String} {C : Addr}, cls n = some C → PySem.W.kitOne K (.ref C) (.ref C_NoWidth) = some (sub_NoWidth n)
  hsub_ValueError : ∀ {n : String} {C : Addr}, cls n = some C → PySem.W.kitOne K (.ref C) (.type "ValueError") = some (sub_ValueError n)
  hsub_NoRoom : ∀ {n : String} {C : Addr}, cls n = some C → PySem.W.kitOne K (.ref C) (.ref C_NoRoom) = some (sub_NoRoom n)
section
variable {P : Program} {w : World} {K : PySem.W.Frag} {mg : Str → Option Value} {base : Heap} {T : List (Addr × Str)} {cls : String → Option Addr} {C_PourError C_NoRoom C_NoWidth : Addr}
theorem ok_is_whole {f : Addr} {fd : FuncData} (F : Fun K "is_whole" "is_whole" s_is_whole f fd) (B : Bl mg)  : FnOk P w K mg base (L2.CX P w) 2 f fd ["thing"] (spD ⟨K, T, cls⟩ S_is_whole) := by
  refine ok_def ⟨K, T, cls⟩ rfl [] F sc_is_whole (by intro a; first | rfl | exact (List.length_map _).trans a.2) (by decide) (by intro a; first | exact own_map | exact (own_v (n := 0) own_nil)) (fun cdv A outer s H vs E hcd hr => ?_) p_is_whole
  exact (jb_one (js_ret (je_and2 (jisi "int" (by decide +kernel) rfl B.isinstance_ rfl B.int_ boot_int (jv 0)) (je_one (je_not (jisi "bool" (by decide +kernel) rfl B.isinstance_ rfl B.bool_ boot_bool (jv 0)))))))
theorem ok_is_between {f : Addr} {fd : FuncData} (F : Fun K "is_between" "is_between" s_is_between f fd) (B : Bl mg) (C_is_whole : CalD P w K ⟨K, T, cls⟩ mg base 2 "is_whole" S_is_whole) : FnOk P w K mg base (L2.CX P w) 3 f fd ["thing", "least", "most"] (spD ⟨K, T, cls⟩ S_is_between) := by
  refine ok_def ⟨K, T, cls⟩ rfl [] F sc_is_between (by intro a; first | rfl | exact (List.length_map _).trans a.2) (by decide) (by intro a; first | exact own_map | exact (own_v (n := 0) (own_v (own_v own_nil)))) (fun cdv A outer s H vs E hcd hr => ?_) p_is_between
  exact (jb_one (js_ret (je_and2 (jcall [false] C_is_whole hr (by decide) (takes_of rfl rfl rfl rfl) rfl (ja_cons (jv 0) ja_nil)) (je_one (je_chn ok_le op_le ok_le op_le (jv 1) (jv 0) (jv 2))))))
theorem ok_need_width {f : Addr} {fd : FuncData} (F : Fun K "need_width" "need_width" s_need_width f fd) (B : Bl mg) (X_ : Xc K mg cls C_PourError C_NoRoom C_NoWidth) (C_is_between : CalD P w K ⟨K, T, cls⟩ mg base 3 "is_between" S_is_between) : FnOk P w K mg base (L2.CX P w) 4 f fd ["width"] (spD ⟨K, T, cls⟩ S_need_width) := by
  refine ok_def ⟨K, T, cls⟩ rfl [] F sc_need_width (by intro a; first | rfl | exact (List.length_map _).trans a.2) (by decide) (by intro a; first | exact own_map | exact (own_v (n := 0) own_nil)) (fun cdv A outer s H vs E hcd hr => ?_) p_need_width
  exact (jb_one (js_if (jt_not (jt_val (jcall [false, false, false] C_is_between hr (by decide) (takes_of rfl rfl rfl rfl) rfl (ja_cons (jv 0) (ja_cons je_int (ja_cons je_int ja_nil)))))) (jb_one (js_raise X_.c_NoWidth (ps_raise rfl (takes_of rfl rfl rfl rfl) (pmk_own PySem.F.excBase_ValueError X_.x_NoWidth X_.g_NoWidth X_.k_NoWidth (raises_own X_.b_NoWidth X_.t_NoWidth) (by exact rfl))))) jb_nil))
theorem ok_first_take {f : Addr} {fd : FuncData} (F : Fun K "first_take" "first_take" s_first_take f fd) (B : Bl mg)  : FnOk P w K mg base (L2.CX P w) 2 f fd ["many", "width"] (spD ⟨K, T, cls⟩ S_first_take) := by
  refine ok_def ⟨K, T, cls⟩ rfl [] F sc_first_take (by intro a; first | rfl | exact (List.length_map _).trans a.2) (by decide) (by intro a; first | exact own_map | exact (own_v (n := 0) (own_v own_nil))) (fun cdv A outer s H vs E hcd hr => ?_) p_first_take
  exact (jb_one (js_ret (je_bin ok_add op_addX je_int (je_bin ok_mod op_mod (je_bin ok_sub op_sub (jv 0) je_int) (je_bin ok_sub op_sub (jv 1) je_int)))))
theorem ok_going {f : Addr} {fd : FuncData} (F : Fun K "going" "going" s_going f fd) (B : Bl mg) (C_need_width : CalD P w K ⟨K, T, cls⟩ mg base 4 "need_width" S_need_width) (C_first_take : CalD P w K ⟨K, T, cls⟩ mg base 2 "first_take" S_first_take) {cc Pt : Addr} (TB : LamX.TabB base mg cc Pt) (hfd : fd.code = .ref cc) (hT : (Pt, Str.ofString "going.<locals>.<lambda>") ∈ T) (hu : ∀ p ∈ T, p.1 = Pt → p.2 = Str.ofString "going.<locals>.<lambda>") : FnOk P w K mg base (L2.CX P w) 5 f fd ["lengths", "width"] (spD ⟨K, T, cls⟩ S_going) := by
  refine ok_def ⟨K, T, cls⟩ rfl [] F sc_going (by intro a; first | rfl | exact (List.length_map _).trans a.2) (by decide) (by intro a; first | exact own_map | exact (own_v (n := 0) (own_v own_nil))) (fun cdv A outer s H vs E hcd hr => ?_) p_going
  have hcode : cdv = Value.ref cc := hcd.symm.trans hfd
  exact (jb_cons (jdrop (jcall [false] C_need_width hr (by decide) (takes_of rfl rfl rfl rfl) rfl (ja_cons (jv 1) ja_nil)))
    (jb_cons (jown 2 (jn_cT ok_list cr_list rfl B.list_ boot_list (ja_cons (jv 0) ja_nil)) (anch_ne (by decide)) sc_going.nd)
    (jb_cons (jset 3 (je_n (jn_rg1 rfl rfl B.list_ rfl B.range_ (je_cB ok_len cr_len rfl B.len_ boot_len (ja_cons (jv 2) ja_nil)))) (anch_ne (by decide)) sc_going.nd)
    (jb_cons (jown 4 (jn_lstn jan_nil (by decide +kernel)) (anch_ne (by decide)) sc_going.nd)
    (jb_cons (js_while (passes_of rfl) (jt_cm ok_gt op_gt (je_cB ok_len cr_len rfl B.len_ boot_len (ja_cons (jv 3) ja_nil)) je_int) (jb_cons (jset 5 (jv 1) (anch_ne (by decide)) sc_going.nd)
    (jb_cons (js_if (jt_cm ok_eq (op_eqD hr.units) (jv 4) (je_n (jn_lstn jan_nil (by decide +kernel)))) (jb_one (jset 5 (jcall [false, false] C_first_take hr (by decide) (takes_of rfl rfl rfl rfl) rfl (ja_cons (je_cB ok_len cr_len rfl B.len_ boot_len (ja_cons (jv 3) ja_nil)) (ja_cons (jv 1) ja_nil))) (anch_ne (by decide)) sc_going.nd)) jb_nil)
    (jb_cons (jset 3 (je_n (jn_sortIxB 2 rfl B.sorted_ (hr.mono (by decide)) TB hcode hT hu (by kernel_rfl) rfl rfl (fun _ _ _ _ _ _ => rfl) (by intro _ _; rfl) (jv 3))) (anch_ne (by decide)) sc_going.nd)
    (jb_cons (jdrop (japp 4 (ja_cons (je_cT ok_tuple cr_tuple rfl B.tuple_ boot_tuple (ja_cons (je_n (jn_cB ok_sorted cr_sortedI rfl B.sorted_ boot_sorted (ja_cons (je_n (jn_sl (jv 3) jo_none (jo_some (jv 5)))) ja_nil))) ja_nil)) ja_nil)))
    (jb_cons (jdrop (japp 2 (ja_cons (je_cB ok_sum (cr_sum rfl) rfl B.sum_ boot_sum (ja_cons (je_n (jn_lc (own := [("number", 6)]) (tgD := (.n 6)) rfl sc_going.nd (jk_list (je_n (jn_sl (jv 3) jo_none (jo_some (jv 5))))) (blk_by (by kernel_rfl)) (anch_nin (by decide)) (by decide) (fun _ _ _ _ _ => (pg_name (i := 6) sc_going.nd rfl (by first | exact Or.inl rfl | exact Or.inr rfl))) (fun _ _ _ _ _ => jts_nil) (fun _ _ _ _ _ => (je_sub ok_ix ix_X (jv 2) (jv 6))))) ja_nil)) ja_nil)))
    (jb_one (jset 3 (je_bin ok_add op_addX (je_n (jn_sl (jv 3) (jo_some (jv 5)) jo_none)) (je_n (jn_lstn (jan_cons (je_bin ok_sub op_sub (je_cB ok_len cr_len rfl B.len_ boot_len (ja_cons (jv 2) ja_nil)) je_int) jan_nil) (by decide +kernel)))) (anch_ne (by decide)) sc_going.nd))))))))
    (jb_one (js_ret (jv 4))))))))
theorem ok_goes {f : Addr} {fd : FuncData} (F : Fun K "goes" "goes" s_goes f fd) (B : Bl mg) (C_is_whole : CalD P w K ⟨K, T, cls⟩ mg base 2 "is_whole" S_is_whole) : FnOk P w K mg base (L2.CX P w) 3 f fd ["taken", "sizes", "there", "take"] (spD ⟨K, T, cls⟩ S_goes) := by
  refine ok_def ⟨K, T, cls⟩ rfl [] F sc_goes (by intro a; first | rfl | exact (List.length_map _).trans a.2) (by decide) (by intro a; first | exact own_map | exact (own_v (n := 0) (own_v (own_v (own_v own_nil))))) (fun cdv A outer s H vs E hcd hr => ?_) p_goes
  exact (jb_cons (js_if (jw_t (jw_or (jt_not (jt_val (jisi "tuple" (by decide +kernel) rfl B.isinstance_ rfl B.tuple_ boot_tuple (jv 0)))) (jw_or (jt_cm ok_ne (op_neD hr.units) (je_cB ok_len cr_len rfl B.len_ boot_len (ja_cons (jv 0) ja_nil)) (jv 3)) (jw_1o (jt_not (jt_val (je_cB ok_all (cr_all rfl) rfl B.all_ boot_all (ja_cons (je_n (jn_lc (own := [("number", 4)]) (tgD := (.n 4)) rfl sc_goes.nd (jk_tup (jv 0)) (blk_by (by kernel_rfl)) (anch_nin (by decide)) (by decide) (fun _ _ _ _ _ => (pg_name (i := 4) sc_goes.nd rfl (by first | exact Or.inl rfl | exact Or.inr rfl))) (fun _ _ _ _ _ => jts_nil) (fun _ _ _ _ _ => (jcall [false] C_is_whole hr (by decide) takes0 rfl (ja_cons (jv 4) ja_nil))))) ja_nil)))))))) (jb_one (js_ret je_bool)) jb_nil)
    (jb_cons (js_if (jw_t (jw_or (jt_cm ok_ne (op_neD hr.units) (je_lenSet rfl rfl rfl B.len_ rfl B.set_ (jv 0)) (jv 3)) (jw_1o (jt_not (jt_val (je_cB ok_all (cr_all rfl) rfl B.all_ boot_all (ja_cons (je_n (jn_lc (own := [("number", 4)]) (tgD := (.n 4)) rfl sc_goes.nd (jk_tup (jv 0)) (blk_by (by kernel_rfl)) (anch_nin (by decide)) (by decide) (fun _ _ _ _ _ => (pg_name (i := 4) sc_goes.nd rfl (by first | exact Or.inl rfl | exact Or.inr rfl))) (fun _ _ _ _ _ => jts_nil) (fun _ _ _ _ _ => (je_cmp ok_in op_in_seq (jv 4) (jv 2))))) ja_nil))))))) (jb_one (js_ret je_bool)) jb_nil)
    (jb_cons (jset 5 (je_cB ok_max (cr_max rfl) rfl B.max_ boot_max (ja_cons (je_n (jn_lc (own := [("number", 4)]) (tgD := (.n 4)) rfl sc_goes.nd (jk_tup (jv 0)) (blk_by (by kernel_rfl)) (anch_nin (by decide)) (by decide) (fun _ _ _ _ _ => (pg_name (i := 4) sc_goes.nd rfl (by first | exact Or.inl rfl | exact Or.inr rfl))) (fun _ _ _ _ _ => jts_nil) (fun _ _ _ _ _ => (je_sub ok_ix ix_X (jv 1) (jv 4))))) ja_nil)) (anch_ne (by decide)) sc_goes.nd)
    (jb_one (js_ret (je_cB ok_all (cr_all rfl) rfl B.all_ boot_all (ja_cons (je_n (jn_lc (own := [("number", 4)]) (tgD := (.n 4)) rfl sc_goes.nd (jk_list (jv 2)) (blk_by (by kernel_rfl)) (anch_nin (by decide)) (by decide) (fun _ _ _ _ _ => (pg_name (i := 4) sc_goes.nd rfl (by first | exact Or.inl rfl | exact Or.inr rfl))) (fun _ _ _ _ _ => (jts_one (jt_cm ok_notIn op_notIn_seq (jv 4) (jv 0)))) (fun _ _ _ _ _ => (je_cmp ok_ge op_ge (je_sub ok_ix ix_X (jv 1) (jv 4)) (jv 5))))) ja_nil)))))))
theorem ok_is_going {f : Addr} {fd : FuncData} (F : Fun K "is_going" "is_going" s_is_going f fd) (B : Bl mg) (C_need_width : CalD P w K ⟨K, T, cls⟩ mg base 4 "need_width" S_need_width) (C_first_take : CalD P w K ⟨K, T, cls⟩ mg base 2 "first_take" S_first_take) (C_goes : CalD P w K ⟨K, T, cls⟩ mg base 3 "goes" S_goes) : FnOk P w K mg base (L2.CX P w) 5 f fd ["thing", "lengths", "width"] (spD ⟨K, T, cls⟩ S_is_going) := by
  refine ok_def ⟨K, T, cls⟩ rfl [] F sc_is_going (by intro a; first | rfl | exact (List.length_map _).trans a.2) (by decide) (by intro a; first | exact own_map | exact (own_v (n := 0) (own_v (own_v own_nil)))) (fun cdv A outer s H vs E hcd hr => ?_) p_is_going
  exact (jb_cons (jdrop (jcall [false] C_need_width hr (by decide) (takes_of rfl rfl rfl rfl) rfl (ja_cons (jv 2) ja_nil)))
    (jb_cons (js_if (jt_not (jt_val (jisi "list" (by decide +kernel) rfl B.isinstance_ rfl B.list_ boot_list (jv 0)))) (jb_one (js_ret je_bool)) jb_nil)
    (jb_cons (jown 3 (jn_cT ok_list cr_list rfl B.list_ boot_list (ja_cons (jv 1) ja_nil)) (anch_ne (by decide)) sc_is_going.nd)
    (jb_cons (jset 4 (je_n (jn_rg1 rfl rfl B.list_ rfl B.range_ (je_cB ok_len cr_len rfl B.len_ boot_len (ja_cons (jv 3) ja_nil)))) (anch_ne (by decide)) sc_is_going.nd)
    (jb_cons (js_for (tg := (.t [5, 6])) (passes_of rfl) rfl (anch_nin (by decide)) (jk_enum rfl B.enumerate_ (ja_cons (jv 0) ja_nil)) (pg_tup rfl (pgs_cons (pg_name (i := 5) sc_is_going.nd rfl (by first | exact Or.inl rfl | exact Or.inr rfl)) (pgs_cons (pg_name (i := 6) sc_is_going.nd rfl (by first | exact Or.inl rfl | exact Or.inr rfl)) pgs_nil))) (jb_cons (jset 7 (jv 2) (anch_ne (by decide)) sc_is_going.nd)
    (jb_cons (js_if (jt_cm ok_eq (op_eqD hr.units) (jv 5) je_int) (jb_one (jset 7 (jcall [false, false] C_first_take hr (by decide) (takes_of rfl rfl rfl rfl) rfl (ja_cons (je_cB ok_max2 (cr_max2 rfl) rfl B.max_ boot_max (ja_cons je_int (ja_cons (je_cB ok_len cr_len rfl B.len_ boot_len (ja_cons (jv 4) ja_nil)) ja_nil))) (ja_cons (jv 2) ja_nil))) (anch_ne (by decide)) sc_is_going.nd)) jb_nil)
    (jb_cons (js_if (jw_t (jw_or (jt_cm ok_lt op_ltX (je_cB ok_len cr_len rfl B.len_ boot_len (ja_cons (jv 4) ja_nil)) je_int) (jw_1o (jt_not (jt_val (jcall [false, false, false, false] C_goes hr (by decide) (takes_of rfl rfl rfl rfl) rfl (ja_cons (jv 6) (ja_cons (jv 3) (ja_cons (jv 4) (ja_cons (jv 7) ja_nil)))))))))) (jb_one (js_ret je_bool)) jb_nil)
    (jb_cons (jdrop (japp 3 (ja_cons (je_cB ok_sum (cr_sum rfl) rfl B.sum_ boot_sum (ja_cons (je_n (jn_lc (own := [("number", 8)]) (tgD := (.n 8)) rfl sc_is_going.nd (jk_tup (jv 6)) (blk_by (by kernel_rfl)) (anch_nin (by decide)) (by decide) (fun _ _ _ _ _ => (pg_name (i := 8) sc_is_going.nd rfl (by first | exact Or.inl rfl | exact Or.inr rfl))) (fun _ _ _ _ _ => jts_nil) (fun _ _ _ _ _ => (je_sub ok_ix ix_X (jv 3) (jv 8))))) ja_nil)) ja_nil)))
    (jb_one (jset 4 (je_bin ok_add op_addX (je_n (jn_lc (own := [("number", 8)]) (tgD := (.n 8)) rfl sc_is_going.nd (jk_list (jv 4)) (blk_by (by kernel_rfl)) (anch_nin (by decide)) (by decide) (fun _ _ _ _ _ => (pg_name (i := 8) sc_is_going.nd rfl (by first | exact Or.inl rfl | exact Or.inr rfl))) (fun _ _ _ _ _ => (jts_one (jt_cm ok_notIn op_notIn_seq (jv 8) (jv 6)))) (fun _ _ _ _ _ => (jv 8)))) (je_n (jn_lstn (jan_cons (je_bin ok_sub op_sub (je_cB ok_len cr_len rfl B.len_ boot_len (ja_cons (jv 3) ja_nil)) je_int) jan_nil) (by decide +kernel)))) (anch_ne (by decide)) sc_is_going.nd)))))))
    (jb_one (js_ret (je_cmp ok_eq (op_eqD hr.units) (je_cB ok_len cr_len rfl B.len_ boot_len (ja_cons (jv 4) ja_nil)) je_int))))))))
theorem ok_least_moved {f : Addr} {fd : FuncData} (F : Fun K "least_moved" "least_moved" s_least_moved f fd) (B : Bl mg) (C_going : CalD P w K ⟨K, T, cls⟩ mg base 5 "going" S_going) : FnOk P w K mg base (L2.CX P w) 6 f fd ["lengths", "width"] (spD ⟨K, T, cls⟩ S_least_moved) := by
  refine ok_def ⟨K, T, cls⟩ rfl [] F sc_least_moved (by intro a; first | rfl | exact (List.length_map _).trans a.2) (by decide) (by intro a; first | exact own_map | exact (own_v (n := 0) (own_v own_nil))) (fun cdv A outer s H vs E hcd hr => ?_) p_least_moved
  exact (jb_cons (jown 2 (jn_cT ok_list cr_list rfl B.list_ boot_list (ja_cons (jv 0) ja_nil)) (anch_ne (by decide)) sc_least_moved.nd)
    (jb_cons (jset 3 je_int (anch_ne (by decide)) sc_least_moved.nd)
    (jb_cons (js_for (tg := (.n 4)) (passes_of rfl) rfl (anch_nin (by decide)) (jk_list (je_n (jncall [false, false] C_going hr (by decide) (takes_of rfl rfl rfl rfl) rfl (ja_cons (jv 0) (ja_cons (jv 1) ja_nil))))) (pg_name (i := 4) sc_least_moved.nd rfl (by first | exact Or.inl rfl | exact Or.inr rfl)) (jb_cons (jdrop (japp 2 (ja_cons (je_cB ok_sum (cr_sum rfl) rfl B.sum_ boot_sum (ja_cons (je_n (jn_lc (own := [("number", 5)]) (tgD := (.n 5)) rfl sc_least_moved.nd (jk_tup (jv 4)) (blk_by (by kernel_rfl)) (anch_nin (by decide)) (by decide) (fun _ _ _ _ _ => (pg_name (i := 5) sc_least_moved.nd rfl (by first | exact Or.inl rfl | exact Or.inr rfl))) (fun _ _ _ _ _ => jts_nil) (fun _ _ _ _ _ => (je_sub ok_ix ix_X (jv 2) (jv 5))))) ja_nil)) ja_nil)))
    (jb_one (jset 3 (je_bin ok_add op_addX (jv 3) (je_sub ok_ix ix_X (jv 2) (je_un ok_neg un_neg je_int))) (anch_ne (by decide)) sc_least_moved.nd))))
    (jb_one (js_ret (jv 3))))))
theorem ok_least_plan {f : Addr} {fd : FuncData} (F : Fun K "least_plan" "least_plan" s_least_plan f fd) (B : Bl mg) (C_going : CalD P w K ⟨K, T, cls⟩ mg base 5 "going" S_going) : FnOk P w K mg base (L2.CX P w) 6 f fd ["lengths", "width"] (spD ⟨K, T, cls⟩ S_least_plan) := by
  refine ok_def ⟨K, T, cls⟩ rfl [] F sc_least_plan (by intro a; first | rfl | exact (List.length_map _).trans a.2) (by decide) (by intro a; first | exact own_map | exact (own_v (n := 0) (own_v own_nil))) (fun cdv A outer s H vs E hcd hr => ?_) p_least_plan
  exact (jb_cons (jown 2 (jn_rg1 rfl rfl B.list_ rfl B.range_ (je_cB ok_len cr_len rfl B.len_ boot_len (ja_cons (jv 0) ja_nil))) (anch_ne (by decide)) sc_least_plan.nd)
    (jb_cons (js_for (tg := (.n 3)) (passes_of rfl) rfl (anch_nin (by decide)) (jk_list (je_n (jncall [false, false] C_going hr (by decide) (takes_of rfl rfl rfl rfl) rfl (ja_cons (jv 0) (ja_cons (jv 1) ja_nil))))) (pg_name (i := 3) sc_least_plan.nd rfl (by first | exact Or.inl rfl | exact Or.inr rfl)) (jb_one (jdrop (japp 2 (ja_cons (je_cT ok_tuple cr_tuple rfl B.tuple_ boot_tuple (ja_cons (je_n (jn_lc (own := [("number", 4)]) (tgD := (.n 4)) rfl sc_least_plan.nd (jk_tup (jv 3)) (blk_by (by kernel_rfl)) (anch_nin (by decide)) (by decide) (fun _ _ _ _ _ => (pg_name (i := 4) sc_least_plan.nd rfl (by first | exact Or.inl rfl | exact Or.inr rfl))) (fun _ _ _ _ _ => jts_nil) (fun _ _ _ _ _ => (je_sub ok_ix ix_X (jv 2) (jv 4))))) ja_nil)) ja_nil)))))
    (jb_one (js_ret (je_sub ok_ix ix_X (jv 2) (je_un ok_neg un_neg je_int))))))
theorem ok__law_cell {f : Addr} {fd : FuncData} (F : Fun K "_law_cell" "_law_cell" s__law_cell f fd) (B : Bl mg)  : FnOk P w K mg base (L2.CX P w) 2 f fd ["script", "k"] (spD ⟨K, T, cls⟩ S__law_cell) := by
  refine ok_def ⟨K, T, cls⟩ rfl [] F sc__law_cell (by intro a; first | rfl | exact (List.length_map _).trans a.2) (by decide) (by intro a; first | exact own_map | exact (own_v (n := 0) (own_v own_nil))) (fun cdv A outer s H vs E hcd hr => ?_) p__law_cell
  exact (jb_cons (js_if (jt_cm ok_lt op_ltX (jv 1) (je_cB ok_len cr_len rfl B.len_ boot_len (ja_cons (jv 0) ja_nil))) (jb_one (js_ret (je_sub ok_ix ix_X (jv 0) (jv 1)))) jb_nil)
    (jb_one (js_ret je_int)))
theorem ok__law_mix {f : Addr} {fd : FuncData} (F : Fun K "_law_mix" "_law_mix" s__law_mix f fd) (B : Bl mg)  : FnOk P w K mg base (L2.CX P w) 2 f fd ["cell", "k"] (spD ⟨K, T, cls⟩ S__law_mix) := by
  refine ok_def ⟨K, T, cls⟩ rfl [] F sc__law_mix (by intro a; first | rfl | exact (List.length_map _).trans a.2) (by decide) (by intro a; first | exact own_map | exact (own_v (n := 0) (own_v own_nil))) (fun cdv A outer s H vs E hcd hr => ?_) p__law_mix
  exact (jb_cons (jset 2 (je_n (jn_lstn (jan_cons je_int (jan_cons je_int (jan_cons je_int (jan_cons je_int (jan_cons je_int (jan_cons je_int (jan_cons je_int (jan_cons je_int (jan_cons je_int (jan_cons je_int (jan_cons je_int (jan_cons je_int (jan_cons je_int jan_nil))))))))))))) (by decide +kernel))) (anch_ne (by decide)) sc__law_mix.nd)
    (jb_cons (jset 3 (je_bin ok_add op_addX (je_bin ok_add op_addX (je_bin ok_mul op_mulW (je_bin ok_add op_addX (je_bin ok_mod op_mod (jv 0) je_int) je_int) (je_sub ok_ix ix_X (jv 2) (je_bin ok_mod op_mod (jv 1) je_int))) (je_bin ok_mul op_mulW je_int (jv 1))) (je_bin ok_mul op_mulW je_int (je_bin ok_div op_fdivW (jv 1) je_int))) (anch_ne (by decide)) sc__law_mix.nd)
    (jb_cons (jset 3 (je_bin ok_mod op_mod (jv 3) je_int) (anch_ne (by decide)) sc__law_mix.nd)
    (jb_one (js_ret (je_bin ok_div op_fdivW (je_bin ok_mod op_mod (je_bin ok_add op_addX (je_bin ok_mul op_mulW (jv 3) (jv 3)) (je_bin ok_mul op_mulW je_int (jv 1))) je_int) je_int))))))
theorem ok__law_box {f : Addr} {fd : FuncData} (F : Fun K "_law_box" "_law_box" s__law_box f fd) (B : Bl mg) (C__law_cell : CalD P w K ⟨K, T, cls⟩ mg base 2 "_law_cell" S__law_cell) (C__law_mix : CalD P w K ⟨K, T, cls⟩ mg base 2 "_law_mix" S__law_mix) : FnOk P w K mg base (L2.CX P w) 3 f fd ["script", "k"] (spD ⟨K, T, cls⟩ S__law_box) := by
  refine ok_def ⟨K, T, cls⟩ rfl [] F sc__law_box (by intro a; first | rfl | exact (List.length_map _).trans a.2) (by decide) (by intro a; first | exact own_map | exact (own_v (n := 0) (own_v own_nil))) (fun cdv A outer s H vs E hcd hr => ?_) p__law_box
  exact (jb_cons (jset 2 (jcall [false, false] C__law_cell hr (by decide) (takes_of rfl rfl rfl rfl) rfl (ja_cons (jv 0) (ja_cons (jv 1) ja_nil))) (anch_ne (by decide)) sc__law_box.nd)
    (jb_cons (js_if (jt_cm ok_eq (op_eqD hr.units) (je_bin ok_mod op_mod (jv 2) je_int) je_int) (jb_one (js_retN (jn_lstn (jan_cons (je_bin ok_div op_fdivW (je_cB ok_abs cr_abs rfl B.abs_ boot_abs (ja_cons (jv 2) ja_nil)) je_int) jan_nil) (by decide +kernel)))) jb_nil)
    (jb_cons (jset 3 je_int (anch_ne (by decide)) sc__law_box.nd)
    (jb_cons (js_for (tg := (.n 4)) (passes_of rfl) rfl (anch_nin (by decide)) (jk_range1 rfl B.range_ (ja_cons je_int ja_nil)) (pg_name (i := 4) sc__law_box.nd rfl (by first | exact Or.inl rfl | exact Or.inr rfl)) (jb_one (jset 3 (je_bin ok_add op_addX (je_bin ok_mul op_mulW (jv 3) je_int) (jcall [false, false] C__law_mix hr (by decide) (takes_of rfl rfl rfl rfl) rfl (ja_cons (jv 2) (ja_cons (jv 4) ja_nil)))) (anch_ne (by decide)) sc__law_box.nd)))
    (jb_one (js_retN (jn_lstn (jan_cons (jv 3) jan_nil) (by decide +kernel))))))))
theorem ok__law_take {f : Addr} {fd : FuncData} (F : Fun K "_law_take" "_law_take" s__law_take f fd) (B : Bl mg)  : FnOk P w K mg base (L2.CX P w) 2 f fd ["box", "many"] (spD ⟨K, T, cls⟩ S__law_take) := by
  refine ok_def ⟨K, T, cls⟩ rfl [0] F sc__law_take (by intro a; first | rfl | exact (List.length_map _).trans a.2) (by decide) (by intro a; first | exact own_map | exact (own_o (n := 0) (by decide) (own_v own_nil))) (fun cdv A outer s H vs E hcd hr => ?_) p__law_take
  exact (jb_cons (jset2 2 3 (je_cB ok_divmod cr_divmod rfl B.divmod_ boot_divmod (ja_cons (je_sub ok_ix ix_X (jv 0) je_int) (ja_cons (jv 1) ja_nil))) (anch_nin (by decide)) (pg_tup rfl (pgs_cons (pg_name (i := 2) sc__law_take.nd rfl (by first | exact Or.inl rfl | exact Or.inr rfl)) (pgs_cons (pg_name (i := 3) sc__law_take.nd rfl (by first | exact Or.inl rfl | exact Or.inr rfl)) pgs_nil))))
    (jb_cons (js_put (jv 2) je_int fun he hi => ps_asg he (pg_sub (pe_var (i := 0) rfl (by first | exact Or.inl rfl | exact Or.inr (Or.inl rfl))) hi set_list))
    (jb_one (js_ret (jv 3)))))
theorem ok__law_whole {f : Addr} {fd : FuncData} (F : Fun K "_law_whole" "_law_whole" s__law_whole f fd) (B : Bl mg)  : FnOk P w K mg base (L2.CX P w) 2 f fd ["thing"] (spD ⟨K, T, cls⟩ S__law_whole) := by
  refine ok_def ⟨K, T, cls⟩ rfl [] F sc__law_whole (by intro a; first | rfl | exact (List.length_map _).trans a.2) (by decide) (by intro a; first | exact own_map | exact (own_v (n := 0) own_nil)) (fun cdv A outer s H vs E hcd hr => ?_) p__law_whole
  exact (jb_one (js_ret (je_and2 (jisi "int" (by decide +kernel) rfl B.isinstance_ rfl B.int_ boot_int (jv 0)) (je_one (je_not (jisi "bool" (by decide +kernel) rfl B.isinstance_ rfl B.bool_ boot_bool (jv 0)))))))
theorem ok__law_lengths {f : Addr} {fd : FuncData} (F : Fun K "_law_lengths" "_law_lengths" s__law_lengths f fd) (B : Bl mg) (C__law_take : CalD P w K ⟨K, T, cls⟩ mg base 2 "_law_take" S__law_take) : FnOk P w K mg base (L2.CX P w) 3 f fd ["box", "most"] (spD ⟨K, T, cls⟩ S__law_lengths) := by
  refine ok_def ⟨K, T, cls⟩ rfl [0] F sc__law_lengths (by intro a; first | rfl | exact (List.length_map _).trans a.2) (by decide) (by intro a; first | exact own_map | exact (own_o (n := 0) (by decide) (own_v own_nil))) (fun cdv A outer s H vs E hcd hr => ?_) p__law_lengths
  exact (jb_cons (jset 2 (je_sub ok_ix ix_X (je_n (jn_lstn (jan_cons je_int (jan_cons je_int (jan_cons je_int (jan_cons (je_bin ok_pow op_pow je_int je_int) jan_nil)))) (by decide +kernel))) (jcall [true, false] C__law_take hr (by decide) (takes_of rfl rfl rfl rfl) rfl (ja_cons (jv 0) (ja_cons je_int ja_nil)))) (anch_ne (by decide)) sc__law_lengths.nd)
    (jb_one (js_ret (je_n (jn_lc (own := [("k", 3)]) (tgD := (.n 3)) rfl sc__law_lengths.nd (jk_range1 rfl B.range_ (ja_cons (je_bin ok_add op_addX je_int (jcall [true, false] C__law_take hr (by decide) (takes_of rfl rfl rfl rfl) rfl (ja_cons (jv 0) (ja_cons (jv 1) ja_nil)))) ja_nil)) (blk_by (by kernel_rfl)) (anch_nin (by decide)) (by decide) (fun _ _ _ _ _ => (pg_name (i := 3) sc__law_lengths.nd rfl (by first | exact Or.inl rfl | exact Or.inr rfl))) (fun _ _ _ _ _ => jts_nil) (fun _ _ _ _ _ => (jcall [true, false] C__law_take hr (by decide) takes0 rfl (ja_cons (jv 0) (ja_cons (jv 2) ja_nil)))))))))
theorem ok__law_no_width {f : Addr} {fd : FuncData} (F : Fun K "_law_no_width" "_law_no_width" s__law_no_width f fd) (B : Bl mg) (C__law_take : CalD P w K ⟨K, T, cls⟩ mg base 2 "_law_take" S__law_take) : FnOk P w K mg base (L2.CX P w) 3 f fd ["box"] (spD ⟨K, T, cls⟩ S__law_no_width) := by
  refine ok_def ⟨K, T, cls⟩ rfl [0] F sc__law_no_width (by intro a; first | rfl | exact (List.length_map _).trans a.2) (by decide) (by intro a; first | exact own_map | exact (own_o (n := 0) (by decide) own_nil)) (fun cdv A outer s H vs E hcd hr => ?_) p__law_no_width
  exact (jb_cons (jset 1 (je_n (jn_lstn (jan_cons je_int (jan_cons je_int (jan_cons je_int (jan_cons (je_un ok_neg un_neg je_int) (jan_cons je_none (jan_cons je_bool (jan_cons je_bool (jan_cons je_str (jan_cons (je_tupn (jan_cons je_int jan_nil) (by decide +kernel)) (jan_cons (je_n (jn_lstn (jan_cons je_int jan_nil) (by decide +kernel))) (jan_cons (je_bin ok_pow op_pow je_int je_int) (jan_cons (je_dispC (kvs := [((.inr "a"), V.int 3)]) (fun _ => (.cons (.int _) .nil)) (by decide) (pe_disp (pps_cons pe_str pe_int pps_nil) rfl rfl (by simp) (by decide))) jan_nil)))))))))))) (by decide +kernel))) (anch_ne (by decide)) sc__law_no_width.nd)
    (jb_one (js_ret (je_sub ok_ix ix_X (jv 1) (jcall [true, false] C__law_take hr (by decide) (takes_of rfl rfl rfl rfl) rfl (ja_cons (jv 0) (ja_cons je_int ja_nil)))))))
theorem ok__law_first_take {f : Addr} {fd : FuncData} (F : Fun K "_law_first_take" "_law_first_take" s__law_first_take f fd) (B : Bl mg)  : FnOk P w K mg base (L2.CX P w) 2 f fd ["many", "width"] (spD ⟨K, T, cls⟩ S__law_first_take) := by
  refine ok_def ⟨K, T, cls⟩ rfl [] F sc__law_first_take (by intro a; first | rfl | exact (List.length_map _).trans a.2) (by decide) (by intro a; first | exact own_map | exact (own_v (n := 0) (own_v own_nil))) (fun cdv A outer s H vs E hcd hr => ?_) p__law_first_take
  exact (jb_cons (jset 2 je_int (anch_ne (by decide)) sc__law_first_take.nd)
    (jb_cons (js_while (passes_of rfl) (jt_cm ok_gt op_gt (je_bin ok_mod op_mod (je_bin ok_sub op_sub (jv 0) (jv 2)) (je_bin ok_sub op_sub (jv 1) je_int)) je_int) (jb_one (jset 2 (je_bin ok_add op_addX (jv 2) je_int) (anch_ne (by decide)) sc__law_first_take.nd)))
    (jb_one (js_ret (jv 2)))))
theorem ok__law_is_going {f : Addr} {fd : FuncData} (F : Fun K "_law_is_going" "_law_is_going" s__law_is_going f fd) (B : Bl mg) (C__law_whole : CalD P w K ⟨K, T, cls⟩ mg base 2 "_law_whole" S__law_whole) (C__law_first_take : CalD P w K ⟨K, T, cls⟩ mg base 2 "_law_first_take" S__law_first_take) : FnOk P w K mg base (L2.CX P w) 3 f fd ["thing", "lengths", "width"] (spD ⟨K, T, cls⟩ S__law_is_going) := by
  refine ok_def ⟨K, T, cls⟩ rfl [] F sc__law_is_going (by intro a; first | rfl | exact (List.length_map _).trans a.2) (by decide) (by intro a; first | exact own_map | exact (own_v (n := 0) (own_v (own_v own_nil)))) (fun cdv A outer s H vs E hcd hr => ?_) p__law_is_going
  exact (jb_cons (js_if (jt_not (jt_val (jisi "list" (by decide +kernel) rfl B.isinstance_ rfl B.list_ boot_list (jv 0)))) (jb_one (js_ret je_bool)) jb_nil)
    (jb_cons (jown 3 (jn_cT ok_list cr_list rfl B.list_ boot_list (ja_cons (jv 1) ja_nil)) (anch_ne (by decide)) sc__law_is_going.nd)
    (jb_cons (jset 4 (je_n (jn_rg1 rfl rfl B.list_ rfl B.range_ (je_cB ok_len cr_len rfl B.len_ boot_len (ja_cons (jv 3) ja_nil)))) (anch_ne (by decide)) sc__law_is_going.nd)
    (jb_cons (js_for (tg := (.t [5, 6])) (passes_of rfl) rfl (anch_nin (by decide)) (jk_enum rfl B.enumerate_ (ja_cons (jv 0) ja_nil)) (pg_tup rfl (pgs_cons (pg_name (i := 5) sc__law_is_going.nd rfl (by first | exact Or.inl rfl | exact Or.inr rfl)) (pgs_cons (pg_name (i := 6) sc__law_is_going.nd rfl (by first | exact Or.inl rfl | exact Or.inr rfl)) pgs_nil))) (jb_cons (js_if (jw_t (jw_or (jt_cm ok_lt op_ltX (je_cB ok_len cr_len rfl B.len_ boot_len (ja_cons (jv 4) ja_nil)) je_int) (jw_or (jt_not (jt_val (jisi "tuple" (by decide +kernel) rfl B.isinstance_ rfl B.tuple_ boot_tuple (jv 6)))) (jw_1o (jt_not (jt_val (je_cB ok_all (cr_all rfl) rfl B.all_ boot_all (ja_cons (je_n (jn_lc (own := [("number", 7)]) (tgD := (.n 7)) rfl sc__law_is_going.nd (jk_tup (jv 6)) (blk_by (by kernel_rfl)) (anch_nin (by decide)) (by decide) (fun _ _ _ _ _ => (pg_name (i := 7) sc__law_is_going.nd rfl (by first | exact Or.inl rfl | exact Or.inr rfl))) (fun _ _ _ _ _ => jts_nil) (fun _ _ _ _ _ => (jcall [false] C__law_whole hr (by decide) takes0 rfl (ja_cons (jv 7) ja_nil))))) ja_nil)))))))) (jb_one (js_ret je_bool)) jb_nil)
    (jb_cons (js_if (jw_t (jw_or (jt_cm ok_ne (op_neD hr.units) (je_cB ok_len cr_len rfl B.len_ boot_len (ja_cons (jv 6) ja_nil)) (je_sub ok_ix ix_X (je_n (jn_lstn (jan_cons (jv 2) (jan_cons (jcall [false, false] C__law_first_take hr (by decide) (takes_of rfl rfl rfl rfl) rfl (ja_cons (je_cB ok_len cr_len rfl B.len_ boot_len (ja_cons (jv 4) ja_nil)) (ja_cons (jv 2) ja_nil))) jan_nil)) (by decide +kernel))) (je_cT ok_toInt cr_int rfl B.int_ boot_int (ja_cons (je_cmp ok_eq (op_eqD hr.units) (jv 5) je_int) ja_nil)))) (jw_1o (jt_cm ok_ne (op_neD hr.units) (je_lenSet rfl rfl rfl B.len_ rfl B.set_ (jv 6)) (je_cB ok_len cr_len rfl B.len_ boot_len (ja_cons (jv 6) ja_nil)))))) (jb_one (js_ret je_bool)) jb_nil)
    (jb_cons (jset_lc 8 (own := [("number", 7)]) (tgD := (.n 7)) rfl sc__law_is_going.nd (jk_list (jv 4)) (blk_by (by kernel_rfl)) (anch_nin (by decide)) (anch_ne (by decide)) (by decide) (fun _ _ _ _ _ => (pg_name (i := 7) sc__law_is_going.nd rfl (by first | exact Or.inl rfl | exact Or.inr rfl))) (fun _ _ _ _ _ => (jts_one (jt_cm ok_notIn op_notIn_seq (jv 7) (jv 6)))) (fun _ _ _ _ _ => (jv 7)))
    (jb_cons (jset 9 (je_cB ok_max (cr_max rfl) rfl B.max_ boot_max (ja_cons (je_bin ok_add op_addX (je_n (jn_lc (own := [("number", 7)]) (tgD := (.n 7)) rfl sc__law_is_going.nd (jk_tup (jv 6)) (blk_by (by kernel_rfl)) (anch_nin (by decide)) (by decide) (fun _ _ _ _ _ => (pg_name (i := 7) sc__law_is_going.nd rfl (by first | exact Or.inl rfl | exact Or.inr rfl))) (fun _ _ _ _ _ => (jts_one (jt_cm ok_in op_in_seq (jv 7) (jv 4)))) (fun _ _ _ _ _ => (je_sub ok_ix ix_X (jv 3) (jv 7))))) (je_n (jn_lstn (jan_cons je_int jan_nil) (by decide +kernel)))) ja_nil)) (anch_ne (by decide)) sc__law_is_going.nd)
    (jb_cons (js_if (jw_t (jw_or (jt_cm ok_ne (op_neD hr.units) (je_bin ok_add op_addX (je_cB ok_len cr_len rfl B.len_ boot_len (ja_cons (jv 8) ja_nil)) (je_cB ok_len cr_len rfl B.len_ boot_len (ja_cons (jv 6) ja_nil))) (je_cB ok_len cr_len rfl B.len_ boot_len (ja_cons (jv 4) ja_nil))) (jw_1o (jt_cm ok_ne (op_neD hr.units) (je_n (jn_lc (own := [("number", 7)]) (tgD := (.n 7)) rfl sc__law_is_going.nd (jk_list (jv 8)) (blk_by (by kernel_rfl)) (anch_nin (by decide)) (by decide) (fun _ _ _ _ _ => (pg_name (i := 7) sc__law_is_going.nd rfl (by first | exact Or.inl rfl | exact Or.inr rfl))) (fun _ _ _ _ _ => (jts_one (jt_cm ok_lt op_ltX (je_sub ok_ix ix_X (jv 3) (jv 7)) (jv 9)))) (fun _ _ _ _ _ => (jv 7)))) (je_n (jn_lstn jan_nil (by decide +kernel))))))) (jb_one (js_ret je_bool)) jb_nil)
    (jb_cons (jdrop (japp 3 (ja_cons (je_cB ok_sum (cr_sum rfl) rfl B.sum_ boot_sum (ja_cons (je_n (jn_lc (own := [("number", 7)]) (tgD := (.n 7)) rfl sc__law_is_going.nd (jk_tup (jv 6)) (blk_by (by kernel_rfl)) (anch_nin (by decide)) (by decide) (fun _ _ _ _ _ => (pg_name (i := 7) sc__law_is_going.nd rfl (by first | exact Or.inl rfl | exact Or.inr rfl))) (fun _ _ _ _ _ => jts_nil) (fun _ _ _ _ _ => (je_sub ok_ix ix_X (jv 3) (jv 7))))) ja_nil)) ja_nil)))
    (jb_one (jset 4 (je_bin ok_add op_addX (jv 8) (je_n (jn_lstn (jan_cons (je_bin ok_sub op_sub (je_cB ok_len cr_len rfl B.len_ boot_len (ja_cons (jv 3) ja_nil)) je_int) jan_nil) (by decide +kernel)))) (anch_ne (by decide)) sc__law_is_going.nd)))))))))
    (jb_one (js_ret (je_cmp ok_eq (op_eqD hr.units) (je_cB ok_len cr_len rfl B.len_ boot_len (ja_cons (jv 4) ja_nil)) je_int)))))))
theorem ok__law_refused {f : Addr} {fd : FuncData} (F : Fun K "_law_refused" "_law_refused" s__law_refused f fd) (B : Bl mg) (X_ : Xc K mg cls C_PourError C_NoRoom C_NoWidth) (C_going : CalD P w K ⟨K, T, cls⟩ mg base 5 "going" S_going) (C_is_going : CalD P w K ⟨K, T, cls⟩ mg base 5 "is_going" S_is_going) (C_least_moved : CalD P w K ⟨K, T, cls⟩ mg base 6 "least_moved" S_least_moved) (C_least_plan : CalD P w K ⟨K, T, cls⟩ mg base 6 "least_plan" S_least_plan) : FnOk P w K mg base (L2.CX P w) 7 f fd ["way", "lengths", "width"] (spD ⟨K, T, cls⟩ S__law_refused) := by
  refine ok_def ⟨K, T, cls⟩ rfl [] F sc__law_refused (by intro a; first | rfl | exact (List.length_map _).trans a.2) (by decide) (by intro a; first | exact own_map | exact (own_v (n := 0) (own_v (own_v own_nil)))) (fun cdv A outer s H vs E hcd hr => ?_) p__law_refused
  exact (jb_cons (js_try rfl rfl sc__law_refused.nd rfl rfl ⟨rfl, by decide, .inl X_.g_PourError⟩ (takes_of rfl rfl rfl rfl) (anch_ne (by decide)) X_.hcatch_PourError (fun W pn xe tk po => (jb_one (js_if (jt_cm ok_eq (op_eqD hr.units) (jv 0) je_int) (jb_one (jdrop (je_n (jncall [false, false] C_going hr (by decide) tk rfl (ja_cons (jv 1) (ja_cons (jv 2) ja_nil)))))) (jb_one (js_if (jt_cm ok_eq (op_eqD hr.units) (jv 0) je_int) (jb_one (jdrop (jcall [false, false, false] C_is_going hr (by decide) tk rfl (ja_cons (je_n (jn_lstn jan_nil (by decide +kernel))) (ja_cons (jv 1) (ja_cons (jv 2) ja_nil)))))) (jb_one (js_if (jt_cm ok_eq (op_eqD hr.units) (jv 0) je_int) (jb_one (jdrop (jcall [false, false] C_least_moved hr (by decide) tk rfl (ja_cons (jv 1) (ja_cons (jv 2) ja_nil))))) (jb_one (jdrop (jcall [false, false] C_least_plan hr (by decide) tk rfl (ja_cons (jv 1) (ja_cons (jv 2) ja_nil)))))))))))) (fun a oe x C d pn hC hx hcn hz hf => (jb_one (js_ret (je_and2 (je_isE (tv := (V.ref C_NoWidth)) (cv := (Value.ref C_NoWidth)) (i := 3) hz hx hC (X_.exc hC) hf (fun u r => r) (X_.hsub_NoWidth hC) (fun _ hcr => pe_callB hcr rfl B.isinstance_ boot_isinstance (pa_cons (pe_var (i := 3) rfl (.inl rfl)) (pa_cons (pe_glob rfl X_.g_NoWidth rfl) pa_nil)))) (je_and2 (je_isE (tv := (V.ty "ValueError")) (cv := (Value.type "ValueError")) (i := 3) hz hx hC (X_.exc hC) hf (fun u r => r) (X_.hsub_ValueError hC) (fun _ hcr => pe_callB hcr rfl B.isinstance_ boot_isinstance (pa_cons (pe_var (i := 3) rfl (.inl rfl)) (pa_cons (pe_bltn rfl B.ValueError_ (by first | rfl | kernel_rfl) rfl) pa_nil)))) (je_one (je_not (je_isE (tv := (V.ref C_NoRoom)) (cv := (Value.ref C_NoRoom)) (i := 3) hz hx hC (X_.exc hC) hf (fun u r => r) (X_.hsub_NoRoom hC) (fun _ hcr => pe_callB hcr rfl B.isinstance_ boot_isinstance (pa_cons (pe_var (i := 3) rfl (.inl rfl)) (pa_cons (pe_glob rfl X_.g_NoRoom rfl) pa_nil))))))))))) X_.hcl (passes_of rfl))
    (jb_one (js_ret je_bool)))
theorem ok_law {f : Addr} {fd : FuncData} (F : Fun K "law" "law" s_law f fd) (B : Bl mg) (C__law_box : CalD P w K ⟨K, T, cls⟩ mg base 3 "_law_box" S__law_box) (C__law_lengths : CalD P w K ⟨K, T, cls⟩ mg base 3 "_law_lengths" S__law_lengths) (C_going : CalD P w K ⟨K, T, cls⟩ mg base 5 "going" S_going) (C__law_no_width : CalD P w K ⟨K, T, cls⟩ mg base 3 "_law_no_width" S__law_no_width) (C__law_take : CalD P w K ⟨K, T, cls⟩ mg base 2 "_law_take" S__law_take) (C_is_going : CalD P w K ⟨K, T, cls⟩ mg base 5 "is_going" S_is_going) (C__law_is_going : CalD P w K ⟨K, T, cls⟩ mg base 3 "_law_is_going" S__law_is_going) (C__law_refused : CalD P w K ⟨K, T, cls⟩ mg base 7 "_law_refused" S__law_refused) : FnOk P w K mg base (L2.CX P w) 8 f fd ["script"] (spD ⟨K, T, cls⟩ S_law) := by
  refine ok_def ⟨K, T, cls⟩ rfl [] F sc_law (by intro a; first | rfl | exact (List.length_map _).trans a.2) (by decide) (by intro a; first | exact own_map | exact (own_v (n := 0) own_nil)) (fun cdv A outer s H vs E hcd hr => ?_) p_law
  exact (jb_cons (js_for (tg := (.n 1)) (passes_of rfl) rfl (anch_nin (by decide)) (jk_range1 rfl B.range_ (ja_cons (je_cB ok_max2 (cr_max2 rfl) rfl B.max_ boot_max (ja_cons je_int (ja_cons (je_cB ok_min2 (cr_min2 rfl) rfl B.min_ boot_min (ja_cons (je_cB ok_len cr_len rfl B.len_ boot_len (ja_cons (jv 0) ja_nil)) (ja_cons je_int ja_nil))) ja_nil))) ja_nil)) (pg_name (i := 1) sc_law.nd rfl (by first | exact Or.inl rfl | exact Or.inr rfl)) (jb_cons (jown 2 (jncall [false, false] C__law_box hr (by decide) (takes_of rfl rfl rfl rfl) rfl (ja_cons (jv 0) (ja_cons (jv 1) ja_nil))) (anch_ne (by decide)) sc_law.nd)
    (jb_cons (jset 3 (jcall [true, false] C__law_lengths hr (by decide) (takes_of rfl rfl rfl rfl) rfl (ja_cons (jv 2) (ja_cons (je_sub ok_ix ix_X (je_n (jn_lstn (jan_cons je_int (jan_cons je_int (jan_cons je_int (jan_cons je_int (jan_cons je_int (jan_cons je_int (jan_cons je_int (jan_cons je_int jan_nil)))))))) (by decide +kernel))) (jcall [true, false] C__law_take hr (by decide) (takes_of rfl rfl rfl rfl) rfl (ja_cons (jv 2) (ja_cons je_int ja_nil)))) ja_nil))) (anch_ne (by decide)) sc_law.nd)
    (jb_cons (jset 4 (je_bin ok_add op_addX je_int (jcall [true, false] C__law_take hr (by decide) (takes_of rfl rfl rfl rfl) rfl (ja_cons (jv 2) (ja_cons je_int ja_nil)))) (anch_ne (by decide)) sc_law.nd)
    (jb_cons (jset 5 (je_n (jn_cT ok_list cr_list rfl B.list_ boot_list (ja_cons (jv 3) ja_nil))) (anch_ne (by decide)) sc_law.nd)
    (jb_cons (jown 6 (jncall [false, false] C_going hr (by decide) (takes_of rfl rfl rfl rfl) rfl (ja_cons (jv 5) (ja_cons (jv 4) ja_nil))) (anch_ne (by decide)) sc_law.nd)
    (jb_cons (js_if (jw_t (jw_or (jt_not (jt_val (jcall [false, false, false] C__law_is_going hr (by decide) (takes_of rfl rfl rfl rfl) rfl (ja_cons (jv 6) (ja_cons (jv 3) (ja_cons (jv 4) ja_nil)))))) (jw_1o (jt_cm ok_ne (op_neD hr.units) (jv 5) (jv 3))))) (jb_one (js_ret je_bool)) jb_nil)
    (jb_cons (js_if (jt_cm ok_notB op_notBl (jcall [false, false, false] C_is_going hr (by decide) (takes_of rfl rfl rfl rfl) rfl (ja_cons (jv 6) (ja_cons (jv 5) (ja_cons (jv 4) ja_nil)))) je_bool) (jb_one (js_ret je_bool)) jb_nil)
    (jb_cons (jset 7 (je_n (jn_cT ok_list cr_list rfl B.list_ boot_list (ja_cons (jv 6) ja_nil))) (anch_ne (by decide)) sc_law.nd)
    (jb_cons (jdrop (japp 6 (ja_cons (je_tupn (jan_cons je_int (jan_cons je_int jan_nil)) (by decide +kernel)) ja_nil)))
    (jb_cons (js_if (jw_t (jw_or (jt_cm ok_ne (op_neD hr.units) (je_n (jncall [false, false] C_going hr (by decide) (takes_of rfl rfl rfl rfl) rfl (ja_cons (jv 5) (ja_cons (jv 4) ja_nil)))) (jv 7)) (jw_1o (jw_t (jw_and (jt_cm ok_eq (op_eqD hr.units) (je_cB ok_len cr_len rfl B.len_ boot_len (ja_cons (jv 3) ja_nil)) je_int) (jw_1a (jt_cm ok_ne (op_neD hr.units) (jv 7) (je_n (jn_lstn jan_nil (by decide +kernel)))))))))) (jb_one (js_ret je_bool)) jb_nil)
    (jb_cons (jset 8 (jcall [true] C__law_no_width hr (by decide) (takes_of rfl rfl rfl rfl) rfl (ja_cons (jv 2) ja_nil)) (anch_ne (by decide)) sc_law.nd)
    (jb_one (js_for (tg := (.n 9)) (passes_of rfl) rfl (anch_nin (by decide)) (jk_range1 rfl B.range_ (ja_cons je_int ja_nil)) (pg_name (i := 9) sc_law.nd rfl (by first | exact Or.inl rfl | exact Or.inr rfl)) (jb_one (js_if (jt_not (jt_val (jcall [false, false, false] C__law_refused hr (by decide) (takes_of rfl rfl rfl rfl) rfl (ja_cons (jv 9) (ja_cons (jv 5) (ja_cons (jv 8) ja_nil)))))) (jb_one (js_ret je_bool)) jb_nil))))))))))))))))
    (jb_one (js_ret je_bool)))
end
set_option maxHeartbeats 0 in
theorem all_mk {l : PySem.W.OpenLaw} {w : World} {K : PySem.W.Frag} {h : Heap} {mg : Str → Option Value} {fa : Addr} (X : K.In h) (G : h.Ns mainGlobals mg) (hfa : mg "law" = some (.ref fa)) {f0 : Addr} {od0 an0 : Option Addr} {sl0 : Array (Option Value)} {oc0 kV0 dc0 pm0 ct0 : Value} {cd0 : Value}
    {f1 : Addr} {od1 an1 : Option Addr} {sl1 : Array (Option Value)} {oc1 kV1 dc1 pm1 ct1 : Value} {cd1 : Value}
    {f2 : Addr} {od2 an2 : Option Addr} {sl2 : Array (Option Value)} {oc2 kV2 dc2 pm2 ct2 : Value} {cd2 : Value}
    {f3 : Addr} {od3 an3 : Option Addr} {sl3 : Array (Option Value)} {oc3 kV3 dc3 pm3 ct3 : Value} {cd3 : Value}
    {f4 : Addr} {od4 an4 : Option Addr} {sl4 : Array (Option Value)} {oc4 kV4 dc4 pm4 ct4 : Value} {cc_going Pt_going : Addr}
    {f5 : Addr} {od5 an5 : Option Addr} {sl5 : Array (Option Value)} {oc5 kV5 dc5 pm5 ct5 : Value} {cd5 : Value}
    {f6 : Addr} {od6 an6 : Option Addr} {sl6 : Array (Option Value)} {oc6 kV6 dc6 pm6 ct6 : Value} {cd6 : Value}
    {f7 : Addr} {od7 an7 : Option Addr} {sl7 : Array (Option Value)} {oc7 kV7 dc7 pm7 ct7 : Value} {cd7 : Value}
    {f8 : Addr} {od8 an8 : Option Addr} {sl8 : Array (Option Value)} {oc8 kV8 dc8 pm8 ct8 : Value} {cd8 : Value}
    {f9 : Addr} {od9 an9 : Option Addr} {sl9 : Array (Option Value)} {oc9 kV9 dc9 pm9 ct9 : Value} {cd9 : Value}
    {f10 : Addr} {od10 an10 : Option Addr} {sl10 : Array (Option Value)} {oc10 kV10 dc10 pm10 ct10 : Value} {cd10 : Value}
    {f11 : Addr} {od11 an11 : Option Addr} {sl11 : Array (Option Value)} {oc11 kV11 dc11 pm11 ct11 : Value} {cd11 : Value}
    {f12 : Addr} {od12 an12 : Option Addr} {sl12 : Array (Option Value)} {oc12 kV12 dc12 pm12 ct12 : Value} {cd12 : Value}
    {f13 : Addr} {od13 an13 : Option Addr} {sl13 : Array (Option Value)} {oc13 kV13 dc13 pm13 ct13 : Value} {cd13 : Value}
    {f14 : Addr} {od14 an14 : Option Addr} {sl14 : Array (Option Value)} {oc14 kV14 dc14 pm14 ct14 : Value} {cd14 : Value}
    {f15 : Addr} {od15 an15 : Option Addr} {sl15 : Array (Option Value)} {oc15 kV15 dc15 pm15 ct15 : Value} {cd15 : Value}
    {f16 : Addr} {od16 an16 : Option Addr} {sl16 : Array (Option Value)} {oc16 kV16 dc16 pm16 ct16 : Value} {cd16 : Value}
    {f17 : Addr} {od17 an17 : Option Addr} {sl17 : Array (Option Value)} {oc17 kV17 dc17 pm17 ct17 : Value} {cd17 : Value}
    {f18 : Addr} {od18 an18 : Option Addr} {sl18 : Array (Option Value)} {oc18 kV18 dc18 pm18 ct18 : Value} {cd18 : Value}
    {f19 : Addr} {od19 an19 : Option Addr} {sl19 : Array (Option Value)} {oc19 kV19 dc19 pm19 ct19 : Value} {cd19 : Value}
    {C_PourError : Addr}
    {C_NoRoom : Addr}
    {C_NoWidth : Addr}
    (hTab : ∀ P ∈ [Pt_going], h.get? P = some (PySem.W.tabObj #[]))
    (a0 : PySem.W.nsIn K mainGlobals "is_whole" = some (some (.ref f0)))
    (l0 : K.lookup f0 = some ⟨oc0, od0, .func (PySem.W.fnOf "is_whole" "is_whole" (defArgs s_is_whole) (defBody s_is_whole) (defScope s_is_whole) .none kV0 dc0 pm0 an0 cd0 ct0), sl0⟩)
    (c0 : PySem.W.codeIn K cd0 "is_whole" = true)
    (k0 : PySem.W.keepIn K (.ref f0) = true)
    (a1 : PySem.W.nsIn K mainGlobals "is_between" = some (some (.ref f1)))
    (l1 : K.lookup f1 = some ⟨oc1, od1, .func (PySem.W.fnOf "is_between" "is_between" (defArgs s_is_between) (defBody s_is_between) (defScope s_is_between) .none kV1 dc1 pm1 an1 cd1 ct1), sl1⟩)
    (c1 : PySem.W.codeIn K cd1 "is_between" = true)
    (k1 : PySem.W.keepIn K (.ref f1) = true)
    (a2 : PySem.W.nsIn K mainGlobals "need_width" = some (some (.ref f2)))
    (l2 : K.lookup f2 = some ⟨oc2, od2, .func (PySem.W.fnOf "need_width" "need_width" (defArgs s_need_width) (defBody s_need_width) (defScope s_need_width) .none kV2 dc2 pm2 an2 cd2 ct2), sl2⟩)
    (c2 : PySem.W.codeIn K cd2 "need_width" = true)
    (k2 : PySem.W.keepIn K (.ref f2) = true)
    (a3 : PySem.W.nsIn K mainGlobals "first_take" = some (some (.ref f3)))
    (l3 : K.lookup f3 = some ⟨oc3, od3, .func (PySem.W.fnOf "first_take" "first_take" (defArgs s_first_take) (defBody s_first_take) (defScope s_first_take) .none kV3 dc3 pm3 an3 cd3 ct3), sl3⟩)
    (c3 : PySem.W.codeIn K cd3 "first_take" = true)
    (k3 : PySem.W.keepIn K (.ref f3) = true)
    (a4 : PySem.W.nsIn K mainGlobals "going" = some (some (.ref f4)))
    (l4 : K.lookup f4 = some ⟨oc4, od4, .func (PySem.W.fnOf "going" "going" (defArgs s_going) (defBody s_going) (defScope s_going) .none kV4 dc4 pm4 an4 (Value.ref cc_going) ct4), sl4⟩)
    (c4 : PySem.W.codeIn K (Value.ref cc_going) "going" = true)
    (k4 : PySem.W.keepIn K (.ref f4) = true)
    (h4 : PySem.W.codeHdIn K cc_going Pt_going = true)
    (n4 : K.lookup Pt_going = none)
    (a5 : PySem.W.nsIn K mainGlobals "goes" = some (some (.ref f5)))
    (l5 : K.lookup f5 = some ⟨oc5, od5, .func (PySem.W.fnOf "goes" "goes" (defArgs s_goes) (defBody s_goes) (defScope s_goes) .none kV5 dc5 pm5 an5 cd5 ct5), sl5⟩)
    (c5 : PySem.W.codeIn K cd5 "goes" = true)
    (k5 : PySem.W.keepIn K (.ref f5) = true)
    (a6 : PySem.W.nsIn K mainGlobals "is_going" = some (some (.ref f6)))
    (l6 : K.lookup f6 = some ⟨oc6, od6, .func (PySem.W.fnOf "is_going" "is_going" (defArgs s_is_going) (defBody s_is_going) (defScope s_is_going) .none kV6 dc6 pm6 an6 cd6 ct6), sl6⟩)
    (c6 : PySem.W.codeIn K cd6 "is_going" = true)
    (k6 : PySem.W.keepIn K (.ref f6) = true)
    (a7 : PySem.W.nsIn K mainGlobals "least_moved" = some (some (.ref f7)))
    (l7 : K.lookup f7 = some ⟨oc7, od7, .func (PySem.W.fnOf "least_moved" "least_moved" (defArgs s_least_moved) (defBody s_least_moved) (defScope s_least_moved) .none kV7 dc7 pm7 an7 cd7 ct7), sl7⟩)
    (c7 : PySem.W.codeIn K cd7 "least_moved" = true)
    (k7 : PySem.W.keepIn K (.ref f7) = true)
    (a8 : PySem.W.nsIn K mainGlobals "least_plan" = some (some (.ref f8)))
    (l8 : K.lookup f8 = some ⟨oc8, od8, .func (PySem.W.fnOf "least_plan" "least_plan" (defArgs s_least_plan) (defBody s_least_plan) (defScope s_least_plan) .none kV8 dc8 pm8 an8 cd8 ct8), sl8⟩)
    (c8 : PySem.W.codeIn K cd8 "least_plan" = true)
    (k8 : PySem.W.keepIn K (.ref f8) = true)
    (a9 : PySem.W.nsIn K mainGlobals "_law_cell" = some (some (.ref f9)))
    (l9 : K.lookup f9 = some ⟨oc9, od9, .func (PySem.W.fnOf "_law_cell" "_law_cell" (defArgs s__law_cell) (defBody s__law_cell) (defScope s__law_cell) .none kV9 dc9 pm9 an9 cd9 ct9), sl9⟩)
    (c9 : PySem.W.codeIn K cd9 "_law_cell" = true)
    (k9 : PySem.W.keepIn K (.ref f9) = true)
    (a10 : PySem.W.nsIn K mainGlobals "_law_mix" = some (some (.ref f10)))
    (l10 : K.lookup f10 = some ⟨oc10, od10, .func (PySem.W.fnOf "_law_mix" "_law_mix" (defArgs s__law_mix) (defBody s__law_mix) (defScope s__law_mix) .none kV10 dc10 pm10 an10 cd10 ct10), sl10⟩)
    (c10 : PySem.W.codeIn K cd10 "_law_mix" = true)
    (k10 : PySem.W.keepIn K (.ref f10) = true)
    (a11 : PySem.W.nsIn K mainGlobals "_law_box" = some (some (.ref f11)))
    (l11 : K.lookup f11 = some ⟨oc11, od11, .func (PySem.W.fnOf "_law_box" "_law_box" (defArgs s__law_box) (defBody s__law_box) (defScope s__law_box) .none kV11 dc11 pm11 an11 cd11 ct11), sl11⟩)
    (c11 : PySem.W.codeIn K cd11 "_law_box" = true)
    (k11 : PySem.W.keepIn K (.ref f11) = true)
    (a12 : PySem.W.nsIn K mainGlobals "_law_take" = some (some (.ref f12)))
    (l12 : K.lookup f12 = some ⟨oc12, od12, .func (PySem.W.fnOf "_law_take" "_law_take" (defArgs s__law_take) (defBody s__law_take) (defScope s__law_take) .none kV12 dc12 pm12 an12 cd12 ct12), sl12⟩)
    (c12 : PySem.W.codeIn K cd12 "_law_take" = true)
    (k12 : PySem.W.keepIn K (.ref f12) = true)
    (a13 : PySem.W.nsIn K mainGlobals "_law_whole" = some (some (.ref f13)))
    (l13 : K.lookup f13 = some ⟨oc13, od13, .func (PySem.W.fnOf "_law_whole" "_law_whole" (defArgs s__law_whole) (defBody s__law_whole) (defScope s__law_whole) .none kV13 dc13 pm13 an13 cd13 ct13), sl13⟩)
    (c13 : PySem.W.codeIn K cd13 "_law_whole" = true)
    (k13 : PySem.W.keepIn K (.ref f13) = true)
    (a14 : PySem.W.nsIn K mainGlobals "_law_lengths" = some (some (.ref f14)))
    (l14 : K.lookup f14 = some ⟨oc14, od14, .func (PySem.W.fnOf "_law_lengths" "_law_lengths" (defArgs s__law_lengths) (defBody s__law_lengths) (defScope s__law_lengths) .none kV14 dc14 pm14 an14 cd14 ct14), sl14⟩)
    (c14 : PySem.W.codeIn K cd14 "_law_lengths" = true)
    (k14 : PySem.W.keepIn K (.ref f14) = true)
    (a15 : PySem.W.nsIn K mainGlobals "_law_no_width" = some (some (.ref f15)))
    (l15 : K.lookup f15 = some ⟨oc15, od15, .func (PySem.W.fnOf "_law_no_width" "_law_no_width" (defArgs s__law_no_width) (defBody s__law_no_width) (defScope s__law_no_width) .none kV15 dc15 pm15 an15 cd15 ct15), sl15⟩)
    (c15 : PySem.W.codeIn K cd15 "_law_no_width" = true)
    (k15 : PySem.W.keepIn K (.ref f15) = true)
    (a16 : PySem.W.nsIn K mainGlobals "_law_first_take" = some (some (.ref f16)))
    (l16 : K.lookup f16 = some ⟨oc16, od16, .func (PySem.W.fnOf "_law_first_take" "_law_first_take" (defArgs s__law_first_take) (defBody s__law_first_take) (defScope s__law_first_take) .none kV16 dc16 pm16 an16 cd16 ct16), sl16⟩)
    (c16 : PySem.W.codeIn K cd16 "_law_first_take" = true)
    (k16 : PySem.W.keepIn K (.ref f16) = true)
    (a17 : PySem.W.nsIn K mainGlobals "_law_is_going" = some (some (.ref f17)))
    (l17 : K.lookup f17 = some ⟨oc17, od17, .func (PySem.W.fnOf "_law_is_going" "_law_is_going" (defArgs s__law_is_going) (defBody s__law_is_going) (defScope s__law_is_going) .none kV17 dc17 pm17 an17 cd17 ct17), sl17⟩)
    (c17 : PySem.W.codeIn K cd17 "_law_is_going" = true)
    (k17 : PySem.W.keepIn K (.ref f17) = true)
    (a18 : PySem.W.nsIn K mainGlobals "_law_refused" = some (some (.ref f18)))
    (l18 : K.lookup f18 = some ⟨oc18, od18, .func (PySem.W.fnOf "_law_refused" "_law_refused" (defArgs s__law_refused) (defBody s__law_refused) (defScope s__law_refused) .none kV18 dc18 pm18 an18 cd18 ct18), sl18⟩)
    (c18 : PySem.W.codeIn K cd18 "_law_refused" = true)
    (k18 : PySem.W.keepIn K (.ref f18) = true)
    (a19 : PySem.W.nsIn K mainGlobals "law" = some (some (.ref f19)))
    (l19 : K.lookup f19 = some ⟨oc19, od19, .func (PySem.W.fnOf "law" "law" (defArgs s_law) (defBody s_law) (defScope s_law) .none kV19 dc19 pm19 an19 cd19 ct19), sl19⟩)
    (c19 : PySem.W.codeIn K cd19 "law" = true)
    (k19 : PySem.W.keepIn K (.ref f19) = true)
    (z_ValueError : PySem.W.nsIn K mainGlobals "ValueError" = some none)
    (z_abs : PySem.W.nsIn K mainGlobals "abs" = some none)
    (z_all : PySem.W.nsIn K mainGlobals "all" = some none)
    (z_bool : PySem.W.nsIn K mainGlobals "bool" = some none)
    (z_divmod : PySem.W.nsIn K mainGlobals "divmod" = some none)
    (z_enumerate : PySem.W.nsIn K mainGlobals "enumerate" = some none)
    (z_int : PySem.W.nsIn K mainGlobals "int" = some none)
    (z_isinstance : PySem.W.nsIn K mainGlobals "isinstance" = some none)
    (z_len : PySem.W.nsIn K mainGlobals "len" = some none)
    (z_list : PySem.W.nsIn K mainGlobals "list" = some none)
    (z_max : PySem.W.nsIn K mainGlobals "max" = some none)
    (z_min : PySem.W.nsIn K mainGlobals "min" = some none)
    (z_range : PySem.W.nsIn K mainGlobals "range" = some none)
    (z_set : PySem.W.nsIn K mainGlobals "set" = some none)
    (z_sorted : PySem.W.nsIn K mainGlobals "sorted" = some none)
    (z_sum : PySem.W.nsIn K mainGlobals "sum" = some none)
    (z_tuple : PySem.W.nsIn K mainGlobals "tuple" = some none)
    (g_PourError : PySem.W.nsIn K mainGlobals "PourError" = some (some (.ref C_PourError)))
    (g_NoRoom : PySem.W.nsIn K mainGlobals "NoRoom" = some (some (.ref C_NoRoom)))
    (g_NoWidth : PySem.W.nsIn K mainGlobals "NoWidth" = some (some (.ref C_NoWidth)))
    (x_NoWidth : PySem.W.excIn K C_NoWidth [.type "ValueError", .type "Exception", .type "BaseException", .type "object"] "ValueError.__new__" = true)
    (kc_NoWidth : PySem.W.keepIn K (.ref C_NoWidth) = true)
    (b_NoWidth : PySem.W.subIn K (.ref C_NoWidth) (.type "BaseException") = some true)
    (t_NoWidth : PySem.W.typeIn K (.ref C_NoWidth) = some (.type "type"))
    (b_PourError : PySem.W.subIn K (.ref C_PourError) (.type "BaseException") = some true)
    (t_PourError : PySem.W.typeIn K (.ref C_PourError) = some (.type "type"))
    (d_PourError : PySem.W.hasDictIn K C_PourError = true)
    (s_NoWidth_PourError : PySem.W.subIn K (.ref C_NoWidth) (.ref C_PourError) = some true)
    (e1_NoWidth : PySem.W.findIn K (.ref C_NoWidth) "__getattribute__" = some (some (.builtin "BaseException.__getattribute__")))
    (e2_NoWidth : PySem.W.findIn K (.ref C_NoWidth) "__getattr__" = some none)
    (e3_NoWidth : PySem.W.hasDictIn K C_NoWidth = true)
    (e4_NoWidth : PySem.W.findIn K (.ref C_NoWidth) "__class__" = some (some (.builtin "object.__class__")))
    (e5_NoWidth : PySem.W.mroIn K C_NoWidth (.type "object") = some true)
    (i_NoWidth_NoWidth : PySem.W.kitOne K (.ref C_NoWidth) (.ref C_NoWidth) = some true)
    (i_NoWidth_ValueError : PySem.W.kitOne K (.ref C_NoWidth) (.type "ValueError") = some true)
    (i_NoWidth_NoRoom : PySem.W.kitOne K (.ref C_NoWidth) (.ref C_NoRoom) = some false)
    (o1 : PySem.W.specialIn K (.builtin "object.__class__") "__get__" = some (some (.builtin "getset_descriptor.__get__")))
    (o2 : PySem.W.takesIn K (.builtin "object.__class__") = some true) :
    LamX.LawAtS l w K (L2.CX l.prog w) 8 63 "script" mg fa h := by
  have e := hfa.symm.trans (PySem.W.mg_of X G a19)
  cases e
  have B : Bl mg := ⟨PySem.W.mg_none_of X G z_ValueError, PySem.W.mg_none_of X G z_abs, PySem.W.mg_none_of X G z_all, PySem.W.mg_none_of X G z_bool, PySem.W.mg_none_of X G z_divmod, PySem.W.mg_none_of X G z_enumerate, PySem.W.mg_none_of X G z_int, PySem.W.mg_none_of X G z_isinstance, PySem.W.mg_none_of X G z_len, PySem.W.mg_none_of X G z_list, PySem.W.mg_none_of X G z_max, PySem.W.mg_none_of X G z_min, PySem.W.mg_none_of X G z_range, PySem.W.mg_none_of X G z_set, PySem.W.mg_none_of X G z_sorted, PySem.W.mg_none_of X G z_sum, PySem.W.mg_none_of X G z_tuple⟩
  have X_ : Xc K mg (fun n => if n = "NoWidth" then some C_NoWidth else none) C_PourError C_NoRoom C_NoWidth :=
    { g_PourError := PySem.W.mg_of X G g_PourError,
      g_NoRoom := PySem.W.mg_of X G g_NoRoom,
      g_NoWidth := PySem.W.mg_of X G g_NoWidth,
      c_NoWidth := by simp,
      x_NoWidth := x_NoWidth,
      k_NoWidth := kc_NoWidth,
      b_NoWidth := b_NoWidth,
      t_NoWidth := t_NoWidth,
      hcatch_PourError := (by
      intro n C hC
      try dsimp only at hC
      by_cases eNoWidth : n = "NoWidth"
      · subst eNoWidth; simp at hC; subst hC; exact PySem.W.exm_ref b_PourError d_PourError t_PourError s_NoWidth_PourError
      simp only [eNoWidth, if_false] at hC
      cases hC),
      hcl := (by
      intro n e
      simp [catch_PourError] at e
      subst e
      all_goals exact ⟨_, by first | rfl | simp⟩),
      exc := (by
      intro n C hC
      try dsimp only at hC
      by_cases eNoWidth : n = "NoWidth"
      · subst eNoWidth; simp at hC; subst hC; exact ⟨e1_NoWidth, e2_NoWidth, b_NoWidth, e3_NoWidth, e4_NoWidth, o1, o2, e5_NoWidth⟩
      simp only [eNoWidth, if_false] at hC
      cases hC),
      hsub_NoWidth := (by
      intro n C hC
      try dsimp only at hC
      by_cases eNoWidth : n = "NoWidth"
      · subst eNoWidth; simp at hC; subst hC; exact i_NoWidth_NoWidth
      simp only [eNoWidth, if_false] at hC
      cases hC),
      hsub_ValueError := (by
      intro n C hC
      try dsimp only at hC
      by_cases eNoWidth : n = "NoWidth"
      · subst eNoWidth; simp at hC; subst hC; exact i_NoWidth_ValueError
      simp only [eNoWidth, if_false] at hC
      cases hC),
      hsub_NoRoom := (by
      intro n C hC
      try dsimp only at hC
      by_cases eNoWidth : n = "NoWidth"
      · subst eNoWidth; simp at hC; subst hC; exact i_NoWidth_NoRoom
      simp only [eNoWidth, if_false] at hC
      cases hC) }
  have F0 := fun_mk (st := s_is_whole) l0 c0 k0
  have b0 := F0.binds (ps := ["thing"]) fun _ _ _ _ _ _ us hl => match us, hl with | [_], _ => rfl
  have F1 := fun_mk (st := s_is_between) l1 c1 k1
  have b1 := F1.binds (ps := ["thing", "least", "most"]) fun _ _ _ _ _ _ us hl => match us, hl with | [_, _, _], _ => rfl
  have F2 := fun_mk (st := s_need_width) l2 c2 k2
  have b2 := F2.binds (ps := ["width"]) fun _ _ _ _ _ _ us hl => match us, hl with | [_], _ => rfl
  have F3 := fun_mk (st := s_first_take) l3 c3 k3
  have b3 := F3.binds (ps := ["many", "width"]) fun _ _ _ _ _ _ us hl => match us, hl with | [_, _], _ => rfl
  have F4 := fun_mk (st := s_going) l4 c4 k4
  have b4 := F4.binds (ps := ["lengths", "width"]) fun _ _ _ _ _ _ us hl => match us, hl with | [_, _], _ => rfl
  have F5 := fun_mk (st := s_goes) l5 c5 k5
  have b5 := F5.binds (ps := ["taken", "sizes", "there", "take"]) fun _ _ _ _ _ _ us hl => match us, hl with | [_, _, _, _], _ => rfl
  have F6 := fun_mk (st := s_is_going) l6 c6 k6
  have b6 := F6.binds (ps := ["thing", "lengths", "width"]) fun _ _ _ _ _ _ us hl => match us, hl with | [_, _, _], _ => rfl
  have F7 := fun_mk (st := s_least_moved) l7 c7 k7
  have b7 := F7.binds (ps := ["lengths", "width"]) fun _ _ _ _ _ _ us hl => match us, hl with | [_, _], _ => rfl
  have F8 := fun_mk (st := s_least_plan) l8 c8 k8
  have b8 := F8.binds (ps := ["lengths", "width"]) fun _ _ _ _ _ _ us hl => match us, hl with | [_, _], _ => rfl
  have F9 := fun_mk (st := s__law_cell) l9 c9 k9
  have b9 := F9.binds (ps := ["script", "k"]) fun _ _ _ _ _ _ us hl => match us, hl with | [_, _], _ => rfl
  have F10 := fun_mk (st := s__law_mix) l10 c10 k10
  have b10 := F10.binds (ps := ["cell", "k"]) fun _ _ _ _ _ _ us hl => match us, hl with | [_, _], _ => rfl
  have F11 := fun_mk (st := s__law_box) l11 c11 k11
  have b11 := F11.binds (ps := ["script", "k"]) fun _ _ _ _ _ _ us hl => match us, hl with | [_, _], _ => rfl
  have F12 := fun_mk (st := s__law_take) l12 c12 k12
  have b12 := F12.binds (ps := ["box", "many"]) fun _ _ _ _ _ _ us hl => match us, hl with | [_, _], _ => rfl
  have F13 := fun_mk (st := s__law_whole) l13 c13 k13
  have b13 := F13.binds (ps := ["thing"]) fun _ _ _ _ _ _ us hl => match us, hl with | [_], _ => rfl
  have F14 := fun_mk (st := s__law_lengths) l14 c14 k14
  have b14 := F14.binds (ps := ["box", "most"]) fun _ _ _ _ _ _ us hl => match us, hl with | [_, _], _ => rfl
  have F15 := fun_mk (st := s__law_no_width) l15 c15 k15
  have b15 := F15.binds (ps := ["box"]) fun _ _ _ _ _ _ us hl => match us, hl with | [_], _ => rfl
  have F16 := fun_mk (st := s__law_first_take) l16 c16 k16
  have b16 := F16.binds (ps := ["many", "width"]) fun _ _ _ _ _ _ us hl => match us, hl with | [_, _], _ => rfl
  have F17 := fun_mk (st := s__law_is_going) l17 c17 k17
  have b17 := F17.binds (ps := ["thing", "lengths", "width"]) fun _ _ _ _ _ _ us hl => match us, hl with | [_, _, _], _ => rfl
  have F18 := fun_mk (st := s__law_refused) l18 c18 k18
  have b18 := F18.binds (ps := ["way", "lengths", "width"]) fun _ _ _ _ _ _ us hl => match us, hl with | [_, _, _], _ => rfl
  have F19 := fun_mk (st := s_law) l19 c19 k19
  refine ⟨PySem.W.fnOf "law" "law" (defArgs s_law) (defBody s_law) (defScope s_law) .none kV19 dc19 pm19 an19 cd19 ct19, [(cc_going, Pt_going)], spD ⟨K, [(Pt_going, Str.ofString "going.<locals>.<lambda>")], fun n => if n = "NoWidth" then some C_NoWidth else none⟩ S_law, ?_, ?_, ?_, fun s v => .of_eq rfl, fun H a ns hl hb hT hs => ?_, fun base KB GB TBs => ?_⟩
  · intro p hp
    simp at hp
    subst hp
    all_goals exact hTab _ (by simp)
  · intro p hp
    simp at hp
    subst hp
    all_goals first | exact n4
  · intro p hp
    simp at hp
    subst hp
    all_goals first | exact PySem.W.codeHd_of_K X h4
  · refine sp_start hs (fun p hp => ?_) fun k e hk => law_runs hk
    simp at hp
    subst hp
    all_goals first | exact LamX.TabS.nil (hT (cc_going, Pt_going) (by simp))
  · have TB_going := TBs (cc_going, Pt_going) (by simp)
    have C_is_whole : CalD l.prog w K ⟨K, [(Pt_going, Str.ofString "going.<locals>.<lambda>")], fun n => if n = "NoWidth" then some C_NoWidth else none⟩ mg base 2 "is_whole" S_is_whole := ⟨⟨f0, _, ["thing"], ok_is_whole F0 B, PySem.W.mg_of X G a0, k0, b0⟩⟩
    have C_is_between : CalD l.prog w K ⟨K, [(Pt_going, Str.ofString "going.<locals>.<lambda>")], fun n => if n = "NoWidth" then some C_NoWidth else none⟩ mg base 3 "is_between" S_is_between := ⟨⟨f1, _, ["thing", "least", "most"], ok_is_between F1 B C_is_whole, PySem.W.mg_of X G a1, k1, b1⟩⟩
    have C_need_width : CalD l.prog w K ⟨K, [(Pt_going, Str.ofString "going.<locals>.<lambda>")], fun n => if n = "NoWidth" then some C_NoWidth else none⟩ mg base 4 "need_width" S_need_width := ⟨⟨f2, _, ["width"], ok_need_width F2 B X_ C_is_between, PySem.W.mg_of X G a2, k2, b2⟩⟩
    have C_first_take : CalD l.prog w K ⟨K, [(Pt_going, Str.ofString "going.<locals>.<lambda>")], fun n => if n = "NoWidth" then some C_NoWidth else none⟩ mg base 2 "first_take" S_first_take := ⟨⟨f3, _, ["many", "width"], ok_first_take F3 B, PySem.W.mg_of X G a3, k3, b3⟩⟩
    have C_going : CalD l.prog w K ⟨K, [(Pt_going, Str.ofString "going.<locals>.<lambda>")], fun n => if n = "NoWidth" then some C_NoWidth else none⟩ mg base 5 "going" S_going := ⟨⟨f4, _, ["lengths", "width"], ok_going F4 B C_need_width C_first_take TB_going rfl (by simp) (by intro p hp _; simp at hp; subst hp; rfl), PySem.W.mg_of X G a4, k4, b4⟩⟩
    have C_goes : CalD l.prog w K ⟨K, [(Pt_going, Str.ofString "going.<locals>.<lambda>")], fun n => if n = "NoWidth" then some C_NoWidth else none⟩ mg base 3 "goes" S_goes := ⟨⟨f5, _, ["taken", "sizes", "there", "take"], ok_goes F5 B C_is_whole, PySem.W.mg_of X G a5, k5, b5⟩⟩
    have C_is_going : CalD l.prog w K ⟨K, [(Pt_going, Str.ofString "going.<locals>.<lambda>")], fun n => if n = "NoWidth" then some C_NoWidth else none⟩ mg base 5 "is_going" S_is_going := ⟨⟨f6, _, ["thing", "lengths", "width"], ok_is_going F6 B C_need_width C_first_take C_goes, PySem.W.mg_of X G a6, k6, b6⟩⟩
    have C_least_moved : CalD l.prog w K ⟨K, [(Pt_going, Str.ofString "going.<locals>.<lambda>")], fun n => if n = "NoWidth" then some C_NoWidth else none⟩ mg base 6 "least_moved" S_least_moved := ⟨⟨f7, _, ["lengths", "width"], ok_least_moved F7 B C_going, PySem.W.mg_of X G a7, k7, b7⟩⟩
    have C_least_plan : CalD l.prog w K ⟨K, [(Pt_going, Str.ofString "going.<locals>.<lambda>")], fun n => if n = "NoWidth" then some C_NoWidth else none⟩ mg base 6 "least_plan" S_least_plan := ⟨⟨f8, _, ["lengths", "width"], ok_least_plan F8 B C_going, PySem.W.mg_of X G a8, k8, b8⟩⟩
    have C__law_cell : CalD l.prog w K ⟨K, [(Pt_going, Str.ofString "going.<locals>.<lambda>")], fun n => if n = "NoWidth" then some C_NoWidth else none⟩ mg base 2 "_law_cell" S__law_cell := ⟨⟨f9, _, ["script", "k"], ok__law_cell F9 B, PySem.W.mg_of X G a9, k9, b9⟩⟩
    have C__law_mix : CalD l.prog w K ⟨K, [(Pt_going, Str.ofString "going.<locals>.<lambda>")], fun n => if n = "NoWidth" then some C_NoWidth else none⟩ mg base 2 "_law_mix" S__law_mix := ⟨⟨f10, _, ["cell", "k"], ok__law_mix F10 B, PySem.W.mg_of X G a10, k10, b10⟩⟩
    have C__law_box : CalD l.prog w K ⟨K, [(Pt_going, Str.ofString "going.<locals>.<lambda>")], fun n => if n = "NoWidth" then some C_NoWidth else none⟩ mg base 3 "_law_box" S__law_box := ⟨⟨f11, _, ["script", "k"], ok__law_box F11 B C__law_cell C__law_mix, PySem.W.mg_of X G a11, k11, b11⟩⟩
    have C__law_take : CalD l.prog w K ⟨K, [(Pt_going, Str.ofString "going.<locals>.<lambda>")], fun n => if n = "NoWidth" then some C_NoWidth else none⟩ mg base 2 "_law_take" S__law_take := ⟨⟨f12, _, ["box", "many"], ok__law_take F12 B, PySem.W.mg_of X G a12, k12, b12⟩⟩
    have C__law_whole : CalD l.prog w K ⟨K, [(Pt_going, Str.ofString "going.<locals>.<lambda>")], fun n => if n = "NoWidth" then some C_NoWidth else none⟩ mg base 2 "_law_whole" S__law_whole := ⟨⟨f13, _, ["thing"], ok__law_whole F13 B, PySem.W.mg_of X G a13, k13, b13⟩⟩
    have C__law_lengths : CalD l.prog w K ⟨K, [(Pt_going, Str.ofString "going.<locals>.<lambda>")], fun n => if n = "NoWidth" then some C_NoWidth else none⟩ mg base 3 "_law_lengths" S__law_lengths := ⟨⟨f14, _, ["box", "most"], ok__law_lengths F14 B C__law_take, PySem.W.mg_of X G a14, k14, b14⟩⟩
    have C__law_no_width : CalD l.prog w K ⟨K, [(Pt_going, Str.ofString "going.<locals>.<lambda>")], fun n => if n = "NoWidth" then some C_NoWidth else none⟩ mg base 3 "_law_no_width" S__law_no_width := ⟨⟨f15, _, ["box"], ok__law_no_width F15 B C__law_take, PySem.W.mg_of X G a15, k15, b15⟩⟩
    have C__law_first_take : CalD l.prog w K ⟨K, [(Pt_going, Str.ofString "going.<locals>.<lambda>")], fun n => if n = "NoWidth" then some C_NoWidth else none⟩ mg base 2 "_law_first_take" S__law_first_take := ⟨⟨f16, _, ["many", "width"], ok__law_first_take F16 B, PySem.W.mg_of X G a16, k16, b16⟩⟩
    have C__law_is_going : CalD l.prog w K ⟨K, [(Pt_going, Str.ofString "going.<locals>.<lambda>")], fun n => if n = "NoWidth" then some C_NoWidth else none⟩ mg base 3 "_law_is_going" S__law_is_going := ⟨⟨f17, _, ["thing", "lengths", "width"], ok__law_is_going F17 B C__law_whole C__law_first_take, PySem.W.mg_of X G a17, k17, b17⟩⟩
    have C__law_refused : CalD l.prog w K ⟨K, [(Pt_going, Str.ofString "going.<locals>.<lambda>")], fun n => if n = "NoWidth" then some C_NoWidth else none⟩ mg base 7 "_law_refused" S__law_refused := ⟨⟨f18, _, ["way", "lengths", "width"], ok__law_refused F18 B X_ C_going C_is_going C_least_moved C_least_plan, PySem.W.mg_of X G a18, k18, b18⟩⟩
    exact ok_law (P := l.prog) (w := w) (base := base) (T := [(Pt_going, Str.ofString "going.<locals>.<lambda>")]) (cls := fun n => if n = "NoWidth" then some C_NoWidth else none) F19 B C__law_box C__law_lengths C_going C__law_no_width C__law_take C_is_going C__law_is_going C__law_refused
end L41
open PySem PySem.W PyProof.Rows in
set_option maxRecDepth 100000 in
set_option maxHeartbeats 0 in
theorem PySem.Challenge.cw_pourwright_k41_goings_told_holds : PySem.Challenge.rw_pourwright_k41_goings_told.Holds := by
  w_on; o_law; k_head; (case hw => w_witness2)
  k_fill
  refine Dl.walkD (l := PySem.Challenge.rw_pourwright_k41_goings_told) (n := 63) (k := 8) rfl (by decide) rfl ⟨rfl, by decide, by decide⟩ (fun w h Y => PySem.W.km_in_of Y) ?F
  case F =>
    intro w mg fa h Y KX G hmg
    refine' L41.all_mk KX G hmg (PySem.W.km_tabs_of Y) ?a0 ?l0 ?c0 ?k0 ?a1 ?l1 ?c1 ?k1 ?a2 ?l2 ?c2 ?k2 ?a3 ?l3 ?c3 ?k3 ?a4 ?l4 ?c4 ?k4 ?h4 ?n4 ?a5 ?l5 ?c5 ?k5 ?a6 ?l6 ?c6 ?k6 ?a7 ?l7 ?c7 ?k7 ?a8 ?l8 ?c8 ?k8 ?a9 ?l9 ?c9 ?k9 ?a10 ?l10 ?c10 ?k10 ?a11 ?l11 ?c11 ?k11 ?a12 ?l12 ?c12 ?k12 ?a13 ?l13 ?c13 ?k13 ?a14 ?l14 ?c14 ?k14 ?a15 ?l15 ?c15 ?k15 ?a16 ?l16 ?c16 ?k16 ?a17 ?l17 ?c17 ?k17 ?a18 ?l18 ?c18 ?k18 ?a19 ?l19 ?c19 ?k19 ?z_ValueError ?z_abs ?z_all ?z_bool ?z_divmod ?z_enumerate ?z_int ?z_isinstance ?z_len ?z_list ?z_max ?z_min ?z_range ?z_set ?z_sorted ?z_sum ?z_tuple ?g_PourError ?g_NoRoom ?g_NoWidth ?x_NoWidth ?kc_NoWidth ?b_NoWidth ?t_NoWidth ?b_PourError ?t_PourError ?d_PourError ?s_NoWidth_PourError ?e1_NoWidth ?e2_NoWidth ?e3_NoWidth ?e4_NoWidth ?e5_NoWidth ?i_NoWidth_NoWidth ?i_NoWidth_ValueError ?i_NoWidth_NoRoom ?o1 ?o2
    (case a0 => k_is)
    (case l0 => k_is)
    (case c0 => k_is)
    (case k0 => k_is)
    (case a1 => k_is)
    (case l1 => k_is)
    (case c1 => k_is)
    (case k1 => k_is)
    (case a2 => k_is)
    (case l2 => k_is)
    (case c2 => k_is)
    (case k2 => k_is)
    (case a3 => k_is)
    (case l3 => k_is)
    (case c3 => k_is)
    (case k3 => k_is)
    (case a4 => k_is)
    (case l4 => k_is)
    (case c4 => k_is)
    (case k4 => k_is)
    (case h4 => first | k_is | rfl | kernel_rfl)
    (case n4 => first | k_is | rfl | decide +kernel)
    (case a5 => k_is)
    (case l5 => k_is)
    (case c5 => k_is)
    (case k5 => k_is)
    (case a6 => k_is)
    (case l6 => k_is)
    (case c6 => k_is)
    (case k6 => k_is)
    (case a7 => k_is)
    (case l7 => k_is)
    (case c7 => k_is)
    (case k7 => k_is)
    (case a8 => k_is)
    (case l8 => k_is)
    (case c8 => k_is)
    (case k8 => k_is)
    (case a9 => k_is)
    (case l9 => k_is)
    (case c9 => k_is)
    (case k9 => k_is)
    (case a10 => k_is)
    (case l10 => k_is)
    (case c10 => k_is)
    (case k10 => k_is)
    (case a11 => k_is)
    (case l11 => k_is)
    (case c11 => k_is)
    (case k11 => k_is)
    (case a12 => k_is)
    (case l12 => k_is)
    (case c12 => k_is)
    (case k12 => k_is)
    (case a13 => k_is)
    (case l13 => k_is)
    (case c13 => k_is)
    (case k13 => k_is)
    (case a14 => k_is)
    (case l14 => k_is)
    (case c14 => k_is)
    (case k14 => k_is)
    (case a15 => k_is)
    (case l15 => k_is)
    (case c15 => k_is)
    (case k15 => k_is)
    (case a16 => k_is)
    (case l16 => k_is)
    (case c16 => k_is)
    (case k16 => k_is)
    (case a17 => k_is)
    (case l17 => k_is)
    (case c17 => k_is)
    (case k17 => k_is)
    (case a18 => k_is)
    (case l18 => k_is)
    (case c18 => k_is)
    (case k18 => k_is)
    (case a19 => k_is)
    (case l19 => k_is)
    (case c19 => k_is)
    (case k19 => k_is)
    (case z_ValueError => k_is)
    (case z_abs => k_is)
    (case z_all => k_is)
    (case z_bool => k_is)
    (case z_divmod => k_is)
    (case z_enumerate => k_is)
    (case z_int => k_is)
    (case z_isinstance => k_is)
    (case z_len => k_is)
    (case z_list => k_is)
    (case z_max => k_is)
    (case z_min => k_is)
    (case z_range => k_is)
    (case z_set => k_is)
    (case z_sorted => k_is)
    (case z_sum => k_is)
    (case z_tuple => k_is)
    (case g_PourError => k_is)
    (case g_NoRoom => k_is)
    (case g_NoWidth => k_is)
    (case x_NoWidth => k_exc)
    (case kc_NoWidth => k_is)
    (case b_NoWidth => k_is)
    (case t_NoWidth => k_is)
    (case b_PourError => k_is)
    (case t_PourError => k_is)
    (case d_PourError => k_is)
    (case s_NoWidth_PourError => first | rfl | k_is)
    (case e1_NoWidth => k_is)
    (case e2_NoWidth => k_is)
    (case e3_NoWidth => k_is)
    (case e4_NoWidth => k_is)
    (case e5_NoWidth => k_is)
    (case i_NoWidth_NoWidth => first | k_is | rfl | decide +kernel)
    (case i_NoWidth_ValueError => first | k_is | rfl | decide +kernel)
    (case i_NoWidth_NoRoom => first | k_is | rfl | decide +kernel)
    (case o1 => k_is)
    (case o2 => k_is)

