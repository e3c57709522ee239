import PyProof.Rows.All
import Wide.All
import OpenK.AllK
import Wide.FinOn
import KE.KStateDown
import HandS.Base
import HandS.Call
import HandS.List
import HandS.Comp
import HandS.Ends
import HandS.Dict
import HandS.Iter
import HandS.Text
import HandS.More
import HandS.Exc
import HandS.Words
import HandS.WordsExc
import HandS.Defaults
import HandS.Wide
import HandS.Flow
import HandS.Style
import HandS.Lambda
import HandS.HeadHook4
import KE.KExcSuper
import HandS.ExcInit
import HandS.HeadWalk
import HandS.ExcValue
import HandS.TupAny
import HandS.IsInst
import KE.DataCmp
import KE.DataEq
import HandS.Zip
import KE.GoesEnum
import HandS.DictComp
import HandS.Deep
import HandS.TupMul
import HandS.Conv
import HandS.RaiseMore
import HandS.HeadEnd
import HandS.ExcField
import HandS.ExcIs
import KE.KExcIs
import HandS.TupLe
import HandS.Replace
import KE.SortData
import PyProof.StrOps2
import HandS.Star
import HandS.Head0
import HandS.Head1
import HandS.Head2
import HandS.HeadHook1
import HandS.HeadHook2
import PySem.Challenge.RW_treesofsteps_k21_whole_fractions
set_option Elab.async false
set_option linter.all false
noncomputable section
set_option maxRecDepth 100000
set_option maxHeartbeats 4000000
/-! Sh: data without the heap, a store of lists and dicts, and how the heap bears them. -/
namespace Sh
open PySem PySem.Spec PyProof.Rows L2

/-- data that never changes -/
inductive P where
  | non | bl (b : Bool) | int (i : Int) | str (s : List Nat) | tup (ps : List P)
  deriving Inhabited
/-- a value: data, a cell of the store, a tuple of values, an error that is held -/
inductive D where
  | p (x : P) | ref (n : Nat) | mix (ds : List D) | exc (c : Str) (d : D) | rol (ps : List P)
  deriving Inhabited
/-- what a cell of the store holds -/
inductive Cell where
  | fl (ps : List P) | dl (ds : List D) | fd (kvs : List (P × P)) | td (kvs : List (P × P)) | lfd (kvs : List (P × P)) | ltd (kvs : List (P × P))
/-! ### worked out at once -/
section
variable {β : Type}
def seqN (n : Nat) (k : Nat → β) : β := @Nat.casesOn (fun _ => β) (Nat.add n 1) (k 0) fun m => k m
theorem seqN_eq (n : Nat) (k : Nat → β) : seqN n k = k n := rfl
def seqI (i : Int) (k : Int → β) : β := Int.casesOn (motive := fun _ => β) i (fun n => seqN n fun m => k (.ofNat m)) fun n => seqN n fun m => k (.negSucc m)
theorem seqI_eq (i : Int) (k : Int → β) : seqI i k = k i := by cases i <;> rfl
def seqB (b : Bool) (k : Bool → β) : β := Bool.casesOn (motive := fun _ => β) b (k false) (k true)
theorem seqB_eq (b : Bool) (k : Bool → β) : seqB b k = k b := by cases b <;> rfl
/-- the head alone: what lies within stands worked out already -/
def seqPh (x : P) (k : P → β) : β := P.casesOn (motive_1 := fun _ => β) x (k .non) (fun b => seqB b fun b => k (.bl b)) (fun i => seqI i fun i => k (.int i)) (fun s => k (.str s)) fun ps => k (.tup ps)
theorem seqPh_eq (x : P) (k : P → β) : seqPh x k = k x := by
  cases x with
  | bl b => exact seqB_eq b fun b => k (.bl b)
  | int i => exact seqI_eq i fun i => k (.int i)
  | _ => rfl
def seqH (d : D) (k : D → β) : β := D.casesOn (motive_1 := fun _ => β) d (fun x => seqPh x fun x => k (.p x)) (fun n => seqN n fun n => k (.ref n)) (fun ds => k (.mix ds)) (fun c d => k (.exc c d)) fun ps => k (.rol ps)
theorem seqH_eq (d : D) (k : D → β) : seqH d k = k d := by
  cases d with
  | p x => exact seqPh_eq x fun x => k (.p x)
  | _ => rfl
def seqPhs (l : List P) : (List P → β) → β := List.rec (motive := fun _ => (List P → β) → β) (fun k => k []) (fun x _ ih k => seqPh x fun x => ih fun r => k (x :: r)) l
theorem seqPhs_eq : ∀ (l : List P) (k : List P → β), seqPhs l k = k l
  | [], _ => rfl
  | x :: r, k => by
    show (seqPh x fun x => seqPhs r fun r => k (x :: r)) = _
    rw [seqPh_eq, seqPhs_eq r]
def seqHs (l : List D) : (List D → β) → β := List.rec (motive := fun _ => (List D → β) → β) (fun k => k []) (fun x _ ih k => seqH x fun x => ih fun r => k (x :: r)) l
theorem seqHs_eq : ∀ (l : List D) (k : List D → β), seqHs l k = k l
  | [], _ => rfl
  | x :: r, k => by
    show (seqH x fun x => seqHs r fun r => k (x :: r)) = _
    rw [seqH_eq, seqHs_eq r]
def seqKh (l : List (P × P)) : (List (P × P) → β) → β := List.rec (motive := fun _ => (List (P × P) → β) → β) (fun k => k []) (fun x _ ih k => seqPh x.1 fun y => seqPh x.2 fun z => ih fun r => k ((y, z) :: r)) l
theorem seqKh_eq : ∀ (l : List (P × P)) (k : List (P × P) → β), seqKh l k = k l
  | [], _ => rfl
  | x :: r, k => by
    show (seqPh x.1 fun y => seqPh x.2 fun z => seqKh r fun r => k ((y, z) :: r)) = _
    rw [seqPh_eq, seqPh_eq, seqKh_eq r]
def seqCh (c : Cell) (k : Cell → β) : β := Cell.casesOn (motive := fun _ => β) c (fun ps => seqPhs ps fun ps => k (.fl ps)) (fun ds => seqHs ds fun ds => k (.dl ds)) (fun l => seqKh l fun l => k (.fd l)) (fun l => seqKh l fun l => k (.td l)) (fun l => seqKh l fun l => k (.lfd l)) fun l => seqKh l fun l => k (.ltd l)
theorem seqCh_eq (c : Cell) (k : Cell → β) : seqCh c k = k c := by
  cases c with
  | fl ps => exact seqPhs_eq _ _
  | dl ps => exact seqHs_eq _ _
  | fd ps => exact seqKh_eq _ _
  | td ps => exact seqKh_eq _ _
  | lfd ps => exact seqKh_eq _ _
  | ltd ps => exact seqKh_eq _ _
end
/-- cells by number: c at 0, l at odd numbers, r at the other ones -/
inductive CT where
  | nil | nd (c : Option Cell) (l r : CT)
def CT.get (t : CT) : Nat → Option Cell := CT.rec (motive := fun _ => Nat → Option Cell) (fun _ => none) (fun c _ _ gl gr k => Nat.casesOn (motive := fun _ => Option Cell) k c fun m => Bool.casesOn (motive := fun _ => Option Cell) (Nat.beq (Nat.mod m 2) 0) (gr (Nat.div m 2)) (gl (Nat.div m 2))) t
def CT.c0 (t : CT) : Option Cell := CT.casesOn (motive := fun _ => Option Cell) t none fun c _ _ => c
def CT.lt (t : CT) : CT := CT.casesOn (motive := fun _ => CT) t .nil fun _ l _ => l
def CT.rt (t : CT) : CT := CT.casesOn (motive := fun _ => CT) t .nil fun _ _ r => r
def CT.put (c : Cell) (f : Nat) : CT → Nat → CT := Nat.rec (motive := fun _ => CT → Nat → CT) (fun t _ => t) (fun _ pt t k => Nat.casesOn (motive := fun _ => CT) k (.nd (some c) t.lt t.rt) fun m => Bool.casesOn (motive := fun _ => CT) (Nat.beq (Nat.mod m 2) 0) (.nd t.c0 t.lt (pt t.rt (Nat.div m 2))) (.nd t.c0 (pt t.lt (Nat.div m 2)) t.rt)) f
theorem CT.get_nil (k : Nat) : CT.get .nil k = none := rfl
theorem CT.get_0 (t : CT) : t.get 0 = t.c0 := by cases t <;> rfl
theorem CT.get_s (t : CT) (m : Nat) : t.get (m + 1) = match Nat.beq (Nat.mod m 2) 0 with
    | true => t.lt.get (Nat.div m 2)
    | false => t.rt.get (Nat.div m 2) := by
  cases t with
  | nil => cases h : Nat.beq (Nat.mod m 2) 0 <;> rfl
  | nd c l r =>
    show (Bool.casesOn (motive := fun _ => Option Cell) (Nat.beq (Nat.mod m 2) 0) (r.get (Nat.div m 2)) (l.get (Nat.div m 2))) = _
    cases h : Nat.beq (Nat.mod m 2) 0 <;> rfl
theorem CT.put_0 (c : Cell) (f : Nat) (t : CT) : CT.put c (f + 1) t 0 = .nd (some c) t.lt t.rt := rfl
theorem CT.put_s (c : Cell) (f : Nat) (t : CT) (m : Nat) : CT.put c (f + 1) t (m + 1) = match Nat.beq (Nat.mod m 2) 0 with
    | true => .nd t.c0 (CT.put c f t.lt (Nat.div m 2)) t.rt
    | false => .nd t.c0 t.lt (CT.put c f t.rt (Nat.div m 2)) := by
  show (Bool.casesOn (motive := fun _ => CT) (Nat.beq (Nat.mod m 2) 0) (.nd t.c0 t.lt (CT.put c f t.rt (Nat.div m 2))) (.nd t.c0 (CT.put c f t.lt (Nat.div m 2)) t.rt)) = _
  cases h : Nat.beq (Nat.mod m 2) 0 <;> rfl
theorem CT.get_put (c : Cell) : ∀ (f : Nat) (t : CT) (k j : Nat), k < f → (CT.put c f t k).get j = if j = k then some c else t.get j
  | 0, _, _, _, h => absurd h (Nat.not_lt_zero _)
  | f + 1, t, 0, j, _ => by
    rw [CT.put_0]
    cases j with
    | zero => rfl
    | succ i =>
      rw [if_neg (by omega), CT.get_s, CT.get_s]
      rfl
  | f + 1, t, m + 1, j, h => by
    have hm : Nat.div m 2 < f := by
      have : m / 2 ≤ m := Nat.div_le_self m 2
      show m / 2 < f
      omega
    rw [CT.put_s]
    cases j with
    | zero =>
      rw [if_neg (by omega), CT.get_0, CT.get_0]
      cases h : Nat.beq (Nat.mod m 2) 0 <;> rfl
    | succ i =>
      rw [CT.get_s, CT.get_s]
      have key : ∀ a b : Nat, (a % 2 = b % 2) → (a / 2 = b / 2) → a = b := fun a b h1 h2 => by omega
      have e0 : ∀ a : Nat, Nat.beq (Nat.mod a 2) 0 = decide (a % 2 = 0) := fun a => by
        show Nat.beq (a % 2) 0 = _
        rcases Nat.mod_two_eq_zero_or_one a with q | q <;> rw [q] <;> rfl
      rw [e0 m, e0 i]
      by_cases hi : i % 2 = 0
      · by_cases hmm : m % 2 = 0
        · rw [decide_eq_true hi, decide_eq_true hmm]
          show (CT.put c f t.lt (Nat.div m 2)).get (Nat.div i 2) = _
          rw [CT.get_put c f _ _ _ hm]
          by_cases e : i = m
          · rw [e, if_pos rfl, if_pos rfl]
          · rw [if_neg (fun z : Nat.div i 2 = Nat.div m 2 => e (key i m (by rw [hi, hmm]) z)), if_neg (by omega)]
        · rw [decide_eq_true hi, decide_eq_false hmm]
          have ne : i ≠ m := fun z => hmm (by rw [← z]; exact hi)
          show t.lt.get (Nat.div i 2) = _
          rw [if_neg (by omega)]
      · by_cases hmm : m % 2 = 0
        · rw [decide_eq_false hi, decide_eq_true hmm]
          have ne : i ≠ m := fun z => hi (by rw [z]; exact hmm)
          show t.rt.get (Nat.div i 2) = _
          rw [if_neg (by omega)]
        · rw [decide_eq_false hi, decide_eq_false hmm]
          show (CT.put c f t.rt (Nat.div m 2)).get (Nat.div i 2) = _
          rw [CT.get_put c f _ _ _ hm]
          by_cases e : i = m
          · rw [e, if_pos rfl, if_pos rfl]
          · rw [if_neg (fun z : Nat.div i 2 = Nat.div m 2 => e (key i m (by omega) z)), if_neg (by omega)]
/-- the store: its cells, how many there are -/
structure Store where
  t : CT
  length : Nat
namespace Store
def get? (μ : Store) (i : Nat) : Option Cell := Bool.casesOn (motive := fun _ => Option Cell) (Nat.ble μ.length i) (some ((μ.t.get i).getD (.fl []))) none
def push0 (μ : Store) (c : Cell) : Store := ⟨CT.put c (Nat.succ μ.length) μ.t μ.length, Nat.succ μ.length⟩
def push (μ : Store) (c : Cell) : Store := seqN μ.length fun n => seqCh c fun c => ⟨CT.put c (Nat.succ n) μ.t n, Nat.succ n⟩
theorem push_eq (μ : Store) (c : Cell) : μ.push c = μ.push0 c := by
  unfold push
  rw [seqN_eq, seqCh_eq]
  rfl
def set0 (μ : Store) (i : Nat) (c : Cell) : Store := Bool.casesOn (motive := fun _ => Store) (Nat.ble μ.length i) ⟨CT.put c (Nat.succ i) μ.t i, μ.length⟩ μ
def set (μ : Store) (i : Nat) (c : Cell) : Store := seqCh c fun c => μ.set0 i c
theorem set_eq (μ : Store) (i : Nat) (c : Cell) : μ.set i c = μ.set0 i c := seqCh_eq _ _
def emp : Store := ⟨.nil, 0⟩
def of (l : List Cell) : Store := l.foldl push emp
instance : HAppend Store (List Cell) Store := ⟨fun μ l => l.foldl push μ⟩
theorem app1 (μ : Store) (c : Cell) : μ ++ [c] = μ.push0 c := push_eq μ c
theorem get_lt {μ : Store} {i : Nat} (h : i < μ.length) : μ.get? i = some ((μ.t.get i).getD (.fl [])) := by
  unfold get?
  have e : Nat.ble μ.length i = false := by
    cases q : Nat.ble μ.length i with
    | false => rfl
    | true => exact absurd (Nat.le_of_ble_eq_true q) (Nat.not_le.mpr h)
  rw [e]
theorem get_ge {μ : Store} {i : Nat} (h : μ.length ≤ i) : μ.get? i = none := by
  unfold get?
  rw [Nat.ble_eq_true_of_le h]
theorem lt_of {μ : Store} {i : Nat} {c : Cell} (h : μ.get? i = some c) : i < μ.length := by
  rcases Nat.lt_or_ge i μ.length with q | q
  · exact q
  · rw [get_ge q] at h
    cases h
theorem at_lt {μ : Store} {i : Nat} (h : i < μ.length) : ∃ c, μ.get? i = some c := ⟨_, get_lt h⟩
theorem push_len (μ : Store) (c : Cell) : (μ ++ [c]).length = μ.length + 1 := by rw [app1]; rfl
theorem push_at (μ : Store) (c : Cell) (i : Nat) : (μ ++ [c]).get? i = if i = μ.length then some c else μ.get? i := by
  rw [app1]
  by_cases e : i = μ.length
  · rw [if_pos e, get_lt (by rw [e]; exact Nat.lt_succ_self _)]
    unfold push0
    dsimp only
    rw [CT.get_put c _ _ _ _ (Nat.lt_succ_self _), if_pos e]
    rfl
  · rw [if_neg e]
    rcases Nat.lt_or_ge i μ.length with q | q
    · rw [get_lt q, get_lt (Nat.lt_succ_of_lt q)]
      unfold push0
      dsimp only
      rw [CT.get_put c _ _ _ _ (Nat.lt_succ_self _), if_neg e]
    · rw [get_ge q, get_ge (show μ.length + 1 ≤ i by omega)]
theorem set_len (μ : Store) (i : Nat) (c : Cell) : (μ.set i c).length = μ.length := by
  rw [set_eq]
  unfold set0
  cases Nat.ble μ.length i <;> rfl
theorem set_at (μ : Store) (i : Nat) (c : Cell) (j : Nat) (h : i < μ.length) : (μ.set i c).get? j = if j = i then some c else μ.get? j := by
  have e : Nat.ble μ.length i = false := by
    cases q : Nat.ble μ.length i with
    | false => rfl
    | true => exact absurd (Nat.le_of_ble_eq_true q) (Nat.not_le.mpr h)
  rw [set_eq]
  unfold set0
  rw [e]
  dsimp only
  rcases Nat.lt_or_ge j μ.length with q | q
  · rw [get_lt q, get_lt (show j < (Store.mk (CT.put c (Nat.succ i) μ.t i) μ.length).length from q)]
    dsimp only
    rw [CT.get_put c _ _ _ _ (Nat.lt_succ_self _)]
    by_cases ej : j = i
    · rw [if_pos ej, if_pos ej]
      rfl
    · rw [if_neg ej, if_neg ej]
  · have ne : j ≠ i := by omega
    rw [if_neg ne, get_ge q, get_ge (show (Store.mk (CT.put c (Nat.succ i) μ.t i) μ.length).length ≤ j from q)]
theorem emp_at (i : Nat) : emp.get? i = none := get_ge (Nat.zero_le _)
end Store
inductive Res (β : Type) where
  | ok (b : β) (μ : Store) | exc (c : Str) (d : D) (μ : Store) | bad
def Res.bind {β γ : Type} (r : Res β) (k : β → Store → Res γ) : Res γ := match r with
  | .ok b μ => k b μ
  | .exc c d μ => .exc c d μ
  | .bad => .bad
structure Gx where
  K : PySem.W.Frag
  mg : Str → Option Value

def stS (s : List Nat) : Str := ⟨s.toArray⟩

/-! ### how the heap bears data -/
mutual
inductive RepP (K : PySem.W.Frag) (H : Hp) : P → V → Prop
  | non : RepP K H .non .non
  | bl (b : Bool) : RepP K H (.bl b) (.bl b)
  | int (i : Int) : RepP K H (.int i) (.int i)
  | str (s : List Nat) : RepP K H (.str s) (.str (stS s))
  | tup {ps : List P} {a : Addr} {vs : List V} : SqT K H a vs → RepPs K H ps vs → RepP K H (.tup ps) (.ref a)
inductive RepPs (K : PySem.W.Frag) (H : Hp) : List P → List V → Prop
  | nil : RepPs K H [] []
  | cons {x : P} {v : V} {xs : List P} {vs : List V} : RepP K H x v → RepPs K H xs vs → RepPs K H (x :: xs) (v :: vs)
end
mutual
theorem RepP.mono {K : PySem.W.Frag} {H H' : Hp} (m : ∀ a vs, SqT K H a vs → SqT K H' a vs) : ∀ {x : P} {v : V}, RepP K H x v → RepP K H' x v
  | _, _, .non => .non
  | _, _, .bl b => .bl b
  | _, _, .int i => .int i
  | _, _, .str s => .str s
  | _, _, .tup h t => .tup (m _ _ h) (RepPs.mono m t)
theorem RepPs.mono {K : PySem.W.Frag} {H H' : Hp} (m : ∀ a vs, SqT K H a vs → SqT K H' a vs) : ∀ {xs : List P} {vs : List V}, RepPs K H xs vs → RepPs K H' xs vs
  | _, _, .nil => .nil
  | _, _, .cons h t => .cons (RepP.mono m h) (RepPs.mono m t)
end

/-- an exception's object at a, of class cls, its dict at dx -/
def ExV (cls : Value) (dx a : Addr) : HO := .ext fun h => ∃ (oe : Obj) (vs : Array Value), h.get? a = some oe ∧ Zc cls (some dx) oe ∧ oe.data = .fields vs

/-- a list that is only read: one that is known, or one of the module's own -/
def RolAt (K : PySem.W.Frag) (H : Hp) (a : Addr) (vs : List V) : Prop := (∃ o, H a = some (.frz o (.lst vs))) ∨
  ∃ (o : Obj) (its : Array Value) (n : Nat), K.lookup a = some o ∧ o.cls = .type "list" ∧ o.dict = none ∧ o.data = .seq its n ∧ its.size ≤ sizeLine ∧ Vals vs its.toList
theorem RolAt.sq {K : PySem.W.Frag} {H : Hp} {a : Addr} {vs : List V} (h : RolAt K H a vs) : SqL K H a vs := by
  rcases h with ⟨o, h⟩ | h
  · exact .inl (.inr ⟨o, h⟩)
  · exact .inr h
mutual
inductive Rep (G : Gx) (α : List Addr) (H : Hp) : D → V → Prop
  | p {x : P} {v : V} : RepP G.K H x v → Rep G α H (.p x) v
  | ref {n : Nat} {a : Addr} : α[n]? = some a → Rep G α H (.ref n) (.ref a)
  | mix {ds : List D} {a : Addr} {vs : List V} : SqT G.K H a vs → Reps G α H ds vs → Rep G α H (.mix ds) (.ref a)
  | exc {c : Str} {d : D} {a dx : Addr} {cls : Value} {v : V} : G.mg c = some cls → H a = some (ExV cls dx a) → H dx = some (.xd [("value", v)]) → Rep G α H d v → Rep G α H (.exc c d) (.ref a)
  | rol {ps : List P} {a : Addr} {vs : List V} : RolAt G.K H a vs → RepPs G.K H ps vs → Rep G α H (.rol ps) (.ref a)
inductive Reps (G : Gx) (α : List Addr) (H : Hp) : List D → List V → Prop
  | nil : Reps G α H [] []
  | cons {d : D} {v : V} {ds : List D} {vs : List V} : Rep G α H d v → Reps G α H ds vs → Reps G α H (d :: ds) (v :: vs)
end

/-- what may lie at a cell's address -/
def cellHO : HO → Bool
  | .lst _ => true
  | .dK _ => true
  | .dT _ => true
  | .frz _ u => cellHO u
  | _ => false
def notTbl (o : HO) : Prop := ∀ ps, o ≠ .tbl ps

/-- the heap behind some code: cells may have changed, new ones came -/
structure Ext0 (α : List Addr) (H : Hp) (α' : List Addr) (H' : Hp) : Prop where
  pre : α <+: α'
  keep : ∀ b o, b ∉ α → H b = some o → notTbl o → H' b = some o
  tbls : ∀ b ps, b ∉ α → H b = some (.tbl ps) → ∃ qs, H' b = some (.tbl qs)
  new : ∀ b, b ∈ α' → b ∉ α → H b = none
  rol : ∀ b o vs, H b = some (.frz o (.lst vs)) → H' b = some (.frz o (.lst vs))
/-- and what is locked stays so -/
structure Ext (α : List Addr) (H : Hp) (α' : List Addr) (H' : Hp) : Prop extends Ext0 α H α' H' where
  frzs : ∀ b o u, H b = some (.frz o u) → H' b = some (.frz o u)
theorem Ext0.refl (α : List Addr) (H : Hp) : Ext0 α H α H := ⟨List.prefix_refl _, fun _ _ _ h _ => h, fun _ ps _ h => ⟨ps, h⟩, fun _ h n => absurd h n, fun _ _ _ h => h⟩
theorem Ext0.trans {α α1 α2 : List Addr} {H H1 H2 : Hp} (a : Ext0 α H α1 H1) (b : Ext0 α1 H1 α2 H2) : Ext0 α H α2 H2 := by
  have key : ∀ c o, c ∉ α → H c = some o → c ∉ α1 := fun c o n h z => by
    rw [a.new c z n] at h
    cases h
  refine ⟨a.pre.trans b.pre, fun c o n h t => b.keep c o (key c o n h) (a.keep c o n h t) t, fun c ps n h => ?_, fun c h n => ?_, fun c o vs h => b.rol c o vs (a.rol c o vs h)⟩
  · obtain ⟨m1, e1⟩ := a.tbls c ps n h
    obtain ⟨m2, e2⟩ := b.tbls c _ (key c _ n h) e1
    exact ⟨m2, e2⟩
  · by_cases z : c ∈ α1
    · exact a.new c z n
    · have e := b.new c h z
      cases q : H c with
      | none => rfl
      | some o =>
        by_cases t : ∃ ps, o = .tbl ps
        · obtain ⟨ps, rfl⟩ := t
          obtain ⟨m, e2⟩ := a.tbls c ps n q
          rw [e2] at e
          cases e
        · have e2 := a.keep c o n q fun ps z => t ⟨ps, z⟩
          rw [e2] at e
          cases e
theorem Ext.refl (α : List Addr) (H : Hp) : Ext α H α H := ⟨Ext0.refl α H, fun _ _ _ h => h⟩
theorem Ext.trans {α α1 α2 : List Addr} {H H1 H2 : Hp} (a : Ext α H α1 H1) (b : Ext α1 H1 α2 H2) : Ext α H α2 H2 := ⟨a.toExt0.trans b.toExt0, fun c o u h => b.frzs c o u (a.frzs c o u h)⟩

/-! ### the store -/
def keyOf : P → Option Key
  | .int i => some (.inl i)
  | .str s => some (.inr (stS s))
  | _ => none
def keysOf : List P → Option (List Key)
  | [] => some []
  | x :: r => match keyOf x, keysOf r with
    | some k, some ks => some (k :: ks)
    | _, _ => none
def tkeyOf : P → Option (List Key)
  | .tup ps => keysOf ps
  | _ => none
abbrev KRep {κ : Type} (f : P → Option κ) (K : PySem.W.Frag) (H : Hp) : List (P × P) → List (κ × V) → Prop := Paired fun p q => f p.1 = some q.1 ∧ RepP K H p.2 q.2
def CellOk (G : Gx) (α : List Addr) (H : Hp) (a : Addr) : Cell → Prop
  | .fl ps => ∃ vs, H a = some (.lst vs) ∧ RepPs G.K H ps vs
  | .dl ds => ∃ vs, H a = some (.lst vs) ∧ Reps G α H ds vs
  | .fd kvs => ∃ ks : List (Key × V), H a = some (.dK ks) ∧ KRep keyOf G.K H kvs ks
  | .td kvs => ∃ ks : List (List Key × V), H a = some (.dT ks) ∧ KRep tkeyOf G.K H kvs ks
  | .lfd kvs => ∃ (od : Obj) (ks : List (Key × V)), H a = some (.frz od (.dK ks)) ∧ KRep keyOf G.K H kvs ks
  | .ltd kvs => ∃ (od : Obj) (ks : List (List Key × V)), H a = some (.frz od (.dT ks)) ∧ KRep tkeyOf G.K H kvs ks
/-- the defs' code objects with their tables; the tables with the name that a lambda of the def bears -/
def codesK (K : PySem.W.Frag) : List (Addr × Addr) := K.filterMap fun p => match p.2.data with
  | .func fd => match fd.code with
    | .ref c => some (c, He.tabOf K c)
    | _ => none
  | _ => none
def tabsK (K : PySem.W.Frag) : List (Addr × Str) := K.filterMap fun p => match p.2.data with
  | .func fd => match fd.code with
    | .ref c => some (He.tabOf K c, fd.qualname ++ ".<locals>." ++ "<lambda>")
    | _ => none
  | _ => none
structure StOk (G : Gx) (α : List Addr) (H : Hp) (μ : Store) : Prop where
  len : α.length = μ.length
  nd : α.Nodup
  tabs : LamX.Tabs (tabsK G.K) H
  cel : ∀ (n : Nat) (c : Cell) (a : Addr), μ.get? n = some c → α[n]? = some a → CellOk G α H a c
theorem CellOk.kind {G : Gx} {α : List Addr} {H : Hp} {a : Addr} {c : Cell} (h : CellOk G α H a c) : ∃ o, H a = some o ∧ cellHO o = true := by
  cases c with
  | fl ps => obtain ⟨_, e, _⟩ := h; exact ⟨_, e, rfl⟩
  | dl ds => obtain ⟨_, e, _⟩ := h; exact ⟨_, e, rfl⟩
  | fd kvs => obtain ⟨_, e, _⟩ := h; exact ⟨_, e, rfl⟩
  | td kvs => obtain ⟨_, e, _⟩ := h; exact ⟨_, e, rfl⟩
  | lfd kvs => obtain ⟨_, _, e, _⟩ := h; exact ⟨_, e, rfl⟩
  | ltd kvs => obtain ⟨_, _, e, _⟩ := h; exact ⟨_, e, rfl⟩
section
variable {G : Gx} {W : WX} {α α' : List Addr} {H H' : Hp} {μ : Store}
theorem StOk.kind (st : StOk G α H μ) {a : Addr} (h : a ∈ α) : ∃ o, H a = some o ∧ cellHO o = true := by
  obtain ⟨n, hn, e⟩ := List.mem_iff_getElem.mp h
  have hm : n < μ.length := by rw [← st.len]; exact hn
  obtain ⟨c, hc⟩ := Store.at_lt hm
  exact (st.cel n c a hc (by rw [List.getElem?_eq_getElem hn, e])).kind
/-- what is no cell stands outside the cells -/
theorem StOk.out (st : StOk G α H μ) {a : Addr} {o : HO} (h : H a = some o) (k : cellHO o = false) : a ∉ α := fun z => by
  obtain ⟨o', e, q⟩ := st.kind z
  rw [h] at e
  cases e
  rw [k] at q
  cases q
theorem StOk.nl (st : StOk G α H μ) {a : Addr} (ha : a ∈ α) : ∀ o vs, H a ≠ some (.frz o (.lst vs)) := by
  obtain ⟨n, hn, e⟩ := List.mem_iff_getElem.mp ha
  have hm : n < μ.length := by rw [← st.len]; exact hn
  obtain ⟨c, h1⟩ := Store.at_lt hm
  have q := st.cel n c a h1 (by rw [List.getElem?_eq_getElem hn, e])
  intro o vs z
  cases hc : c with
  | fl ps => rw [hc] at q; obtain ⟨_, e, _⟩ := q; rw [z] at e; cases e
  | dl ds => rw [hc] at q; obtain ⟨_, e, _⟩ := q; rw [z] at e; cases e
  | fd kvs => rw [hc] at q; obtain ⟨_, e, _⟩ := q; rw [z] at e; cases e
  | td kvs => rw [hc] at q; obtain ⟨_, e, _⟩ := q; rw [z] at e; cases e
  | lfd kvs => rw [hc] at q; obtain ⟨_, _, e, _⟩ := q; rw [z] at e; cases e
  | ltd kvs => rw [hc] at q; obtain ⟨_, _, e, _⟩ := q; rw [z] at e; cases e
theorem StOk.sqT0 (st : StOk G α H μ) (x : Ext0 α H α' H') {K : PySem.W.Frag} {a : Addr} {vs : List V} (h : SqT K H a vs) : SqT K H' a vs := by
  rcases h with (h | ⟨o, h⟩) | h
  · exact .inl (.inl (x.keep _ _ (st.out h rfl) h fun _ z => by cases z))
  · exact .inl (.inr ⟨o, x.keep _ _ (st.out h rfl) h fun _ z => by cases z⟩)
  · exact .inr h
theorem StOk.repP0 (st : StOk G α H μ) (x : Ext0 α H α' H') {p : P} {v : V} (h : RepP G.K H p v) : RepP G.K H' p v := h.mono fun _ _ => st.sqT0 x
theorem StOk.repPs0 (st : StOk G α H μ) (x : Ext0 α H α' H') {p : List P} {v : List V} (h : RepPs G.K H p v) : RepPs G.K H' p v := h.mono fun _ _ => st.sqT0 x
mutual
theorem Rep.mono (hs : ∀ a vs, SqT G.K H a vs → SqT G.K H' a vs) (hp : ∀ (n : Nat) (a : Addr), α[n]? = some a → α'[n]? = some a) (he : ∀ a o, H a = some o → cellHO o = false → notTbl o → H' a = some o) (hr : ∀ a o vs, H a = some (.frz o (.lst vs)) → H' a = some (.frz o (.lst vs))) : ∀ {d : D} {v : V}, Rep G α H d v → Rep G α' H' d v
  | _, _, .p h => .p (h.mono hs)
  | _, _, .ref h => .ref (hp _ _ h)
  | _, _, .mix h t => .mix (hs _ _ h) (Reps.mono hs hp he hr t)
  | _, _, .exc h1 h2 h3 h4 => .exc h1 (he _ _ h2 rfl fun _ z => by cases z) (he _ _ h3 rfl fun _ z => by cases z) (Rep.mono hs hp he hr h4)
  | _, _, .rol h t => .rol (by
      rcases h with ⟨o, h⟩ | h
      · exact .inl ⟨o, hr _ _ _ h⟩
      · exact .inr h) (t.mono hs)
theorem Reps.mono (hs : ∀ a vs, SqT G.K H a vs → SqT G.K H' a vs) (hp : ∀ (n : Nat) (a : Addr), α[n]? = some a → α'[n]? = some a) (he : ∀ a o, H a = some o → cellHO o = false → notTbl o → H' a = some o) (hr : ∀ a o vs, H a = some (.frz o (.lst vs)) → H' a = some (.frz o (.lst vs))) : ∀ {d : List D} {v : List V}, Reps G α H d v → Reps G α' H' d v
  | _, _, .nil => .nil
  | _, _, .cons h t => .cons (Rep.mono hs hp he hr h) (Reps.mono hs hp he hr t)
end
theorem pre_get {β : Type} {l l' : List β} (h : l <+: l') (n : Nat) (a : β) (e : l[n]? = some a) : l'[n]? = some a := by
  obtain ⟨t, rfl⟩ := h
  have hn : n < l.length := (List.getElem?_eq_some_iff.mp e).1
  rw [List.getElem?_append_left hn]
  exact e
theorem StOk.rep0 (st : StOk G α H μ) (x : Ext0 α H α' H') {d : D} {v : V} (h : Rep G α H d v) : Rep G α' H' d v :=
  h.mono (fun _ _ => st.sqT0 x) (pre_get x.pre) (fun _ _ e k t => x.keep _ _ (st.out e k) e t) x.rol
theorem StOk.reps0 (st : StOk G α H μ) (x : Ext0 α H α' H') {d : List D} {v : List V} (h : Reps G α H d v) : Reps G α' H' d v :=
  h.mono (fun _ _ => st.sqT0 x) (pre_get x.pre) (fun _ _ e k t => x.keep _ _ (st.out e k) e t) x.rol
theorem StOk.sqT (st : StOk G α H μ) (x : Ext α H α' H') {K : PySem.W.Frag} {a : Addr} {vs : List V} (h : SqT K H a vs) : SqT K H' a vs := st.sqT0 x.toExt0 h
theorem StOk.repP (st : StOk G α H μ) (x : Ext α H α' H') {p : P} {v : V} (h : RepP G.K H p v) : RepP G.K H' p v := st.repP0 x.toExt0 h
theorem StOk.repPs (st : StOk G α H μ) (x : Ext α H α' H') {p : List P} {v : List V} (h : RepPs G.K H p v) : RepPs G.K H' p v := st.repPs0 x.toExt0 h
theorem StOk.rep (st : StOk G α H μ) (x : Ext α H α' H') {d : D} {v : V} (h : Rep G α H d v) : Rep G α' H' d v := st.rep0 x.toExt0 h
theorem StOk.reps (st : StOk G α H μ) (x : Ext α H α' H') {d : List D} {v : List V} (h : Reps G α H d v) : Reps G α' H' d v := st.reps0 x.toExt0 h
end

/-! ### slots -/
abbrev Env := List (Option D)
structure EnvOk (G : Gx) (α : List Addr) (H : Hp) (ρ : Env) (σ : L2.St) : Prop where
  len : ρ.length = σ.length
  val : ∀ (i : Nat) (d : D), ρ[i]? = some (some d) → ∃ v, σ[i]? = some (some v) ∧ Rep G α H d v
section
variable {G : Gx} {α α' : List Addr} {H H' : Hp} {μ : Store} {ρ : Env} {σ : L2.St}
theorem EnvOk.ext0 (e : EnvOk G α H ρ σ) (st : StOk G α H μ) (x : Ext0 α H α' H') : EnvOk G α' H' ρ σ := ⟨e.len, fun i d h => by
  obtain ⟨v, h1, h2⟩ := e.val i d h
  exact ⟨v, h1, st.rep0 x h2⟩⟩
theorem EnvOk.ext (e : EnvOk G α H ρ σ) (st : StOk G α H μ) (x : Ext α H α' H') : EnvOk G α' H' ρ σ := e.ext0 st x.toExt0
theorem EnvOk.set (e : EnvOk G α H ρ σ) {d : D} {v : V} (i : Nat) (h : Rep G α H d v) : EnvOk G α H (ρ.set i (some d)) (σ.set i (some v)) := ⟨by simpa using e.len, fun j d' q => by
  by_cases hj : i = j
  · subst hj
    by_cases hl : i < ρ.length
    · rw [List.getElem?_set_self hl] at q
      cases q
      exact ⟨v, by rw [List.getElem?_set_self (by rw [← e.len]; exact hl)], h⟩
    · rw [List.getElem?_eq_none (by simpa using hl)] at q
      cases q
  · rw [List.getElem?_set_ne hj] at q
    obtain ⟨u, h1, h2⟩ := e.val j d' q
    exact ⟨u, by rw [List.getElem?_set_ne hj]; exact h1, h2⟩⟩
theorem EnvOk.wipe1 (e : EnvOk G α H ρ σ) (i : Nat) : EnvOk G α H (ρ.set i none) (σ.set i none) := ⟨by simpa using e.len, fun j d' q => by
  by_cases hj : i = j
  · subst hj
    by_cases hl : i < ρ.length
    · rw [List.getElem?_set_self hl] at q
      cases q
    · rw [List.getElem?_eq_none (by simpa using hl)] at q
      cases q
  · rw [List.getElem?_set_ne hj] at q
    obtain ⟨u, h1, h2⟩ := e.val j d' q
    exact ⟨u, by rw [List.getElem?_set_ne hj]; exact h1, h2⟩⟩
end

/-! ### what code of ours wants -/
section
variable (G : Gx) (W : WX) (σ : L2.St) {β γ : Type} (Rl : List Addr → Hp → β → γ → Prop)
def Got (α : List Addr) (H : Hp) (r : Res β) (Q : γ → Hp → Prop) : Prop := match r with
  | .ok b μ => ∀ c α' H', Ext α H α' H' → StOk G α' H' μ → Rl α' H' b c → Q c H'
  | .exc n d μ => ∀ (cls : Value) (dx : Addr) (v : V) (α' : List Addr) (H' : Hp), Ext α H α' H' → StOk G α' H' μ → G.mg n = some cls → H' dx = some (.xd [("value", v)]) → Rep G α' H' d v → W cls (some dx) σ H'
  | .bad => False
end
abbrev Ev (β : Type) := Env → Store → Res β
def tX (G : Gx) (W : WX) {β γ : Type} (Rl : List Addr → Hp → β → γ → Prop) (ev : Ev β) : L2.St → Hp → (γ → Hp → Prop) → Prop := fun σ H Q =>
  ∃ ρ α μ, EnvOk G α H ρ σ ∧ StOk G α H μ ∧ Got G W σ Rl α H (ev ρ μ) Q
abbrev tE (G : Gx) (W : WX) (ev : Ev D) : TE := tX G W (Rep G) ev
abbrev tAs (G : Gx) (W : WX) (ev : Ev (List D)) : TA := tX G W (Reps G) ev
abbrev rB : List Addr → Hp → Bool → Bool → Prop := fun _ _ b c => b = c
abbrev tT (G : Gx) (W : WX) (ev : Ev Bool) : TT := tX G W rB ev
section
variable {G : Gx} {W : WX} {σ : L2.St} {β γ δ ε : Type} {Rl : List Addr → Hp → β → γ → Prop} {Rl' : List Addr → Hp → δ → ε → Prop} {α α1 : List Addr} {H H1 : Hp}
theorem Got.ext {r : Res β} {Q : γ → Hp → Prop} (x : Ext α H α1 H1) (h : Got G W σ Rl α H r Q) : Got G W σ Rl α1 H1 r Q := by
  cases r with
  | ok b μ => exact fun c α' H' y st q => h c α' H' (x.trans y) st q
  | exc n d μ => exact fun cls dx v α' H' y st q1 q2 q3 => h cls dx v α' H' (x.trans y) st q1 q2 q3
  | bad => exact h
theorem Got.mono {r : Res β} {Q Q' : γ → Hp → Prop} (h : Got G W σ Rl α H r Q) (m : ∀ c H', Q c H' → Q' c H') : Got G W σ Rl α H r Q' := by
  cases r with
  | ok b μ => exact fun c α' H' y st q => m _ _ (h c α' H' y st q)
  | exc n d μ => exact h
  | bad => exact h
/-- first r, then k -/
theorem Got.bind {r : Res β} {k : β → Store → Res δ} {Q : ε → Hp → Prop} {Q' : γ → Hp → Prop} (h : Got G W σ Rl' α H (r.bind k) Q)
    (m : ∀ b μ1 c α1 H1, Ext α H α1 H1 → StOk G α1 H1 μ1 → Rl α1 H1 b c → Got G W σ Rl' α1 H1 (k b μ1) Q → Q' c H1) : Got G W σ Rl α H r Q' := by
  cases r with
  | ok b μ => exact fun c α' H' y st q => m b μ c α' H' y st q (Got.ext y h)
  | exc n d μ => exact h
  | bad => exact h
end
end Sh
set_option maxRecDepth 100000
set_option maxHeartbeats 4000000
/-! Sh: how the heap's changes go with the store's; ends of operations. -/
namespace Sh
open PySem PySem.Spec PyProof.Rows L2

section
variable {G : Gx} {α : List Addr} {H H' : Hp} {μ : Store}
/-- something new that is no cell -/
theorem Ext.fresh {p : Addr} {o : HO} (np : H p = none) : Ext α H α (upd H p o) := by
  exact ⟨⟨List.prefix_refl _, fun b u _ h _ => by rw [upd_ne (ne_of_none h np)]; exact h, fun b ps _ h => ⟨ps, by rw [upd_ne (ne_of_none h np)]; exact h⟩, fun _ h n => absurd h n, fun b q w e => by rw [upd_ne (ne_of_none e np)]; exact e⟩, fun b q u h => by rw [upd_ne (ne_of_none h np)]; exact h⟩
theorem CellOk.mono {α' : List Addr} {a : Addr} {c : Cell} (hs : ∀ b vs, SqT G.K H b vs → SqT G.K H' b vs) (hp : ∀ (n : Nat) (b : Addr), α[n]? = some b → α'[n]? = some b)
    (he : ∀ b o, H b = some o → cellHO o = false → notTbl o → H' b = some o) (hr : ∀ a o vs, H a = some (.frz o (.lst vs)) → H' a = some (.frz o (.lst vs))) (ha : H' a = H a) (h : CellOk G α H a c) : CellOk G α' H' a c := by
  have kr : ∀ {κ : Type} {f : P → Option κ} {l : List (P × P)} {l' : List (κ × V)}, KRep f G.K H l l' → KRep f G.K H' l l' := fun r => Paired.mapP r fun p q z => ⟨z.1, z.2.mono hs⟩
  cases c with
  | fl ps => obtain ⟨vs, e, r⟩ := h; exact ⟨vs, ha.trans e, r.mono hs⟩
  | dl ds => obtain ⟨vs, e, r⟩ := h; exact ⟨vs, ha.trans e, r.mono hs hp he hr⟩
  | fd kvs => obtain ⟨ks, e, r⟩ := h; exact ⟨ks, ha.trans e, kr r⟩
  | td kvs => obtain ⟨ks, e, r⟩ := h; exact ⟨ks, ha.trans e, kr r⟩
  | lfd kvs => obtain ⟨od, ks, e, r⟩ := h; exact ⟨od, ks, ha.trans e, kr r⟩
  | ltd kvs => obtain ⟨od, ks, e, r⟩ := h; exact ⟨od, ks, ha.trans e, kr r⟩
theorem StOk.fresh (st : StOk G α H μ) {p : Addr} {o : HO} (np : H p = none) : StOk G α (upd H p o) μ := by
  refine ⟨st.len, st.nd, st.tabs.ext fun b u e => by rw [upd_ne (ne_of_none e np)]; exact e, fun n c a h1 h2 => ?_⟩
  have q := st.cel n c a h1 h2
  obtain ⟨o', e, _⟩ := q.kind
  exact q.mono (fun _ _ => st.sqT (Ext.fresh np)) (fun _ _ e => e) (fun b u e _ _ => by rw [upd_ne (ne_of_none e np)]; exact e) (fun b q w e => by rw [upd_ne (ne_of_none e np)]; exact e) (by rw [upd_ne (ne_of_none e np)])
/-- a new cell -/
theorem Ext.push {p : Addr} {o : HO} (np : H p = none) : Ext α H (α ++ [p]) (upd H p o) := by
  refine ⟨⟨List.prefix_append _ _, fun b u _ h _ => by rw [upd_ne (ne_of_none h np)]; exact h, fun b ps _ h => ⟨ps, by rw [upd_ne (ne_of_none h np)]; exact h⟩, fun b h n => ?_, fun b q w e => by rw [upd_ne (ne_of_none e np)]; exact e⟩, fun b q u h => by rw [upd_ne (ne_of_none h np)]; exact h⟩
  rcases List.mem_append.mp h with h | h
  · exact absurd h n
  · have e : b = p := by simpa using h
    rw [e]
    exact np
theorem getLast_app {β : Type} (l : List β) (x : β) : (l ++ [x])[l.length]? = some x := by simp
theorem StOk.push (st : StOk G α H μ) {p : Addr} {o : HO} {c : Cell} (np : H p = none) (hc : CellOk G (α ++ [p]) (upd H p o) p c) : StOk G (α ++ [p]) (upd H p o) (μ ++ [c]) := by
  have np' : p ∉ α := fun z => by
    obtain ⟨u, e, _⟩ := st.kind z
    rw [np] at e
    cases e
  refine ⟨by rw [List.length_append, Store.push_len, st.len]; rfl, ?_, st.tabs.ext fun b u e => by rw [upd_ne (ne_of_none e np)]; exact e, fun n c' a h1 h2 => ?_⟩
  · rw [List.nodup_append]
    refine ⟨st.nd, by simp, fun a ha b hb => ?_⟩
    have e : b = p := by simpa using hb
    rw [e]
    rintro rfl
    exact np' ha
  · by_cases hn : n < μ.length
    · rw [Store.push_at, if_neg (Nat.ne_of_lt hn)] at h1
      rw [List.getElem?_append_left (by rw [st.len]; exact hn)] at h2
      have q := st.cel n c' a h1 h2
      obtain ⟨o', e, _⟩ := q.kind
      exact q.mono (fun _ _ => st.sqT (Ext.fresh np)) (pre_get (List.prefix_append _ _)) (fun b u e _ _ => by rw [upd_ne (ne_of_none e np)]; exact e) (fun b q w e => by rw [upd_ne (ne_of_none e np)]; exact e) (by rw [upd_ne (ne_of_none e np)])
    · have hl : n = μ.length := by
        have := Store.lt_of h1
        rw [Store.push_len] at this
        omega
      subst hl
      rw [Store.push_at, if_pos rfl] at h1
      rw [← st.len, getLast_app] at h2
      cases h1
      cases h2
      exact hc
/-- a cell is written -/
theorem Ext0.write (st : StOk G α H μ) {a : Addr} {o : HO} (ha : a ∈ α) : Ext0 α H α (upd H a o) := by
  have ne : ∀ b, b ∉ α → b ≠ a := fun b n z => n (by rw [z]; exact ha)
  exact ⟨List.prefix_refl _, fun b u n h _ => by rw [upd_ne (ne b n)]; exact h, fun b ps n h => ⟨ps, by rw [upd_ne (ne b n)]; exact h⟩, fun _ h n => absurd h n, fun b q w e => by
    rw [upd_ne]
    · exact e
    · rintro rfl
      exact st.nl ha q w e⟩
theorem Ext.write (st : StOk G α H μ) {a : Addr} {o q : HO} (ha : a ∈ α) (e : H a = some q) (nf : ∀ od u, q ≠ .frz od u) : Ext α H α (upd H a o) := ⟨Ext0.write st ha, fun b od u h => by
  by_cases z : b = a
  · subst z
    rw [h] at e
    cases e
    exact absurd rfl (nf od u)
  · rw [upd_ne z]
    exact h⟩
theorem tabs_side {T : List (Addr × Str)} {a : Addr} {o q : HO} (t : LamX.Tabs T H) (e : H a = some q) (n1 : notTbl q) (n2 : ∀ φ, q ≠ .ext φ) : LamX.Tabs T (upd H a o) := fun p hp => by
  obtain ⟨ps, h1, h2, h3⟩ := t p hp
  have ne : p.1 ≠ a := fun z => by
    rw [z, e] at h1
    exact n1 _ (Option.some.inj h1)
  refine ⟨ps, by rw [upd_ne ne]; exact h1, h2, fun pos cv hc => ?_⟩
  obtain ⟨c, e1, e2⟩ := h3 pos cv hc
  refine ⟨c, e1, ?_⟩
  rw [upd_ne]
  · exact e2
  · rintro rfl
    rw [e] at e2
    exact n2 _ (Option.some.inj e2)
theorem tabs_write (st : StOk G α H μ) {a : Addr} {o : HO} (ha : a ∈ α) : LamX.Tabs (tabsK G.K) (upd H a o) := by
  obtain ⟨q, e, k⟩ := st.kind ha
  refine tabs_side st.tabs e ?_ ?_
  · rintro ps rfl
    cases k
  · rintro φ rfl
    cases k
theorem StOk.write (st : StOk G α H μ) {n : Nat} {a : Addr} {o : HO} {c : Cell} (ha : α[n]? = some a) (hc : CellOk G α (upd H a o) a c) : StOk G α (upd H a o) (μ.set n c) := by
  have hn : n < μ.length := by rw [← st.len]; exact (List.getElem?_eq_some_iff.mp ha).1
  refine ⟨by rw [Store.set_len]; exact st.len, st.nd, tabs_write st (List.mem_of_getElem? ha), fun m c' b h1 h2 => ?_⟩
  by_cases hm : n = m
  · subst hm
    rw [Store.set_at _ _ _ _ hn, if_pos rfl] at h1
    rw [ha] at h2
    cases h1
    cases h2
    exact hc
  · rw [Store.set_at _ _ _ _ hn, if_neg (Ne.symm hm)] at h1
    have hb : b ≠ a := fun z => by
      subst z
      obtain ⟨k1, e1⟩ := List.getElem?_eq_some_iff.mp ha
      obtain ⟨k2, e2⟩ := List.getElem?_eq_some_iff.mp h2
      exact hm ((List.getElem_inj st.nd).mp (e1.trans e2.symm))
    have hx : Ext0 α H α (upd H a o) := Ext0.write st (List.mem_of_getElem? ha)
    exact (st.cel m c' b h1 h2).mono (fun _ _ => st.sqT0 hx) (fun _ _ e => e) (fun d u e k t => hx.keep d u (st.out e k) e t) hx.rol (by rw [upd_ne hb])
end

/-! ### ends of operations: nothing is raised -/
def GotO (G : Gx) {β γ : Type} (Rl : List Addr → Hp → β → γ → Prop) (α : List Addr) (H : Hp) (r : Option (β × Store)) (Q : γ → Hp → Prop) : Prop := match r with
  | some (b, μ) => ∀ c α' H', Ext α H α' H' → StOk G α' H' μ → Rl α' H' b c → Q c H'
  | none => False
def Res.ofO {β : Type} : Option (β × Store) → Res β
  | some (b, μ) => .ok b μ
  | none => .bad
section
variable {G : Gx} {W : WX} {σ : L2.St} {α : List Addr} {H : Hp} {μ : Store}
theorem Got.toO {β γ : Type} {Rl : List Addr → Hp → β → γ → Prop} {r : Option (β × Store)} {Q : γ → Hp → Prop} (h : Got G W σ Rl α H (Res.ofO r) Q) : GotO G Rl α H r Q := by
  cases r with
  | none => exact h
  | some z => exact h
/-- data that stands -/
theorem GotO.here {d : D} {v : V} {Q : VK} (st : StOk G α H μ) (r : Rep G α H d v) (h : GotO G (Rep G) α H (some (d, μ)) Q) : Q v H := h v α H (Ext.refl _ _) st r
/-- a new tuple -/
theorem GotO.tup {ps : List P} {vs : List V} {Q : VK} (st : StOk G α H μ) (r : RepPs G.K H ps vs) (h : GotO G (Rep G) α H (some (.p (.tup ps), μ)) Q) : ∀ p, H p = none → Q (.ref p) (upd H p (.tup vs)) := fun p np =>
  h (.ref p) α _ (Ext.fresh np) (st.fresh np) (.p (.tup (.inl (.inl upd_same)) (st.repPs (Ext.fresh np) r)))
theorem GotO.mixt {ds : List D} {vs : List V} {Q : VK} (st : StOk G α H μ) (r : Reps G α H ds vs) (h : GotO G (Rep G) α H (some (.mix ds, μ)) Q) : ∀ p, H p = none → Q (.ref p) (upd H p (.tup vs)) := fun p np =>
  h (.ref p) α _ (Ext.fresh np) (st.fresh np) (.mix (.inl (.inl upd_same)) (st.reps (Ext.fresh np) r))
/-- a new cell -/
theorem GotO.push {c : Cell} {o : HO} {Q : VK} (st : StOk G α H μ) (hc : ∀ p, H p = none → CellOk G (α ++ [p]) (upd H p o) p c) (h : GotO G (Rep G) α H (some (.ref μ.length, μ ++ [c])) Q) : ∀ p, H p = none → Q (.ref p) (upd H p o) := fun p np =>
  h (.ref p) (α ++ [p]) _ (Ext.push np) (st.push np (hc p np)) (.ref (by rw [← st.len]; exact getLast_app _ _))
theorem StOk.newL (st : StOk G α H μ) {ps : List P} {vs : List V} (r : RepPs G.K H ps vs) : ∀ p, H p = none → CellOk G (α ++ [p]) (upd H p (.lst vs)) p (.fl ps) := fun p np => ⟨vs, upd_same, st.repPs (Ext.fresh np) r⟩
theorem StOk.newD (st : StOk G α H μ) {ds : List D} {vs : List V} (r : Reps G α H ds vs) : ∀ p, H p = none → CellOk G (α ++ [p]) (upd H p (.lst vs)) p (.dl ds) := fun p np =>
  ⟨vs, upd_same, st.reps (Ext.push np) r⟩
end
theorem RepPs.length {K : PySem.W.Frag} {H : Hp} : ∀ {ps : List P} {vs : List V}, RepPs K H ps vs → vs.length = ps.length
  | _, _, .nil => rfl
  | _, _, .cons _ t => congrArg Nat.succ (RepPs.length t)
theorem Reps.length {G : Gx} {α : List Addr} {H : Hp} : ∀ {ps : List D} {vs : List V}, Reps G α H ps vs → vs.length = ps.length
  | _, _, .nil => rfl
  | _, _, .cons _ t => congrArg Nat.succ (Reps.length t)
theorem RepPs.get {K : PySem.W.Frag} {H : Hp} : ∀ {ps : List P} {vs : List V} {i : Nat} {x : P}, RepPs K H ps vs → ps[i]? = some x → ∃ v, vs[i]? = some v ∧ RepP K H x v
  | _, _, _, _, .nil, e => by simp at e
  | _, _, 0, _, .cons r _, e => by simp at e; subst e; exact ⟨_, rfl, r⟩
  | _, _, i + 1, _, .cons _ t, e => RepPs.get (i := i) t (by simpa using e)
theorem Reps.get {G : Gx} {α : List Addr} {H : Hp} : ∀ {ps : List D} {vs : List V} {i : Nat} {x : D}, Reps G α H ps vs → ps[i]? = some x → ∃ v, vs[i]? = some v ∧ Rep G α H x v
  | _, _, _, _, .nil, e => by simp at e
  | _, _, 0, _, .cons r _, e => by simp at e; subst e; exact ⟨_, rfl, r⟩
  | _, _, i + 1, _, .cons _ t, e => Reps.get (i := i) t (by simpa using e)
theorem RepPs.append {K : PySem.W.Frag} {H : Hp} : ∀ {ps qs : List P} {vs ws : List V}, RepPs K H ps vs → RepPs K H qs ws → RepPs K H (ps ++ qs) (vs ++ ws)
  | _, _, _, _, .nil, s => s
  | _, _, _, _, .cons r t, s => .cons r (RepPs.append t s)
theorem Reps.append {G : Gx} {α : List Addr} {H : Hp} : ∀ {ps qs : List D} {vs ws : List V}, Reps G α H ps vs → Reps G α H qs ws → Reps G α H (ps ++ qs) (vs ++ ws)
  | _, _, _, _, .nil, s => s
  | _, _, _, _, .cons r t, s => .cons r (Reps.append t s)
theorem RepPs.take {K : PySem.W.Frag} {H : Hp} : ∀ {ps : List P} {vs : List V} (n : Nat), RepPs K H ps vs → RepPs K H (ps.take n) (vs.take n)
  | _, _, 0, _ => .nil
  | _, _, _ + 1, .nil => .nil
  | _, _, n + 1, .cons r t => .cons r (RepPs.take n t)
theorem RepPs.drop {K : PySem.W.Frag} {H : Hp} : ∀ {ps : List P} {vs : List V} (n : Nat), RepPs K H ps vs → RepPs K H (ps.drop n) (vs.drop n)
  | _, _, 0, r => r
  | _, _, _ + 1, .nil => .nil
  | _, _, n + 1, .cons _ t => RepPs.drop n t
theorem Reps.take {G : Gx} {α : List Addr} {H : Hp} : ∀ {ps : List D} {vs : List V} (n : Nat), Reps G α H ps vs → Reps G α H (ps.take n) (vs.take n)
  | _, _, 0, _ => .nil
  | _, _, _ + 1, .nil => .nil
  | _, _, n + 1, .cons r t => .cons r (Reps.take n t)
theorem Reps.drop {G : Gx} {α : List Addr} {H : Hp} : ∀ {ps : List D} {vs : List V} (n : Nat), Reps G α H ps vs → Reps G α H (ps.drop n) (vs.drop n)
  | _, _, 0, r => r
  | _, _, _ + 1, .nil => .nil
  | _, _, n + 1, .cons _ t => Reps.drop n t
theorem RepPs.set {K : PySem.W.Frag} {H : Hp} {x : P} {v : V} (r : RepP K H x v) : ∀ {ps : List P} {vs : List V} (i : Nat), RepPs K H ps vs → RepPs K H (ps.set i x) (vs.set i v)
  | _, _, _, .nil => .nil
  | _, _, 0, .cons _ t => .cons r t
  | _, _, i + 1, .cons q t => .cons q (RepPs.set r i t)
theorem Reps.set {G : Gx} {α : List Addr} {H : Hp} {x : D} {v : V} (r : Rep G α H x v) : ∀ {ps : List D} {vs : List V} (i : Nat), Reps G α H ps vs → Reps G α H (ps.set i x) (vs.set i v)
  | _, _, _, .nil => .nil
  | _, _, 0, .cons _ t => .cons r t
  | _, _, i + 1, .cons q t => .cons q (Reps.set r i t)
theorem RepPs.eraseIdx {K : PySem.W.Frag} {H : Hp} : ∀ {ps : List P} {vs : List V} (i : Nat), RepPs K H ps vs → RepPs K H (ps.eraseIdx i) (vs.eraseIdx i)
  | _, _, _, .nil => .nil
  | _, _, 0, .cons _ t => t
  | _, _, i + 1, .cons q t => .cons q (RepPs.eraseIdx i t)
theorem Reps.eraseIdx {G : Gx} {α : List Addr} {H : Hp} : ∀ {ps : List D} {vs : List V} (i : Nat), Reps G α H ps vs → Reps G α H (ps.eraseIdx i) (vs.eraseIdx i)
  | _, _, _, .nil => .nil
  | _, _, 0, .cons _ t => t
  | _, _, i + 1, .cons q t => .cons q (Reps.eraseIdx i t)
theorem RepPs.reverse {K : PySem.W.Frag} {H : Hp} : ∀ {ps : List P} {vs : List V}, RepPs K H ps vs → RepPs K H ps.reverse vs.reverse
  | _, _, .nil => .nil
  | _, _, .cons r t => by
    rw [List.reverse_cons, List.reverse_cons]
    exact (RepPs.reverse t).append (.cons r .nil)
theorem RepPs.toD {G : Gx} {α : List Addr} {H : Hp} : ∀ {ps : List P} {vs : List V}, RepPs G.K H ps vs → Reps G α H (ps.map .p) vs
  | _, _, .nil => .nil
  | _, _, .cons r t => .cons (.p r) (RepPs.toD t)
/-- values that are all data -/
def pures : List D → Option (List P)
  | [] => some []
  | .p x :: r => match pures r with
    | some xs => some (x :: xs)
    | none => none
  | _ :: _ => none
theorem Reps.pures {G : Gx} {α : List Addr} {H : Hp} : ∀ {ds : List D} {vs : List V} {ps : List P}, Reps G α H ds vs → Sh.pures ds = some ps → RepPs G.K H ps vs
  | _, _, _, .nil, e => by cases e; exact .nil
  | _, _, _, .cons (d := .p x) (.p r) t, e => by
    unfold Sh.pures at e
    split at e
    · rename_i xs q
      cases e
      exact .cons r (Reps.pures t q)
    · cases e
  | _, _, _, .cons (d := .ref n) _ _, e => by cases e
  | _, _, _, .cons (d := .mix n) _ _, e => by cases e
  | _, _, _, .cons (d := .exc _ _) _ _, e => by cases e
  | _, _, _, .cons (d := .rol _) _ _, e => by cases e
end Sh
set_option maxRecDepth 100000
set_option maxHeartbeats 4000000
/-! Sh: an own error over ValueError whose first class says super().__init__(v) and keeps v. -/
namespace ShX
open PySem PySem.Spec PyProof.Rows L2

def supBody (s v : Str) (p : Nat → Pos) : List Stmt :=
  [.Expr (.Call (.Attribute (.Call (.Name "super" (p 0)) [] [] (p 1)) "__init__" (p 2)) [.Name v (p 3)] [] (p 4)) (p 5),
   .Assign [.Attribute (.Name s (p 6)) v (p 7)] (.Name v (p 8)) (p 9)]

/-- what the written part says of the first class's __init__: the function at fI, its class D in the cell at cc -/
structure SupI (P : Program) (K : PySem.W.Frag) (fI D : Addr) : Prop where
  fn : ∃ (oc : Value) (od : Option Addr) (osl : Array (Option Value)) (dV kV doc pm ct : Value) (an : Option Addr) (cda cc : Addr) (q : Str) (a1 a2 : Arg) (sc : Scope) (p : Nat → Pos),
    K.lookup fI = some ⟨oc, od, .func (PySem.W.ksFn "__init__" q ⟨[], [a1, a2], none, [], [], none, []⟩ (supBody "self" "value" p) sc .none kV doc pm an (.ref cda) ct cc), osl⟩ ∧
    PySem.W.codeIn K (.ref cda) q = true ∧ a1.arg = "self" ∧ a2.arg = "value" ∧
    (sc.kind = .function ∧ sc.isCoroutine = false ∧ sc.isGenerator = false ∧ sc.names.lookup ("super" : Str) = some .globalImplicit ∧ sc.names.lookup ("__class__" : Str) = some .free ∧ sc.names.lookup ("self" : Str) = some .local ∧ sc.names.lookup ("value" : Str) = some .local ∧ ∀ x ∈ sc.names, x.2 ≠ .cell) ∧
    (((p 2).endLine == (p 4).line) = true) ∧
    (∃ ccl cdd vs ccs file tf, K.lookup cda = some ⟨ccl, cdd, .fields vs, ccs⟩ ∧ vs[2]? = some (.str file tf) ∧ ((P.main.file : Str) == file) = true) ∧
    (∃ cl cld csl, K.lookup cc = some ⟨cl, cld, .cell (some (.ref D)), csl⟩)
  cls : ∃ cd, PySem.W.clsIn K D = some cd
  top : (P.main.scope.names.lookup ("super" : Str)).isSome = false
  any : PySem.W.nsIn K cStatics "thirdparty.any" = some none
  typ : PySem.W.typeIn K (.ref fI) = some (.type "function")
/-- of a class C below D -/
structure SupC (K : PySem.W.Frag) (D C : Addr) : Prop where
  oex : OexC K C
  sub : PySem.W.mroIn K C (.ref D) = some true
  sup : PySem.W.ks_superIn K C D "__init__" = some (some (.builtin "ValueError.__init__"))
  ve : PySem.W.subIn K (.ref C) (.type "ValueError") = some true
  val : PySem.W.findIn K (.ref C) "value" = some none

theorem boot_super : bootBuiltins "super" = some (.type "super") := by first | rfl | kernel_rfl | decide +kernel

section
variable {P : Program} {w : World} {K : PySem.W.Frag} {A : Around} {R : Result → Shared → Prop} {fI D C e t0 : Addr} {u : Value} {mg mb : Str → Option Value}
/-- the first class's __init__ run upon a new error -/
theorem init_run (S : SupI P K fI D) (T : SupC K D C) {s : Shared} (X : K.In s.heap) (hd : A.depth < recursionLimit) (lim : s.heap.NoLimit) (G : s.heap.Ns mainGlobals mg) (hsu : mg "super" = none) (B : s.heap.Ns builtinsNs mb) (hbb : mb "super" = some (.type "super"))
    (he : s.heap.get? e = some (PySem.HandSPX.excO C t0)) (hKe : K.lookup e = none)
    (hq : ∀ (h' : Heap) (tk t1 dx : Nat), (∀ b o, b ≠ e → s.heap.get? b = some o → h'.get? b = some o) → s.heap.objs.size ≤ dx → dx ≠ e → h'.get? e = some ({ cls := .ref C, dict := some dx, data := .fields #[.ref t1, .none, .none, .none, .bool false, .none] } : Obj) →
      h'.Ns1 dx (fun y => if y = "value" then some u else none) → R (.ok (.ret .none)) ⟨h', s.gens, s.drawn, tk, s.os⟩) :
    codeAny (model P w) A (.call (.ref fI) ⟨[.ref e, u], []⟩) R s := by
  obtain ⟨oc, od, osl, dV, kV, doc, pm, ct, an, cda, cc, q, a1, a2, sc, p, hF, hcode, e1, e2, ⟨k1, k2, k3, k4, k5, k6, k7, k8⟩, hpos, ⟨ccl, cdd, vs, ccs, file, tf, hcda, hvs, hfile⟩, ⟨cl, cld, csl, hcc⟩⟩ := S.fn
  obtain ⟨cd, hcd⟩ := S.cls
  obtain ⟨nm, qn, N, bs, bm, sn, sub, ab, col, dd, c0, c1, c2, c3, c5, hC, hbm⟩ := T.oex.cls
  have hbind : BindsTo s (PySem.W.ksFn "__init__" q ⟨[], [a1, a2], none, [], [], none, []⟩ (supBody "self" "value" p) sc .none kV doc pm an (.ref cda) ct cc) ⟨[.ref e, u], []⟩ [("self", .ref e), ("value", u)] := by
    obtain ⟨x1, y1, z1⟩ := a1
    obtain ⟨x2, y2, z2⟩ := a2
    dsimp only at e1 e2
    subst e1 e2
    refine BindsTo.of_eq ?_
    rfl
  refine PySem.ks_codeAny_call_defAt (fd := PySem.W.ksFn "__init__" q ⟨[], [a1, a2], none, [], [], none, []⟩ (supBody "self" "value" p) sc .none kV doc pm an (.ref cda) ct cc) (body := supBody "self" "value" p) hd (X _ _ hF) rfl lim (PySem.W.codeRec_of X hcode) rfl hbind k8
    (fun x hx => by
      rcases List.mem_cons.mp hx with rfl | hx
      · exact k6
      · rcases List.mem_cons.mp hx with rfl | hx
        · exact k7
        · cases hx) (fun h1 ns1 up1 => ?_) k2 k3 k1
  have X1 : K.In h1 := X.keeps up1
  have env0 : callEnv (PySem.W.ksFn "__init__" q ⟨[], [a1, a2], none, [], [], none, []⟩ (supBody "self" "value" p) sc .none kV doc pm an (.ref cda) ct cc) s.heap.objs.size fI = PySem.W.ksEnv q sc s.heap.objs.size fI (.ref cda) cc := rfl
  rw [env0]
  have kself : ∀ {h2 : Heap}, (∀ b o, h1.get? b = some o → h2.get? b = some o) → h2.Ns s.heap.objs.size (fun x => [(("self" : Str), Value.ref e), ("value", u)].reverse.lookup x) := fun {h2} k => by
    obtain ⟨o, es, ep, a, b, c⟩ := ns1
    exact ⟨o, es, ep, k _ _ a, b, c⟩
  have hint : interactive (PySem.W.ksEnv q sc s.heap.objs.size fI (.ref cda) cc) = false := by
    show (sc.kind == .module && _) = false
    rw [k1] <;> rfl
  refine PySem.ks_wpAt_execs_cons (PySem.ks_wpAt_Expr_any ?_ hint rfl)
  refine PySem.ks_wpAt_MethodCall (pl := L2.plainOf (.Call (.Name "super" (p 0)) [] [] (p 1)) (PySem.W.ksEnv q sc s.heap.objs.size fI (.ref cda) cc)) ?_ ?_
  rotate_left
  · show (attributeBase _ _ _ _ >>= _) = _
    refine congrArg _ (funext fun ov => ?_)
    refine congrArg _ (funext fun _ => ?_)
    exact L2.mcall_line rfl hpos
  -- super()
  refine PySem.ks_wpAt_super_base (fd := PySem.W.ksFn "__init__" q ⟨[], [a1, a2], none, [], [], none, []⟩ (supBody "self" "value" p) sc .none kV doc pm an (.ref cda) ct cc) (ar := a1) k4 k5 rfl rfl (X1 _ _ hF) rfl rfl rfl (X1 _ _ hcda) rfl hvs hfile S.top ?_
  refine PySem.W.ks_loadName_global k1 k4 (PySem.Calls.loadGlobal_builtin (env := PySem.W.ksEnv q sc s.heap.objs.size fI (.ref cda) cc) (G.keeps up1) hsu (B.keeps up1) hbb ⟨rfl, ?_⟩)
  refine wpAny_loadName_free k1 k5 rfl ⟨_, X1 _ _ hcc, rfl⟩ ?_
  rw [e1]
  refine wpAny_loadName_local k1 k6 (kself fun _ _ z => z) rfl ?_
  obtain ⟨oD, hD1, hD2⟩ : ∃ oD, h1.get? D = some oD ∧ oD.data = .cls cd := by
    unfold PySem.W.clsIn at hcd
    split at hcd
    · rename_i c d cd' sl ho
      cases hcd
      exact ⟨_, X1 _ _ ho, rfl⟩
    · cases hcd
  have he1 : h1.get? e = some (PySem.HandSPX.excO C t0) := up1 _ _ he
  refine PySem.ks_wpAny_isType_cls hD1 hD2 ⟨rfl, ?_⟩
  refine PySem.ks_wpAny_call_super hD1 hD2 he1 rfl (fun c z => by cases z) (PySem.W.looks_mroIn X1 T.sub) (fun h2 hso up2 => ?_)
  have X2 : K.In h2 := X1.keeps up2
  have hcl : PySem.W.clsIn K C = some { name := nm, bases := bs, mro := .ref C :: bm, ns := N, qualname := qn, hasDict := true, slotNames := sn, subclasses := sub, abstract := ab, collection := col, hasDel := false } := by
    unfold PySem.W.clsIn
    rw [hC] <;> rfl
  have he2 : h2.get? e = some (PySem.HandSPX.excO C t0) := up2 _ _ he1
  have I2 : PySem.W.InstAt h2 e (PySem.HandSPX.excO C t0) C none := ⟨he2, rfl, rfl, trivial⟩
  have hsup := T.sup
  unfold PySem.W.ks_superIn at hsup
  rw [hcl] at hsup
  refine PySem.W.kxs_getMethod PySem.W.kxs_ValueError hso (PySem.W.looks_opaque X2 S.any) (l₀ := .ref C :: bm) (fun A Q E s k z => wpAny_bind ((PySem.W.looks_clsIn X2 hcl) A _ E s k (wpAny_pure z))) rfl X2 hsup (I2.type.andThen (PySem.W.looks_subIn X2 T.ve)) (PySem.W.ks_ne X2 I2 hcl) rfl ?_
  -- __init__(value)
  have mw : (h2.push (PySem.W.kxs_mw "ValueError.__init__" e)).get? h2.objs.size = some (PySem.W.kxs_mw "ValueError.__init__" e) := Heap.get?_push_size _ rfl
  have up3 : ∀ b o, h2.get? b = some o → (h2.push (PySem.W.kxs_mw "ValueError.__init__" e)).get? b = some o := fun b o z => Heap.get?_push_of_some _ z
  refine PySem.W.kxs_callWith (i := "ValueError.__init__") (x := e) rfl ?_
  refine PySem.Calls.evalArgs_plain ?_
  refine PySem.Calls.spliced_cons (wpAny_Name (wpAny_loadName_local k1 k7 (v := u) (kself fun b o z => up3 _ _ (up2 _ _ z)) rfl (PySem.Calls.spliced_nil ⟨mw, ?_⟩)))
  refine wpAny_call (codeAny_of_tree ?_)
  show wpAny _ _ (callAny (.ref h2.objs.size) ⟨[u], []⟩) _ _ _
  simp only [callAny]
  refine wpAny_bind (wpAny_load mw ?_)
  simp only [PySem.W.kxs_mw, show (Value.type "method-wrapper" == Value.type "method" || Value.type "method-wrapper" == Value.type "builtin_function_or_method" || Value.type "method-wrapper" == Value.type "method-wrapper") = true by decide, if_true]
  have he3 : (h2.push (PySem.W.kxs_mw "ValueError.__init__" e)).get? e = some (PySem.HandSPX.excO C t0) := up3 _ _ he2
  refine PySem.W.KFB.if_so (by decide) ?_
  refine wpAny_bind (PySem.W.check_bound_init PySem.F.excBase_ValueError.toExcCallFacts (up3 _ _ (X2 _ _ hC)) he3 rfl ?_)
  refine wpAny_bind (wpAny_pure (wpAny_pure ?_))
  refine ⟨plainId_quiet PySem.F.excBase_ValueError.init.plain _, codeAny_builtin PySem.F.excBase_ValueError.initEntry ?_⟩
  refine PySem.W.exc_init_tree (cls := .ref C) (t0 := t0) (dv := none) (c2 := .none) (c3 := .none) (b4 := .bool false) he3 (by show 1 ≤ sizeLine; rw [sizeLine_eq]; omega) (fun h4 k4' he4 _ => ?_)
  -- self.value = value
  have nK : ∀ {b : Addr} {o : Obj}, K.lookup b = some o → b ≠ e := fun {b o} z y => by
    rw [y, hKe] at z
    cases z
  have X4 : K.In h4 := fun b o z => k4' b o (nK z) (X2.keeps up3 _ _ z)
  have nL : s.heap.objs.size ≠ e := fun z => by
    have y := Heap.lt_size he
    rw [← z] at y
    exact absurd y (Nat.lt_irrefl _)
  have ns4 : h4.Ns s.heap.objs.size (fun x => [(("self" : Str), Value.ref e), ("value", u)].reverse.lookup x) := by
    obtain ⟨o, es, ep, a, b, c⟩ := kself (h2 := h2.push (PySem.W.kxs_mw "ValueError.__init__" e)) (fun b o z => up3 _ _ (up2 _ _ z))
    exact ⟨o, es, ep, k4' _ _ nL a, b, c⟩
  show PySem.wpAt (model P w) _ _ (execs _ (PySem.W.ksEnv q sc s.heap.objs.size fI (.ref cda) cc)) _ _ _
  refine PySem.ks_wpAt_execs_cons (PySem.ks_wpAt_Assign_Attr ?_ rfl)
  refine wpAt_of_wpAny (wpAny_Name ?_)
  refine (wpAny_loadName_local k1 k7 (env := PySem.W.ksEnv q sc s.heap.objs.size fI (.ref cda) cc) (m := fun x => [(("self" : Str), Value.ref e), ("value", u)].reverse.lookup x) (v := u) ns4 rfl ?_)
  refine wpAny_Name ?_
  refine (wpAny_loadName_local k1 k6 (env := PySem.W.ksEnv q sc s.heap.objs.size fI (.ref cda) cc) (m := fun x => [(("self" : Str), Value.ref e), ("value", u)].reverse.lookup x) (v := .ref e) ns4 rfl ?_)
  refine PySem.W.set_plain X4 (ox := { cls := .ref C, dict := none, data := .fields #[.ref (h2.push (PySem.W.kxs_mw "ValueError.__init__" e)).objs.size, .none, .none, .none, .bool false, .none] }) (od := none) ⟨he4, rfl, rfl, trivial⟩ T.oex.sa ?_
  refine PySem.HandSPX.exc_osa X4 he4 hcl (show PySem.HandSPX.refsVE (.ref C :: bm) = true from hbm) rfl T.val (fun h5 tk5 dx k5' dn dne hx hn => ?_)
  refine wpAt_of_wpAny (wpAny_execs_nil ?_)
  refine hq h5 tk5 _ dx (fun b o hb z => k5' b o hb (k4' b o hb (up3 _ _ (up2 _ _ (up1 _ _ z))))) (Nat.le_of_not_lt fun z => ?_) dne hx hn
  obtain ⟨oL, _, _, hoL, _⟩ := ns4
  exact absurd (Nat.lt_trans (Nat.lt_of_lt_of_le (Heap.lt_size hoL) dn) z) (Nat.lt_irrefl _)
end

/-- C(e): a new error of the class at C; its dict says value = e -/
def tMk1 (C : Addr) (te : TE) : L2.St → Hp → XK → Prop := fun σ H Q => te σ H fun v H1 => ∀ d, H1 d = none → Q (.ref C) (some d) (upd H1 d (.xd [("value", v)]))
theorem pmk_sup {X : Cx} {x : Str} {C D fI : Addr} {e : Expr} {te : TE} {p pos : Pos} (S : SupI X.prog X.K fI D) (T : SupC X.K D C) (iC : PySem.W.findIn X.K (.ref C) "__init__" = some (some (.ref fI))) (hsu : X.mg "super" = none) (hr : Room 2 X.A)
    (hg : Gl X x) (hm : X.mg x = some (.ref C)) (he : PE X e te) (hst : starEach [e] X.env = (false, eval e X.env) :: starEach [] X.env) (hdb : (x == ("__debug__" : Str)) = false) : PMk X (.Call (.Name x p) [e] [] pos) (tMk1 C te) := by
  intro pins s σ H Q I h
  obtain ⟨nm, qn, N, bs, bm, sn, sub, ab, col, dd, c0, c1, c2, c3, c5, hC, hbm⟩ := T.oex.cls
  refine wpAny_Call_Name_kw (ld_glob I hg hm ?_ hdb)
  refine PySem.W.callWith_K (h₀ := X.base) I.ok.mod.kin T.oex.kC ?_ hst (by rfl)
  rw [hst]
  show wpAny _ _ (spliced ((false, eval e X.env) :: backTo pos (starEach [] X.env))) _ _ s
  refine Calls.spliced_cons (thn (he.run pins s σ H _ I h) fun u s1 ⟨v, H1, I1, r1, q1⟩ => ?_)
  refine Calls.spliced_nil ⟨I1.kIn, ?_⟩
  show wpAny _ _ (call (.ref C) [u]) _ _ _
  obtain ⟨hp, g, dr, tk, os⟩ := s1
  have h1 : ([u] : List Value).length ≤ sizeLine := by show 1 ≤ sizeLine; rw [sizeLine_eq]; omega
  have kk : ∀ b o, hp.get? b = some o → ((hp.push (PySem.W.kdv_tup [u])).push (PySem.HandSPX.excO C hp.objs.size)).get? b = some o := fun b o z => Heap.get?_push_of_some _ (Heap.get?_push_of_some _ z)
  have hget : ((hp.push (PySem.W.kdv_tup [u])).push (PySem.HandSPX.excO C hp.objs.size)).get? (hp.objs.size + 1) = some (PySem.HandSPX.excO C hp.objs.size) := by heap_get
  have hsz : ((hp.push (PySem.W.kdv_tup [u])).push (PySem.HandSPX.excO C hp.objs.size)).objs.size = hp.objs.size + 2 := by
    first
      | rfl
      | simp [Heap.push]
  have hKe : X.K.lookup (hp.objs.size + 1) = none := by
    cases z : X.K.lookup (hp.objs.size + 1) with
    | none => rfl
    | some o => exact absurd (show hp.objs.size + 1 < hp.objs.size from Heap.lt_size (I1.kIn _ _ z)) (Nat.not_lt_of_le (Nat.le_succ _))
  obtain ⟨mb, hB, hbb⟩ := I1.ok.mod.blt
  refine wpAny_call (PySem.HandSPX.call_own PySem.F.excBase_ValueError (fun Y => PySem.HandSPX.refsVE_contains Y bm hbm) (I1.kIn _ _ hC) (PySem.W.looks_findIn I1.kIn iC) (fun self => PySem.W.bind_fn I1.kIn self S.typ) h1 ?_)
  refine init_run (mg := X.mg) (mb := mb) (t0 := hp.objs.size) S T (I1.kIn.keeps kk) (hr.make C [u] []).depth (I1.nolimit.keeps kk) ((I1.ok.mod.glob.keeps I1.bk).keeps kk) hsu ((hB.keeps I1.bk).keeps kk) ((hbb _ (by decide)).trans boot_super) hget hKe (fun h' tk' t1 dx k hdx dne hx hn => ?_)
  rw [hsz] at hdx
  refine ⟨rfl, ?_⟩
  obtain ⟨G, g1, g2⟩ := restrict h' fun b => decide (b ≠ hp.objs.size + 1)
  have gk : ∀ b, b ≠ hp.objs.size + 1 → G.get? b = h'.get? b := fun b hb => g1 b (decide_eq_true hb)
  have ge : G.get? (hp.objs.size + 1) = none := g2 _ (by simp)
  have na : H1 (hp.objs.size + 1) = none := I1.hok.fresh (Nat.le_succ _)
  have nd : H1 dx = none := I1.hok.fresh (by show hp.objs.size ≤ dx; omega)
  have kG : ∀ b o, hp.get? b = some o → G.get? b = some o := fun b o z => by
    have hb : b ≠ hp.objs.size + 1 := fun y => by
      have q : b < hp.objs.size := Heap.lt_size z
      rw [y] at q
      exact absurd q (Nat.not_lt_of_le (Nat.le_succ _))
    rw [gk b hb]
    exact k b o hb (kk b o z)
  have J : Inv X pins σ (upd H1 dx (.xd [("value", v)])) { (⟨hp, g, dr, tk, os⟩ : Shared) with heap := G, toks := tk' } := by
    refine I1.laidN (t' := tk') kG (Heap.get?_none_of_le (by show hp.objs.size ≤ dx; omega)) nd ?_
    refine ⟨fun y => if y = "value" then some u else none, hn.at fun o z => (gk dx dne).trans z, fun f => ?_⟩
    exact relO_put (fs := []) (mA := fun _ => none) r1 (fun _ => True.intro) f
  refine ⟨hp.objs.size + 1, _, _, _, upd H1 dx (.xd [("value", v)]), .ref C, some dx, rfl, J, fun b o z => ?_, ge, hx, ⟨rfl, rfl⟩, rfl, rfl, ?_, rfl, I1.bare, raises_own T.oex.exC T.oex.tyC, q1 dx nd⟩
  · by_cases hb : b = hp.objs.size + 1
    · have z : G.get? b = some o := z
      rw [hb, ge] at z
      cases z
    · exact (gk b hb).symm.trans z
  · rw [upd_ne (Ne.symm dne)]
    exact na
end ShX
set_option maxRecDepth 100000
set_option maxHeartbeats 4000000
/-! Sh: operators by values. -/
namespace Sh
open PySem PySem.Spec PyProof.Rows L2

abbrev gx (X : Cx) : Gx := ⟨X.K, X.mg⟩
/-- an operation on two values that raises nothing; on one; on a row of them -/
abbrev Op1 := D → Store → Option (D × Store)
abbrev Op2 := D → D → Store → Option (D × Store)
abbrev OpN := List D → Store → Option (D × Store)
def r1 (G : Gx) (op : Op1) : V → Hp → VK → Prop := fun x H Q => ∃ α μ d, StOk G α H μ ∧ Rep G α H d x ∧ GotO G (Rep G) α H (op d μ) Q
def r2 (G : Gx) (op : Op2) : R2 := fun x y H Q => ∃ α μ d e, StOk G α H μ ∧ Rep G α H d x ∧ Rep G α H e y ∧ GotO G (Rep G) α H (op d e μ) Q
def rN (G : Gx) (op : OpN) : List V → Hp → VK → Prop := fun xs H Q => ∃ α μ ds, StOk G α H μ ∧ Reps G α H ds xs ∧ GotO G (Rep G) α H (op ds μ) Q

/-! ### ints -/
def opSub : Op2
  | .p (.int i), .p (.int j), μ => some (.p (.int (i - j)), μ)
  | .p (.bl i), .p (.bl j), μ => some (.p (.int ((match i with | true => 1 | false => 0) - (match j with | true => 1 | false => 0))), μ)
  | _, _, _ => none
def opMod : Op2
  | .p (.int i), .p (.int j), μ => if j = 0 then none else some (.p (.int (i.fmod j)), μ)
  | _, _, _ => none
/-- n has at most k bits -/
def sm (k n : Nat) : Bool := Nat.ble (n + 1) (2 ^ k)
theorem sm_log {k n : Nat} (hk : 0 < k) (h : sm k n = true) : n.log2 < k := by
  have h1 : n + 1 ≤ 2 ^ k := Nat.le_of_ble_eq_true h
  by_cases h0 : n = 0
  · subst h0
    exact hk
  · exact (Nat.log2_lt h0).mpr (by omega)
def opDiv : Op2
  | .p (.int i), .p (.int j), μ => if j = 0 then none else if sm 9000 j.natAbs = true then some (.p (.int (i.fdiv j)), μ) else none
  | _, _, _ => none
def opPow : Op2
  | .p (.int i), .p (.int j), μ => if j < 0 then none else if sm 4000 i.natAbs = true ∧ j.toNat ≤ 20000 then some (.p (.int (i ^ j.toNat)), μ) else none
  | _, _, _ => none
def opNeg : Op1
  | .p (.int i), μ => some (.p (.int (-i)), μ)
  | _, _ => none
def szMax : Nat := 16777216
def lstOf (μ : Store) (n : Nat) : Option (List D) := match μ.get? n with
  | some (.fl ps) => some (ps.map .p)
  | some (.dl ds) => some ds
  | _ => none
def mkL (ds : List D) : Cell := match pures ds with
  | some ps => .fl ps
  | none => .dl ds
def opAdd : Op2
  | .p (.int i), .p (.int j), μ => some (.p (.int (i + j)), μ)
  | .p (.str s), .p (.str t), μ => if s.length + t.length ≤ szMax then some (.p (.str (s ++ t)), μ) else none
  | .p (.tup a), .p (.tup b), μ => if a.length + b.length ≤ szMax then some (.p (.tup (a ++ b)), μ) else none
  | .ref m, .ref n, μ => match lstOf μ m, lstOf μ n with
    | some a, some b => if a.length + b.length ≤ szMax then some (.ref μ.length, μ ++ [mkL (a ++ b)]) else none
    | _, _ => none
  | _, _, _ => none
def opMul : Op2
  | .p (.int i), .p (.int j), μ => if sm 400000 i.natAbs = true ∧ sm 400000 j.natAbs = true then some (.p (.int (i * j)), μ) else none
  | .ref m, .p (.int k), μ => match lstOf μ m with
    | some a => if k.natAbs < 16777216 ∧ a.length * k.toNat ≤ szMax then some (.ref μ.length, μ ++ [mkL (List.replicate k.toNat a).flatten]) else none
    | none => none
  | _, _, _ => none
section
variable {X : Cx} {α : List Addr} {H : Hp} {μ : Store}
theorem rep_int {G : Gx} {i : Int} {v : V} (h : Rep G α H (.p (.int i)) v) : v = .int i := by
  cases h with
  | p h => cases h; rfl
theorem rep_bl {G : Gx} {i : Bool} {v : V} (h : Rep G α H (.p (.bl i)) v) : v = .bl i := by
  cases h with
  | p h => cases h; rfl
theorem rep_str {G : Gx} {s : List Nat} {v : V} (h : Rep G α H (.p (.str s)) v) : v = .str (stS s) := by
  cases h with
  | p h => cases h; rfl
theorem rep_non {G : Gx} {v : V} (h : Rep G α H (.p .non) v) : v = .non := by
  cases h with
  | p h => cases h; rfl
theorem rep_tup {G : Gx} {ps : List P} {v : V} (h : Rep G α H (.p (.tup ps)) v) : ∃ a vs, v = .ref a ∧ SqT G.K H a vs ∧ RepPs G.K H ps vs := by
  cases h with
  | p h => cases h with
    | tup h t => exact ⟨_, _, rfl, h, t⟩
theorem rep_ref {G : Gx} {n : Nat} {v : V} (h : Rep G α H (.ref n) v) : ∃ a, v = .ref a ∧ α[n]? = some a := by
  cases h with
  | ref h => exact ⟨_, rfl, h⟩
theorem lst_of {G : Gx} {n : Nat} {a : Addr} {ds : List D} (st : StOk G α H μ) (ha : α[n]? = some a) (h : lstOf μ n = some ds) : ∃ vs, H a = some (.lst vs) ∧ Reps G α H ds vs := by
  unfold lstOf at h
  split at h
  · rename_i ps e
    cases h
    obtain ⟨vs, h1, h2⟩ := st.cel n _ a e ha
    exact ⟨vs, h1, h2.toD⟩
  · rename_i q e
    cases h
    exact st.cel n _ a e ha
  · cases h
theorem newCell {G : Gx} (st : StOk G α H μ) {ds : List D} {vs : List V} (r : Reps G α H ds vs) : ∀ p, H p = none → CellOk G (α ++ [p]) (upd H p (.lst vs)) p (mkL ds) := fun p np => by
  unfold mkL
  split
  · rename_i ps e
    exact st.newL (r.pures e) p np
  · exact st.newD r p np
theorem len_sz {xs : List V} (h : xs.length ≤ szMax) : xs.length ≤ sizeLine := by
  rw [sizeLine_eq]
  exact h
theorem stS_app (s t : List Nat) : stS s ++ stS t = stS (s ++ t) := by
  show (⟨s.toArray ++ t.toArray⟩ : Str) = ⟨(s ++ t).toArray⟩
  rw [List.append_toArray]
theorem stS_len (s : List Nat) : (stS s).length = s.length := by
  show s.toArray.size = s.length
  simp
theorem Reps.rep {G : Gx} {ds : List D} {vs : List V} (r : Reps G α H ds vs) : ∀ k : Nat, Reps G α H (List.replicate k ds).flatten (List.replicate k vs).flatten
  | 0 => .nil
  | k + 1 => by
    rw [List.replicate_succ, List.replicate_succ, List.flatten_cons, List.flatten_cons]
    exact r.append (Reps.rep r k)
theorem op_subS : OpR X (binaryOp .Sub) (r2 (gx X) opSub) := by
  rintro pins s σ H x y v u Q I rx ry ⟨α, μ, d, e, st, r1, r2, g⟩
  unfold opSub at g
  split at g
  · obtain rfl := rep_int r1
    obtain rfl := rep_int r2
    exact op_sub pins s σ H _ _ v u Q I rx ry ⟨_, _, rfl, rfl, g.here st (.p (.int _))⟩
  · rename_i i j
    obtain rfl := rep_bl r1
    obtain rfl := rep_bl r2
    cases (show v = Value.bool i from rx)
    cases (show u = Value.bool j from ry)
    refine PyProof.Rows.sub_bool ⟨.int (b2i i - b2i j), H, I.tok _, ⟨_, rfl⟩, ?_⟩
    have q := g.here st (.p (.int _))
    cases i <;> cases j <;> exact q
  · exact g.elim
theorem op_modS : OpR X (binaryOp .Mod) (r2 (gx X) opMod) := by
  rintro pins s σ H x y v u Q I rx ry ⟨α, μ, d, e, st, r1, r2, g⟩
  unfold opMod at g
  split at g
  · obtain rfl := rep_int r1
    obtain rfl := rep_int r2
    split at g
    · exact g.elim
    · rename_i h
      exact op_modN pins s σ H _ _ v u Q I rx ry ⟨_, _, rfl, rfl, h, g.here st (.p (.int _))⟩
  · exact g.elim
theorem op_fdivG : OpR X (binaryOp .FloorDiv) (rI (fun _ j => j ≠ 0 ∧ j.natAbs.log2 < 9000) fun i j => .int (i.fdiv j)) := opI fun _ _ _ _ _ _ _ hc q => floordiv_int hc.1 q (.inl (PyProof.noPylong_of_log2 hc.2))
theorem op_divS : OpR X (binaryOp .FloorDiv) (r2 (gx X) opDiv) := by
  rintro pins s σ H x y v u Q I rx ry ⟨α, μ, d, e, st, r1, r2, g⟩
  unfold opDiv at g
  split at g
  · obtain rfl := rep_int r1
    obtain rfl := rep_int r2
    split at g
    · exact g.elim
    · rename_i h
      split at g
      · rename_i h2
        exact op_fdivG pins s σ H _ _ v u Q I rx ry ⟨_, _, rfl, rfl, ⟨h, sm_log (by decide) h2⟩, g.here st (.p (.int _))⟩
      · exact g.elim
  · exact g.elim
theorem intBits_le (x : Int) : Builtin.Int.intBits x ≤ x.natAbs.log2 + 1 := by
  unfold Builtin.Int.intBits
  split <;> omega
theorem op_powG : OpR X (binaryOp .Pow) (rI (fun i j => 0 ≤ j ∧ (i.natAbs.log2 + 1) * j.toNat ≤ 100000000) fun i j => .int (i ^ j.toNat)) := opI fun i j _ _ _ _ _ hc q => by
  refine PyProof.Rows.pow_int hc.1 ?_ q
  have h1 := intBits_le i
  have h2 : Builtin.Int.intBits i * j.toNat ≤ (i.natAbs.log2 + 1) * j.toNat := Nat.mul_le_mul_right _ h1
  have h3 : ((j.toNat : Nat) : Int) = j := Int.toNat_of_nonneg hc.1
  have h4 : ((Builtin.Int.intBits i * j.toNat : Nat) : Int) ≤ ((100000000 : Nat) : Int) := Int.ofNat_le.mpr (Nat.le_trans h2 hc.2)
  rw [Int.natCast_mul, h3] at h4
  exact Int.le_trans h4 (by decide)
theorem op_powS : OpR X (binaryOp .Pow) (r2 (gx X) opPow) := by
  rintro pins s σ H x y v u Q I rx ry ⟨α, μ, d, e, st, r1, r2, g⟩
  unfold opPow at g
  split at g
  · obtain rfl := rep_int r1
    obtain rfl := rep_int r2
    split at g
    · exact g.elim
    · rename_i h
      split at g
      · rename_i h2
        exact op_powG pins s σ H _ _ v u Q I rx ry ⟨_, _, rfl, rfl, ⟨by omega, by
          have h3 := sm_log (by decide) h2.1
          have h4 := h2.2
          have h5 : ((_ : Int).natAbs.log2 + 1) * (_ : Int).toNat ≤ 4000 * 20000 := Nat.mul_le_mul h3 h4
          omega⟩, g.here st (.p (.int _))⟩
      · exact g.elim
  · exact g.elim
theorem un_negS : UnR X (unaryOp .USub) (r1 (gx X) opNeg) := by
  rintro pins s σ H x v Q I rx ⟨α, μ, d, st, r1, g⟩
  unfold opNeg at g
  split at g
  · obtain rfl := rep_int r1
    exact un_neg pins s σ H _ v Q I rx ⟨_, rfl, g.here st (.p (.int _))⟩
  · exact g.elim
theorem op_addS : OpR X (binaryOp .Add) (r2 (gx X) opAdd) := by
  rintro pins s σ H x y v u Q I rx ry ⟨α, μ, d, e, st, r1, r2, g⟩
  unfold opAdd at g
  split at g
  · obtain rfl := rep_int r1
    obtain rfl := rep_int r2
    exact op_add pins s σ H _ _ v u Q I rx ry ⟨_, _, rfl, rfl, g.here st (.p (.int _))⟩
  · obtain rfl := rep_str r1
    obtain rfl := rep_str r2
    split at g
    · rename_i s1 s2 hz
      refine op_add_str pins s σ H _ _ v u Q I rx ry ⟨_, _, rfl, rfl, by rw [stS_len, stS_len, sizeLine_eq]; exact hz, ?_⟩
      rw [stS_app]
      exact g.here st (.p (.str _))
    · exact g.elim
  · obtain ⟨a, vs, rfl, h1, h2⟩ := rep_tup r1
    obtain ⟨b, ws, rfl, h3, h4⟩ := rep_tup r2
    split at g
    · rename_i ps qs hz
      refine op_catA pins s σ H _ _ v u Q I rx ry ⟨a, b, vs, ws, rfl, rfl, h1, h3, by rw [h2.length, h4.length, sizeLine_eq]; exact hz, fun e => ?_, fun _ e => ?_, fun _ _ => g.tup st (h2.append h4)⟩
      · subst e
        cases h2
        exact g.here st (.p (.tup h3 h4))
      · subst e
        cases h4
        rw [List.append_nil] at g
        exact g.here st (.p (.tup h1 h2))
    · exact g.elim
  · obtain ⟨a, rfl, h1⟩ := rep_ref r1
    obtain ⟨b, rfl, h2⟩ := rep_ref r2
    split at g
    · rename_i l1 l2 e1 e2
      split at g
      · rename_i hz
        obtain ⟨vs, h3, h4⟩ := lst_of st h1 e1
        obtain ⟨ws, h5, h6⟩ := lst_of st h2 e2
        exact op_cat pins s σ H _ _ v u Q I rx ry ⟨a, b, vs, ws, rfl, rfl, h3, h5, by rw [h4.length, h6.length, sizeLine_eq]; exact hz, g.push st (newCell st (h4.append h6))⟩
      · exact g.elim
    · exact g.elim
  · exact g.elim
theorem op_mulS : OpR X (binaryOp .Mult) (r2 (gx X) opMul) := by
  rintro pins s σ H x y v u Q I rx ry ⟨α, μ, d, e, st, r1, r2, g⟩
  unfold opMul at g
  split at g
  · obtain rfl := rep_int r1
    obtain rfl := rep_int r2
    split at g
    · rename_i hz
      exact op_mulW pins s σ H _ _ v u Q I rx ry ⟨_, _, rfl, rfl, by have h1 := sm_log (by decide) hz.1; have h2 := sm_log (by decide) hz.2; exact Nat.lt_of_lt_of_le (Nat.add_lt_add h1 h2) (by decide), g.here st (.p (.int _))⟩
    · exact g.elim
  · obtain ⟨a, rfl, h1⟩ := rep_ref r1
    obtain rfl := rep_int r2
    split at g
    · rename_i l1 e1
      split at g
      · rename_i k hz
        obtain ⟨vs, h3, h4⟩ := lst_of st h1 e1
        have hk := hz.1
        refine op_rep pins s σ H _ _ v u Q I rx ry ⟨a, _, vs, rfl, rfl, h3, ?_, ?_, by rw [h4.length, sizeLine_eq]; exact hz.2, g.push st (newCell st (h4.rep _))⟩
        · have : (2 : Int) ^ 63 = 9223372036854775808 := by decide
          omega
        · have : (2 : Int) ^ 63 = 9223372036854775808 := by decide
          omega
      · exact g.elim
    · exact g.elim
  · exact g.elim
end

/-! ### data to compare -/
mutual
def P.py : P → PyData
  | .non => .none
  | .bl b => .bool b
  | .int i => .int i
  | .str s => .str (stS s)
  | .tup ps => .tuple (pys ps)
def pys : List P → List PyData
  | [] => []
  | x :: r => x.py :: pys r
end
mutual
theorem RepP.dp {K : PySem.W.Frag} {H : Hp} : ∀ {x : P} {v : V}, RepP K H x v → Dp K H v x.py
  | _, _, .non => .non
  | _, _, .bl b => .bl b
  | _, _, .int i => .int i
  | _, _, .str s => .str _
  | _, _, .tup h t => .tup h (RepPs.dp t)
theorem RepPs.dp {K : PySem.W.Frag} {H : Hp} : ∀ {xs : List P} {vs : List V}, RepPs K H xs vs → DpAll K H vs (pys xs)
  | _, _, .nil => .nil
  | _, _, .cons h t => .cons (RepP.dp h) (RepPs.dp t)
end
def mapO {β γ : Type} (f : β → Option γ) : List β → Option (List γ)
  | [] => some []
  | x :: r => match f x, mapO f r with
    | some y, some ys => some (y :: ys)
    | _, _ => none
/-- a value as data, lists within to a depth -/
def toPy (μ : Store) : Nat → D → Option PyData
  | _, .p x => some x.py
  | 0, _ => none
  | n + 1, .ref m => match μ.get? m with
    | some (.fl ps) => some (.list (pys ps))
    | some (.dl ds) => match mapO (toPy μ n) ds with
      | some ys => some (.list ys)
      | none => none
    | _ => none
  | n + 1, .mix ds => match mapO (toPy μ n) ds with
    | some ys => some (.tuple ys)
    | none => none
  | _, .exc _ _ => none
  | _, .rol _ => none
theorem toPy_ok {G : Gx} {α : List Addr} {H : Hp} {μ : Store} (st : StOk G α H μ) : ∀ (n : Nat) {d : D} {v : V} {y : PyData}, Rep G α H d v → toPy μ n d = some y → Dp G.K H v y := by
  intro n
  induction n with
  | zero =>
    intro d v y r e
    cases d with
    | p x =>
      cases r with
      | p r =>
        cases e
        exact r.dp
    | ref m => cases e
    | mix ds => cases e
    | exc c d => cases e
    | rol ps => cases e
  | succ n ih =>
    have all : ∀ {ds : List D} {vs : List V} {ys : List PyData}, Reps G α H ds vs → mapO (toPy μ n) ds = some ys → DpAll G.K H vs ys := by
      intro ds
      induction ds with
      | nil =>
        intro vs ys r e
        cases r
        cases e
        exact .nil
      | cons d ds ih2 =>
        intro vs ys r e
        cases r with
        | cons r t =>
          unfold mapO at e
          split at e
          · rename_i y ys' e1 e2
            cases e
            exact .cons (ih r e1) (ih2 t e2)
          · cases e
    intro d v y r e
    cases d with
    | p x =>
      cases r with
      | p r =>
        cases e
        exact r.dp
    | ref m =>
      obtain ⟨a, rfl, ha⟩ := rep_ref r
      simp only [toPy] at e
      split at e
      · rename_i ps q
        cases e
        obtain ⟨vs, h1, h2⟩ := st.cel m _ a q ha
        exact .lst (.inl (.inl h1)) h2.dp
      · rename_i ds q
        split at e
        · rename_i ys q2
          cases e
          obtain ⟨vs, h1, h2⟩ := st.cel m _ a q ha
          exact .lst (.inl (.inl h1)) (all h2 q2)
        · cases e
      · cases e
    | mix ds =>
      cases r with
      | mix h t =>
        simp only [toPy] at e
        split at e
        · rename_i ys q2
          cases e
          exact .tup h (all t q2)
        · cases e
    | exc c d => cases e
    | rol ps => cases e
def pyDeep : Nat := 6
end Sh
set_option maxRecDepth 100000
set_option maxHeartbeats 4000000
/-! Sh: comparisons, truth, places, slices. -/
namespace Sh
open PySem PySem.Spec PyProof.Rows L2

mutual
theorem P.plain : ∀ x : P, x.py.plain = true
  | .non => rfl
  | .bl _ => rfl
  | .int _ => rfl
  | .str _ => rfl
  | .tup ps => by
    show PyData.plainAll (pys ps) = true
    exact pys_plain ps
theorem pys_plain : ∀ xs : List P, PyData.plainAll (pys xs) = true
  | [] => rfl
  | x :: r => by
    show (x.py.plain && PyData.plainAll (pys r)) = true
    rw [P.plain x, pys_plain r]
    rfl
end
theorem mapO_all {β : Type} {f : β → Option PyData} (hf : ∀ x y, f x = some y → y.plain = true) : ∀ {l : List β} {ys : List PyData}, mapO f l = some ys → PyData.plainAll ys = true
  | [], _, e => by cases e; rfl
  | x :: r, _, e => by
    unfold mapO at e
    split at e
    · rename_i y ys e1 e2
      cases e
      show (y.plain && PyData.plainAll ys) = true
      rw [hf x y e1, mapO_all hf e2]
      rfl
    · cases e
theorem toPy_plain (μ : Store) : ∀ (n : Nat) {d : D} {y : PyData}, toPy μ n d = some y → y.plain = true := by
  intro n
  induction n with
  | zero =>
    intro d y e
    cases d <;> cases e
    exact P.plain _
  | succ n ih =>
    intro d y e
    cases d with
    | p x => cases e; exact P.plain _
    | ref m =>
      simp only [toPy] at e
      split at e
      · cases e; exact pys_plain _
      · split at e
        · rename_i ys q
          cases e
          exact mapO_all (fun x y h => ih h) q
        · cases e
      · cases e
    | mix ds =>
      simp only [toPy] at e
      split at e
      · rename_i ys q
        cases e
        exact mapO_all (fun x y h => ih h) q
      · cases e
    | exc c d => cases e
    | rol ps => cases e

/-- no deeper than n -/
def P.dle : Nat → P → Bool
  | 0, .tup _ => false
  | n + 1, .tup ps => ps.all (P.dle n)
  | _, _ => true
theorem pys_depth {n : Nat} : ∀ {ps : List P}, (∀ x ∈ ps, x.py.depth ≤ n) → PyData.depthAll (pys ps) ≤ n
  | [], _ => Nat.zero_le _
  | x :: r, h => by
    show max x.py.depth (PyData.depthAll (pys r)) ≤ n
    exact Nat.max_le.mpr ⟨h x List.mem_cons_self, pys_depth fun y hy => h y (List.mem_cons_of_mem _ hy)⟩
theorem P.dle_ok : ∀ {n : Nat} {x : P}, x.dle n = true → x.py.depth ≤ n
  | _, .non, _ => Nat.zero_le _
  | _, .bl _, _ => Nat.zero_le _
  | _, .int _, _ => Nat.zero_le _
  | _, .str _, _ => Nat.zero_le _
  | 0, .tup _, h => by cases h
  | n + 1, .tup ps, h => by
    show PyData.depthAll (pys ps) + 1 ≤ n + 1
    have h' : ps.all (P.dle n) = true := h
    exact Nat.succ_le_succ (pys_depth fun x hx => P.dle_ok (List.all_eq_true.mp h' x hx))
mutual
def P.eqv : P → P → Bool
  | .non, .non => true
  | .bl a, .bl b => a == b
  | .bl a, .int j => (if a then 1 else 0) == j
  | .int i, .bl b => i == (if b then 1 else 0)
  | .int i, .int j => i == j
  | .str s, .str t => decide (s = t)
  | .tup xs, .tup ys => eqvs xs ys
  | _, _ => false
def eqvs : List P → List P → Bool
  | [], [] => true
  | x :: xs, y :: ys => x.eqv y && eqvs xs ys
  | _, _ => false
end
theorem stS_inj {s t : List Nat} : stS s = stS t ↔ s = t := by
  constructor
  · intro h
    have h2 : s.toArray = t.toArray := congrArg Str.cps h
    have h3 : s.toArray.toList = t.toArray.toList := congrArg Array.toList h2
    simpa using h3
  · intro h
    rw [h]
theorem stS_beq (s t : List Nat) : (stS s == stS t) = decide (s = t) := by
  by_cases h : s = t
  · rw [h]; simp
  · rw [decide_eq_false h, beq_eq_false_iff_ne]
    exact fun e => h (stS_inj.mp e)
mutual
theorem eqv_py : ∀ x y : P, PyData.eqv x.py y.py = x.eqv y
  | .non, .non => rfl
  | .non, .bl _ => rfl
  | .non, .int _ => rfl
  | .non, .str _ => rfl
  | .non, .tup _ => rfl
  | .bl _, .non => rfl
  | .bl _, .bl _ => rfl
  | .bl _, .int _ => rfl
  | .bl _, .str _ => rfl
  | .bl _, .tup _ => rfl
  | .int _, .non => rfl
  | .int _, .bl _ => rfl
  | .int _, .int _ => rfl
  | .int _, .str _ => rfl
  | .int _, .tup _ => rfl
  | .str _, .non => rfl
  | .str _, .bl _ => rfl
  | .str _, .int _ => rfl
  | .str s, .str t => stS_beq s t
  | .str _, .tup _ => rfl
  | .tup _, .non => rfl
  | .tup _, .bl _ => rfl
  | .tup _, .int _ => rfl
  | .tup _, .str _ => rfl
  | .tup xs, .tup ys => eqvs_py xs ys
theorem eqvs_py : ∀ xs ys : List P, PyData.eqvAll (pys xs) (pys ys) = eqvs xs ys
  | [], [] => rfl
  | [], _ :: _ => rfl
  | _ :: _, [] => rfl
  | x :: xs, y :: ys => by
    show (PyData.eqv x.py y.py && PyData.eqvAll (pys xs) (pys ys)) = (x.eqv y && eqvs xs ys)
    rw [eqv_py x y, eqvs_py xs ys]
end
/-- x == y -/
def eqD (d e : D) (μ : Store) : Option Bool := match d, e with
  | .p x, .p y => if x.dle 60 || y.dle 60 then some (x.eqv y) else none
  | _, _ => match toPy μ pyDeep d, toPy μ pyDeep e with
    | some a, some b => if a.depth ≤ 60 then some (PyData.eqv a b) else none
    | _, _ => none
def opEq : Op2 := fun d e μ => match eqD d e μ with
  | some b => some (.p (.bl b), μ)
  | none => none
def opNe : Op2 := fun d e μ => match eqD d e μ with
  | some b => some (.p (.bl (!b)), μ)
  | none => none
section
variable {X : Cx} {α : List Addr} {H : Hp} {μ : Store}
theorem eqD_ok {G : Gx} {d e : D} {x y : V} {b : Bool} (st : StOk G α H μ) (r1 : Rep G α H d x) (r2 : Rep G α H e y) (h : eqD d e μ = some b) :
    ∃ a c : PyData, Dp G.K H x a ∧ Dp G.K H y c ∧ a.plain = true ∧ c.plain = true ∧ min a.depth c.depth ≤ 60 ∧ PyData.eqv a c = b := by
  unfold eqD at h
  split at h
  · rename_i p q
    split at h
    · rename_i hd
      cases h
      cases r1 with
      | p r1 => cases r2 with
        | p r2 =>
          refine ⟨_, _, r1.dp, r2.dp, p.plain, q.plain, ?_, eqv_py p q⟩
          rcases Bool.or_eq_true_iff.mp hd with z | z
          · exact Nat.le_trans (Nat.min_le_left _ _) (P.dle_ok z)
          · exact Nat.le_trans (Nat.min_le_right _ _) (P.dle_ok z)
    · cases h
  · split at h
    · rename_i a c e1 e2
      split at h
      · rename_i hd
        cases h
        exact ⟨a, c, toPy_ok st _ r1 e1, toPy_ok st _ r2 e2, toPy_plain μ _ e1, toPy_plain μ _ e2, Nat.le_trans (Nat.min_le_left _ _) hd, rfl⟩
      · cases h
    · cases h
theorem op_eqS (hu : X.A.units + 64 < cLine) : OpR X (compareOp .Eq) (r2 (gx X) opEq) := by
  rintro pins s σ H x y v u Q I rx ry ⟨α, μ, d, e, st, r1, r2, g⟩
  unfold opEq at g
  split at g
  · rename_i b hb
    obtain ⟨a, c, h1, h2, p1, p2, hd, e⟩ := eqD_ok st r1 r2 hb
    obtain ⟨as, q1⟩ := Dp.reads I a x v h1 rx
    obtain ⟨bs, q2⟩ := Dp.reads I c y u h2 ry
    exact SeqAt.eq_plain q1 q2 p1 p2 (by omega) ⟨.bl b, H, I, by rw [e]; rfl, g.here st (.p (.bl _))⟩
  · exact g.elim
theorem op_neS (hu : X.A.units + 64 < cLine) : OpR X (compareOp .NotEq) (r2 (gx X) opNe) := by
  rintro pins s σ H x y v u Q I rx ry ⟨α, μ, d, e, st, r1, r2, g⟩
  unfold opNe at g
  split at g
  · rename_i b hb
    obtain ⟨a, c, h1, h2, p1, p2, hd, e⟩ := eqD_ok st r1 r2 hb
    obtain ⟨as, q1⟩ := Dp.reads I a x v h1 rx
    obtain ⟨bs, q2⟩ := Dp.reads I c y u h2 ry
    exact SeqAt.ne_plain q1 q2 p1 p2 (by omega) ⟨.bl (!b), H, I, by rw [e]; rfl, g.here st (.p (.bl _))⟩
  · exact g.elim
end

/-! ### less, more -/
/-- x < y: ints; texts; data of like kinds -/
def P.lt? (x y : P) : Option Bool := match x, y with
  | .int i, .int j => some (decide (i < j))
  | .str s, .str t => some (decide (s < t))
  | .tup xs, .tup ys => if PySem.W.alike (P.py (.tup xs)) (P.py (.tup ys)) && P.dle 60 (.tup xs) && P.dle 60 (.tup ys) then some (PySem.W.dataLt (P.py (.tup xs)) (P.py (.tup ys))) else none
  | _, _ => none
def ltD (d e : D) : Option Bool := match d, e with
  | .p x, .p y => x.lt? y
  | _, _ => none
def opLt : Op2 := fun d e μ => (ltD d e).map fun b => (.p (.bl b), μ)
def opGt : Op2 := fun d e μ => (ltD e d).map fun b => (.p (.bl b), μ)
def opLe : Op2 := fun d e μ => (ltD e d).map fun b => (.p (.bl (!b)), μ)
def opGe : Op2 := fun d e μ => (ltD d e).map fun b => (.p (.bl (!b)), μ)
section
variable {X : Cx} {α : List Addr} {H : Hp} {μ : Store}
theorem ltD_ok {G : Gx} {d e : D} {x y : V} {b : Bool} (r1 : Rep G α H d x) (r2 : Rep G α H e y) (h : ltD d e = some b) :
    ∃ a c : PyData, Dp G.K H x a ∧ Dp G.K H y c ∧ PySem.W.alike a c = true ∧ a ≠ .none ∧ a.depth ≤ 60 ∧ c.depth ≤ 60 ∧ PySem.W.dataLt a c = b := by
  unfold ltD at h
  split at h
  · rename_i p q
    cases r1 with
    | p r1 => cases r2 with
      | p r2 =>
        unfold P.lt? at h
        split at h
        · cases h
          refine ⟨_, _, r1.dp, r2.dp, rfl, (by intro z; cases z), Nat.zero_le _, Nat.zero_le _, ?_⟩
          exact PySem.W.dataLt_int _ _
        · cases h
          refine ⟨_, _, r1.dp, r2.dp, rfl, (by intro z; cases z), Nat.zero_le _, Nat.zero_le _, ?_⟩
          refine (PySem.W.dataLt_str _ _).trans ?_
          rw [decide_eq_decide]
          simp [stS]
        · rename_i xs ys
          split at h
          · rename_i hc
            cases h
            simp only [Bool.and_eq_true] at hc
            exact ⟨_, _, r1.dp, r2.dp, hc.1.1, (by intro z; cases z), P.dle_ok hc.1.2, P.dle_ok hc.2, rfl⟩
          · cases h
        · cases h
  · cases h
theorem opt_map {β γ : Type} {f : β → γ} {o : Option β} {c : γ} (h : o.map f = some c) : ∃ b, o = some b ∧ f b = c := Option.map_eq_some_iff.mp h
theorem GotO.ofMap {G : Gx} {o : Option Bool} {f : Bool → D × Store} {Q : VK} (g : GotO G (Rep G) α H (o.map f) Q) : ∃ b, o = some b ∧ GotO G (Rep G) α H (some (f b)) Q := by
  cases o with
  | none => exact g.elim
  | some b => exact ⟨b, rfl, g⟩
theorem op_ltS (hu : X.A.units + 64 < cLine) : OpR X (compareOp .Lt) (r2 (gx X) opLt) := by
  rintro pins s σ H x y v u Q I rx ry ⟨α, μ, d, e, st, r1, r2, g⟩
  obtain ⟨b, hb, g⟩ := GotO.ofMap g
  obtain ⟨a, c, h1, h2, al, nn, hd, hd2, e⟩ := ltD_ok r1 r2 hb
  obtain ⟨as, q1⟩ := Dp.reads I a x v h1 rx
  obtain ⟨bs, q2⟩ := Dp.reads I c y u h2 ry
  exact PySem.W.lt_data q1 q2 al nn (by omega) ⟨.bl b, H, I, by rw [e]; rfl, g.here st (.p (.bl _))⟩
theorem op_geS (hu : X.A.units + 64 < cLine) : OpR X (compareOp .GtE) (r2 (gx X) opGe) := by
  rintro pins s σ H x y v u Q I rx ry ⟨α, μ, d, e, st, r1, r2, g⟩
  obtain ⟨b, hb, g⟩ := GotO.ofMap g
  obtain ⟨a, c, h1, h2, al, nn, hd, hd2, e⟩ := ltD_ok r1 r2 hb
  obtain ⟨as, q1⟩ := Dp.reads I a x v h1 rx
  obtain ⟨bs, q2⟩ := Dp.reads I c y u h2 ry
  exact PySem.W.ge_data q1 q2 al nn (by omega) ⟨.bl (!b), H, I, by rw [e]; rfl, g.here st (.p (.bl _))⟩
theorem op_gtS (hu : X.A.units + 64 < cLine) : OpR X (compareOp .Gt) (r2 (gx X) opGt) := by
  rintro pins s σ H x y v u Q I rx ry ⟨α, μ, d, e, st, r1, r2, g⟩
  obtain ⟨b, hb, g⟩ := GotO.ofMap g
  obtain ⟨a, c, h1, h2, al, nn, hd, hd2, e⟩ := ltD_ok r2 r1 hb
  obtain ⟨as, q1⟩ := Dp.reads I a y u h1 ry
  obtain ⟨bs, q2⟩ := Dp.reads I c x v h2 rx
  exact PySem.W.gt_data q2 q1 (by rw [PySem.W.alike_comm]; exact al) (PySem.W.ne_none_both al nn) (by omega) ⟨.bl b, H, I, by rw [e]; rfl, g.here st (.p (.bl _))⟩
theorem op_leS (hu : X.A.units + 64 < cLine) : OpR X (compareOp .LtE) (r2 (gx X) opLe) := by
  rintro pins s σ H x y v u Q I rx ry ⟨α, μ, d, e, st, r1, r2, g⟩
  obtain ⟨b, hb, g⟩ := GotO.ofMap g
  obtain ⟨a, c, h1, h2, al, nn, hd, hd2, e⟩ := ltD_ok r2 r1 hb
  obtain ⟨as, q1⟩ := Dp.reads I a y u h1 ry
  obtain ⟨bs, q2⟩ := Dp.reads I c x v h2 rx
  exact PySem.W.le_data q2 q1 (by rw [PySem.W.alike_comm]; exact al) (PySem.W.ne_none_both al nn) (by omega) ⟨.bl (!b), H, I, by rw [e]; rfl, g.here st (.p (.bl _))⟩
end

/-! ### is, is not: None, bools -/
def opIs : Op2
  | .p .non, .p .non, μ => some (.p (.bl true), μ)
  | .ref _, .p .non, μ => some (.p (.bl false), μ)
  | .mix _, .p .non, μ => some (.p (.bl false), μ)
  | .exc _ _, .p .non, μ => some (.p (.bl false), μ)
  | .p (.bl a), .p (.bl b), μ => some (.p (.bl (a == b)), μ)
  | .p _, .p .non, μ => some (.p (.bl false), μ)
  | _, _, _ => none
def opIsNot : Op2 := fun d e μ => match opIs d e μ with
  | some (.p (.bl b), μ) => some (.p (.bl (!b)), μ)
  | _ => none
section
variable {X : Cx} {α : List Addr} {H : Hp} {μ μ' : Store}
theorem opIs_ok {G : Gx} {d e : D} {x y : V} {r : D} (r1 : Rep G α H d x) (r2 : Rep G α H e y) (h : opIs d e μ = some (r, μ')) :
    μ' = μ ∧ ((y = .non ∧ r = .p (.bl (decide (x = .non)))) ∨ ∃ a b : Bool, x = .bl a ∧ y = .bl b ∧ r = .p (.bl (decide (a = b)))) := by
  unfold opIs at h
  split at h
  · cases h; obtain rfl := rep_non r1; obtain rfl := rep_non r2; exact ⟨rfl, .inl ⟨rfl, rfl⟩⟩
  · cases h; obtain ⟨a, rfl, _⟩ := rep_ref r1; obtain rfl := rep_non r2; exact ⟨rfl, .inl ⟨rfl, rfl⟩⟩
  · cases h; cases r1; obtain rfl := rep_non r2; exact ⟨rfl, .inl ⟨rfl, rfl⟩⟩
  · cases h; cases r1; obtain rfl := rep_non r2; exact ⟨rfl, .inl ⟨rfl, rfl⟩⟩
  · cases h; obtain rfl := rep_bl r1; obtain rfl := rep_bl r2; exact ⟨rfl, .inr ⟨_, _, rfl, rfl, by rw [Bool.beq_eq_decide_eq]⟩⟩
  · rename_i p hp1
    cases h
    obtain rfl := rep_non r2
    refine ⟨rfl, .inl ⟨rfl, ?_⟩⟩
    cases r1 with
    | p r1 => cases r1 with
      | non => exact absurd rfl hp1
      | bl b => rfl
      | int i => rfl
      | str s => rfl
      | tup _ _ => rfl
  · cases h
theorem op_isS : OpR X (compareOp .Is) (r2 (gx X) opIs) := by
  rintro pins s σ H x y v u Q I rx ry ⟨α, μ, d, e, st, r1, r2, g⟩
  cases h : opIs d e μ with
  | none => rw [h] at g; exact g.elim
  | some z =>
    obtain ⟨r, μ'⟩ := z
    rw [h] at g
    obtain ⟨rfl, ⟨rfl, rfl⟩ | ⟨a, b, rfl, rfl, rfl⟩⟩ := opIs_ok r1 r2 h
    · exact op_isN pins s σ H _ _ v u Q I rx ry ⟨rfl, g.here st (.p (.bl _))⟩
    · exact op_isBl pins s σ H _ _ v u Q I rx ry ⟨a, b, rfl, rfl, g.here st (.p (.bl _))⟩
theorem op_isNotS : OpR X (compareOp .IsNot) (r2 (gx X) opIsNot) := by
  rintro pins s σ H x y v u Q I rx ry ⟨α, μ, d, e, st, r1, r2, g⟩
  unfold opIsNot at g
  split at g
  · rename_i b μ' h
    obtain ⟨rfl, ⟨rfl, hr⟩ | ⟨a, c, rfl, rfl, hr⟩⟩ := opIs_ok r1 r2 h
    · cases hr
      exact op_notN pins s σ H _ _ v u Q I rx ry ⟨rfl, g.here st (.p (.bl _))⟩
    · cases hr
      exact op_notBl pins s σ H _ _ v u Q I rx ry ⟨a, c, rfl, rfl, g.here st (.p (.bl _))⟩
  · exact g.elim
end
end Sh
set_option maxRecDepth 100000
set_option maxHeartbeats 4000000
/-! Sh: expressions. -/
namespace Sh
open PySem PySem.Spec PyProof.Rows L2

/-! ### places in rows, quick -/
def nth {β : Type} (l : List β) : Nat → Option β := List.rec (motive := fun _ => Nat → Option β) (fun _ => none) (fun x _ ih n => Nat.casesOn (motive := fun _ => Option β) n (some x) ih) l
theorem nth_eq {β : Type} : ∀ (l : List β) (n : Nat), nth l n = l[n]?
  | [], n => by simp [nth]
  | x :: l, 0 => rfl
  | x :: l, n + 1 => by
    show nth l n = _
    rw [nth_eq l n]
    simp
def put {β : Type} (y : β) (l : List β) : Nat → List β := List.rec (motive := fun _ => Nat → List β) (fun _ => []) (fun x r ih n => Nat.casesOn (motive := fun _ => List β) n (y :: r) fun m => x :: ih m) l
theorem put_eq {β : Type} (y : β) : ∀ (l : List β) (n : Nat), put y l n = l.set n y
  | [], n => by simp [put]
  | x :: l, 0 => rfl
  | x :: l, n + 1 => by
    show x :: put y l n = _
    rw [put_eq y l n]
    rfl
/-- the row is worked out to the place -/
def putF {β γ : Type} (y : β) (l : List β) : Nat → (List β → γ) → γ := List.rec (motive := fun _ => Nat → (List β → γ) → γ) (fun _ k => k []) (fun x r ih n k => Nat.casesOn (motive := fun _ => γ) n (k (y :: r)) fun m => ih m fun r' => k (x :: r')) l
theorem putF_eq {β γ : Type} (y : β) : ∀ (l : List β) (n : Nat) (k : List β → γ), putF y l n k = k (put y l n)
  | [], n, k => rfl
  | x :: l, 0, k => rfl
  | x :: l, n + 1, k => by
    show (putF y l n fun r' => k (x :: r')) = _
    rw [putF_eq y l n]
    rfl

/-! ### weaker wishes -/
section
variable {X : Cx} {e : Expr} {es : List Expr} {st : Stmt} {sts : List Stmt}
theorem _root_.L2.PE.weak {t t' : TE} (h : PE X e t) (m : ∀ σ H Q, t' σ H Q → t σ H Q) : PE X e t' := ⟨fun pins s σ H Q I q => h.run pins s σ H Q I (m σ H Q q)⟩
theorem _root_.L2.PT.weak {t t' : TT} (h : PT X e t) (m : ∀ σ H Q, t' σ H Q → t σ H Q) : PT X e t' := ⟨fun pins s σ H Q I q => h.run pins s σ H Q I (m σ H Q q)⟩
theorem _root_.L2.PW.weak {t t' : TT} (h : PW X e t) (m : ∀ σ H Q, t' σ H Q → t σ H Q) : PW X e t' := ⟨fun w pins s σ H Q I q => h.run w pins s σ H Q I (m σ H Q q)⟩
theorem _root_.L2.PA.weak {t t' : TA} (h : PA X es t) (m : ∀ σ H Q, t' σ H Q → t σ H Q) : PA X es t' := ⟨fun pos pins s σ H Q I q => h.run pos pins s σ H Q I (m σ H Q q)⟩
theorem _root_.L2.PK.weak {kws : List Keyword} {t t' : TA} (h : PK X kws t) (m : ∀ σ H Q, t' σ H Q → t σ H Q) : PK X kws t' := ⟨fun pos pins s σ H Q I q => h.run pos pins s σ H Q I (m σ H Q q)⟩
theorem _root_.L2.PS.weak {t t' : TS} (h : PS X st t) (m : ∀ D σ H, t' D σ H → t D σ H) : PS X st t' := ⟨fun pins s σ H D I q => h.run pins s σ H D I (m D σ H q)⟩
theorem _root_.L2.PSs.weak {t t' : TS} (h : PSs X sts t) (m : ∀ D σ H, t' D σ H → t D σ H) : PSs X sts t' := ⟨fun pins s σ H D I q => h.run pins s σ H D I (m D σ H q)⟩
end

/-! ### expressions by values -/
def eBad {β : Type} : Ev β := fun _ _ => .bad
def eC (p : P) : Ev D := fun _ μ => .ok (.p p) μ
def eV (i : Nat) : Ev D := fun ρ μ => match nth ρ i with
  | some (some d) => .ok d μ
  | _ => .bad
def e1 (op : Op1) (a : Ev D) : Ev D := fun ρ μ => (a ρ μ).bind fun d μ1 => Res.ofO (op d μ1)
def e2 (op : Op2) (a b : Ev D) : Ev D := fun ρ μ => (a ρ μ).bind fun d μ1 => (b ρ μ1).bind fun e μ2 => Res.ofO (op d e μ2)
def aNil : Ev (List D) := fun _ μ => .ok [] μ
def aCons (a : Ev D) (r : Ev (List D)) : Ev (List D) := fun ρ μ => (a ρ μ).bind fun d μ1 => (r ρ μ1).bind fun ds μ2 => .ok (d :: ds) μ2
def eN (op : OpN) (a : Ev (List D)) : Ev D := fun ρ μ => (a ρ μ).bind fun ds μ1 => Res.ofO (op ds μ1)
def opTup : OpN := fun ds μ => if ds.length ≤ szMax then match pures ds with
    | some ps => some (.p (.tup ps), μ)
    | none => some (.mix ds, μ)
  else none
def opLst : OpN := fun ds μ => if ds.length ≤ szMax then some (.ref μ.length, μ ++ [mkL ds]) else none
def eTest (a : Ev D) : Ev Bool := fun ρ μ => (a ρ μ).bind fun d μ1 => match d with
  | .p (.bl b) => .ok b μ1
  | _ => .bad
/-- a value's truth -/
def truD (μ : Store) : D → Option Bool
  | .p .non => some false
  | .p (.bl b) => some b
  | .p (.int i) => some (i != 0)
  | .p (.str s) => if s.length ≤ szMax then some (!s.isEmpty) else none
  | .p (.tup ps) => some (!ps.isEmpty)
  | .mix ds => some (!ds.isEmpty)
  | .ref n => match μ.get? n with
    | some (.fl ps) => some (!ps.isEmpty)
    | some (.dl ds) => some (!ds.isEmpty)
    | some (.fd kvs) => some (!kvs.isEmpty)
    | _ => none
  | .exc _ _ => none
  | .rol ps => some (!ps.isEmpty)
def truO (d : D) (μ : Store) : Res Bool := match truD μ d with
  | some b => .ok b μ
  | none => .bad
def eTru (a : Ev D) : Ev Bool := fun ρ μ => (a ρ μ).bind truO
def bNot (a : Ev Bool) : Ev Bool := fun ρ μ => (a ρ μ).bind fun b μ1 => .ok (!b) μ1
def bAnd (a b : Ev Bool) : Ev Bool := fun ρ μ => (a ρ μ).bind fun c μ1 => match c with
  | true => b ρ μ1
  | false => .ok false μ1
def bOr (a b : Ev Bool) : Ev Bool := fun ρ μ => (a ρ μ).bind fun c μ1 => match c with
  | true => .ok true μ1
  | false => b ρ μ1
def eIf (c : Ev Bool) (a b : Ev D) : Ev D := fun ρ μ => (c ρ μ).bind fun k μ1 => match k with
  | true => a ρ μ1
  | false => b ρ μ1
def eAnd (a b : Ev D) : Ev D := fun ρ μ => (a ρ μ).bind fun d μ1 => (truO d μ1).bind fun c μ2 => match c with
  | true => b ρ μ2
  | false => .ok d μ2
def eOr (a b : Ev D) : Ev D := fun ρ μ => (a ρ μ).bind fun d μ1 => (truO d μ1).bind fun c μ2 => match c with
  | true => .ok d μ2
  | false => b ρ μ2
def eNot (a : Ev D) : Ev D := fun ρ μ => (a ρ μ).bind fun d μ1 => (truO d μ1).bind fun c μ2 => .ok (.p (.bl (!c))) μ2
def eChain (op op' : Op2) (a b c : Ev D) : Ev D := fun ρ μ => (a ρ μ).bind fun d μ1 => (b ρ μ1).bind fun e μ2 => (Res.ofO (op d e μ2)).bind fun z μ3 => match z with
  | .p (.bl true) => (c ρ μ3).bind fun f μ4 => Res.ofO (op' e f μ4)
  | .p (.bl false) => .ok (.p (.bl false)) μ3
  | _ => .bad
/-- a def's own function: values in, a value out -/
abbrev Fn := List D → Store → Res D
def eCall (f : Fn) (a : Ev (List D)) : Ev D := fun ρ μ => (a ρ μ).bind fun ds μ1 => f ds μ1
def spF (G : Gx) (n : Nat) (f : Fn) : Sp := fun vs H Q E => vs.length = n ∧ ∃ α μ ds, StOk G α H μ ∧ Reps G α H ds vs ∧ Got G (fun cls d _ H' => E cls d H') [] (Rep G) α H (f ds μ) Q
section
variable {X : Cx} {W : WX} {a b c : Expr} {ea eb ec : Ev D} {ba bb : Ev Bool} {es : List Expr} {ra : Ev (List D)} {pos : Pos}
theorem pe_bad {e : Expr} : PE X e (tE (gx X) W eBad) := ⟨fun _ _ _ _ _ _ ⟨_, _, _, _, _, q⟩ => q.elim⟩
theorem pt_bad {e : Expr} : PT X e (tT (gx X) W eBad) := ⟨fun _ _ _ _ _ _ ⟨_, _, _, _, _, q⟩ => q.elim⟩
theorem pw_bad {e : Expr} : PW X e (tT (gx X) W eBad) := ⟨fun _ _ _ _ _ _ _ ⟨_, _, _, _, _, q⟩ => q.elim⟩
theorem pa_bad {e : List Expr} : PA X e (tAs (gx X) W eBad) := ⟨fun _ _ _ _ _ _ _ ⟨_, _, _, _, _, q⟩ => q.elim⟩
theorem tC_of {p : P} {v : V} (r : ∀ H, RepP X.K H p v) : ∀ σ H Q, tE (gx X) W (eC p) σ H Q → tC v σ H Q := fun σ H Q ⟨ρ, α, μ, e, st, g⟩ => g v α H (Ext.refl _ _) st (.p (r H))
theorem pe_c {e : Expr} {p : P} {v : V} (h : PE X e (tC v)) (r : ∀ H, RepP X.K H p v) : PE X e (tE (gx X) W (eC p)) := h.weak (tC_of r)
theorem tV_of {i : Nat} : ∀ σ H Q, tE (gx X) W (eV i) σ H Q → tVar i σ H Q := fun σ H Q ⟨ρ, α, μ, e, st, g⟩ => by
  unfold eV at g
  try rw [nth_eq] at g
  split at g
  · rename_i d q
    obtain ⟨v, h1, h2⟩ := e.val i d q
    exact ⟨v, h1, g v α H (Ext.refl _ _) st h2⟩
  · exact g.elim
theorem pe_v {e : Expr} {i : Nat} (h : PE X e (tVar i)) : PE X e (tE (gx X) W (eV i)) := h.weak tV_of
theorem pe_u {op : UnaryOp} {o : Op1} (ho : UnR X (unaryOp op) (r1 (gx X) o)) (ha : PE X a (tE (gx X) W ea)) : PE X (.UnaryOp op a pos) (tE (gx X) W (e1 o ea)) :=
  (pe_un ho ha).weak fun σ H Q ⟨ρ, α, μ, e, st, g⟩ => ⟨ρ, α, μ, e, st, g.bind fun d μ1 v α1 H1 x st1 r g1 => ⟨α1, μ1, d, st1, r, g1.toO⟩⟩
theorem tOp_of {o : Op2} : ∀ σ H Q, tE (gx X) W (e2 o ea eb) σ H Q → tOp (r2 (gx X) o) (tE (gx X) W ea) (tE (gx X) W eb) σ H Q := fun σ H Q ⟨ρ, α, μ, e, st, g⟩ =>
  ⟨ρ, α, μ, e, st, g.bind fun d μ1 v α1 H1 x st1 r g1 => ⟨ρ, α1, μ1, e.ext st x, st1, g1.bind fun d2 μ2 v2 α2 H2 x2 st2 rr g2 => ⟨α2, μ2, d, d2, st2, st1.rep x2 r, rr, g2.toO⟩⟩⟩
theorem pe_b {op : Operator} {o : Op2} (ho : OpR X (binaryOp op) (r2 (gx X) o)) (ha : PE X a (tE (gx X) W ea)) (hb : PE X b (tE (gx X) W eb)) : PE X (.BinOp a op b pos) (tE (gx X) W (e2 o ea eb)) := (pe_op ho ha hb).weak tOp_of
theorem pe_cm {op : CmpOp} {o : Op2} (ho : OpR X (compareOp op) (r2 (gx X) o)) (ha : PE X a (tE (gx X) W ea)) (hb : PE X b (tE (gx X) W eb)) (hm : behindInMarks op b = false) : PE X (.Compare a [op] [b] pos) (tE (gx X) W (e2 o ea eb)) := (pe_cmpR ho ha hb hm).weak tOp_of
theorem tTest_of {t : TE} (m : ∀ σ H Q, tE (gx X) W ea σ H Q → t σ H Q) : ∀ σ H Q, tT (gx X) W (eTest ea) σ H Q → tTest t σ H Q := fun σ H Q ⟨ρ, α, μ, e, st, g⟩ => m _ _ _ ⟨ρ, α, μ, e, st, g.bind fun d μ1 v α1 H1 x st1 r g1 => by
  split at g1
  · obtain rfl := rep_bl r
    exact ⟨_, rfl, g1 _ α1 H1 (Ext.refl _ _) st1 rfl⟩
  · exact g1.elim⟩
theorem pt_cm {op : CmpOp} {o : Op2} (ho : OpR X (compareOp op) (r2 (gx X) o)) (ha : PE X a (tE (gx X) W ea)) (hb : PE X b (tE (gx X) W eb)) (hm : behindInMarks op b = false) : PT X (.Compare a [op] [b] pos) (tT (gx X) W (eTest (e2 o ea eb))) :=
  (pt_cmpR ho ha hb hm).weak (tTest_of tOp_of)
theorem ofO_bl {o : Option (D × Store)} {β γ : Type} {G : Gx} {Rl' : List Addr → Hp → β → γ → Prop} {α : List Addr} {H : Hp} {σ : L2.St} {k : D → Store → Res β} {Q : γ → Hp → Prop} {Q' : VK}
    (g : Got G W σ Rl' α H ((Res.ofO o).bind k) Q) (m : ∀ d μ1 v α1 H1, Ext α H α1 H1 → StOk G α1 H1 μ1 → Rep G α1 H1 d v → Got G W σ Rl' α1 H1 (k d μ1) Q → Q' v H1) : GotO G (Rep G) α H o Q' :=
  (Got.bind g fun d μ1 v α1 H1 x st r g1 => m d μ1 v α1 H1 x st r g1).toO
theorem tChain_of {o o' : Op2} : ∀ σ H Q, tE (gx X) W (eChain o o' ea eb ec) σ H Q → tChain (r2 (gx X) o) (r2 (gx X) o') (tE (gx X) W ea) (tE (gx X) W eb) (tE (gx X) W ec) σ H Q := fun σ H Q ⟨ρ, α, μ, e, st, g⟩ =>
  ⟨ρ, α, μ, e, st, g.bind fun d μ1 v α1 H1 x st1 r g1 => ⟨ρ, α1, μ1, e.ext st x, st1, g1.bind fun d2 μ2 v2 α2 H2 x2 st2 rr g2 => ⟨α2, μ2, d, d2, st2, st1.rep x2 r, rr, ofO_bl g2 fun z μ3 v3 α3 H3 x3 st3 r3 g3 => by
    split at g3
    · obtain rfl := rep_bl r3
      refine ⟨true, rfl, ?_⟩
      exact ⟨ρ, α3, μ3, ((e.ext st x).ext st1 x2).ext st2 x3, st3, g3.bind fun f μ4 v4 α4 H4 x4 st4 r4 g4 => ⟨α4, μ4, d2, f, st4, st3.rep x4 (st2.rep x3 rr), r4, g4.toO⟩⟩
    · obtain rfl := rep_bl r3
      exact ⟨false, rfl, g3 _ α3 H3 (Ext.refl _ _) st3 (.p (.bl false))⟩
    · exact g3.elim⟩⟩⟩
theorem pe_ch {op op' : CmpOp} {o o' : Op2} (ho : OpR X (compareOp op) (r2 (gx X) o)) (ho' : OpR X (compareOp op') (r2 (gx X) o')) (ha : PE X a (tE (gx X) W ea)) (hb : PE X b (tE (gx X) W eb)) (hc : PE X c (tE (gx X) W ec))
    (hm : lastMarks [op, op'] [b, c] = false) : PE X (.Compare a [op, op'] [b, c] pos) (tE (gx X) W (eChain o o' ea eb ec)) := (pe_chain ho ho' ha hb hc hm).weak tChain_of
theorem pt_ch {op op' : CmpOp} {o o' : Op2} (ho : OpR X (compareOp op) (r2 (gx X) o)) (ho' : OpR X (compareOp op') (r2 (gx X) o')) (ha : PE X a (tE (gx X) W ea)) (hb : PE X b (tE (gx X) W eb)) (hc : PE X c (tE (gx X) W ec))
    (hm : lastMarks [op, op'] [b, c] = false) : PT X (.Compare a [op, op'] [b, c] pos) (tT (gx X) W (eTest (eChain o o' ea eb ec))) := (pt_chain ho ho' ha hb hc hm).weak (tTest_of tChain_of)
/-! truth -/
theorem tru_of {G : Gx} {α : List Addr} {H : Hp} {μ : Store} {d : D} {v : V} {k : Bool} (st : StOk G α H μ) (r : Rep G α H d v) (h : truD μ d = some k) : TruV G.K v H k := by
  unfold truD at h
  split at h
  · cases h; obtain rfl := rep_non r; exact rfl
  · cases h; obtain rfl := rep_bl r; exact rfl
  · cases h; obtain rfl := rep_int r; exact rfl
  · rename_i s
    split at h
    · rename_i hs
      cases h
      obtain rfl := rep_str r
      refine ⟨by rw [stS_len, sizeLine_eq]; exact hs, ?_⟩
      rw [stS_len]
      cases s with
      | nil => rfl
      | cons x s =>
        show true = _
        symm
        rw [bne_iff_ne]
        simp
        omega
    · cases h
  · rename_i ps
    cases h
    obtain ⟨a, vs, rfl, h1, h2⟩ := rep_tup r
    refine .inr (.inl ⟨vs, h1, ?_⟩)
    cases h2 <;> rfl
  · rename_i ds
    cases h
    cases r with
    | mix h1 h2 =>
      refine .inr (.inl ⟨_, h1, ?_⟩)
      cases h2 <;> rfl
  · rename_i n
    obtain ⟨a, rfl, ha⟩ := rep_ref r
    try rw [nth_eq] at h
    split at h
    · rename_i ps q
      cases h
      obtain ⟨vs, h1, h2⟩ := st.cel n _ a q ha
      refine .inl ⟨vs, .inl (.inl h1), ?_⟩
      cases h2 <;> rfl
    · rename_i ps q
      cases h
      obtain ⟨vs, h1, h2⟩ := st.cel n _ a q ha
      refine .inl ⟨vs, .inl (.inl h1), ?_⟩
      cases h2 <;> rfl
    · rename_i ps q
      cases h
      obtain ⟨ks, h1, h2⟩ := st.cel n _ a q ha
      refine .inr (.inr ⟨ks, h1, ?_⟩)
      cases h2 <;> rfl
    · cases h
  · cases h
  · rename_i ps
    cases h
    cases r with
    | rol h1 h2 =>
      refine .inl ⟨_, h1.sq, ?_⟩
      cases h2 <;> rfl
theorem truO_of {G : Gx} {β γ : Type} {Rl' : List Addr → Hp → β → γ → Prop} {α : List Addr} {H : Hp} {μ : Store} {σ : L2.St} {d : D} {v : V} {k : Bool → Store → Res β} {Q : γ → Hp → Prop} (st : StOk G α H μ) (r : Rep G α H d v)
    (g : Got G W σ Rl' α H ((truO d μ).bind k) Q) : ∃ b, TruV G.K v H b ∧ Got G W σ Rl' α H (k b μ) Q := by
  unfold truO at g
  split at g
  · rename_i b h
    exact ⟨b, tru_of st r h, g⟩
  · exact g.elim
theorem pt_tr (ha : PE X a (tE (gx X) W ea)) (he : ∀ whole, isTrue a X.env whole = (do let v ← whole; standAt a.pos; holding [v] (truthy v))) : PT X a (tT (gx X) W (eTru ea)) :=
  (pt_truth ha he).weak fun σ H Q ⟨ρ, α, μ, e, st, g⟩ => ⟨ρ, α, μ, e, st, g.bind fun d μ1 v α1 H1 x st1 r g1 => by
    unfold truO at g1
    split at g1
    · rename_i b h
      exact ⟨b, tru_of st1 r h, g1 _ α1 H1 (Ext.refl _ _) st1 rfl⟩
    · exact g1.elim⟩
theorem pt_n (ha : PT X a (tT (gx X) W ba)) : PT X (.UnaryOp .Not a pos) (tT (gx X) W (bNot ba)) :=
  (pt_not ha).weak fun σ H Q ⟨ρ, α, μ, e, st, g⟩ => ⟨ρ, α, μ, e, st, g.bind fun d μ1 v α1 H1 x st1 r g1 => by cases r; exact g1 _ α1 H1 (Ext.refl _ _) st1 rfl⟩
theorem tAnd_of : ∀ σ H Q, tT (gx X) W (bAnd ba bb) σ H Q → tAnd (tT (gx X) W ba) (tT (gx X) W bb) σ H Q := fun σ H Q ⟨ρ, α, μ, e, st, g⟩ => ⟨ρ, α, μ, e, st, g.bind fun d μ1 v α1 H1 x st1 r g1 => by
  cases r
  cases d with
  | true => rw [if_pos rfl]; exact ⟨ρ, α1, μ1, e.ext st x, st1, g1⟩
  | false => rw [if_neg (by decide)]; exact g1 _ α1 H1 (Ext.refl _ _) st1 rfl⟩
theorem tOr_of : ∀ σ H Q, tT (gx X) W (bOr ba bb) σ H Q → tOr (tT (gx X) W ba) (tT (gx X) W bb) σ H Q := fun σ H Q ⟨ρ, α, μ, e, st, g⟩ => ⟨ρ, α, μ, e, st, g.bind fun d μ1 v α1 H1 x st1 r g1 => by
  cases r
  cases d with
  | true => rw [if_pos rfl]; exact g1 _ α1 H1 (Ext.refl _ _) st1 rfl
  | false => rw [if_neg (by decide)]; exact ⟨ρ, α1, μ1, e.ext st x, st1, g1⟩⟩
theorem pe_if {c : Expr} (hc : PT X c (tT (gx X) W ba)) (ha : PE X a (tE (gx X) W ea)) (hb : PE X b (tE (gx X) W eb)) : PE X (.IfExp c a b pos) (tE (gx X) W (eIf ba ea eb)) :=
  (pe_ifExp hc ha hb).weak fun σ H Q ⟨ρ, α, μ, e, st, g⟩ => ⟨ρ, α, μ, e, st, g.bind fun d μ1 v α1 H1 x st1 r g1 => by
    cases r
    cases d with
    | true => rw [if_pos rfl]; exact ⟨ρ, α1, μ1, e.ext st x, st1, g1⟩
    | false => rw [if_neg (by decide)]; exact ⟨ρ, α1, μ1, e.ext st x, st1, g1⟩⟩
theorem pe_an {rest : List Expr} (ha : PE X a (tE (gx X) W ea)) (hb : PE X (.BoolOp .And (b :: rest) pos) (tE (gx X) W eb)) : PE X (.BoolOp .And (a :: b :: rest) pos) (tE (gx X) W (eAnd ea eb)) :=
  (pe_andT ha hb).weak fun σ H Q ⟨ρ, α, μ, e, st, g⟩ => ⟨ρ, α, μ, e, st, g.bind fun d μ1 v α1 H1 x st1 r g1 => by
    obtain ⟨k, h1, h2⟩ := truO_of st1 r g1
    refine ⟨k, h1, ?_⟩
    cases k with
    | true => rw [if_pos rfl]; exact ⟨ρ, α1, μ1, e.ext st x, st1, h2⟩
    | false => rw [if_neg (by decide)]; exact h2 _ α1 H1 (Ext.refl _ _) st1 r⟩
theorem pe_o {rest : List Expr} (ha : PE X a (tE (gx X) W ea)) (hb : PE X (.BoolOp .Or (b :: rest) pos) (tE (gx X) W eb)) : PE X (.BoolOp .Or (a :: b :: rest) pos) (tE (gx X) W (eOr ea eb)) :=
  (pe_orT ha hb).weak fun σ H Q ⟨ρ, α, μ, e, st, g⟩ => ⟨ρ, α, μ, e, st, g.bind fun d μ1 v α1 H1 x st1 r g1 => by
    obtain ⟨k, h1, h2⟩ := truO_of st1 r g1
    refine ⟨k, h1, ?_⟩
    cases k with
    | true => rw [if_pos rfl]; exact h2 _ α1 H1 (Ext.refl _ _) st1 r
    | false => rw [if_neg (by decide)]; exact ⟨ρ, α1, μ1, e.ext st x, st1, h2⟩⟩
theorem pe_nt (ha : PE X a (tE (gx X) W ea)) : PE X (.UnaryOp .Not a pos) (tE (gx X) W (eNot ea)) :=
  (pe_notT ha).weak fun σ H Q ⟨ρ, α, μ, e, st, g⟩ => ⟨ρ, α, μ, e, st, g.bind fun d μ1 v α1 H1 x st1 r g1 => by
    obtain ⟨k, h1, h2⟩ := truO_of st1 r g1
    exact ⟨k, h1, h2 _ α1 H1 (Ext.refl _ _) st1 (.p (.bl _))⟩⟩
/-! rows of values -/
theorem pa_n : PA X [] (tAs (gx X) W aNil) := pa_nil.weak fun σ H Q ⟨ρ, α, μ, e, st, g⟩ => g _ α H (Ext.refl _ _) st .nil
theorem tCons_of : ∀ σ H Q, tAs (gx X) W (aCons ea ra) σ H Q → tCons (tE (gx X) W ea) (tAs (gx X) W ra) σ H Q := fun σ H Q ⟨ρ, α, μ, e, st, g⟩ =>
  ⟨ρ, α, μ, e, st, g.bind fun d μ1 v α1 H1 x st1 r g1 => ⟨ρ, α1, μ1, e.ext st x, st1, g1.bind fun d2 μ2 v2 α2 H2 x2 st2 rr g2 => g2 _ α2 H2 (Ext.refl _ _) st2 (.cons (st1.rep x2 r) rr)⟩⟩
theorem pa_c (ha : PE X a (tE (gx X) W ea)) (hr : PA X es (tAs (gx X) W ra)) (hs : starEach (a :: es) X.env = (false, eval a X.env) :: starEach es X.env) : PA X (a :: es) (tAs (gx X) W (aCons ea ra)) := (pa_cons ha hr hs).weak tCons_of
theorem tCB_of {o : OpN} : ∀ σ H Q, tE (gx X) W (eN o ra) σ H Q → tCB (rN (gx X) o) (tAs (gx X) W ra) σ H Q := fun σ H Q ⟨ρ, α, μ, e, st, g⟩ => ⟨ρ, α, μ, e, st, g.bind fun d μ1 v α1 H1 x st1 r g1 => ⟨α1, μ1, d, st1, r, g1.toO⟩⟩
theorem pe_tp {k : Nat} (h : PA X es (tAs (gx X) W ra)) : PE X (.Tuple es k pos) (tE (gx X) W (eN opTup ra)) :=
  (pe_tup h).weak fun σ H Q ⟨ρ, α, μ, e, st, g⟩ => ⟨ρ, α, μ, e, st, g.bind fun d μ1 v α1 H1 x st1 r g1 => by
    unfold opTup at g1
    split at g1
    · rename_i hl
      split at g1
      · rename_i ps hp
        exact ⟨by rw [r.length, sizeLine_eq]; exact hl, GotO.tup st1 (r.pures hp) g1.toO⟩
      · exact ⟨by rw [r.length, sizeLine_eq]; exact hl, GotO.mixt st1 r g1.toO⟩
    · exact g1.elim⟩
theorem pe_ls (h : PA X es (tAs (gx X) W ra)) : PE X (.List es pos) (tE (gx X) W (eN opLst ra)) :=
  (pe_lst h).weak fun σ H Q ⟨ρ, α, μ, e, st, g⟩ => ⟨ρ, α, μ, e, st, g.bind fun d μ1 v α1 H1 x st1 r g1 => by
    unfold opLst at g1
    split at g1
    · rename_i hl
      exact ⟨by rw [r.length, sizeLine_eq]; exact hl, GotO.push st1 (newCell st1 r) g1.toO⟩
    · exact g1.elim⟩
/-! calls of defs -/
theorem Got.toF {G : Gx} {σ : L2.St} {α : List Addr} {H : Hp} {r : Res D} {Q : VK} (h : Got G W σ (Rep G) α H r Q) : Got G (fun cls d _ H' => W cls d σ H') [] (Rep G) α H r Q := by
  cases r with
  | ok b μ => exact h
  | exc c d μ => exact h
  | bad => exact h
theorem tFn_of {f : Fn} {n : Nat} {vs : List V} {σ : L2.St} {Q : VK} {α : List Addr} {H : Hp} {μ : Store} {ds : List D} (hl : vs.length = n) (st : StOk (gx X) α H μ) (r : Reps (gx X) α H ds vs) (g : Got (gx X) W σ (Rep (gx X)) α H (f ds μ) Q) :
    spF (gx X) n f vs H Q (fun cls d H' => W cls d σ H') := ⟨hl, α, μ, ds, st, r, g.toF⟩
end
end Sh
set_option maxRecDepth 100000
set_option maxHeartbeats 4000000
/-! Sh: statements. -/
namespace Sh
open PySem PySem.Spec PyProof.Rows L2

inductive SRes where
  | next (ρ : Env) (μ : Store) | ret (d : D) (μ : Store) | brk (ρ : Env) (μ : Store) | cont (ρ : Env) (μ : Store) | exc (ρ : Env) (c : Str) (d : D) (μ : Store) | bad
abbrev Sv := Env → Store → SRes
def GotS (G : Gx) (W : WX) (Z : Ends) (α : List Addr) (H : Hp) (r : SRes) : Prop := match r with
  | .next ρ μ => ∀ σ' α' H', Ext α H α' H' → StOk G α' H' μ → EnvOk G α' H' ρ σ' → Z.nx σ' H'
  | .brk ρ μ => ∀ σ' α' H', Ext α H α' H' → StOk G α' H' μ → EnvOk G α' H' ρ σ' → Z.bk σ' H'
  | .cont ρ μ => ∀ σ' α' H', Ext α H α' H' → StOk G α' H' μ → EnvOk G α' H' ρ σ' → Z.ct σ' H'
  | .ret d μ => ∀ v α' H', Ext α H α' H' → StOk G α' H' μ → Rep G α' H' d v → Z.rt v H'
  | .exc ρ n d μ => ∀ (σ' : L2.St) (cls : Value) (dx : Addr) (v : V) (α' : List Addr) (H' : Hp), Ext α H α' H' → StOk G α' H' μ → EnvOk G α' H' ρ σ' → G.mg n = some cls → H' dx = some (.xd [("value", v)]) → Rep G α' H' d v → W cls (some dx) σ' H'
  | .bad => False
def tS (G : Gx) (W : WX) (sv : Sv) : TS := fun Z σ H => ∃ ρ α μ, EnvOk G α H ρ σ ∧ StOk G α H μ ∧ GotS G W Z α H (sv ρ μ)
theorem GotS.ext {G : Gx} {W : WX} {Z : Ends} {α α1 : List Addr} {H H1 : Hp} {r : SRes} (x : Ext α H α1 H1) (h : GotS G W Z α H r) : GotS G W Z α1 H1 r := by
  cases r with
  | next ρ μ => exact fun σ' α' H' y => h σ' α' H' (x.trans y)
  | brk ρ μ => exact fun σ' α' H' y => h σ' α' H' (x.trans y)
  | cont ρ μ => exact fun σ' α' H' y => h σ' α' H' (x.trans y)
  | ret d μ => exact fun σ' α' H' y => h σ' α' H' (x.trans y)
  | exc ρ n d μ => exact fun σ' cls dx v α' H' y => h σ' cls dx v α' H' (x.trans y)
  | bad => exact h
theorem GotS.mono {G : Gx} {W : WX} {Z Z' : Ends} {α : List Addr} {H : Hp} {r : SRes} (h : GotS G W Z α H r) (m1 : ∀ σ H, Z.nx σ H → Z'.nx σ H) (m2 : ∀ σ H, Z.bk σ H → Z'.bk σ H) (m3 : ∀ σ H, Z.ct σ H → Z'.ct σ H) (m4 : ∀ v H, Z.rt v H → Z'.rt v H) : GotS G W Z' α H r := by
  cases r with
  | next ρ μ => exact fun σ' α' H' y a b => m1 _ _ (h σ' α' H' y a b)
  | brk ρ μ => exact fun σ' α' H' y a b => m2 _ _ (h σ' α' H' y a b)
  | cont ρ μ => exact fun σ' α' H' y a b => m3 _ _ (h σ' α' H' y a b)
  | ret d μ => exact fun σ' α' H' y a b => m4 _ _ (h σ' α' H' y a b)
  | exc ρ n d μ => exact h
  | bad => exact h
/-- a value first, then a statement -/
def sOf {β : Type} (r : Res β) (ρ : Env) (k : β → Store → SRes) : SRes := match r with
  | .ok b μ => k b μ
  | .exc c d μ => .exc ρ c d μ
  | .bad => .bad
theorem GotS.bind {G : Gx} {W : WX} {Z : Ends} {β γ : Type} {Rl : List Addr → Hp → β → γ → Prop} {α : List Addr} {H : Hp} {μ : Store} {ρ : Env} {σ : L2.St} {r : Res β} {k : β → Store → SRes} {Q : γ → Hp → Prop}
    (e : EnvOk G α H ρ σ) (st : StOk G α H μ) (h : GotS G W Z α H (sOf r ρ k)) (m : ∀ b μ1 c α1 H1, Ext α H α1 H1 → EnvOk G α1 H1 ρ σ → StOk G α1 H1 μ1 → Rl α1 H1 b c → GotS G W Z α1 H1 (k b μ1) → Q c H1) : Got G W σ Rl α H r Q := by
  cases r with
  | ok b μ1 => exact fun c α' H' y st1 q => m b μ1 c α' H' y (e.ext st y) st1 q (GotS.ext y h)
  | exc n d μ1 => exact fun cls dx v α' H' y st1 q1 q2 q3 => h σ cls dx v α' H' y st1 (e.ext st y) q1 q2 q3
  | bad => exact h
/-- a statement first, then another -/
def sThen (r : SRes) (k : Env → Store → SRes) : SRes := match r with
  | .next ρ μ => k ρ μ
  | r => r
theorem GotS.then {G : Gx} {W : WX} {Z : Ends} {α : List Addr} {H : Hp} {r : SRes} {k : Env → Store → SRes} {N : L2.St → Hp → Prop} (h : GotS G W Z α H (sThen r k))
    (m : ∀ ρ μ σ α1 H1, Ext α H α1 H1 → EnvOk G α1 H1 ρ σ → StOk G α1 H1 μ → GotS G W Z α1 H1 (k ρ μ) → N σ H1) : GotS G W { Z with nx := N } α H r := by
  cases r with
  | next ρ μ => exact fun σ' α' H' y a b => m ρ μ σ' α' H' y b a (GotS.ext y h)
  | brk ρ μ => exact h
  | cont ρ μ => exact h
  | ret d μ => exact h
  | exc ρ n d μ => exact h
  | bad => exact h

def sBad : Sv := fun _ _ => .bad
def sSkip : Sv := fun ρ μ => .next ρ μ
def sBrk : Sv := fun ρ μ => .brk ρ μ
def sCont : Sv := fun ρ μ => .cont ρ μ
def sSeq (a b : Sv) : Sv := fun ρ μ => sThen (a ρ μ) b
def sDrop (a : Ev D) : Sv := fun ρ μ => sOf (a ρ μ) ρ fun _ μ1 => .next ρ μ1
def sRet (a : Ev D) : Sv := fun ρ μ => sOf (a ρ μ) ρ fun d μ1 => .ret d μ1
def sRetN : Sv := fun _ μ => .ret (.p .non) μ
def sIf (c : Ev Bool) (a b : Sv) : Sv := fun ρ μ => sOf (c ρ μ) ρ fun k μ1 => match k with
  | true => a ρ μ1
  | false => b ρ μ1
/-- where a value goes -/
abbrev Tg := D → Env → Store → SRes
abbrev Tgs := List D → Env → Store → SRes
def gNm (i : Nat) : Tg := fun d ρ μ => putF (some d) ρ i fun ρ => .next ρ μ
theorem gNm_eq (i : Nat) (d : D) (ρ : Env) (μ : Store) : gNm i d ρ μ = .next (put (some d) ρ i) μ := putF_eq _ _ _ _
def gNo : Tgs := fun ds ρ μ => match ds with
  | [] => .next ρ μ
  | _ => .bad
def gCn (g : Tg) (gs : Tgs) : Tgs := fun ds ρ μ => match ds with
  | d :: r => sThen (g d ρ μ) (gs r)
  | _ => .bad
def itemsT : D → Option (List D)
  | .p (.tup ps) => some (ps.map .p)
  | .mix ds => some ds
  | _ => none
def gTp (n : Nat) (gs : Tgs) : Tg := fun d ρ μ => match itemsT d with
  | some ds => if ds.length = n then gs ds ρ μ else .bad
  | none => .bad
abbrev OpSet := D → D → D → Store → Option Store
def gSb (o i : Ev D) (op : OpSet) : Tg := fun d ρ μ => sOf (o ρ μ) ρ fun x μ1 => sOf (i ρ μ1) ρ fun y μ2 => match op x y d μ2 with
  | some μ3 => .next ρ μ3
  | none => .bad
def gBad : Tg := fun _ _ _ => .bad
def gsBad : Tgs := fun _ _ _ => .bad
def sAsg (a : Ev D) (g : Tg) : Sv := fun ρ μ => sOf (a ρ μ) ρ fun d μ1 => g d ρ μ1
def sPar (i j : Nat) (a : Ev (List D)) : Sv := fun ρ μ => sOf (a ρ μ) ρ fun ds μ1 => match ds with
  | [x, y] => .next (put (some y) (put (some x) ρ i) j) μ1
  | _ => .bad
def sPar3 (i j l : Nat) (a : Ev (List D)) : Sv := fun ρ μ => sOf (a ρ μ) ρ fun ds μ1 => match ds with
  | [x, y, z] => .next (put (some z) (put (some y) (put (some x) ρ i) j) l) μ1
  | _ => .bad
def sAug (i : Nat) (op : Op2) (a : Ev D) : Sv := fun ρ μ => match nth ρ i with
  | some (some d) => sOf (a ρ μ) ρ fun y μ1 => sOf (Res.ofO (op d y μ1)) ρ fun z μ2 => .next (put (some z) ρ i) μ2
  | _ => .bad
def sAugS (o i : Ev D) (ix op : Op2) (ops : OpSet) (a : Ev D) : Sv := fun ρ μ => sOf (o ρ μ) ρ fun x μ1 => sOf (i ρ μ1) ρ fun y μ2 => sOf (Res.ofO (ix x y μ2)) ρ fun z μ3 => sOf (a ρ μ3) ρ fun w μ4 =>
  sOf (Res.ofO (op z w μ4)) ρ fun u μ5 => match ops x y u μ5 with
  | some μ6 => .next ρ μ6
  | none => .bad
def loopW (c : Ev Bool) (body : Sv) : Nat → Env → Store → SRes
  | 0, _, _ => .bad
  | n + 1, ρ, μ => sOf (c ρ μ) ρ fun k μ1 => match k with
    | true => match body ρ μ1 with
      | .next ρ2 μ2 => loopW c body n ρ2 μ2
      | .cont ρ2 μ2 => loopW c body n ρ2 μ2
      | .brk ρ2 μ2 => .next ρ2 μ2
      | r => r
    | false => .next ρ μ1
def sWhile (n : Nat) (c : Ev Bool) (body : Sv) : Sv := fun ρ μ => loopW c body n ρ μ

section
variable {G : Gx} {W : WX} {α : List Addr} {H : Hp} {μ : Store} {ρ : Env} {σ : L2.St}
theorem EnvOk.put (e : EnvOk G α H ρ σ) {d : D} {v : V} (i : Nat) (r : Rep G α H d v) : EnvOk G α H (Sh.put (some d) ρ i) (σ.set i (some v)) := by
  try rw [put_eq]
  exact e.set i r
theorem GotS.stay {Z : Ends} (e : EnvOk G α H ρ σ) (st : StOk G α H μ) (h : GotS G W Z α H (.next ρ μ)) : Z.nx σ H := h σ α H (Ext.refl _ _) st e
end
def tGx (G : Gx) (W : WX) (g : Tg) : TG := fun v σ H Q => ∃ d ρ α μ Z, EnvOk G α H ρ σ ∧ StOk G α H μ ∧ Rep G α H d v ∧ Z.nx = Q ∧ GotS G W Z α H (g d ρ μ)
def tGs (G : Gx) (W : WX) (g : Tgs) : TGs := fun vs σ H Q => ∃ ds ρ α μ Z, EnvOk G α H ρ σ ∧ StOk G α H μ ∧ Reps G α H ds vs ∧ Z.nx = Q ∧ GotS G W Z α H (g ds ρ μ)
def r3 (G : Gx) (op : OpSet) : TSet := fun o i v H Q => ∃ α μ d e f, StOk G α H μ ∧ Rep G α H d o ∧ Rep G α H e i ∧ Rep G α H f v ∧ match op d e f μ with
  | some μ' => ∀ α' H', Ext α H α' H' → StOk G α' H' μ' → Q H'
  | none => False
theorem itemsT_of {G : Gx} {α : List Addr} {H : Hp} {d : D} {v : V} {ds : List D} (r : Rep G α H d v) (h : itemsT d = some ds) : ∃ a vs, v = .ref a ∧ SqT G.K H a vs ∧ Reps G α H ds vs := by
  unfold itemsT at h
  split at h
  · cases h
    obtain ⟨a, vs, rfl, h1, h2⟩ := rep_tup r
    exact ⟨a, vs, rfl, h1, h2.toD⟩
  · cases h
    cases r with
    | mix h1 h2 => exact ⟨_, _, rfl, h1, h2⟩
  · cases h
section
variable {X : Cx} {W : WX} {e o i : Expr} {ev eo ei : Ev D} {es : List Expr} {ra : Ev (List D)} {a b : List Stmt} {sa sb : Sv} {st : Stmt} {pos tpos : Pos} {g : Tg} {gs : Tgs} {tg iter : Expr}
theorem ps_bad : PS X st (tS (gx X) W sBad) := ⟨fun _ _ _ _ _ _ ⟨_, _, _, _, _, q⟩ => q.elim⟩
theorem pss_bad : PSs X a (tS (gx X) W sBad) := ⟨fun _ _ _ _ _ _ ⟨_, _, _, _, _, q⟩ => q.elim⟩
theorem tSkip_of : ∀ Z σ H, tS (gx X) W sSkip Z σ H → tNext Z σ H := fun Z σ H ⟨ρ, α, μ, e, st, q⟩ => q.stay e st
theorem ps_sk (h : PS X st tNext) : PS X st (tS (gx X) W sSkip) := h.weak tSkip_of
theorem pss_n : PSs X [] (tS (gx X) W sSkip) := pss_nil.weak tSkip_of
theorem pss_c (ha : PS X st (tS (gx X) W sa)) (hb : PSs X b (tS (gx X) W sb)) : PSs X (st :: b) (tS (gx X) W (sSeq sa sb)) :=
  (pss_cons ha hb).weak fun Z σ H ⟨ρ, α, μ, e, st, q⟩ => ⟨ρ, α, μ, e, st, GotS.then q fun ρ1 μ1 σ1 α1 H1 x e1 st1 q1 => ⟨ρ1, α1, μ1, e1, st1, q1⟩⟩
theorem ps_bk : PS X (.Break pos) (tS (gx X) W sBrk) := ps_break.weak fun Z σ H ⟨ρ, α, μ, e, st, q⟩ => q σ α H (Ext.refl _ _) st e
theorem ps_ct : PS X (.Continue pos) (tS (gx X) W sCont) := ps_continue.weak fun Z σ H ⟨ρ, α, μ, e, st, q⟩ => q σ α H (Ext.refl _ _) st e
theorem ps_dr (he : PE X e (tE (gx X) W ev)) (hs : swapsWith e none pos.line X.env = pure false) : PS X (.Expr e pos) (tS (gx X) W (sDrop ev)) :=
  (ps_expr he hs).weak fun Z σ H ⟨ρ, α, μ, e, st, q⟩ => ⟨ρ, α, μ, e, st, GotS.bind e st q fun d μ1 v α1 H1 x e1 st1 r q1 => q1.stay e1 st1⟩
theorem ps_rt (he : PE X e (tE (gx X) W ev)) : PS X (.Return (some e) pos) (tS (gx X) W (sRet ev)) :=
  (ps_ret he).weak fun Z σ H ⟨ρ, α, μ, e, st, q⟩ => ⟨ρ, α, μ, e, st, GotS.bind e st q fun d μ1 v α1 H1 x e1 st1 r q1 => q1 v α1 H1 (Ext.refl _ _) st1 r⟩
theorem ps_rn : PS X (.Return none pos) (tS (gx X) W sRetN) := ps_retN.weak fun Z σ H ⟨ρ, α, μ, e, st, q⟩ => q .non α H (Ext.refl _ _) st (.p .non)
theorem ps_i {c : Expr} {ec : Ev Bool} (hc : PT X c (tT (gx X) W ec)) (ha : PSs X a (tS (gx X) W sa)) (hb : PSs X b (tS (gx X) W sb)) : PS X (.If c a b pos) (tS (gx X) W (sIf ec sa sb)) :=
  (ps_if hc ha hb).weak fun Z σ H ⟨ρ, α, μ, e, st, q⟩ => ⟨ρ, α, μ, e, st, GotS.bind e st q fun d μ1 v α1 H1 x e1 st1 r q1 => by
    cases r
    cases d with
    | true => rw [if_pos rfl]; exact ⟨ρ, α1, μ1, e1, st1, q1⟩
    | false => rw [if_neg (by decide)]; exact ⟨ρ, α1, μ1, e1, st1, q1⟩⟩
/-! targets -/
theorem pg_bad : PG X tg (tGx (gx X) W gBad) := ⟨fun _ _ _ _ _ _ _ _ _ ⟨_, _, _, _, _, _, _, _, _, q⟩ => q.elim⟩
theorem pgs_bad {tgs : List Expr} : PGs X tgs (tGs (gx X) W gsBad) := ⟨fun _ _ _ _ _ _ _ _ _ ⟨_, _, _, _, _, _, _, _, _, q⟩ => q.elim⟩
theorem _root_.L2.PG.weak {t t' : TG} (h : PG X tg t) (m : ∀ v σ H Q, t' v σ H Q → t v σ H Q) : PG X tg t' := ⟨fun pins s σ H v u Q I r q => h.run pins s σ H v u Q I r (m v σ H Q q)⟩
theorem _root_.L2.PGs.weak {tgs : List Expr} {t t' : TGs} (h : PGs X tgs t) (m : ∀ v σ H Q, t' v σ H Q → t v σ H Q) : PGs X tgs t' := ⟨fun pins s σ H v u Q I r q => h.run pins s σ H v u Q I r (m v σ H Q q)⟩
theorem GotS.nm {G : Gx} {W : WX} {Z : Ends} {α : List Addr} {H : Hp} {i : Nat} {d : D} {ρ : Env} {μ : Store} (q : GotS G W Z α H (gNm i d ρ μ)) : ∀ σ' α' H', Ext α H α' H' → StOk G α' H' μ → EnvOk G α' H' (Sh.put (some d) ρ i) σ' → Z.nx σ' H' := by
  rw [gNm_eq] at q
  exact q
theorem pg_nm {j : Nat} (h : PG X tg (gName j)) : PG X tg (tGx (gx X) W (gNm j)) := h.weak fun v σ H Q ⟨d, ρ, α, μ, Z, e, st, r, z, q⟩ => by
  subst z
  exact GotS.nm q _ α H (Ext.refl _ _) st (e.put j r)
theorem pgs_n : PGs X [] (tGs (gx X) W gNo) := pgs_nil.weak fun v σ H Q ⟨d, ρ, α, μ, Z, e, st, r, z, q⟩ => by
  subst z
  unfold gNo at q
  split at q
  · cases r; exact ⟨rfl, q σ α H (Ext.refl _ _) st e⟩
  · exact q.elim
theorem pgs_c {tgs : List Expr} (h1 : PG X tg (tGx (gx X) W g)) (h2 : PGs X tgs (tGs (gx X) W gs)) (hs : (assignEach (tg :: tgs) X.env).map (·.2) = assign tg X.env :: (assignEach tgs X.env).map (·.2)) : PGs X (tg :: tgs) (tGs (gx X) W (gCn g gs)) :=
  (pgs_cons h1 h2 hs).weak fun v σ H Q ⟨d, ρ, α, μ, Z, e, st, r, z, q⟩ => by
    subst z
    unfold gCn at q
    split at q
    · rename_i d ds
      cases r with
      | cons r rr => exact ⟨_, _, rfl, d, ρ, α, μ, _, e, st, r, rfl, GotS.then q fun ρ1 μ1 σ1 α1 H1 x e1 st1 q1 => ⟨ds, ρ1, α1, μ1, Z, e1, st1, st.reps x rr, rfl, q1⟩⟩
    · exact q.elim
theorem pg_tp {tgs : List Expr} {k n : Nat} (hc : X.calm = true) (h : PGs X tgs (tGs (gx X) W gs)) (hn : (assignEach tgs X.env).length = n) (hst : (assignEach tgs X.env).findIdx? (·.1) = none) : PG X (.Tuple tgs k tpos) (tGx (gx X) W (gTp n gs)) :=
  (pg_tup hc h hn hst).weak fun v σ H Q ⟨d, ρ, α, μ, Z, e, st, r, z, q⟩ => by
    unfold gTp at q
    split at q
    · rename_i ds hd
      obtain ⟨a, vs, rfl, h1, h2⟩ := itemsT_of r hd
      split at q
      · rename_i hl
        exact ⟨a, vs, rfl, h1, by rw [h2.length]; exact hl, ds, ρ, α, μ, Z, e, st, h2, z, q⟩
      · exact q.elim
    · exact q.elim
theorem pg_sb {op : OpSet} (h : PG X tg (gSub (tE (gx X) W eo) (tE (gx X) W ei) (r3 (gx X) op))) : PG X tg (tGx (gx X) W (gSb eo ei op)) :=
  h.weak fun v σ H Q ⟨d, ρ, α, μ, Z, e, st, r, z, q⟩ => ⟨ρ, α, μ, e, st, GotS.bind e st q fun x μ1 w α1 H1 x1 e1 st1 r1 q1 => ⟨ρ, α1, μ1, e1, st1, GotS.bind e1 st1 q1 fun y μ2 w2 α2 H2 x2 e2 st2 r2 q2 => ⟨α2, μ2, x, y, d, st2, st1.rep x2 r1, r2, st1.rep x2 (st.rep x1 r), by
    subst z
    cases h3 : op x y d μ2 with
    | none => rw [h3] at q2; exact q2
    | some μ3 =>
      rw [h3] at q2
      exact fun α' H' x3 st3 => q2 σ α' H' x3 st3 (e2.ext st2 x3)⟩⟩⟩
theorem tAsg_of : ∀ Z σ H, tS (gx X) W (sAsg ev g) Z σ H → tAsg (tE (gx X) W ev) (tGx (gx X) W g) Z σ H := fun Z σ H ⟨ρ, α, μ, e, st, q⟩ =>
  ⟨ρ, α, μ, e, st, GotS.bind e st q fun d μ1 v α1 H1 x e1 st1 r q1 => ⟨d, ρ, α1, μ1, Z, e1, st1, r, rfl, q1⟩⟩
theorem ps_as (h : PS X st (tAsg (tE (gx X) W ev) (tGx (gx X) W g))) : PS X st (tS (gx X) W (sAsg ev g)) := h.weak tAsg_of
theorem ps_pr {j l : Nat} (h : PS X st (tPar j l (tAs (gx X) W ra))) : PS X st (tS (gx X) W (sPar j l ra)) := h.weak fun Z σ H ⟨ρ, α, μ, e, st, q⟩ => ⟨ρ, α, μ, e, st, GotS.bind e st q fun d μ1 v α1 H1 x e1 st1 r q1 => by
  split at q1
  · cases r with
    | cons r1 r => cases r with
      | cons r2 r => cases r; exact ⟨_, _, rfl, q1 _ α1 H1 (Ext.refl _ _) st1 ((e1.put j r1).put l r2)⟩
  · exact q1.elim⟩
theorem ps_pr3 {j l k : Nat} (h : PS X st (tPar3 j l k (tAs (gx X) W ra))) : PS X st (tS (gx X) W (sPar3 j l k ra)) := h.weak fun Z σ H ⟨ρ, α, μ, e, st, q⟩ => ⟨ρ, α, μ, e, st, GotS.bind e st q fun d μ1 v α1 H1 x e1 st1 r q1 => by
  split at q1
  · cases r with
    | cons r1 r => cases r with
      | cons r2 r => cases r with
        | cons r3 r => cases r; exact ⟨_, _, _, rfl, q1 _ α1 H1 (Ext.refl _ _) st1 (((e1.put j r1).put l r2).put k r3)⟩
  · exact q1.elim⟩
theorem ofO_s {ρ : Env} {σ : L2.St} {α : List Addr} {H : Hp} {μ : Store} {G : Gx} {Z : Ends} {o : Option (D × Store)} {k : D → Store → SRes} {Q : VK} (e : EnvOk G α H ρ σ) (st : StOk G α H μ) (h : GotS G W Z α H (sOf (Res.ofO o) ρ k))
    (m : ∀ b μ1 c α1 H1, Ext α H α1 H1 → EnvOk G α1 H1 ρ σ → StOk G α1 H1 μ1 → Rep G α1 H1 b c → GotS G W Z α1 H1 (k b μ1) → Q c H1) : GotO G (Rep G) α H o Q := (GotS.bind e st h m).toO
theorem ps_ag {j : Nat} {op : Op2} (h : PS X st (tAug j (tE (gx X) W ev) (r2 (gx X) op))) : PS X st (tS (gx X) W (sAug j op ev)) := h.weak fun Z σ H ⟨ρ, α, μ, e, st, q⟩ => by
  unfold sAug at q
  try rw [nth_eq] at q
  split at q
  · rename_i d hd
    obtain ⟨v, h1, h2⟩ := e.val j d hd
    exact ⟨v, h1, ρ, α, μ, e, st, GotS.bind e st q fun y μ1 w α1 H1 x e1 st1 r q1 => ⟨α1, μ1, d, y, st1, st.rep x h2, r, ofO_s e1 st1 q1 fun z μ2 w2 α2 H2 x2 e2 st2 r2 q2 => q2 _ α2 H2 (Ext.refl _ _) st2 (e2.put j r2)⟩⟩
  · exact q.elim
theorem ps_ags {ix op : Op2} {ops : OpSet} (h : PS X st (tAugS (tE (gx X) W eo) (tE (gx X) W ei) (tE (gx X) W ev) (r2 (gx X) ix) (r2 (gx X) op) (r3 (gx X) ops))) : PS X st (tS (gx X) W (sAugS eo ei ix op ops ev)) :=
  h.weak fun Z σ H ⟨ρ, α, μ, e, st, q⟩ => ⟨ρ, α, μ, e, st, GotS.bind e st q fun o μ1 w1 α1 H1 x1 e1 st1 r1 q1 => ⟨ρ, α1, μ1, e1, st1, GotS.bind e1 st1 q1 fun i μ2 w2 α2 H2 x2 e2 st2 r2 q2 =>
    ⟨α2, μ2, o, i, st2, st1.rep x2 r1, r2, ofO_s e2 st2 q2 fun z μ3 w3 α3 H3 x3 e3 st3 r3 q3 => ⟨ρ, α3, μ3, e3, st3, GotS.bind e3 st3 q3 fun y μ4 w4 α4 H4 x4 e4 st4 r4 q4 =>
      ⟨α4, μ4, z, y, st4, st3.rep x4 r3, r4, ofO_s e4 st4 q4 fun u μ5 w5 α5 H5 x5 e5 st5 r5 q5 => ⟨α5, μ5, o, i, u, st5, st4.rep x5 (st3.rep x4 (st2.rep x3 (st1.rep x2 r1))), st4.rep x5 (st3.rep x4 (st2.rep x3 r2)), r5, by
        cases h3 : ops o i u μ5 with
        | none => rw [h3] at q5; exact q5
        | some μ6 =>
          rw [h3] at q5
          exact fun α' H' x6 st6 => q5 σ α' H' x6 st6 (e5.ext st5 x6)⟩⟩⟩⟩⟩⟩
/-! while -/
theorem ps_wh {n : Nat} {c : Expr} {ec : Ev Bool} (hp : PassesOwn (model X.prog X.w) X.A X.env X.xe) (hc : PT X c (tT (gx X) W ec)) (hb : PSs X b (tS (gx X) W sb)) : PS X (.While c b [] pos) (tS (gx X) W (sWhile n ec sb)) :=
  (ps_while hp hc hb).weak fun Z σ H ⟨ρ, α, μ, e, st, q⟩ => by
    refine ⟨fun m σ H => ∃ ρ α μ, EnvOk (gx X) α H ρ σ ∧ StOk (gx X) α H μ ∧ GotS (gx X) W Z α H (loopW ec sb m ρ μ), ⟨n, ρ, α, μ, e, st, q⟩, ?_⟩
    rintro m σ H ⟨ρ, α, μ, e, st, q⟩
    cases m with
    | zero => exact q.elim
    | succ m =>
      refine ⟨ρ, α, μ, e, st, GotS.bind e st q fun k μ1 k' α1 H1 x e1 st1 r q1 => ?_⟩
      cases r
      cases k with
      | false => rw [if_neg (by decide)]; exact q1.stay e1 st1
      | true =>
        rw [if_pos rfl]
        refine ⟨_, fun σ' H' z => ⟨m, Nat.lt_succ_self m, z⟩, ρ, α1, μ1, e1, st1, ?_⟩
        change GotS (gx X) W Z α1 H1 (match sb ρ μ1 with
          | .next ρ2 μ2 => loopW ec sb m ρ2 μ2
          | .cont ρ2 μ2 => loopW ec sb m ρ2 μ2
          | .brk ρ2 μ2 => .next ρ2 μ2
          | r => r) at q1
        cases hr : sb ρ μ1 with
        | next ρ2 μ2 => rw [hr] at q1; exact fun σ' α' H' y st' e' => ⟨ρ2, α', μ2, e', st', GotS.ext y q1⟩
        | cont ρ2 μ2 => rw [hr] at q1; exact fun σ' α' H' y st' e' => ⟨ρ2, α', μ2, e', st', GotS.ext y q1⟩
        | brk ρ2 μ2 => rw [hr] at q1; exact q1
        | ret d μ2 => rw [hr] at q1; exact q1
        | exc ρ2 c d μ2 => rw [hr] at q1; exact q1
        | bad => rw [hr] at q1; exact q1
end
end Sh
set_option maxRecDepth 100000
set_option maxHeartbeats 4000000
/-! Sh: enumerate over a tuple, over a text. -/
namespace ShX
open PySem PySem.Spec PyProof.Rows L2
section
variable {X : Cx} {pins : List (Addr × Obj)} {s : Shared} {σ : L2.St} {H : Hp} {E : Value → Shared → Prop} {elts : List Expr} {kk : Nat} {tpos : Pos}
theorem one_call {fp : List Addr} {n i : Nat} {P : Nat → Value → Prop} {St : Nat → Heap → Prop} {e it : Addr} {old : Value} {Y : V → Prop} (I : Inv X pins σ H s) (hc : X.calm = true) (D : Draws X.prog X.w X.A.in1 it fp n P St)
    (he : IsEnum s.heap e it ((i : Nat) : Int) old) (hst : St i s.heap) (hlt : i < n) (hne : e ≠ it) (hef : e ∉ fp) (hil : it < s.heap.objs.size) (hf : ∀ b ∈ [e, it], FpOk X pins H b) (hP : ∀ u, P i u → ∃ x, RelV x u ∧ Y x) :
    wpAny (model X.prog X.w) X.A (pyNext (.ref e)) (fun r s1 => ∃ u, r = some u ∧
      wpAny (model X.prog X.w) X.A (letOwnedTupleGo (.Tuple elts kk tpos) (.ref e) u) (fun _ s2 => ∃ x T, Inv X pins σ (upd H T (.tup [.int (i : Nat), x])) s2 ∧ RelV (.ref T) u ∧ H T = none ∧ Y x ∧
        (∃ old, IsEnum s2.heap e it (((i + 1 : Nat)) : Int) old) ∧ (∃ h1, St (i + 1) h1 ∧ Heap.SameBut e h1 s2.heap) ∧ ∀ b ∈ [e, it], upd H T (.tup [.int (i : Nat), x]) b = none) E s1) E s := by
  have hel : e < s.heap.objs.size := Heap.lt_size he
  refine wpAny_pyNext_enum_itemD D he hst hlt hne hef fun u h' tk hPu ho hst' hT hsz hk => ?_
  obtain ⟨x, ru, hy⟩ := hP u hPu
  refine ⟨_, rfl, wpAny_letOwnedTupleGo_enum (s := { s with heap := h', toks := tk + 1 }) ho fun h'' he' sb => ?_⟩
  have hT2 : h''.get? s.heap.objs.size = some { cls := .type "tuple", data := .seq #[.int i tk, u] } := (sb.2 _ (Nat.ne_of_gt hel)).trans hT
  have new : ObjOk X.prog X.w (upd H s.heap.objs.size (.tup [.int (i : Nat), x])) h'' s.heap.objs.size (.tup [.int (i : Nat), x]) :=
    ⟨by show 2 ≤ sizeLine; decide, [.int i tk, u], .cons ⟨_, rfl⟩ (.cons ru .nil), ⟨_, hT2, rfl, _, rfl⟩⟩
  have I1 : Inv X pins σ (upd H s.heap.objs.size (.tup [.int (i : Nat), x])) { s with heap := h'', toks := tk + 1 } :=
    I.turnedNew (ch := [e, it]) (fun b ob hb q => (sb.2 b (fun z => hb (by simp [z]))).trans (hk b ob (fun z => hb (by simp [z])) (fun z => hb (by simp [z])) q)) hf (Nat.le_refl _) new
  refine ⟨x, s.heap.objs.size, I1, rfl, I.hok.fresh (Nat.le_refl _), hy, ⟨u, ?_⟩, ⟨h', hst', sb⟩, fun b hb => ?_⟩
  · have e1 : ((i + 1 : Nat) : Int) = (i : Int) + 1 := by omega
    rw [e1]; exact he'
  · have hb' : b < s.heap.objs.size := by
      have e' : b = e ∨ b = it := by simpa using hb
      rcases e' with z | z
      · rw [z]; exact hel
      · rw [z]; exact hil
    rw [upd_ne (Nat.ne_of_lt hb')]
    exact (hf b hb).1
end
theorem tup_ne {h : Heap} {a it : Addr} {xs : Array Value} {i : Nat} (p' : h.IsTuple a xs) (hit : h.IsTupleIter it a i) : a ≠ it := fun z => by
  obtain ⟨o, h1, h2, _⟩ := hit
  obtain ⟨o', h3, h4, _⟩ := p'
  rw [z, h1] at h3
  cases h3
  rw [h2] at h4
  injection h4 with h5
  exact absurd h5 (by decide)
def Itet (K : PySem.W.Frag) (a : Addr) : It :=
  ⟨fun i H => ∃ (xs : List V) (x : V), SqT K H a xs ∧ xs[i]? = some x, fun i H v H' => ∃ T x, v = .ref T ∧ H T = none ∧ H' = upd H T (.tup [.int (i : Nat), x]) ∧ ∀ xs, SqT K H a xs → xs[i]? = some x, fun i H => ∃ xs : List V, SqT K H a xs ∧ xs.length = i⟩
def Ites (y : Str) : It :=
  ⟨fun i H => i < y.cps.size, fun i H v H' => ∃ T x, v = .ref T ∧ H T = none ∧ H' = upd H T (.tup [.int (i : Nat), x]) ∧ ∃ c, y.cps[i]? = some c ∧ x = .str ⟨#[c]⟩, fun i H => y.cps.size = i⟩
theorem turn_enumT {P : Program} {w : World} {K : PySem.W.Frag} {elts : List Expr} {kk : Nat} {tpos : Pos} (a e it : Addr) :
    Turn P w K (.Tuple elts kk tpos) (Itet K a) [e, it] e (fun i h => (∃ old, IsEnum h e it ((i : Nat) : Int) old) ∧ h.IsTupleIter it a i ∧ e ≠ it) where
  mem := by simp
  obj := fun i h st b hb => by
    obtain ⟨⟨old, he⟩, ⟨o, ho, hc, hd⟩, _⟩ := st
    have e' : b = e ∨ b = it := by simpa using hb
    rcases e' with z | z
    · rw [z]; exact ⟨_, he, fun v q => nomatch q⟩
    · rw [z]; exact ⟨o, ho, fun v q => by rw [hd] at q; cases q⟩
  keep := fun i h h' st k => let ⟨⟨old, he⟩, hi, hne⟩ := st; ⟨⟨old, k e (by simp) _ he⟩, hi.at fun o q => k it (by simp) o q, hne⟩
  item := by
    intro X hP hw hK hc i pins s σ H E I hf st hg
    subst hP hw hK
    obtain ⟨⟨old, he⟩, hit, hne⟩ := st
    obtain ⟨xs, x, hq, hx⟩ := hg
    obtain ⟨its, rv, p, hz⟩ := I.tuple hq
    have p' : s.heap.IsTuple a its.toArray := p
    have hai : a ≠ it := tup_ne p' hit
    have hae : a ≠ e := fun z => by
      obtain ⟨o', h3, h4, _⟩ := p'
      have h1 : s.heap.get? e = _ := he
      rw [z, h1] at h3
      cases h3
      injection h4 with h5
      exact absurd h5 (by decide)
    have hil : it < s.heap.objs.size := by obtain ⟨_, q, _⟩ := hit; exact Heap.lt_size q
    obtain ⟨u0, hu0, ru0⟩ := rv.get hx
    refine thn (one_call (Y := fun y => y = x) I hc (Draws.tuple (prog := X.prog) (w := X.w) (A := X.A.in1) (I.ok.hd hc) it a hai its.toArray) he ⟨hit, p'⟩ ((Array.getElem?_eq_some_iff.mp (by simpa using hu0 : its.toArray[i]? = some u0)).1) hne (by simp [hne, Ne.symm hae]) hil hf fun u hu => ⟨x, by
      have : its[i]? = some u := by simpa using hu
      rw [hu0] at this
      cases this
      exact ru0, rfl⟩) fun r s1 ⟨u, e1, h1⟩ => ⟨u, e1, thn h1 ?_⟩
    rintro _ s2 ⟨x', T, I1, ru, hT, rfl, he2, ⟨h1, ⟨hs1, _⟩, sb⟩, hn⟩
    exact ⟨.ref T, _, I1, ru, ⟨T, x', rfl, hT, rfl, fun ys hy => by rw [I.tuple_inj hy hq]; exact hx⟩, ⟨he2, hs1.at fun o q => (sb.2 it (Ne.symm hne)).trans q, hne⟩, hn⟩
  done := by
    intro X hP hw hK hc i pins s σ H E I hf st hg
    subst hP hw hK
    obtain ⟨⟨old, he⟩, hit, hne⟩ := st
    obtain ⟨xs, hq, hx⟩ := hg
    obtain ⟨its, rv, p, hz⟩ := I.tuple hq
    have p' : s.heap.IsTuple a its.toArray := p
    obtain ⟨f0, f1, f2, f3, f4, f5⟩ := hf it (by simp)
    have hai := tup_ne p' hit
    have hl := rv.length
    have hn : its.toArray.size = i := by simp only [List.size_toArray]; omega
    exact wpAny_pyNext_enum_endD (Draws.tuple (prog := X.prog) (w := X.w) (A := X.A.in1) (I.ok.hd hc) it a hai its.toArray) he (by rw [hn]; exact ⟨hit, p'⟩) fun h' eb => ⟨rfl, I.turned (t' := s.toks) (fun b o hb q => eb b o hb q) f0 f1 f3 f4 f5⟩
  self := fun A i s Q E st h => let ⟨⟨_, he⟩, _⟩ := st; wpAny_pyIter_enum he h
theorem turn_enumS {P : Program} {w : World} {K : PySem.W.Frag} {elts : List Expr} {kk : Nat} {tpos : Pos} (y : Str) (t : Tok) (e it : Addr) :
    Turn P w K (.Tuple elts kk tpos) (Ites y) [e, it] e (fun i h => (∃ old, IsEnum h e it ((i : Nat) : Int) old) ∧ h.IsStrIter it (strIterType y) y t i ∧ e ≠ it) where
  mem := by simp
  obj := fun i h st b hb => by
    obtain ⟨⟨old, he⟩, ⟨o, ho, hc, hd⟩, _⟩ := st
    have e' : b = e ∨ b = it := by simpa using hb
    rcases e' with z | z
    · rw [z]; exact ⟨_, he, fun v q => nomatch q⟩
    · rw [z]; exact ⟨o, ho, fun v q => by rw [hd] at q; cases q⟩
  keep := fun i h h' st k => let ⟨⟨old, he⟩, hi, hne⟩ := st; ⟨⟨old, k e (by simp) _ he⟩, by
    obtain ⟨o, ho, r⟩ := hi
    exact ⟨o, k it (by simp) o ho, r⟩, hne⟩
  item := by
    intro X hP hw hK hc i pins s σ H E I hf st hg
    subst hP hw hK
    obtain ⟨⟨old, he⟩, hit, hne⟩ := st
    have hg' : i < y.cps.size := hg
    have hil : it < s.heap.objs.size := by obtain ⟨_, q, _⟩ := hit; exact Heap.lt_size q
    refine thn (one_call (Y := fun v => ∃ c, y.cps[i]? = some c ∧ v = .str ⟨#[c]⟩) I hc (Draws.text (prog := X.prog) (w := X.w) (A := X.A.in1) (I.ok.hd hc) it y t) he hit hg' hne (by simp [hne]) hil hf fun u hu => by
      obtain ⟨c, tk, h1, rfl⟩ := hu
      exact ⟨.str ⟨#[c]⟩, ⟨tk, rfl⟩, c, h1, rfl⟩) fun r s1 ⟨u, e1, h1⟩ => ⟨u, e1, thn h1 ?_⟩
    rintro _ s2 ⟨x', T, I1, ru, hT, hy, he2, ⟨h1, hs1, sb⟩, hn⟩
    refine ⟨.ref T, _, I1, ru, ⟨T, x', rfl, hT, rfl, hy⟩, ⟨he2, ?_, hne⟩, hn⟩
    obtain ⟨o, ho, r⟩ := hs1
    exact ⟨o, (sb.2 it (Ne.symm hne)).trans ho, r⟩
  done := by
    intro X hP hw hK hc i pins s σ H E I hf st hg
    subst hP hw hK
    obtain ⟨⟨old, he⟩, hit, hne⟩ := st
    have hg' : y.cps.size = i := hg
    obtain ⟨f0, f1, f2, f3, f4, f5⟩ := hf it (by simp)
    exact wpAny_pyNext_enum_endD (Draws.text (prog := X.prog) (w := X.w) (A := X.A.in1) (I.ok.hd hc) it y t) he (by rw [hg']; exact hit) fun h' eb => ⟨rfl, I.turned (t' := s.toks) (fun b o hb q => eb b o hb q) f0 f1 f3 f4 f5⟩
  self := fun A i s Q E st h => let ⟨⟨_, he⟩, _⟩ := st; wpAny_pyIter_enum he h
/-! ### the call -/
set_option maxHeartbeats 1000000 in
theorem meets_enum1 {v : Value} {o : Obj} {Hh : Heap → Prop} (B : Begins v o Hh) :
    Meets (Builtin.«enumerate.__new__» ⟨[.type "enumerate", v], []⟩) (fun _ R s => Hh s.heap ∧
      R (.ok (.ret (.ref (s.heap.push o).objs.size))) { s with heap := (s.heap.push o).push { cls := .type "enumerate", data := .fields #[.none, .bool false, .ref s.heap.objs.size, rawInt 0, .none, .none] } }) :=
  .of_wp fun prog w A R s h => by
    obtain ⟨hp, g, d, tk, os⟩ := s; obtain ⟨h1, h⟩ := h
    have hsub := sub_enumerate
    have q1 : ∀ {A' : Around} {E : Value → Shared → Prop} {Q : Value → Shared → Prop}, Q (.ref hp.objs.size) ⟨hp.push o, g, d, tk, os⟩ → wpAny (model prog w) A' (pyIter v) Q E ⟨hp, g, d, tk, os⟩ :=
      fun q => B.iter prog w _ _ ⟨hp, g, d, tk, os⟩ _ h1 q
    wp_walk using q1
    refine wpAny_stack_any fun st => wpAny_pure ?_
    split
    · rename_i c _ _ _ _ _
      cases (c == Value.type "enumerate")
      · wp_walk using q1
        exact ⟨_, rfl, h⟩
      · wp_walk using q1
        exact ⟨_, rfl, h⟩
    · wp_walk using q1
      exact ⟨_, rfl, h⟩
section
variable {prog : Program} {w : World} {A : Around} {E : Value → Shared → Prop} {s : Shared}
theorem call_enum1 {v : Value} {o : Obj} {Hh : Heap → Prop} {Q : Value → Shared → Prop} (B : Begins v o Hh) (h1 : Hh s.heap)
    (h : ∀ h', IsEnum h' (s.heap.objs.size + 1) s.heap.objs.size 0 .none → h'.get? s.heap.objs.size = some o → (∀ b o, s.heap.get? b = some o → h'.get? b = some o) → Q (.ref (s.heap.objs.size + 1)) { s with heap := h' }) :
    wpAny (model prog w) A (call (.type "enumerate") [v]) Q E s := by
  refine callType_new F.called_enumerate (by decide) (F.typeCall_enumerate_1 _) (F.newCall_enumerate_1 _) (fun obj => F.args_object_init_2 obj _) F.entry_enumerate_new (meets_enum1 B) ⟨h1, ?_⟩
  have hz : (s.heap.push o).objs.size = s.heap.objs.size + 1 := Heap.size_push ..
  show _ ∧ _
  rw [hz]
  have he : IsEnum ((s.heap.push o).push { cls := .type "enumerate", data := .fields #[.none, .bool false, .ref s.heap.objs.size, rawInt 0, .none, .none] }) (s.heap.objs.size + 1) s.heap.objs.size 0 .none := by
    have := Heap.get?_push_size (s.heap.push o) (o := { cls := .type "enumerate", data := .fields #[.none, .bool false, .ref s.heap.objs.size, rawInt 0, .none, .none] }) rfl
    rw [hz] at this; exact this
  exact ⟨⟨_, he, rfl⟩, h _ he (Heap.get?_push_of_some _ (Heap.get?_push_size _ B.free)) fun b o x => Heap.get?_push_of_some _ (Heap.get?_push_of_some _ x)⟩
end
def iEnumA (K : PySem.W.Frag) (ta : TA) : TI := fun σ H R => ta σ H fun vs H1 => (∃ a xs, vs = [.ref a] ∧ ((SqL K H1 a xs ∧ R (Ite K a) H1) ∨ (SqT K H1 a xs ∧ R (Itet K a) H1))) ∨ ∃ y, vs = [.str y] ∧ R (Ites y) H1
theorem pi_enumA {X : Cx} {e : Expr} {ta : TA} {p pos tpos : Pos} {elts : List Expr} {kk : Nat} (hg : Gl X "enumerate") (hm : X.mg "enumerate" = none) (ha : PA X [e] ta) (hs : starEach [e] X.env = [(false, eval e X.env)] := by rfl) :
    PI X (.Tuple elts kk tpos) (.Call (.Name "enumerate" p) [e] [] pos) (iEnumA X.K ta) := by
  refine ⟨fun pins s σ H R I h => ?_⟩
  refine Call_ (ld_blt I hg hm boot_enumerate (PyProof.Rows.callWith_type1 (thn (ha.run pos pins s σ H _ I h) fun us s1 ⟨vs, H1, I1, r1, q1⟩ => ?_) hs rfl))
  have fp : ∀ (h' : Heap) (b : Addr), b ∈ [s1.heap.objs.size + 1, s1.heap.objs.size] → FpOk X pins H1 b := fun h' b hb => by
    have e' : b = s1.heap.objs.size + 1 ∨ b = s1.heap.objs.size := by simpa using hb
    have hle : s1.heap.objs.size ≤ b := by
      rcases e' with z | z
      · rw [z]; exact Nat.le_add_right _ _
      · rw [z]; exact Nat.le_refl _
    exact I1.fpOk hle (I1.hok.fresh hle)
  rcases q1 with ⟨a, xs, ex, q⟩ | ⟨y, ex, q⟩
  · subst ex
    cases r1 with
    | cons r rr =>
      cases rr
      cases r
      rcases q with ⟨hq, q⟩ | ⟨hq, q⟩
      · obtain ⟨its, rv, p', hz⟩ := I1.list hq
        refine call_enumerate_list p'.isList fun h' he hit hsz hk => wpAny_pyIter_enum he ?_
        have I2 : Inv X pins σ H1 { s1 with heap := h' } := I1.kept (t' := s1.toks) hk
        exact ⟨s1.heap.objs.size + 1, [s1.heap.objs.size + 1, s1.heap.objs.size], _, _, H1, rfl, I2, turn_enum a (s1.heap.objs.size + 1) s1.heap.objs.size, ⟨⟨.none, he⟩, hit, Nat.succ_ne_self _⟩, fp h', q⟩
      · obtain ⟨its, rv, p', hz⟩ := I1.tuple hq
        refine call_enum1 (begins_tuple a its.toArray) p' fun h' he hit hk => wpAny_pyIter_enum he ?_
        have I2 : Inv X pins σ H1 { s1 with heap := h' } := I1.kept (t' := s1.toks) hk
        exact ⟨s1.heap.objs.size + 1, [s1.heap.objs.size + 1, s1.heap.objs.size], _, _, H1, rfl, I2, turn_enumT a (s1.heap.objs.size + 1) s1.heap.objs.size, ⟨⟨.none, he⟩, ⟨_, hit, rfl, rfl⟩, Nat.succ_ne_self _⟩, fp h', q⟩
  · subst ex
    cases r1 with
    | cons r rr =>
      cases rr
      obtain ⟨t, rfl⟩ := r
      refine call_enum1 (begins_text y t) trivial fun h' he hit hk => wpAny_pyIter_enum he ?_
      have I2 : Inv X pins σ H1 { s1 with heap := h' } := I1.kept (t' := s1.toks) hk
      exact ⟨s1.heap.objs.size + 1, [s1.heap.objs.size + 1, s1.heap.objs.size], _, _, H1, rfl, I2, turn_enumS y t (s1.heap.objs.size + 1) s1.heap.objs.size, ⟨⟨.none, he⟩, ⟨_, hit, rfl, rfl⟩, Nat.succ_ne_self _⟩, fp h', q⟩
end ShX
set_option maxRecDepth 100000
set_option maxHeartbeats 4000000
/-! Sh: walks over rows. -/
namespace Sh
open PySem PySem.Spec PyProof.Rows L2

def rdL (μ : Store) (n : Nat) : Option (List D) := match μ.get? n with
  | some (.fl ps) => some (ps.map .p)
  | some (.dl ds) => some ds
  | _ => none
inductive IterD where
  | fix (ds : List D) | lst (n i : Nat) | enm (n i : Nat) | zp (m n i : Nat) | dki (n i : Nat) | dkk (n i : Nat) | dkt (n i : Nat)
def mkT2 : D → D → D
  | .p x, .p y => .p (.tup [x, y])
  | x, y => .mix [x, y]
def IterD.step : IterD → Store → Option (Option (D × IterD))
  | .fix [], _ => some none
  | .fix (d :: ds), _ => some (some (d, .fix ds))
  | .lst n i, μ => match rdL μ n with
    | some xs => match nth xs i with
      | some d => some (some (d, .lst n (i + 1)))
      | none => some none
    | none => none
  | .enm n i, μ => match rdL μ n with
    | some xs => match nth xs i with
      | some d => some (some (mkT2 (.p (.int (.ofNat i))) d, .enm n (i + 1)))
      | none => some none
    | none => none
  | .zp m n i, μ => match rdL μ m, rdL μ n with
    | some xs, some ys => match nth xs i, nth ys i with
      | some d, some e => some (some (mkT2 d e, .zp m n (i + 1)))
      | _, _ => some none
    | _, _ => none
  | .dki n i, μ => match μ.get? n with
    | some (.lfd kvs) => match nth kvs i with
      | some kv => some (some (.p (.tup [kv.1, kv.2]), .dki n (i + 1)))
      | none => some none
    | _ => none
  | .dkk n i, μ => match μ.get? n with
    | some (.lfd kvs) => match nth kvs i with
      | some kv => some (some (.p kv.1, .dkk n (i + 1)))
      | none => some none
    | _ => none
  | .dkt n i, μ => match μ.get? n with
    | some (.ltd kvs) => match nth kvs i with
      | some kv => some (some (.p kv.1, .dkt n (i + 1)))
      | none => some none
    | _ => none
def lenC (μ : Store) (n : Nat) : Nat := match μ.get? n with
  | some (.fl ps) => ps.length + 1
  | some (.dl ps) => ps.length + 1
  | some (.lfd ps) => ps.length + 1
  | some (.ltd ps) => ps.length + 1
  | _ => 0
/-- turns enough -/
def IterD.cnt : IterD → Store → Nat
  | .fix ds, _ => ds.length + 1
  | .lst n _, μ => lenC μ n
  | .enm n _, μ => lenC μ n
  | .zp n _ _, μ => lenC μ n
  | .dki n _, μ => lenC μ n
  | .dkk n _, μ => lenC μ n
  | .dkt n _, μ => lenC μ n
/-- what values lean on: tuples stand, errors stand, cells have their numbers, what is locked stays so -/
structure Ext1 (α : List Addr) (H : Hp) (α' : List Addr) (H' : Hp) : Prop where
  pre : α <+: α'
  sq : ∀ {K : PySem.W.Frag} {a : Addr} {vs : List V}, SqT K H a vs → SqT K H' a vs
  oth : ∀ a o, H a = some o → cellHO o = false → notTbl o → H' a = some o
  frzs : ∀ b o u, H b = some (.frz o u) → H' b = some (.frz o u)
theorem Ext.one {G : Gx} {α α' : List Addr} {H H' : Hp} {μ : Store} (st : StOk G α H μ) (x : Ext α H α' H') : Ext1 α H α' H' := ⟨x.pre, st.sqT x, fun _ _ e k t => x.keep _ _ (st.out e k) e t, x.frzs⟩
theorem Ext1.refl (α : List Addr) (H : Hp) : Ext1 α H α H := ⟨List.prefix_refl _, fun h => h, fun _ _ h _ _ => h, fun _ _ _ h => h⟩
theorem Ext1.trans {α α1 α2 : List Addr} {H H1 H2 : Hp} (a : Ext1 α H α1 H1) (b : Ext1 α1 H1 α2 H2) : Ext1 α H α2 H2 := ⟨a.pre.trans b.pre, fun h => b.sq (a.sq h), fun c o e k t => b.oth c o (a.oth c o e k t) k t, fun c o u h => b.frzs c o u (a.frzs c o u h)⟩
theorem Ext1.rep {G : Gx} {α α' : List Addr} {H H' : Hp} (x : Ext1 α H α' H') {d : D} {v : V} (h : Rep G α H d v) : Rep G α' H' d v := h.mono (fun _ _ => x.sq) (pre_get x.pre) x.oth fun a o vs e => x.frzs a o _ e
theorem Ext1.reps {G : Gx} {α α' : List Addr} {H H' : Hp} (x : Ext1 α H α' H') {d : List D} {v : List V} (h : Reps G α H d v) : Reps G α' H' d v := h.mono (fun _ _ => x.sq) (pre_get x.pre) x.oth fun a o vs e => x.frzs a o _ e
def ItStep (G : Gx) (α : List Addr) (H : Hp) (J : It) (inv : Nat → IterD → Prop) : Prop := ∀ i it, inv i it → ∀ α' H' μ', Ext1 α H α' H' → StOk G α' H' μ' → match it.step μ' with
  | none => True
  | some none => J.stop i H'
  | some (some (d, it')) => J.go i H' ∧ inv (i + 1) it' ∧ ∀ x H'', J.yld i H' x H'' → Ext α' H' α' H'' ∧ StOk G α' H'' μ' ∧ Rep G α' H'' d x
def ItRel (G : Gx) (α : List Addr) (H : Hp) (it : IterD) (J : It) : Prop := ∃ inv, inv 0 it ∧ ItStep G α H J inv

/-! ### what is walked, what is locked for it -/
abbrev Src := IterD × Option Nat
def lkS (μ : Store) : Option Nat → Option Store
  | none => some μ
  | some n => match μ.get? n with
    | some (.fd kvs) => some (μ.set n (.lfd kvs))
    | some (.td kvs) => some (μ.set n (.ltd kvs))
    | _ => none
def ulS (μ : Store) : Option Nat → Option Store
  | none => some μ
  | some n => match μ.get? n with
    | some (.lfd kvs) => some (μ.set n (.fd kvs))
    | some (.ltd kvs) => some (μ.set n (.td kvs))
    | _ => none
def ulR (lk : Option Nat) (r : SRes) : SRes := match r with
  | .next ρ μ => match ulS μ lk with
    | some μ1 => .next ρ μ1
    | none => .bad
  | .brk ρ μ => match ulS μ lk with
    | some μ1 => .brk ρ μ1
    | none => .bad
  | .cont ρ μ => match ulS μ lk with
    | some μ1 => .cont ρ μ1
    | none => .bad
  | .ret d μ => match ulS μ lk with
    | some μ1 => .ret d μ1
    | none => .bad
  | r => r
def NoFz (X : Cx) (d : Addr) : Prop := ∀ o u, X.H_0 d ≠ some (.frz o u)
def RlS (X : Cx) (R : It → Hp → Prop) (α : List Addr) (H : Hp) (it : IterD) : Option Nat → Prop
  | none => ∀ J, ItRel (gx X) α H it J → R J H
  | some n => ∀ J d od u, α[n]? = some d → H d = some u → Mut (some u) → NoFz X d → ItRel (gx X) α (upd H d (.frz od u)) it J → R J (upd H d (.frz od u))
def GotI (X : Cx) (W : WX) (σ : L2.St) (α : List Addr) (H : Hp) (r : Res Src) (R : It → Hp → Prop) : Prop := match r with
  | .ok z μ => ∀ α' H', Ext α H α' H' → StOk (gx X) α' H' μ → RlS X R α' H' z.1 z.2
  | .exc n d μ => ∀ (cls : Value) (dx : Addr) (v : V) (α' : List Addr) (H' : Hp), Ext α H α' H' → StOk (gx X) α' H' μ → (gx X).mg n = some cls → H' dx = some (.xd [("value", v)]) → Rep (gx X) α' H' d v → W cls (some dx) σ H'
  | .bad => False
def tI (X : Cx) (W : WX) (ev : Ev Src) : TI := fun σ H R => ∃ ρ α μ, EnvOk (gx X) α H ρ σ ∧ StOk (gx X) α H μ ∧ GotI X W σ α H (ev ρ μ) R
section
variable {X : Cx} {W : WX} {σ : L2.St} {α α1 : List Addr} {H H1 : Hp} {R : It → Hp → Prop}
theorem GotI.ext {r : Res Src} (x : Ext α H α1 H1) (h : GotI X W σ α H r R) : GotI X W σ α1 H1 r R := by
  cases r with
  | ok b μ => exact fun α' H' y st => h α' H' (x.trans y) st
  | exc n d μ => exact fun cls dx v α' H' y => h cls dx v α' H' (x.trans y)
  | bad => exact h
theorem GotI.bind {β γ : Type} {Rl : List Addr → Hp → β → γ → Prop} {r : Res β} {k : β → Store → Res Src} {Q' : γ → Hp → Prop} (h : GotI X W σ α H (r.bind k) R)
    (m : ∀ b μ1 c α1 H1, Ext α H α1 H1 → StOk (gx X) α1 H1 μ1 → Rl α1 H1 b c → GotI X W σ α1 H1 (k b μ1) R → Q' c H1) : Got (gx X) W σ Rl α H r Q' := by
  cases r with
  | ok b μ => exact fun c α' H' y st q => m b μ c α' H' y st q (GotI.ext y h)
  | exc n d μ => exact h
  | bad => exact h
end
def srcO (o : Option Src) (μ : Store) : Res Src := match o with
  | some z => .ok z μ
  | none => .bad
def itOf (d : D) (μ : Store) : Option Src := match d with
  | .p (.tup ps) => some (.fix (ps.map .p), none)
  | .mix ds => some (.fix ds, none)
  | .p (.str s) => some (.fix (s.map fun c => .p (.str [c])), none)
  | .ref n => match μ.get? n with
    | some (.fl _) => some (.lst n 0, none)
    | some (.dl _) => some (.lst n 0, none)
    | some (.fd _) => some (.dkk n 0, some n)
    | some (.td _) => some (.dkt n 0, some n)
    | some (.lfd _) => some (.dkk n 0, none)
    | some (.ltd _) => some (.dkt n 0, none)
    | none => none
  | _ => none
def itAny (a : Ev D) : Ev Src := fun ρ μ => (a ρ μ).bind fun d μ1 => srcO (itOf d μ1) μ1
def itemsOf (d : D) (μ : Store) : Option Src := match d with
  | .ref n => match μ.get? n with
    | some (.fd _) => some (.dki n 0, some n)
    | some (.lfd _) => some (.dki n 0, none)
    | _ => none
  | _ => none
def itItems (a : Ev D) : Ev Src := fun ρ μ => (a ρ μ).bind fun d μ1 => srcO (itemsOf d μ1) μ1
def rangeD : Nat → Int → List D
  | 0, _ => []
  | n + 1, i => .p (.int i) :: rangeD n (i + 1)
def rangeC (c : Int) : Nat → Int → List D
  | 0, _ => []
  | n + 1, i => .p (.int i) :: rangeC c n (i + c)
def inI (i : Int) : Bool := decide (i.natAbs < 4611686018427387904)
def range1 : List D → Option Src
  | [.p (.int j)] => if inI j then some (.fix (rangeD j.toNat 0), none) else none
  | _ => none
def range2 : List D → Option Src
  | [.p (.int i), .p (.int j)] => if inI i && inI j then some (.fix (rangeD (j - i).toNat i), none) else none
  | _ => none
def range3 : List D → Option Src
  | [.p (.int i), .p (.int j), .p (.int c)] => if inI i && inI j && decide (c = -1) then some (.fix (rangeC c (i - j).toNat i), none) else none
  | _ => none
def itR (f : List D → Option Src) (a : Ev (List D)) : Ev Src := fun ρ μ => (a ρ μ).bind fun ds μ1 => srcO (f ds) μ1
def enumD : Nat → List D → List D
  | _, [] => []
  | i, d :: ds => mkT2 (.p (.int (.ofNat i))) d :: enumD (i + 1) ds
def signsD (s : List Nat) : List D := s.map fun c => .p (.str [c])
def enmOf (μ : Store) : List D → Option Src
  | [.ref n] => match rdL μ n with
    | some _ => some (.enm n 0, none)
    | none => none
  | [.p (.str s)] => some (.fix (enumD 0 (signsD s)), none)
  | [d] => match itemsT d with
    | some ds => some (.fix (enumD 0 ds), none)
    | none => none
  | _ => none
def itEnm (a : Ev (List D)) : Ev Src := fun ρ μ => (a ρ μ).bind fun ds μ1 => srcO (enmOf μ1 ds) μ1
def zip2 : List D → List D → List D
  | x :: xs, y :: ys => mkT2 x y :: zip2 xs ys
  | _, _ => []
def zipOf (μ : Store) : List D → Option Src
  | [.ref m, .ref n] => match rdL μ m, rdL μ n with
    | some _, some _ => some (.zp m n 0, none)
    | _, _ => none
  | [x, y] => match itemsT x, itemsT y with
    | some xs, some ys => some (.fix (zip2 xs ys), none)
    | _, _ => none
  | _ => none
def itZip (a : Ev (List D)) : Ev Src := fun ρ μ => (a ρ μ).bind fun ds μ1 => srcO (zipOf μ1 ds) μ1
def loopF (g : Tg) (body orelse : Sv) : Nat → IterD → Env → Store → SRes
  | 0, _, _, _ => .bad
  | n + 1, it, ρ, μ => match it.step μ with
    | none => .bad
    | some none => orelse ρ μ
    | some (some (d, it')) => sThen (g d ρ μ) fun ρ1 μ1 => match body ρ1 μ1 with
      | .next ρ2 μ2 => loopF g body orelse n it' ρ2 μ2
      | .cont ρ2 μ2 => loopF g body orelse n it' ρ2 μ2
      | .brk ρ2 μ2 => .next ρ2 μ2
      | r => r
def sFor (it : Ev Src) (g : Tg) (body : Sv) : Sv := fun ρ μ => sOf (it ρ μ) ρ fun z μ1 => match lkS μ1 z.2 with
  | some μ2 => ulR z.2 (loopF g body sSkip (z.1.cnt μ2) z.1 ρ μ2)
  | none => .bad

/-! ### lists that are read -/
theorem rdL_of {G : Gx} {α : List Addr} {H : Hp} {μ : Store} {n : Nat} {a : Addr} {ds : List D} (st : StOk G α H μ) (ha : α[n]? = some a) (h : rdL μ n = some ds) : ∃ vs, SqL G.K H a vs ∧ Reps G α H ds vs := by
  unfold rdL at h
  try rw [nth_eq] at h
  split at h
  · rename_i ps q
    cases h
    obtain ⟨vs, h1, h2⟩ := st.cel n _ a q ha
    exact ⟨vs, .inl (.inl h1), h2.toD⟩
  · rename_i ds q
    cases h
    obtain ⟨vs, h1, h2⟩ := st.cel n _ a q ha
    exact ⟨vs, .inl (.inl h1), h2⟩
  · cases h
theorem Reps.getR {G : Gx} {α : List Addr} {H : Hp} : ∀ {ps : List D} {vs : List V} {i : Nat} {v : V}, Reps G α H ps vs → vs[i]? = some v → ∃ x, ps[i]? = some x ∧ Rep G α H x v
  | _, _, _, _, .nil, e => by simp at e
  | _, _, 0, _, .cons r _, e => by simp at e; subst e; exact ⟨_, rfl, r⟩
  | _, _, i + 1, _, .cons _ t, e => Reps.getR (i := i) t (by simpa using e)
theorem Reps.none {G : Gx} {α : List Addr} {H : Hp} {ps : List D} {vs : List V} {i : Nat} (r : Reps G α H ps vs) (e : ps[i]? = Option.none) : vs.length ≤ i := by
  rw [r.length]
  exact List.getElem?_eq_none_iff.mp e
theorem it_lst {G : Gx} {α : List Addr} {H : Hp} {n : Nat} {a : Addr} (ha : α[n]? = some a) : ItRel G α H (.lst n 0) (Itl G.K a) := by
  refine ⟨fun i it => it = .lst n i, rfl, ?_⟩
  rintro i it rfl α' H' μ' x st
  have ha' := pre_get x.pre n a ha
  cases h : rdL μ' n with
  | none => simp only [IterD.step, h]
  | some xs =>
    obtain ⟨vs, h1, h2⟩ := rdL_of st ha' h
    simp only [IterD.step, h, nth_eq]
    cases hx : xs[i]? with
    | none => exact ⟨vs, h1, h2.none hx⟩
    | some d =>
      obtain ⟨v, h3, h4⟩ := h2.get hx
      refine ⟨⟨vs, v, h1, h3⟩, rfl, ?_⟩
      rintro y H'' ⟨rfl, y2⟩
      have h5 := y2 vs h1
      rw [h3] at h5
      cases h5
      exact ⟨Ext.refl _ _, st, h4⟩
theorem drop_cases {β : Type} (l : List β) (i : Nat) : (l.drop i = [] ∧ l.length ≤ i) ∨ ∃ x, l.drop i = x :: l.drop (i + 1) ∧ l[i]? = some x := by
  by_cases h : i < l.length
  · exact .inr ⟨l[i], List.drop_eq_getElem_cons h, List.getElem?_eq_getElem h⟩
  · exact .inl ⟨List.drop_eq_nil_of_le (by omega), by omega⟩
theorem it_fix {G : Gx} {α : List Addr} {H : Hp} {ds : List D} {J : It} (hs : ∀ i α' H' μ', Ext1 α H α' H' → StOk G α' H' μ' → ds.length ≤ i → J.stop i H')
    (hg : ∀ i d α' H' μ', Ext1 α H α' H' → StOk G α' H' μ' → ds[i]? = some d → J.go i H' ∧ ∀ x H'', J.yld i H' x H'' → Ext α' H' α' H'' ∧ StOk G α' H'' μ' ∧ Rep G α' H'' d x) : ItRel G α H (.fix ds) J := by
  refine ⟨fun i it => it = .fix (ds.drop i), rfl, ?_⟩
  rintro i it rfl α' H' μ' x st
  rcases drop_cases ds i with ⟨h1, h2⟩ | ⟨d, h1, h2⟩
  · rw [h1]
    exact hs i α' H' μ' x st h2
  · rw [h1]
    obtain ⟨h3, h4⟩ := hg i d α' H' μ' x st h2
    exact ⟨h3, rfl, h4⟩
theorem it_tup {G : Gx} {α : List Addr} {H : Hp} {a : Addr} {ds : List D} {vs : List V} (h1 : SqT G.K H a vs) (h2 : Reps G α H ds vs) : ItRel G α H (.fix ds) (Itt G.K a) := by
  refine it_fix (fun i α' H' μ' x st hl => ⟨vs, x.sq h1, by rw [h2.length]; exact hl⟩) fun i d α' H' μ' x st hd => ?_
  obtain ⟨v, h3, h4⟩ := h2.get hd
  refine ⟨⟨vs, v, x.sq h1, h3⟩, ?_⟩
  rintro y H'' ⟨rfl, y2⟩
  have h5 := y2 vs (x.sq h1)
  rw [h3] at h5
  cases h5
  exact ⟨Ext.refl _ _, st, x.rep h4⟩
theorem it_str {G : Gx} {α : List Addr} {H : Hp} {s : List Nat} : ItRel G α H (.fix (s.map fun c => .p (.str [c]))) (Its (stS s)) := by
  refine it_fix (fun i α' H' μ' x st hl => ?_) fun i d α' H' μ' x st hd => ?_
  · show (stS s).cps.size ≤ i
    simpa [stS] using hl
  · rw [List.getElem?_map] at hd
    cases hc : s[i]? with
    | none => rw [hc] at hd; cases hd
    | some c =>
      rw [hc] at hd
      cases hd
      have hi : i < s.length := (List.getElem?_eq_some_iff.mp hc).1
      refine ⟨?_, ?_⟩
      · show i < (stS s).cps.size
        simpa [stS] using hi
      · rintro y H'' ⟨rfl, c', h1, rfl⟩
        have h2 : (stS s).cps[i]? = s[i]? := by simp [stS]
        rw [h2, hc] at h1
        cases h1
        exact ⟨Ext.refl _ _, st, .p (.str _)⟩
theorem rangeD_len : ∀ (n : Nat) (i : Int), (rangeD n i).length = n
  | 0, _ => rfl
  | n + 1, i => congrArg Nat.succ (rangeD_len n (i + 1))
theorem rangeD_get : ∀ (n : Nat) (lo : Int) (i : Nat) (d : D), (rangeD n lo)[i]? = some d → d = .p (.int (lo + (i : Nat)))
  | 0, _, _, _, h => by simp [rangeD] at h
  | n + 1, lo, 0, d, h => by
    simp [rangeD] at h
    rw [← h]
    simp
  | n + 1, lo, i + 1, d, h => by
    simp [rangeD] at h
    rw [rangeD_get n (lo + 1) i d h]
    congr 2
    omega
theorem it_range {G : Gx} {α : List Addr} {H : Hp} {n : Nat} {lo : Int} : ItRel G α H (.fix (rangeD n lo)) (Itr lo n) := by
  refine it_fix (fun i α' H' μ' x st hl => by rw [rangeD_len] at hl; exact hl) fun i d α' H' μ' x st hd => ⟨?_, ?_⟩
  · have := (List.getElem?_eq_some_iff.mp hd).1
    rw [rangeD_len] at this
    exact this
  · rintro y H'' ⟨rfl, rfl⟩
    rw [rangeD_get _ _ _ _ hd]
    exact ⟨Ext.refl _ _, st, .p (.int _)⟩
theorem rangeC_len (c : Int) : ∀ (n : Nat) (i : Int), (rangeC c n i).length = n
  | 0, _ => rfl
  | n + 1, i => congrArg Nat.succ (rangeC_len c n (i + c))
theorem rangeC_get (c : Int) : ∀ (n : Nat) (lo : Int) (i : Nat) (d : D), (rangeC c n lo)[i]? = some d → d = .p (.int (lo + (i : Nat) * c))
  | 0, _, _, _, h => by simp [rangeC] at h
  | n + 1, lo, 0, d, h => by
    simp [rangeC] at h
    rw [← h]
    simp
  | n + 1, lo, i + 1, d, h => by
    simp [rangeC] at h
    rw [rangeC_get c n (lo + c) i d h]
    congr 2
    rw [Int.natCast_add, Int.add_mul]
    omega
theorem it_rangeC {G : Gx} {α : List Addr} {H : Hp} {n : Nat} {lo c : Int} : ItRel G α H (.fix (rangeC c n lo)) (Itc lo c n) := by
  refine it_fix (fun i α' H' μ' x st hl => by rw [rangeC_len] at hl; exact hl) fun i d α' H' μ' x st hd => ⟨?_, ?_⟩
  · have := (List.getElem?_eq_some_iff.mp hd).1
    rw [rangeC_len] at this
    exact this
  · rintro y H'' ⟨rfl, rfl⟩
    rw [rangeC_get c _ _ _ _ hd]
    exact ⟨Ext.refl _ _, st, .p (.int _)⟩
theorem mkT2_rep {G : Gx} {α : List Addr} {H : Hp} {μ : Store} {d e : D} {v w : V} {T : Addr} (st : StOk G α H μ) (hT : H T = none) (r1 : Rep G α H d v) (r2 : Rep G α H e w) :
    Ext α H α (upd H T (.tup [v, w])) ∧ StOk G α (upd H T (.tup [v, w])) μ ∧ Rep G α (upd H T (.tup [v, w])) (mkT2 d e) (.ref T) := by
  refine ⟨Ext.fresh hT, st.fresh hT, ?_⟩
  have hs : SqT G.K (upd H T (.tup [v, w])) T [v, w] := .inl (.inl upd_same)
  have q1 := st.rep (Ext.fresh (o := .tup [v, w]) hT) r1
  have q2 := st.rep (Ext.fresh (o := .tup [v, w]) hT) r2
  have gen : Rep G α (upd H T (.tup [v, w])) (.mix [d, e]) (.ref T) := .mix hs (.cons q1 (.cons q2 .nil))
  cases d with
  | p x => cases e with
    | p y => cases q1 with
      | p q1 => cases q2 with
        | p q2 => exact .p (.tup hs (.cons q1 (.cons q2 .nil)))
    | ref m => exact gen
    | mix ds => exact gen
    | exc c d => exact gen
    | rol ps => exact gen
  | ref m => exact gen
  | mix ds => exact gen
  | exc c d => exact gen
  | rol ps => exact gen
theorem it_enm {G : Gx} {α : List Addr} {H : Hp} {n : Nat} {a : Addr} (ha : α[n]? = some a) : ItRel G α H (.enm n 0) (Ite G.K a) := by
  refine ⟨fun i it => it = .enm n i, rfl, ?_⟩
  rintro i it rfl α' H' μ' x st
  have ha' := pre_get x.pre n a ha
  cases h : rdL μ' n with
  | none => simp only [IterD.step, h]
  | some xs =>
    obtain ⟨vs, h1, h2⟩ := rdL_of st ha' h
    simp only [IterD.step, h, nth_eq]
    cases hx : xs[i]? with
    | none => exact ⟨vs, h1, h2.none hx⟩
    | some d =>
      obtain ⟨v, h3, h4⟩ := h2.get hx
      refine ⟨⟨vs, v, h1, h3⟩, rfl, ?_⟩
      rintro y H'' ⟨T, w, rfl, hT, rfl, y2⟩
      have h5 := y2 vs h1
      rw [h3] at h5
      cases h5
      exact mkT2_rep st hT (.p (.int _)) h4
theorem it_zp {G : Gx} {α : List Addr} {H : Hp} {m n : Nat} {a b : Addr} (ha : α[m]? = some a) (hb : α[n]? = some b) : ItRel G α H (.zp m n 0) (Itz G.K a b) := by
  refine ⟨fun i it => it = .zp m n i, rfl, ?_⟩
  rintro i it rfl α' H' μ' x st
  have ha' := pre_get x.pre m a ha
  have hb' := pre_get x.pre n b hb
  cases h : rdL μ' m with
  | none => simp only [IterD.step, h]
  | some xs =>
    cases h' : rdL μ' n with
    | none => simp only [IterD.step, h, h']
    | some ys =>
      obtain ⟨vs, h1, h2⟩ := rdL_of st ha' h
      obtain ⟨ws, h1', h2'⟩ := rdL_of st hb' h'
      simp only [IterD.step, h, h', nth_eq]
      cases hx : xs[i]? with
      | none => exact ⟨vs, ws, h1, h1', .inl (h2.none hx)⟩
      | some d =>
        cases hy : ys[i]? with
        | none => exact ⟨vs, ws, h1, h1', .inr (h2'.none hy)⟩
        | some e =>
          obtain ⟨v, h3, h4⟩ := h2.get hx
          obtain ⟨w, h3', h4'⟩ := h2'.get hy
          refine ⟨⟨vs, ws, v, w, h1, h1', h3, h3'⟩, rfl, ?_⟩
          rintro y H'' ⟨T, v', w', rfl, hT, rfl, y2, y3⟩
          have h5 := y2 vs h1
          rw [h3] at h5
          cases h5
          have h6 := y3 ws h1'
          rw [h3'] at h6
          cases h6
          exact mkT2_rep st hT h4 h4'
theorem zip2_len : ∀ (xs ys : List D), (zip2 xs ys).length = min xs.length ys.length
  | [], _ => by simp [zip2]
  | _ :: _, [] => by simp [zip2]
  | x :: xs, y :: ys => by
    show (zip2 xs ys).length + 1 = _
    rw [zip2_len xs ys]
    simp
theorem zip2_get : ∀ (xs ys : List D) (i : Nat) (d : D), (zip2 xs ys)[i]? = some d → ∃ x y, xs[i]? = some x ∧ ys[i]? = some y ∧ d = mkT2 x y
  | [], _, _, _, h => by simp [zip2] at h
  | _ :: _, [], _, _, h => by simp [zip2] at h
  | x :: xs, y :: ys, 0, d, h => by
    simp [zip2] at h
    exact ⟨x, y, rfl, rfl, h.symm⟩
  | x :: xs, y :: ys, i + 1, d, h => by
    simp [zip2] at h
    obtain ⟨a, b, h1, h2, h3⟩ := zip2_get xs ys i d h
    exact ⟨a, b, by simpa using h1, by simpa using h2, h3⟩
theorem it_fix2 {G : Gx} {α : List Addr} {H : Hp} {ds : List D} {J : It} (hs : ∀ α' H' μ', Ext1 α H α' H' → StOk G α' H' μ' → J.stop ds.length H')
    (hg : ∀ i d α' H' μ', Ext1 α H α' H' → StOk G α' H' μ' → ds[i]? = some d → J.go i H' ∧ ∀ x H'', J.yld i H' x H'' → Ext α' H' α' H'' ∧ StOk G α' H'' μ' ∧ Rep G α' H'' d x) : ItRel G α H (.fix ds) J := by
  refine ⟨fun i it => it = .fix (ds.drop i) ∧ i ≤ ds.length, ⟨rfl, Nat.zero_le _⟩, ?_⟩
  rintro i it ⟨rfl, hi⟩ α' H' μ' x st
  rcases drop_cases ds i with ⟨h1, h2⟩ | ⟨d, h1, h2⟩
  · rw [h1]
    have e : i = ds.length := Nat.le_antisymm hi h2
    rw [e]
    exact hs α' H' μ' x st
  · rw [h1]
    obtain ⟨h3, h4⟩ := hg i d α' H' μ' x st h2
    exact ⟨h3, ⟨rfl, (List.getElem?_eq_some_iff.mp h2).1⟩, h4⟩
theorem enumD_len : ∀ (i : Nat) (ds : List D), (enumD i ds).length = ds.length
  | _, [] => rfl
  | i, d :: ds => congrArg Nat.succ (enumD_len (i + 1) ds)
theorem enumD_get : ∀ (j : Nat) (ds : List D) (i : Nat) (d : D), (enumD j ds)[i]? = some d → ∃ x, ds[i]? = some x ∧ d = mkT2 (.p (.int ((j + i : Nat) : Int))) x
  | _, [], _, _, h => by simp [enumD] at h
  | j, y :: ds, 0, d, h => by
    simp [enumD] at h
    exact ⟨y, rfl, h.symm⟩
  | j, y :: ds, i + 1, d, h => by
    have h' : (enumD (j + 1) ds)[i]? = some d := by simpa [enumD] using h
    obtain ⟨x, h1, h2⟩ := enumD_get (j + 1) ds i d h'
    refine ⟨x, by simpa using h1, ?_⟩
    rw [h2]
    have e : j + 1 + i = j + (i + 1) := by omega
    rw [e]
theorem it_enmT {G : Gx} {α : List Addr} {H : Hp} {a : Addr} {xs : List D} {vs : List V} (h1 : SqT G.K H a vs) (h2 : Reps G α H xs vs) : ItRel G α H (.fix (enumD 0 xs)) (ShX.Itet G.K a) := by
  refine it_fix2 (fun α' H' μ' x st => ⟨vs, x.sq h1, ?_⟩) fun i d α' H' μ' x st hd => ?_
  · rw [enumD_len, h2.length]
  · obtain ⟨d1, e1, rfl⟩ := enumD_get _ _ _ _ hd
    obtain ⟨v, h3, h4⟩ := h2.get e1
    refine ⟨⟨vs, v, x.sq h1, h3⟩, ?_⟩
    rintro y H'' ⟨T, v', rfl, hT, rfl, y2⟩
    have h5 := y2 vs (x.sq h1)
    rw [h3] at h5
    cases h5
    rw [Nat.zero_add]
    exact mkT2_rep st hT (.p (.int _)) (x.rep h4)
theorem it_enmS {G : Gx} {α : List Addr} {H : Hp} {s : List Nat} : ItRel G α H (.fix (enumD 0 (signsD s))) (ShX.Ites (stS s)) := by
  refine it_fix2 (fun α' H' μ' x st => ?_) fun i d α' H' μ' x st hd => ?_
  · show (stS s).cps.size = _
    rw [enumD_len]
    simp [signsD, stS]
  · obtain ⟨d1, e1, rfl⟩ := enumD_get _ _ _ _ hd
    unfold signsD at e1
    rw [List.getElem?_map] at e1
    cases hc : s[i]? with
    | none => rw [hc] at e1; cases e1
    | some c =>
      rw [hc] at e1
      cases e1
      have hi : i < s.length := (List.getElem?_eq_some_iff.mp hc).1
      refine ⟨?_, ?_⟩
      · show i < (stS s).cps.size
        simpa [stS] using hi
      · rintro y H'' ⟨T, v', rfl, hT, rfl, c', h1, rfl⟩
        have h2 : (stS s).cps[i]? = s[i]? := by simp [stS]
        rw [h2, hc] at h1
        cases h1
        rw [Nat.zero_add]
        exact mkT2_rep st hT (.p (.int _)) (.p (.str _))
theorem it_zpT {G : Gx} {α : List Addr} {H : Hp} {a b : Addr} {xs ys : List D} {vs ws : List V} (h1 : SqT G.K H a vs) (h2 : Reps G α H xs vs) (h1' : SqT G.K H b ws) (h2' : Reps G α H ys ws) : ItRel G α H (.fix (zip2 xs ys)) (RZ.ItzT G.K a b) := by
  refine it_fix (fun i α' H' μ' x st hl => ⟨vs, ws, x.sq h1, x.sq h1', ?_⟩) fun i d α' H' μ' x st hd => ?_
  · rw [zip2_len] at hl
    rw [h2.length, h2'.length]
    omega
  · obtain ⟨d1, d2, e1, e2, rfl⟩ := zip2_get _ _ _ _ hd
    obtain ⟨v, h3, h4⟩ := h2.get e1
    obtain ⟨w, h3', h4'⟩ := h2'.get e2
    refine ⟨⟨vs, ws, v, w, x.sq h1, x.sq h1', h3, h3'⟩, ?_⟩
    rintro y H'' ⟨T, v', w', rfl, hT, rfl, y2, y3⟩
    have h5 := y2 vs (x.sq h1)
    rw [h3] at h5
    cases h5
    have h6 := y3 ws (x.sq h1')
    rw [h3'] at h6
    cases h6
    exact mkT2_rep st hT (x.rep h4) (x.rep h4')
/-! dicts -/
theorem Paired.get {β γ : Type} {F : β → γ → Prop} : ∀ {l : List β} {l' : List γ} {i : Nat} {x : β}, Paired F l l' → l[i]? = some x → ∃ y, l'[i]? = some y ∧ F x y
  | _, _, _, _, .nil, e => by simp at e
  | _, _, 0, _, .cons r _, e => by simp at e; subst e; exact ⟨_, rfl, r⟩
  | _, _, i + 1, _, .cons _ t, e => by
    obtain ⟨y, h1, h2⟩ := Paired.get (i := i) t (by simpa using e)
    exact ⟨y, by simpa using h1, h2⟩
theorem Paired.len {β γ : Type} {F : β → γ → Prop} : ∀ {l : List β} {l' : List γ}, Paired F l l' → l'.length = l.length
  | _, _, .nil => rfl
  | _, _, .cons _ t => congrArg Nat.succ (Paired.len t)
theorem key_rep {K : PySem.W.Frag} {H : Hp} {x : P} {k : Key} (h : keyOf x = some k) : RepP K H x (kV k) := by
  unfold keyOf at h
  split at h
  · cases h; exact .int _
  · cases h; exact .str _
  · cases h
theorem keys_rep {K : PySem.W.Frag} {H : Hp} : ∀ {xs : List P} {ks : List Key}, keysOf xs = some ks → RepPs K H xs (ks.map kV)
  | [], _, h => by cases h; exact .nil
  | x :: r, ks, h => by
    unfold keysOf at h
    split at h
    · rename_i k ks' h1 h2
      cases h
      exact .cons (key_rep h1) (keys_rep h2)
    · cases h
theorem lfd_of {G : Gx} {α : List Addr} {H : Hp} {μ : Store} {n : Nat} {a : Addr} {od : Obj} {ks : List (Key × V)} {kvs : List (P × P)} (st : StOk G α H μ) (ha : α[n]? = some a) (hH : H a = some (.frz od (.dK ks))) (h : μ.get? n = some (.lfd kvs)) :
    KRep keyOf G.K H kvs ks := by
  try rw [nth_eq] at h
  obtain ⟨od', ks', h1, h2⟩ := st.cel n _ a h ha
  rw [hH] at h1
  cases h1
  exact h2
theorem ltd_of {G : Gx} {α : List Addr} {H : Hp} {μ : Store} {n : Nat} {a : Addr} {od : Obj} {ks : List (List Key × V)} {kvs : List (P × P)} (st : StOk G α H μ) (ha : α[n]? = some a) (hH : H a = some (.frz od (.dT ks))) (h : μ.get? n = some (.ltd kvs)) :
    KRep tkeyOf G.K H kvs ks := by
  try rw [nth_eq] at h
  obtain ⟨od', ks', h1, h2⟩ := st.cel n _ a h ha
  rw [hH] at h1
  cases h1
  exact h2
theorem it_dki {G : Gx} {α : List Addr} {H : Hp} {n : Nat} {a : Addr} {od : Obj} {ks : List (Key × V)} (ha : α[n]? = some a) (hH : H a = some (.frz od (.dK ks))) : ItRel G α H (.dki n 0) (Iti a od ks) := by
  refine ⟨fun i it => it = .dki n i, rfl, ?_⟩
  rintro i it rfl α' H' μ' x st
  have ha' := pre_get x.pre n a ha
  have hH' := x.frzs a od _ hH
  simp only [IterD.step]
  split
  · trivial
  · rename_i q
    split at q
    · rename_i kvs hn
      have kr := lfd_of st ha' hH' hn
      split at q
      · cases q
      · rename_i hx
        try rw [nth_eq] at hx
        refine ⟨hH', ?_⟩
        rw [Paired.len kr]
        exact List.getElem?_eq_none_iff.mp hx
    · cases q
  · rename_i d it' q
    split at q
    · rename_i kvs hn
      have kr := lfd_of st ha' hH' hn
      split at q
      · rename_i kv hx
        cases q
        try rw [nth_eq] at hx
        obtain ⟨⟨k, v⟩, h1, h2, h3⟩ := Paired.get kr hx
        refine ⟨⟨hH', (List.getElem?_eq_some_iff.mp h1).1⟩, rfl, ?_⟩
        rintro y H'' ⟨T, k', v', h4, rfl, hT, rfl⟩
        rw [h1] at h4
        cases h4
        exact mkT2_rep (d := .p kv.1) (e := .p kv.2) st hT (.p (key_rep h2)) (.p h3)
      · cases q
    · cases q
theorem it_dkk {G : Gx} {α : List Addr} {H : Hp} {n : Nat} {a : Addr} {od : Obj} {ks : List (Key × V)} (ha : α[n]? = some a) (hH : H a = some (.frz od (.dK ks))) : ItRel G α H (.dkk n 0) (Itk a od ks) := by
  refine ⟨fun i it => it = .dkk n i, rfl, ?_⟩
  rintro i it rfl α' H' μ' x st
  have ha' := pre_get x.pre n a ha
  have hH' := x.frzs a od _ hH
  simp only [IterD.step]
  split
  · trivial
  · rename_i q
    split at q
    · rename_i kvs hn
      have kr := lfd_of st ha' hH' hn
      split at q
      · cases q
      · rename_i hx
        try rw [nth_eq] at hx
        refine ⟨hH', ?_⟩
        rw [Paired.len kr]
        exact List.getElem?_eq_none_iff.mp hx
    · cases q
  · rename_i d it' q
    split at q
    · rename_i kvs hn
      have kr := lfd_of st ha' hH' hn
      split at q
      · rename_i kv hx
        cases q
        try rw [nth_eq] at hx
        obtain ⟨⟨k, v⟩, h1, h2, h3⟩ := Paired.get kr hx
        refine ⟨⟨hH', (List.getElem?_eq_some_iff.mp h1).1⟩, rfl, ?_⟩
        rintro y H'' ⟨rfl, k', v', h4, rfl⟩
        rw [h1] at h4
        cases h4
        exact ⟨Ext.refl _ _, st, .p (key_rep h2)⟩
      · cases q
    · cases q
theorem it_dkt {G : Gx} {α : List Addr} {H : Hp} {n : Nat} {a : Addr} {od : Obj} {ks : List (List Key × V)} (ha : α[n]? = some a) (hH : H a = some (.frz od (.dT ks))) : ItRel G α H (.dkt n 0) (Itkt a od ks) := by
  refine ⟨fun i it => it = .dkt n i, rfl, ?_⟩
  rintro i it rfl α' H' μ' x st
  have ha' := pre_get x.pre n a ha
  have hH' := x.frzs a od _ hH
  simp only [IterD.step]
  split
  · trivial
  · rename_i q
    split at q
    · rename_i kvs hn
      have kr := ltd_of st ha' hH' hn
      split at q
      · cases q
      · rename_i hx
        try rw [nth_eq] at hx
        refine ⟨hH', ?_⟩
        rw [Paired.len kr]
        exact List.getElem?_eq_none_iff.mp hx
    · cases q
  · rename_i d it' q
    split at q
    · rename_i kvs hn
      have kr := ltd_of st ha' hH' hn
      split at q
      · rename_i kv hx
        cases q
        try rw [nth_eq] at hx
        obtain ⟨⟨k, v⟩, h1, h2, h3⟩ := Paired.get kr hx
        refine ⟨⟨hH', (List.getElem?_eq_some_iff.mp h1).1⟩, rfl, ?_⟩
        rintro y H'' ⟨rfl, k', v', q', h4, rfl, h5⟩
        rw [h1] at h4
        cases h4
        refine ⟨Ext.refl _ _, st, .p ?_⟩
        have h6 : tkeyOf kv.1 = some k := h2
        unfold tkeyOf at h6
        split at h6
        · rename_i ps he
          rw [he]
          exact .tup (.inl (.inl h5)) (keys_rep h6)
        · cases h6
      · cases q
    · cases q
end Sh
set_option maxRecDepth 100000
set_option maxHeartbeats 4000000
/-! Sh: iterators, for, comprehensions. -/
namespace Sh
open PySem PySem.Spec PyProof.Rows L2

/-! ### locks -/
section
variable {G : Gx} {α α1 : List Addr} {H H1 : Hp} {μ μ2 : Store} {n : Nat}
theorem lock_ok (st : StOk G α H μ) (h : lkS μ (some n) = some μ2) : ∃ d u, α[n]? = some d ∧ H d = some u ∧ Mut (some u) ∧ (∀ o q, u ≠ .frz o q) ∧ ∀ od, StOk G α (upd H d (.frz od u)) μ2 := by
  simp only [lkS, nth_eq] at h
  have at_ : ∀ c, μ.get? n = some c → ∃ d, α[n]? = some d := fun c e => by
    have hn := Store.lt_of e
    rw [← st.len] at hn
    exact ⟨_, List.getElem?_eq_getElem hn⟩
  split at h
  · rename_i kvs e
    cases h
    obtain ⟨d, hd⟩ := at_ _ e
    obtain ⟨ks, h1, h2⟩ := st.cel n _ d e hd
    refine ⟨d, _, hd, h1, trivial, (by intro o q z; cases z), fun od => ?_⟩
    try rw [put_eq]
    exact st.write hd ⟨od, ks, upd_same, Paired.mapP h2 fun p q z => ⟨z.1, st.repP0 (Ext0.write st (List.mem_of_getElem? hd)) z.2⟩⟩
  · rename_i kvs e
    cases h
    obtain ⟨d, hd⟩ := at_ _ e
    obtain ⟨ks, h1, h2⟩ := st.cel n _ d e hd
    refine ⟨d, _, hd, h1, trivial, (by intro o q z; cases z), fun od => ?_⟩
    try rw [put_eq]
    exact st.write hd ⟨od, ks, upd_same, Paired.mapP h2 fun p q z => ⟨z.1, st.repP0 (Ext0.write st (List.mem_of_getElem? hd)) z.2⟩⟩
  · cases h
theorem unlock_ok (st : StOk G α H μ) (h : ulS μ (some n) = some μ2) : ∃ d od u, α[n]? = some d ∧ H d = some (.frz od u) ∧ StOk G α (upd H d u) μ2 := by
  simp only [ulS, nth_eq] at h
  have at_ : ∀ c, μ.get? n = some c → ∃ d, α[n]? = some d := fun c e => by
    have hn := Store.lt_of e
    rw [← st.len] at hn
    exact ⟨_, List.getElem?_eq_getElem hn⟩
  split at h
  · rename_i kvs e
    cases h
    obtain ⟨d, hd⟩ := at_ _ e
    obtain ⟨od, ks, h1, h2⟩ := st.cel n _ d e hd
    refine ⟨d, od, _, hd, h1, ?_⟩
    try rw [put_eq]
    exact st.write hd ⟨ks, upd_same, Paired.mapP h2 fun p q z => ⟨z.1, st.repP0 (Ext0.write st (List.mem_of_getElem? hd)) z.2⟩⟩
  · rename_i kvs e
    cases h
    obtain ⟨d, hd⟩ := at_ _ e
    obtain ⟨od, ks, h1, h2⟩ := st.cel n _ d e hd
    refine ⟨d, od, _, hd, h1, ?_⟩
    try rw [put_eq]
    exact st.write hd ⟨ks, upd_same, Paired.mapP h2 fun p q z => ⟨z.1, st.repP0 (Ext0.write st (List.mem_of_getElem? hd)) z.2⟩⟩
  · cases h
/-- what lies between a lock and its end -/
theorem Ext.between {d : Addr} {od : Obj} {u u' : HO} (hd : d ∈ α) (h : H d = some u) (nf : ∀ o q, u ≠ .frz o q) (x : Ext α (upd H d (.frz od u)) α1 H1) : Ext α H α1 (upd H1 d u') := by
  have ne : ∀ b, b ∉ α → b ≠ d := fun b n z => n (by rw [z]; exact hd)
  have fz : ∀ b o q, H b = some (.frz o q) → upd H1 d u' b = some (.frz o q) := fun b o q e => by
    have hb : b ≠ d := fun z => by
      subst z
      rw [h] at e
      cases e
      exact nf o q rfl
    rw [upd_ne hb]
    exact x.frzs b o q (by rw [upd_ne hb]; exact e)
  refine ⟨⟨x.pre, fun b o n e t => ?_, fun b ps n e => ?_, fun b m n => ?_, fun b o vs e => fz b o _ e⟩, fz⟩
  · rw [upd_ne (ne b n)]
    exact x.keep b o n (by rw [upd_ne (ne b n)]; exact e) t
  · rw [upd_ne (ne b n)]
    exact x.tbls b ps n (by rw [upd_ne (ne b n)]; exact e)
  · have e := x.new b m n
    rw [upd_ne (ne b n)] at e
    exact e
end
/-- a loop's end may unlock -/
def unQ (X : Cx) (Q : VK) : VK := fun v H => Q v H ∨ ∃ d od u, H d = some (.frz od u) ∧ NoFz X d ∧ Q v (upd H d u)
def unS (X : Cx) (Q : L2.St → Hp → Prop) : L2.St → Hp → Prop := fun σ H => Q σ H ∨ ∃ d od u, H d = some (.frz od u) ∧ NoFz X d ∧ Q σ (upd H d u)
theorem pe_unl {X : Cx} {e : Expr} {t : TE} (h : PE X e t) : PE X e (fun σ H Q => t σ H (unQ X Q)) := by
  refine ⟨fun pins s σ H Q I hw => thn (h.run pins s σ H _ I hw) fun u s1 ⟨x, H1, I1, r, q⟩ => ?_⟩
  rcases q with q | ⟨d, od, w, e, n, q⟩
  · exact ⟨x, H1, I1, r, q⟩
  · exact ⟨x, _, I1.unlock e n, r, q⟩
theorem ps_unl {X : Cx} {st : Stmt} {t : TS} (h : PS X st t) : PS X st (fun Z σ H => t ⟨unS X Z.nx, unQ X Z.rt, unS X Z.bk, unS X Z.ct⟩ σ H) := by
  refine ⟨fun pins s σ H Z I hw => thn (h.run pins s σ H _ I hw) fun f s1 q => ?_⟩
  cases f with
  | next =>
    obtain ⟨σ', H', I2, q | ⟨d, od, w, e, n, q⟩⟩ := q
    · exact ⟨σ', H', I2, q⟩
    · exact ⟨σ', _, I2.unlock e n, q⟩
  | brk =>
    obtain ⟨σ', H', I2, q | ⟨d, od, w, e, n, q⟩⟩ := q
    · exact ⟨σ', H', I2, q⟩
    · exact ⟨σ', _, I2.unlock e n, q⟩
  | cont =>
    obtain ⟨σ', H', I2, q | ⟨d, od, w, e, n, q⟩⟩ := q
    · exact ⟨σ', H', I2, q⟩
    · exact ⟨σ', _, I2.unlock e n, q⟩
  | ret v =>
    obtain ⟨x, σ', H', I2, r, q | ⟨d, od, w, e, n, q⟩⟩ := q
    · exact ⟨x, σ', H', I2, r, q⟩
    · exact ⟨x, σ', _, I2.unlock e n, r, q⟩
/-- a value, then perhaps a lock on it -/
theorem pe_lk {X : Cx} {e : Expr} {t : TE} (h : PE X e t) : PE X e (fun σ H Q => t σ H fun x H1 => Q x H1 ∨ ∃ d u, H1 d = some u ∧ Mut (some u) ∧ ∀ od, NoFz X d → Q x (upd H1 d (.frz od u))) := by
  refine ⟨fun pins s σ H Q I hw => thn (h.run pins s σ H _ I hw) fun v s1 ⟨x, H1, I1, r, q⟩ => ?_⟩
  rcases q with q | ⟨d, u, e, m, q⟩
  · exact ⟨x, H1, I1, r, q⟩
  · obtain ⟨od, I2⟩ := I1.lock e m
    exact ⟨x, _, I2, r, q od (I1.nofrz e m)⟩

/-! ### iterators -/
section
variable {X : Cx} {W : WX} {tg e : Expr} {ea : Ev D} {es : List Expr} {ra : Ev (List D)} {pos cpos apos tpos p : Pos} {elts : List Expr} {kk : Nat}
theorem srcO_of {σ : L2.St} {α : List Addr} {H : Hp} {o : Option Src} {μ : Store} {R : It → Hp → Prop} (g : GotI X W σ α H (srcO o μ) R) : ∃ z, o = some z ∧ ∀ α' H', Ext α H α' H' → StOk (gx X) α' H' μ → RlS X R α' H' z.1 z.2 := by
  cases o with
  | none => exact g.elim
  | some z => exact ⟨z, rfl, g⟩
theorem pi_bad : PI X tg e (tI X W eBad) := ⟨fun _ _ _ _ _ _ ⟨_, _, _, _, _, q⟩ => q.elim⟩
theorem pi_any (ha : PE X e (tE (gx X) W ea)) : PI X tg e (tI X W (itAny ea)) := by
  refine ⟨fun pins s σ H R I ⟨ρ, α, μ, en, st, g⟩ => ?_⟩
  refine thn (ha.run pins s σ H _ I ⟨ρ, α, μ, en, st, g.bind (Q' := fun x H1 => ∃ α1 μ1 d, StOk (gx X) α1 H1 μ1 ∧ Rep (gx X) α1 H1 d x ∧ GotI X W σ α1 H1 (srcO (itOf d μ1) μ1) R) fun d μ1 v α1 H1 x st1 r g1 => ⟨α1, μ1, d, st1, r, g1⟩⟩) fun v s1 ⟨x, H1, I1, rx, α1, μ1, d, st1, r, g1⟩ => ?_
  obtain ⟨z, hz, g2⟩ := srcO_of g1
  have g3 := g2 α1 H1 (Ext.refl _ _) st1
  have list : ∀ n a, z = (.lst n 0, none) → α1[n]? = some a → x = .ref a → (∃ xs, SqL X.K H1 a xs) → wpAny (model X.prog X.w) X.A (pyIter v) (PIE X pins σ tg R) X.xe s1 := by
    rintro n a rfl ha rfl ⟨xs, hq⟩
    cases rx
    obtain ⟨its, rv, q, _⟩ := I1.list hq
    exact wpAny_pyIter_list q.isList (pi_one (tk := s1.toks) I1 _ (turn_list a _) ⟨_, Heap.get?_push_size _ rfl, rfl, rfl⟩ (g3 _ (it_lst ha)))
  unfold itOf at hz
  split at hz
  · cases hz
    obtain ⟨a, vs, rfl, h1, h2⟩ := rep_tup r
    cases rx
    obtain ⟨its, rv, q, _⟩ := I1.tuple h1
    exact wpAny_pyIter_tuple (show s1.heap.IsTuple a its.toArray from q) (pi_one (tk := s1.toks) I1 _ (turn_tuple a _) ⟨_, Heap.get?_push_size _ rfl, rfl, rfl⟩ (g3 _ (it_tup h1 h2.toD)))
  · cases hz
    cases r with
    | mix h1 h2 =>
      rename_i a vs
      cases rx
      obtain ⟨its, rv, q, _⟩ := I1.tuple h1
      exact wpAny_pyIter_tuple (show s1.heap.IsTuple a its.toArray from q) (pi_one (tk := s1.toks) I1 _ (turn_tuple a _) ⟨_, Heap.get?_push_size _ rfl, rfl, rfl⟩ (g3 _ (it_tup h1 h2)))
  · rename_i s'
    cases hz
    obtain rfl := rep_str r
    obtain ⟨t, rfl⟩ := rx
    cases ha : (stS s').cps.all (· < 128)
    · exact wpAny_pyIter_wide ha (pi_one (tk := s1.toks) I1 _ (turn_str _ (stS s') t "str_iterator" (.inr rfl)) ⟨_, Heap.get?_push_size _ rfl, rfl, rfl⟩ (g3 _ it_str))
    · exact wpAny_pyIter_ascii ha (pi_one (tk := s1.toks) I1 _ (turn_str _ (stS s') t "str_ascii_iterator" (.inl rfl)) ⟨_, Heap.get?_push_size _ rfl, rfl, rfl⟩ (g3 _ it_str))
  · rename_i n
    obtain ⟨a, rfl, ha⟩ := rep_ref r
    try rw [nth_eq] at hz
    split at hz
    · rename_i ps q
      cases hz
      obtain ⟨vs, h1, _⟩ := st1.cel n _ a q ha
      exact list n a rfl ha rfl ⟨vs, .inl (.inl h1)⟩
    · rename_i ps q
      cases hz
      obtain ⟨vs, h1, _⟩ := st1.cel n _ a q ha
      exact list n a rfl ha rfl ⟨vs, .inl (.inl h1)⟩
    · rename_i kvs q
      cases hz
      obtain rfl : v = Value.ref a := rx
      obtain ⟨ks, h1, _⟩ := st1.cel n _ a q ha
      obtain ⟨od, I2⟩ := I1.lock h1 trivial
      obtain ⟨hs, hgd, hx, es, ep, vs, hdt, hsz, kv, hm⟩ := I2.frzK upd_same
      refine iter_keys hs hgd hx hdt (pi_one (tk := s1.toks) I2 _ (turn_keys _ hdt) ⟨_, Heap.get?_push_size _ rfl, rfl, by rw [hsz] <;> rfl⟩ (g3 _ a od _ ha h1 trivial (I1.nofrz h1 trivial) (it_dkk ha upd_same)))
    · rename_i kvs q
      cases hz
      obtain rfl : v = Value.ref a := rx
      obtain ⟨ks, h1, _⟩ := st1.cel n _ a q ha
      obtain ⟨od, I2⟩ := I1.lock h1 trivial
      obtain ⟨hs, hgd, hx, es, ep, hdt, hsz, ent⟩ := I2.frzT upd_same
      refine iter_keys hs hgd hx hdt (pi_one (tk := s1.toks) I2 _ (turn_keysT _ hdt) ⟨_, Heap.get?_push_size _ rfl, rfl, by rw [hsz] <;> rfl⟩ (g3 _ a od _ ha h1 trivial (I1.nofrz h1 trivial) (it_dkt ha upd_same)))
    · rename_i kvs q
      cases hz
      obtain rfl : v = Value.ref a := rx
      obtain ⟨od, ks, h1, _⟩ := st1.cel n _ a q ha
      obtain ⟨hs, hgd, hx, es, ep, vs, hdt, hsz, kv, hm⟩ := I1.frzK h1
      exact iter_keys hs hgd hx hdt (pi_one (tk := s1.toks) I1 _ (turn_keys _ hdt) ⟨_, Heap.get?_push_size _ rfl, rfl, by rw [hsz] <;> rfl⟩ (g3 _ (it_dkk ha h1)))
    · rename_i kvs q
      cases hz
      obtain rfl : v = Value.ref a := rx
      obtain ⟨od, ks, h1, _⟩ := st1.cel n _ a q ha
      obtain ⟨hs, hgd, hx, es, ep, hdt, hsz, ent⟩ := I1.frzT h1
      exact iter_keys hs hgd hx hdt (pi_one (tk := s1.toks) I1 _ (turn_keysT _ hdt) ⟨_, Heap.get?_push_size _ rfl, rfl, by rw [hsz] <;> rfl⟩ (g3 _ (it_dkt ha h1)))
    · cases hz
  · cases hz
theorem _root_.L2.PI.weak {t t' : TI} (h : PI X tg e t) (m : ∀ σ H R, t' σ H R → t σ H R) : PI X tg e t' := ⟨fun pins s σ H R I q => h.run pins s σ H R I (m σ H R q)⟩
theorem pi_its (ha : PE X e (tE (gx X) W ea)) (hbase : attributeBase e "items" X.env (eval e X.env) = eval e X.env) (hline : (apos.endLine == cpos.line) = true) :
    PI X (.Tuple elts kk tpos) (.Call (.Attribute e "items" apos) [] [] cpos) (tI X W (itItems ea)) :=
  (pi_items (pe_lk ha) hbase hline).weak fun σ H R ⟨ρ, α, μ, en, st, g⟩ => ⟨ρ, α, μ, en, st, g.bind fun d μ1 v α1 H1 x st1 r g1 => by
    obtain ⟨z, hz, g2⟩ := srcO_of g1
    have g3 := g2 α1 H1 (Ext.refl _ _) st1
    unfold itemsOf at hz
    split at hz
    · rename_i n
      obtain ⟨a, rfl, ha⟩ := rep_ref r
      try rw [nth_eq] at hz
      split at hz
      · rename_i kvs q
        cases hz
        obtain ⟨ks, h1, _⟩ := st1.cel n _ a q ha
        exact .inr ⟨a, _, h1, trivial, fun od hn => ⟨a, od, ks, rfl, upd_same, g3 _ a od _ ha h1 trivial hn (it_dki ha upd_same)⟩⟩
      · rename_i kvs q
        cases hz
        obtain ⟨od, ks, h1, _⟩ := st1.cel n _ a q ha
        exact .inl ⟨a, od, ks, rfl, h1, g3 _ (it_dki ha h1)⟩
      · cases hz
    · cases hz⟩
theorem inI_of {i : Int} (h : inI i = true) : -(2 ^ 62) ≤ i ∧ i < 2 ^ 62 := by
  have h' : i.natAbs < 4611686018427387904 := of_decide_eq_true h
  have : (2 : Int) ^ 62 = 4611686018427387904 := by decide
  omega
theorem inI2 {i j : Int} (h : (inI i && inI j) = true) : inI i = true ∧ inI j = true := by simpa using h
section
variable {a b c : Expr}
theorem tI_row {f : List D → Store → Option Src} {t : List V → Hp → (It → Hp → Prop) → Prop} (m : ∀ ds μ1 vs α1 H1 R z, StOk (gx X) α1 H1 μ1 → Reps (gx X) α1 H1 ds vs → f ds μ1 = some z → RlS X R α1 H1 z.1 z.2 → t vs H1 R) :
    ∀ σ H R, tI X W (fun ρ μ => (ra ρ μ).bind fun ds μ1 => srcO (f ds μ1) μ1) σ H R → tAs (gx X) W ra σ H fun vs H1 => t vs H1 R := fun σ H R ⟨ρ, α, μ, en, st, g⟩ => ⟨ρ, α, μ, en, st, g.bind fun ds μ1 vs α1 H1 x st1 r g1 => by
  obtain ⟨z, hz, g2⟩ := srcO_of g1
  exact m ds μ1 vs α1 H1 R z st1 r hz (g2 α1 H1 (Ext.refl _ _) st1)⟩
theorem pi_r1 (hg : Gl X "range") (hm : X.mg "range" = none) (ha : PA X [a] (tAs (gx X) W ra)) (hs : starEach [a] X.env = [(false, eval a X.env)]) : PI X tg (.Call (.Name "range" p) [a] [] pos) (tI X W (itR range1 ra)) :=
  (pi_range1 hg hm ha hs).weak <| tI_row (f := fun ds _ => range1 ds) fun ds μ1 vs α1 H1 R z st r hz g => by
    unfold range1 at hz
    split at hz
    · split at hz
      · rename_i j hj
        cases hz
        cases r with
        | cons r rr =>
          cases rr
          obtain rfl := rep_int r
          exact ⟨j, rfl, (inI_of hj).1, (inI_of hj).2, g _ it_range⟩
      · cases hz
    · cases hz
theorem pi_r2 (hg : Gl X "range") (hm : X.mg "range" = none) (ha : PA X [a, b] (tAs (gx X) W ra)) (hs : starEach [a, b] X.env = [(false, eval a X.env), (false, eval b X.env)]) (hs2 : starEach [b] X.env = [(false, eval b X.env)]) :
    PI X tg (.Call (.Name "range" p) [a, b] [] pos) (tI X W (itR range2 ra)) :=
  (pi_range2 hg hm ha hs hs2).weak <| tI_row (f := fun ds _ => range2 ds) fun ds μ1 vs α1 H1 R z st r hz g => by
    unfold range2 at hz
    split at hz
    · split at hz
      · rename_i i j hj
        cases hz
        cases r with
        | cons r rr => cases rr with
          | cons r2 rr =>
            cases rr
            obtain rfl := rep_int r
            obtain rfl := rep_int r2
            obtain ⟨h1, h2⟩ := inI2 hj
            exact ⟨i, j, rfl, ⟨(inI_of h1).1, (inI_of h1).2, (inI_of h2).1, (inI_of h2).2⟩, g _ it_range⟩
      · cases hz
    · cases hz
theorem pi_r3 (hg : Gl X "range") (hm : X.mg "range" = none) (ha : PA X [a, b, c] (tAs (gx X) W ra)) (hs : starEach [a, b, c] X.env = (false, eval a X.env) :: starEach [b, c] X.env) (hpl : (backTo pos (starEach [b, c] X.env)).any (·.1) = false) :
    PI X tg (.Call (.Name "range" p) [a, b, c] [] pos) (tI X W (itR range3 ra)) :=
  (pi_range3 hg hm ha hs hpl).weak <| tI_row (f := fun ds _ => range3 ds) fun ds μ1 vs α1 H1 R z st r hz g => by
    unfold range3 at hz
    split at hz
    · split at hz
      · rename_i i j k hj
        cases hz
        cases r with
        | cons r rr => cases rr with
          | cons r2 rr => cases rr with
            | cons r3 rr =>
              cases rr
              obtain rfl := rep_int r
              obtain rfl := rep_int r2
              obtain rfl := rep_int r3
              have h3 : (inI i && inI j) = true ∧ k = -1 := by simpa using hj
              obtain ⟨h1, h2⟩ := inI2 h3.1
              refine ⟨i, j, k, (i - j).toNat, rfl, ?_, g _ it_rangeC⟩
              rw [h3.2]
              exact RgC.neg (inI_of h1).1 (inI_of h1).2 (inI_of h2).1 (inI_of h2).2
      · cases hz
    · cases hz
theorem pi_en (hg : Gl X "enumerate") (hm : X.mg "enumerate" = none) (ha : PA X [a] (tAs (gx X) W ra)) (hs : starEach [a] X.env = [(false, eval a X.env)]) : PI X (.Tuple elts kk tpos) (.Call (.Name "enumerate" p) [a] [] pos) (tI X W (itEnm ra)) :=
  (ShX.pi_enumA hg hm ha hs).weak <| tI_row (f := fun ds μ => enmOf μ ds) fun ds μ1 vs α1 H1 R z st r hz g => by
    unfold enmOf at hz
    split at hz
    · rename_i n
      split at hz
      · rename_i xs hx
        cases hz
        cases r with
        | cons r rr =>
          cases rr
          obtain ⟨l, rfl, hl⟩ := rep_ref r
          obtain ⟨ws, h1, h2⟩ := rdL_of st hl hx
          exact .inl ⟨l, ws, rfl, .inl ⟨h1, g _ (it_enm hl)⟩⟩
      · cases hz
    · rename_i s'
      cases hz
      cases r with
      | cons r rr =>
        cases rr
        obtain rfl := rep_str r
        exact .inr ⟨_, rfl, g _ it_enmS⟩
    · rename_i d _ _
      split at hz
      · rename_i xs hx
        cases hz
        cases r with
        | cons r rr =>
          cases rr
          obtain ⟨l, ws, rfl, h1, h2⟩ := itemsT_of r hx
          exact .inl ⟨l, ws, rfl, .inr ⟨h1, g _ (it_enmT h1 h2)⟩⟩
      · cases hz
    · cases hz
theorem pi_zp (hg : Gl X "zip") (hm : X.mg "zip" = none) (ha : PA X [a, b] (tAs (gx X) W ra)) (hs : starEach [a, b] X.env = (false, eval a X.env) :: starEach [b] X.env) (hpl : (backTo pos (starEach [b] X.env)).any (·.1) = false) :
    PI X (.Tuple elts kk tpos) (.Call (.Name "zip" p) [a, b] [] pos) (tI X W (itZip ra)) :=
  (RZ.pi_zipA hg hm ha hs hpl).weak <| tI_row (f := fun ds μ => zipOf μ ds) fun ds μ1 vs α1 H1 R z st r hz g => by
    unfold zipOf at hz
    split at hz
    · rename_i m n
      split at hz
      · rename_i xs ys hx hy
        cases hz
        cases r with
        | cons r rr => cases rr with
          | cons r2 rr =>
            cases rr
            obtain ⟨l, rfl, hl⟩ := rep_ref r
            obtain ⟨l2, rfl, hl2⟩ := rep_ref r2
            obtain ⟨ws, h1, h2⟩ := rdL_of st hl hx
            obtain ⟨ws2, h3, h4⟩ := rdL_of st hl2 hy
            exact ⟨l, l2, ws, ws2, rfl, .inl ⟨h1, h3, g _ (it_zp hl hl2)⟩⟩
      · cases hz
    · rename_i x y _
      split at hz
      · rename_i xs ys hx hy
        cases hz
        cases r with
        | cons r rr => cases rr with
          | cons r2 rr =>
            cases rr
            obtain ⟨l, ws, rfl, h1, h2⟩ := itemsT_of r hx
            obtain ⟨l2, ws2, rfl, h3, h4⟩ := itemsT_of r2 hy
            exact ⟨l, l2, ws, ws2, rfl, .inr ⟨h1, h3, g _ (it_zpT h1 h2 h3 h4)⟩⟩
      · cases hz
    · cases hz
end
end

/-! ### for -/
section
variable {X : Cx} {W : WX} {α : List Addr} {H : Hp} {μ : Store} {ρ : Env} {σ : L2.St} {g : Tg} {sb : Sv} {tg iter : Expr} {b : List Stmt} {pos : Pos} {ev : Ev Src}
theorem GotS.bindI {Z : Ends} {r : Res Src} {k : Src → Store → SRes} {R : It → Hp → Prop} (e : EnvOk (gx X) α H ρ σ) (st : StOk (gx X) α H μ) (h : GotS (gx X) W Z α H (sOf r ρ k))
    (m : ∀ z μ1 α1 H1, Ext α H α1 H1 → EnvOk (gx X) α1 H1 ρ σ → StOk (gx X) α1 H1 μ1 → GotS (gx X) W Z α1 H1 (k z μ1) → RlS X R α1 H1 z.1 z.2) : GotI X W σ α H r R := by
  cases r with
  | ok b μ1 => exact fun α' H' y st1 => m b μ1 α' H' y (e.ext st y) st1 (GotS.ext y h)
  | exc n d μ1 => exact fun cls dx v α' H' y st1 q1 q2 q3 => h σ cls dx v α' H' y st1 (e.ext st y) q1 q2 q3
  | bad => exact h
/-- a loop without a lock -/
theorem GotS.un0 {Z : Ends} {r : SRes} (h : GotS (gx X) W Z α H (ulR none r)) : GotS (gx X) W ⟨unS X Z.nx, unQ X Z.rt, unS X Z.bk, unS X Z.ct⟩ α H r := by
  cases r with
  | next ρ μ => exact fun σ' α' H' y a b => .inl (h σ' α' H' y a b)
  | brk ρ μ => exact fun σ' α' H' y a b => .inl (h σ' α' H' y a b)
  | cont ρ μ => exact fun σ' α' H' y a b => .inl (h σ' α' H' y a b)
  | ret d μ => exact fun σ' α' H' y a b => .inl (h σ' α' H' y a b)
  | exc ρ n d μ => exact h
  | bad => exact h
theorem unlock_at {G : Gx} {α α' : List Addr} {H H' : Hp} {μ μ1 : Store} {n : Nat} {d : Addr} {u : HO} {od : Obj} (ha : α[n]? = some d) (hH : H d = some u) (nf : ∀ o q, u ≠ .frz o q) (y : Ext α (upd H d (.frz od u)) α' H') (st : StOk G α' H' μ) (hm : ulS μ (some n) = some μ1) :
    ∃ od2 u2, H' d = some (.frz od2 u2) ∧ Ext α H α' (upd H' d u2) ∧ StOk G α' (upd H' d u2) μ1 ∧ Ext0 α' H' α' (upd H' d u2) := by
  obtain ⟨d2, od2, u2, h1, h2, h3⟩ := unlock_ok st hm
  have e : d2 = d := by
    have := pre_get y.pre n d ha
    rw [h1] at this
    cases this
    rfl
  subst e
  exact ⟨od2, u2, h2, y.between (List.mem_of_getElem? ha) hH nf, h3, Ext0.write st (List.mem_of_getElem? h1)⟩
theorem GotS.un1 {Z : Ends} {r : SRes} {n : Nat} {d : Addr} {u : HO} {od : Obj} (st0 : StOk (gx X) α H μ) (h : GotS (gx X) W Z α H (ulR (some n) r)) (ha : α[n]? = some d) (hH : H d = some u) (nf : ∀ o q, u ≠ .frz o q) (hn : NoFz X d) :
    GotS (gx X) W ⟨unS X Z.nx, unQ X Z.rt, unS X Z.bk, unS X Z.ct⟩ α (upd H d (.frz od u)) r := by
  cases r with
  | next ρ μ =>
    intro σ' α' H' y a b
    unfold ulR at h
    dsimp only at h
    split at h
    · rename_i μ1 hm
      obtain ⟨od2, u2, h1, h2, h3, h4⟩ := unlock_at ha hH nf y a hm
      exact .inr ⟨d, od2, u2, h1, hn, h σ' α' _ h2 h3 (b.ext0 a h4)⟩
    · exact h.elim
  | brk ρ μ =>
    intro σ' α' H' y a b
    unfold ulR at h
    dsimp only at h
    split at h
    · rename_i μ1 hm
      obtain ⟨od2, u2, h1, h2, h3, h4⟩ := unlock_at ha hH nf y a hm
      exact .inr ⟨d, od2, u2, h1, hn, h σ' α' _ h2 h3 (b.ext0 a h4)⟩
    · exact h.elim
  | cont ρ μ =>
    intro σ' α' H' y a b
    unfold ulR at h
    dsimp only at h
    split at h
    · rename_i μ1 hm
      obtain ⟨od2, u2, h1, h2, h3, h4⟩ := unlock_at ha hH nf y a hm
      exact .inr ⟨d, od2, u2, h1, hn, h σ' α' _ h2 h3 (b.ext0 a h4)⟩
    · exact h.elim
  | ret e μ =>
    intro v α' H' y a b
    unfold ulR at h
    dsimp only at h
    split at h
    · rename_i μ1 hm
      obtain ⟨od2, u2, h1, h2, h3, h4⟩ := unlock_at ha hH nf y a hm
      exact .inr ⟨d, od2, u2, h1, hn, h v α' _ h2 h3 (a.rep0 h4 b)⟩
    · exact h.elim
  | exc ρ n d2 μ => exact GotS.ext (Ext.write st0 (List.mem_of_getElem? ha) hH nf) h
  | bad => exact h
theorem loop_ok {Z : Ends} {α1 : List Addr} {H1 : Hp} {it : IterD} {J : It} {m : Nat} (ir : ItRel (gx X) α1 H1 it J) (e : EnvOk (gx X) α1 H1 ρ σ) (st : StOk (gx X) α1 H1 μ) (q : GotS (gx X) W Z α1 H1 (loopF g sb sSkip m it ρ μ)) :
    ∃ Wv : Nat → Nat → L2.St → Hp → Prop, (∃ m, Wv 0 m σ H1) ∧ ∀ i m σ H, Wv i m σ H → (J.stop i H ∧ Z.nx σ H) ∨ (J.go i H ∧ ∃ N : L2.St → Hp → Prop, (∀ σ' H', N σ' H' → ∃ m', m' < m ∧ Wv (i + 1) m' σ' H') ∧
      ∀ x H', J.yld i H x H' → tGx (gx X) W g x σ H' fun σ2 H2 => tS (gx X) W sb { Z with nx := N, ct := N, bk := Z.nx } σ2 H2) := by
  obtain ⟨inv, i0, stp⟩ := ir
  refine ⟨fun i m σ H => ∃ it ρ α μ, inv i it ∧ Ext α1 H1 α H ∧ EnvOk (gx X) α H ρ σ ∧ StOk (gx X) α H μ ∧ GotS (gx X) W Z α H (loopF g sb sSkip m it ρ μ), ⟨_, it, ρ, α1, μ, i0, Ext.refl _ _, e, st, q⟩, ?_⟩
  rintro i m σ2 H2 ⟨it2, ρ2, α2, μ2, i2, x2, e2, st2, q2⟩
  have sp := stp i it2 i2 α2 H2 μ2 (x2.one st) st2
  cases m with
  | zero => exact q2.elim
  | succ m =>
    unfold loopF at q2
    cases hst : it2.step μ2 with
    | none => rw [hst] at q2; exact q2.elim
    | some o =>
      rw [hst] at q2 sp
      cases o with
      | none => exact .inl ⟨sp, q2.stay e2 st2⟩
      | some z =>
        obtain ⟨d, it3⟩ := z
        obtain ⟨go, i3, yl⟩ := sp
        refine .inr ⟨go, _, fun σ' H' z => ⟨m, Nat.lt_succ_self m, z⟩, fun v H3 y => ?_⟩
        obtain ⟨x3, st3, r3⟩ := yl v H3 y
        refine ⟨d, ρ2, α2, μ2, _, e2.ext st2 x3, st3, r3, rfl, GotS.then (GotS.ext x3 q2) fun ρ4 μ4 σ4 α4 H4 x4 e4 st4 q4 => ⟨ρ4, α4, μ4, e4, st4, ?_⟩⟩
        have xx : Ext α1 H1 α4 H4 := (x2.trans x3).trans x4
        cases hr : sb ρ4 μ4 with
        | next ρ5 μ5 => rw [hr] at q4; exact fun σ' α' H' y st' e' => ⟨it3, ρ5, α', μ5, i3, xx.trans y, e', st', GotS.ext y q4⟩
        | cont ρ5 μ5 => rw [hr] at q4; exact fun σ' α' H' y st' e' => ⟨it3, ρ5, α', μ5, i3, xx.trans y, e', st', GotS.ext y q4⟩
        | brk ρ5 μ5 => rw [hr] at q4; exact q4
        | ret d μ5 => rw [hr] at q4; exact q4
        | exc ρ5 c d μ5 => rw [hr] at q4; exact q4
        | bad => rw [hr] at q4; exact q4
theorem ps_fr (hp : PassesOwn (model X.prog X.w) X.A X.env X.xe) (hc : X.calm = true) (hi : PI X tg iter (tI X W ev)) (hg : PG X tg (tGx (gx X) W g)) (hb : PSs X b (tS (gx X) W sb)) (hs : ∀ x, foldedSetIterable iter X.env x = pure x) :
    PS X (.For tg iter b [] pos) (tS (gx X) W (sFor ev g sb)) :=
  (ps_unl (ps_for hp hc hi hg hb hs)).weak fun Z σ H ⟨ρ, α, μ, e, st, q⟩ => ⟨ρ, α, μ, e, st, GotS.bindI e st q fun z μ1 α1 H1 x e1 st1 q1 => by
    obtain ⟨it, lk⟩ := z
    split at q1
    · rename_i μ2 hl
      cases lk with
      | none =>
        cases hl
        exact fun J ir => loop_ok (Z := ⟨unS X Z.nx, unQ X Z.rt, unS X Z.bk, unS X Z.ct⟩) ir e1 st1 q1.un0
      | some n =>
        intro J d od u ha hH mu hn ir
        obtain ⟨d2, u2, h1, h2, h3, h4, h5⟩ := lock_ok st1 hl
        have e2 : d2 = d := by
          rw [ha] at h1
          cases h1
          rfl
        subst e2
        rw [hH] at h2
        cases h2
        exact loop_ok (Z := ⟨unS X Z.nx, unQ X Z.rt, unS X Z.bk, unS X Z.ct⟩) ir (e1.ext0 st1 (Ext0.write st1 (List.mem_of_getElem? ha))) (h5 od) (GotS.un1 st1 q1 ha hH h4 hn)
    · exact q1.elim⟩
end
end Sh
set_option maxRecDepth 100000
set_option maxHeartbeats 4000000
/-! Sh: comprehensions. -/
namespace Sh
open PySem PySem.Spec PyProof.Rows L2

/-! ### names that a comprehension binds -/
inductive Pat where
  | nm (i : Nat) | tp (ps : List Pat)
mutual
def bindP : Pat → D → Env → Option Env
  | .nm i, d, ρ => some (put (some d) ρ i)
  | .tp ps, d, ρ => match itemsT d with
    | some ds => bindPs ps ds ρ
    | none => none
def bindPs : List Pat → List D → Env → Option Env
  | [], [], ρ => some ρ
  | p :: ps, d :: ds, ρ => match bindP p d ρ with
    | some ρ1 => bindPs ps ds ρ1
    | none => none
  | _, _, _ => none
end
mutual
def Pat.within (vs : List Nat) : Pat → Bool
  | .nm i => vs.contains i
  | .tp ps => withinAll vs ps
def withinAll (vs : List Nat) : List Pat → Bool
  | [] => true
  | p :: ps => p.within vs && withinAll vs ps
end
theorem wipe_set {σ : L2.St} {x : Option V} {i : Nat} : ∀ {vs : List Nat}, i ∈ vs → wipe (σ.set i x) vs = wipe σ vs
  | v :: vs, h => by
    by_cases e : i ∈ vs
    · show (wipe (σ.set i x) vs).set v none = (wipe σ vs).set v none
      rw [wipe_set e]
    · have hv : i = v := by
        rcases List.mem_cons.mp h with z | z
        · exact z
        · exact absurd z e
      subst hv
      show (wipe (σ.set i x) vs).set i none = (wipe σ vs).set i none
      have key : ∀ {ws : List Nat}, i ∉ ws → ∀ σ : L2.St, wipe (σ.set i x) ws = (wipe σ ws).set i x := by
        intro ws
        induction ws with
        | nil => intro _ σ; rfl
        | cons w ws ih =>
          intro hw σ
          have h1 : i ≠ w := fun z => hw (by rw [z]; exact List.mem_cons_self)
          show (wipe (σ.set i x) ws).set w none = ((wipe σ ws).set w none).set i x
          rw [ih (fun z => hw (List.mem_cons_of_mem _ z)) σ, List.set_comm _ _ h1]
      rw [key e σ, List.set_set]
theorem wipe_none {σ : L2.St} {i : Nat} : ∀ {vs : List Nat}, i ∈ vs → (wipe σ vs).set i none = wipe σ vs
  | v :: vs, h => by
    show ((wipe σ vs).set v none).set i none = (wipe σ vs).set v none
    by_cases e : i = v
    · rw [e, List.set_set]
    · have hi : i ∈ vs := by
        rcases List.mem_cons.mp h with z | z
        · exact absurd z e
        · exact z
      rw [List.set_comm _ _ (fun z => e z.symm), wipe_none hi]
theorem wipe_wipe {σ : L2.St} {vs : List Nat} : wipe (wipe σ vs) vs = wipe σ vs := by
  have key : ∀ ws : List Nat, (∀ w ∈ ws, w ∈ vs) → wipe (wipe σ vs) ws = wipe σ vs := by
    intro ws
    induction ws with
    | nil => intro _; rfl
    | cons w ws ih =>
      intro h
      show (wipe (wipe σ vs) ws).set w none = _
      rw [ih fun x hx => h x (List.mem_cons_of_mem _ hx), wipe_none (h w List.mem_cons_self)]
  exact key vs fun _ h => h
def wipeE (ρ : Env) : List Nat → Env
  | [] => ρ
  | v :: vs => put none (wipeE ρ vs) v
theorem EnvOk.wipe {G : Gx} {α : List Addr} {H : Hp} {ρ : Env} {σ : L2.St} (e : EnvOk G α H ρ σ) : ∀ vs : List Nat, EnvOk G α H (wipeE ρ vs) (wipe σ vs)
  | [] => e
  | v :: vs => by
    show EnvOk G α H (Sh.put none (wipeE ρ vs) v) _
    try rw [put_eq]
    exact (EnvOk.wipe e vs).wipe1 v
/-- a pattern's wish: it binds names within vs alone -/
def tGw (G : Gx) (vs : List Nat) (p : Pat) : TG := fun v σ H Q => ∃ d ρ ρ' α μ, EnvOk G α H ρ σ ∧ StOk G α H μ ∧ Rep G α H d v ∧ bindP p d ρ = some ρ' ∧ ∀ σ', EnvOk G α H ρ' σ' → wipe σ' vs = wipe σ vs → Q σ' H
def tGws (G : Gx) (vs : List Nat) (ps : List Pat) : TGs := fun ws σ H Q => ∃ ds ρ ρ' α μ, EnvOk G α H ρ σ ∧ StOk G α H μ ∧ Reps G α H ds ws ∧ bindPs ps ds ρ = some ρ' ∧ ∀ σ', EnvOk G α H ρ' σ' → wipe σ' vs = wipe σ vs → Q σ' H
section
variable {X : Cx} {vs : List Nat} {tg : Expr} {tgs : List Expr} {tpos : Pos} {p : Pat} {ps : List Pat}
theorem pgw_nm {i : Nat} (hi : i ∈ vs) (h : PG X tg (gName i)) : PG X tg (tGw (gx X) vs (.nm i)) := h.weak fun v σ H Q ⟨d, ρ, ρ', α, μ, e, st, r, b, q⟩ => by
  cases b
  exact q _ (e.put i r) (wipe_set hi)
theorem pgw_n : PGs X [] (tGws (gx X) vs []) := pgs_nil.weak fun v σ H Q ⟨d, ρ, ρ', α, μ, e, st, r, b, q⟩ => by
  cases r with
  | nil =>
    cases b
    exact ⟨rfl, q σ e rfl⟩
  | cons r rr => cases b
theorem pgw_c (h1 : PG X tg (tGw (gx X) vs p)) (h2 : PGs X tgs (tGws (gx X) vs ps)) (hs : (assignEach (tg :: tgs) X.env).map (·.2) = assign tg X.env :: (assignEach tgs X.env).map (·.2)) : PGs X (tg :: tgs) (tGws (gx X) vs (p :: ps)) :=
  (pgs_cons h1 h2 hs).weak fun v σ H Q ⟨d, ρ, ρ', α, μ, e, st, r, b, q⟩ => by
    cases r with
    | nil => unfold bindPs at b; cases b
    | @cons d v0 ds vs0 r rr =>
      unfold bindPs at b
      split at b
      · rename_i ρ1 hb
        exact ⟨_, _, rfl, d, ρ, ρ1, α, μ, e, st, r, hb, fun σ1 e1 w1 => ⟨ds, ρ1, ρ', α, μ, e1, st, rr, b, fun σ2 e2 w2 => q σ2 e2 (w2.trans w1)⟩⟩
      · cases b
theorem bindPs_len : ∀ {ps : List Pat} {ds : List D} {ρ ρ' : Env}, bindPs ps ds ρ = some ρ' → ds.length = ps.length
  | [], [], _, _, _ => rfl
  | [], _ :: _, _, _, h => by unfold bindPs at h; cases h
  | _ :: _, [], _, _, h => by unfold bindPs at h; cases h
  | p :: ps, d :: ds, ρ, ρ', h => by
    unfold bindPs at h
    split at h
    · exact congrArg Nat.succ (bindPs_len h)
    · cases h
theorem pgw_tp {k : Nat} (hc : X.calm = true) (h : PGs X tgs (tGws (gx X) vs ps)) (hn : (assignEach tgs X.env).length = ps.length) (hst : (assignEach tgs X.env).findIdx? (·.1) = none) : PG X (.Tuple tgs k tpos) (tGw (gx X) vs (.tp ps)) :=
  (pg_tup hc h hn hst).weak fun v σ H Q ⟨d, ρ, ρ', α, μ, e, st, r, b, q⟩ => by
    unfold bindP at b
    split at b
    · rename_i ds hd
      obtain ⟨a, ws, rfl, h1, h2⟩ := itemsT_of r hd
      exact ⟨a, ws, rfl, h1, by rw [h2.length]; exact bindPs_len b, ds, ρ, ρ', α, μ, e, st, h2, b, q⟩
    · cases b
end

/-! ### a new list, aside -/
section
variable {G : Gx} {α α1 : List Addr} {H H1 : Hp} {μ : Store} {Dl : Addr} {zs ws : List V}
theorem sqT_side {K : PySem.W.Frag} {o : HO} (h : H Dl = some o) (nt : ∀ xs, o ≠ .tup xs) (nf : ∀ q u, o ≠ .frz q u) {o' : HO} {a : Addr} {vs : List V} (s : SqT K H a vs) : SqT K (upd H Dl o') a vs := by
  rcases s with (s | ⟨q, s⟩) | s
  · exact .inl (.inl (by
      rw [upd_ne]
      · exact s
      · rintro rfl
        rw [h] at s
        cases s
        exact nt _ rfl))
  · exact .inl (.inr ⟨q, by
      rw [upd_ne]
      · exact s
      · rintro rfl
        rw [h] at s
        cases s
        exact nf _ _ rfl⟩)
  · exact .inr s
/-- what stands at an address aside changes nothing -/
structure Aside (α : List Addr) (H : Hp) (a : Addr) (o : HO) : Prop where
  out : a ∉ α
  at_ : H a = some o
  kind : cellHO o = true
  nf : ∀ q u, o ≠ .frz q u
section
variable {a : Addr} {o o' : HO} (s : Aside α H a o)
include s
theorem Aside.nt : ∀ xs, o ≠ .tup xs := fun xs z => by
  have k := s.kind
  rw [z] at k
  cases k
theorem Aside.ne {b : Addr} {u : HO} (h : H b = some u) (k : cellHO u = false) : b ≠ a := by
  rintro rfl
  rw [s.at_] at h
  cases h
  rw [s.kind] at k
  cases k
theorem Aside.fz {b : Addr} {q : Obj} {u : HO} (h : H b = some (.frz q u)) : upd H a o' b = some (.frz q u) := by
  rw [upd_ne]
  · exact h
  · rintro rfl
    rw [s.at_] at h
    cases h
    exact s.nf _ _ rfl
theorem Aside.rep {d : D} {v : V} (r : Rep G α H d v) : Rep G α (upd H a o') d v := r.mono (fun _ _ q => sqT_side s.at_ s.nt s.nf q) (fun _ _ q => q) (fun b u e k t => by rw [upd_ne (s.ne e k)]; exact e) fun b q w e => s.fz e
theorem Aside.reps {d : List D} {v : List V} (r : Reps G α H d v) : Reps G α (upd H a o') d v := r.mono (fun _ _ q => sqT_side s.at_ s.nt s.nf q) (fun _ _ q => q) (fun b u e k t => by rw [upd_ne (s.ne e k)]; exact e) fun b q w e => s.fz e
theorem Aside.repP {K : PySem.W.Frag} {d : P} {v : V} (r : RepP K H d v) : RepP K (upd H a o') d v := r.mono fun _ _ q => sqT_side s.at_ s.nt s.nf q
theorem Aside.st (st : StOk G α H μ) : StOk G α (upd H a o') μ := ⟨st.len, st.nd, tabs_side st.tabs s.at_ (fun ps z => by have k := s.kind; rw [z] at k; cases k) (fun φ z => by have k := s.kind; rw [z] at k; cases k), fun n c b h1 h2 => (st.cel n c b h1 h2).mono (fun _ _ q => sqT_side s.at_ s.nt s.nf q) (fun _ _ q => q) (fun b u e k t => by rw [upd_ne (s.ne e k)]; exact e) (fun b q w e => s.fz e) (upd_ne fun z => s.out (by rw [← z]; exact List.mem_of_getElem? h2))⟩
theorem Aside.env {ρ : Env} {σ : L2.St} (e : EnvOk G α H ρ σ) : EnvOk G α (upd H a o') ρ σ := ⟨e.len, fun i d h => by
  obtain ⟨v, h1, h2⟩ := e.val i d h
  exact ⟨v, h1, s.rep h2⟩⟩
theorem Aside.ext (x : Ext α H α1 H1) (t : notTbl o) : Aside α1 H1 a o := by
  refine ⟨fun z => ?_, x.keep a o s.out s.at_ t, s.kind, s.nf⟩
  have e := x.new a z s.out
  rw [s.at_] at e
  cases e
theorem Aside.set (k : cellHO o' = true) (n : ∀ q u, o' ≠ .frz q u) : Aside α (upd H a o') a o' := ⟨s.out, upd_same, k, n⟩
end
/-- from before the new thing on -/
theorem Ext.aside {a : Addr} {o : HO} (x : Ext α H α1 H1) (np : H a = none) (out : a ∉ α1) : Ext α H α1 (upd H1 a o) := by
  have ne : ∀ b u, H b = some u → b ≠ a := fun b u e => ne_of_none e np
  exact ⟨⟨x.pre, fun b u n e t => by rw [upd_ne (ne b u e)]; exact x.keep b u n e t, fun b ps n e => by rw [upd_ne (ne b _ e)]; exact x.tbls b ps n e, x.new, fun b q w e => by rw [upd_ne (ne b _ e)]; exact x.rol b q w e⟩, fun b q u e => by rw [upd_ne (ne b _ e)]; exact x.frzs b q u e⟩
/-- the thing aside becomes a cell -/
theorem Ext.into {a : Addr} (x : Ext α H α1 H1) (np : H a = none) : Ext α H (α1 ++ [a]) H1 := by
  refine ⟨⟨x.pre.trans (List.prefix_append _ _), x.keep, x.tbls, fun b m n => ?_, x.rol⟩, x.frzs⟩
  rcases List.mem_append.mp m with m | m
  · exact x.new b m n
  · have e : b = a := by simpa using m
    rw [e]
    exact np
theorem StOk.into {a : Addr} {c : Cell} (st : StOk G α H μ) (out : a ∉ α) (hc : CellOk G (α ++ [a]) H a c) : StOk G (α ++ [a]) H (μ ++ [c]) := by
  refine ⟨by rw [List.length_append, Store.push_len, st.len]; rfl, ?_, st.tabs, fun n c' b h1 h2 => ?_⟩
  · rw [List.nodup_append]
    refine ⟨st.nd, by simp, fun x hx y hy => ?_⟩
    have e : y = a := by simpa using hy
    rw [e]
    rintro rfl
    exact out hx
  · by_cases hn : n < μ.length
    · rw [Store.push_at, if_neg (Nat.ne_of_lt hn)] at h1
      rw [List.getElem?_append_left (by rw [st.len]; exact hn)] at h2
      exact (st.cel n c' b h1 h2).mono (fun _ _ q => q) (pre_get (List.prefix_append _ _)) (fun _ _ e _ _ => e) (fun _ _ _ e => e) rfl
    · have hl : n = μ.length := by
        have := Store.lt_of h1
        rw [Store.push_len] at this
        omega
      subst hl
      rw [Store.push_at, if_pos rfl] at h1
      rw [← st.len, getLast_app] at h2
      cases h1
      cases h2
      exact hc
theorem Reps.into {a : Addr} {ds : List D} {vs : List V} (r : Reps G α H ds vs) : Reps G (α ++ [a]) H ds vs := r.mono (fun _ _ q => q) (pre_get (List.prefix_append _ _)) (fun _ _ e _ _ => e) fun _ _ _ e => e
end

/-! ### [e for p in it if c] -/
def bYes : Ev Bool := fun _ μ => .ok true μ
def loopC (pt : Pat) (c : Ev Bool) (el : Ev D) (ρ : Env) : Nat → IterD → Store → List D → Option (List D × Store)
  | 0, _, _, _ => none
  | n + 1, it, μ, acc => match it.step μ with
    | none => none
    | some none => some (acc, μ)
    | some (some (d, it')) => match bindP pt d ρ with
      | none => none
      | some ρ1 => match c ρ1 μ with
        | .ok true μ1 => match el ρ1 μ1 with
          | .ok y μ2 => loopC pt c el ρ n it' μ2 (y :: acc)
          | _ => none
        | .ok false μ1 => loopC pt c el ρ n it' μ1 acc
        | _ => none
theorem loopC_len {pt : Pat} {c : Ev Bool} {el : Ev D} {ρ : Env} : ∀ {n : Nat} {it : IterD} {μ μ' : Store} {acc res : List D}, loopC pt c el ρ n it μ acc = some (res, μ') → acc.length ≤ res.length
  | 0, _, _, _, _, _, h => by cases h
  | n + 1, it, μ, μ', acc, res, h => by
    unfold loopC at h
    split at h
    · cases h
    · cases h; exact Nat.le_refl _
    · split at h
      · cases h
      · split at h
        · split at h
          · exact Nat.le_of_succ_le (loopC_len h)
          · cases h
        · exact loopC_len h
        · cases h
def endC (lk : Option Nat) (o : Option (List D × Store)) : Res D := match o with
  | some (acc, μ) => match ulS μ lk with
    | some μ1 => if acc.length ≤ szMax then .ok (.ref μ1.length) (μ1 ++ [mkL acc.reverse]) else .bad
    | none => .bad
  | none => .bad
def eLc (it : Ev Src) (pt : Pat) (c : Ev Bool) (el : Ev D) (vs : List Nat) : Ev D := fun ρ μ => (it ρ μ).bind fun z μ1 => match lkS μ1 z.2 with
  | some μ2 => endC z.2 (loopC pt c el (wipeE ρ vs) (z.1.cnt μ2) z.1 μ2 [])
  | none => .bad
section
variable {X : Cx} {W : WX} {ev : Ev Src} {pt : Pat} {c : Ev Bool} {el : Ev D} {vs : List Nat} {tg iter elt : Expr} {ifs : List Expr} {scope : Scope} {own : List (Str × Nat)} {pos : Pos}
abbrev WNo : WX := fun _ _ _ _ => False
theorem mkL_ok {G : Gx} {α : List Addr} {H : Hp} {a : Addr} {ds : List D} {vs : List V} (h : H a = some (.lst vs)) (r : Reps G α H ds vs) : CellOk G α H a (mkL ds) := by
  unfold mkL
  split
  · rename_i ps e
    exact ⟨vs, h, r.pures e⟩
  · exact ⟨vs, h, r⟩
theorem Reps.snoc {G : Gx} {α : List Addr} {H : Hp} {ds : List D} {vs : List V} {d : D} {v : V} (r : Reps G α H ds vs) (q : Rep G α H d v) : Reps G α H (ds ++ [d]) (vs ++ [v]) := r.append (.cons q .nil)
theorem Aside.one {α : List Addr} {H : Hp} {a : Addr} {o o' : HO} (s : Aside α H a o) : Ext1 α H α (upd H a o') := ⟨List.prefix_refl _, fun q => sqT_side s.at_ s.nt s.nf q, fun b u e k t => by rw [upd_ne (s.ne e k)]; exact e, fun b q u e => by
  rw [upd_ne]
  · exact e
  · rintro rfl
    rw [s.at_] at e
    cases e
    exact s.nf _ _ rfl⟩
theorem no_tbl {xs : List V} : notTbl (.lst xs) := by intro ps z; cases z
theorem no_frz {xs : List V} : ∀ q u, HO.lst xs ≠ .frz q u := by intro q u z; cases z
/-- the loop: the list grows aside -/
theorem lc_gen {σ : L2.St} {ρ : Env} {α0 α1 α2 : List Addr} {H0 H1 H2 : Hp} {μ2 μe : Store} {it : IterD} {J : It} {m : Nat} {acc0 res : List D} {zs0 : List V} {Dl : Addr} {Q : Hp → Prop} (ir : ItRel (gx X) α1 H1 it J) (x01 : Ext α0 H0 α2 H2) (hD : H0 Dl = none) (x12 : Ext1 α1 H1 α2 H2)
    (as0 : Aside α2 H2 Dl (.lst zs0)) (e : EnvOk (gx X) α2 H2 ρ (wipe σ vs)) (st : StOk (gx X) α2 H2 μ2) (r0 : Reps (gx X) α2 H2 acc0.reverse zs0) (hl : loopC pt c el ρ m it μ2 acc0 = some (res, μe)) (hz : res.length ≤ szMax)
    (q : ∀ α H zs, Ext α0 H0 α H → Ext1 α2 H2 α H → Aside α H Dl (.lst zs) → StOk (gx X) α H μe → Reps (gx X) α H res.reverse zs → Q H) :
    ∃ Wv : Nat → Nat → Hp → Prop, (∃ m, Wv 0 m H2) ∧ ∀ i m H, Wv i m H → (J.stop i H ∧ Q H) ∨ (J.go i H ∧ ∃ Nx : Hp → Prop, (∀ H', Nx H' → ∃ m', m' < m ∧ Wv (i + 1) m' H') ∧
      ∀ x H', J.yld i H x H' → tGw (gx X) vs pt x (wipe σ vs) H' fun σ2 H2 => wipe σ2 vs = wipe σ vs ∧ tT (gx X) WNo c σ2 H2 fun b H3 =>
        if b = true then tE (gx X) WNo el σ2 H3 fun y H4 => ∃ acc, H4 Dl = some (.lst acc) ∧ acc.length < sizeLine ∧ Nx (upd H4 Dl (.lst (acc ++ [y]))) else Nx H3) := by
  obtain ⟨inv, i0, stp⟩ := ir
  refine ⟨fun i m H => ∃ it α μ acc zs, inv i it ∧ Ext α0 H0 α H ∧ Ext1 α2 H2 α H ∧ Aside α H Dl (.lst zs) ∧ EnvOk (gx X) α H ρ (wipe σ vs) ∧ StOk (gx X) α H μ ∧ Reps (gx X) α H acc.reverse zs ∧ loopC pt c el ρ m it μ acc = some (res, μe),
    ⟨m, it, α2, μ2, acc0, zs0, i0, x01, Ext1.refl _ _, as0, e, st, r0, hl⟩, ?_⟩
  rintro i m H ⟨it2, α3, μ3, acc, zs, i2, x2, y2, as2, e2, st2, r2, l2⟩
  have sp := stp i it2 i2 α3 H μ3 (x12.trans y2) st2
  cases m with
  | zero => cases l2
  | succ m =>
    unfold loopC at l2
    cases hst : it2.step μ3 with
    | none => rw [hst] at l2; cases l2
    | some o =>
      rw [hst] at l2 sp
      cases o with
      | none =>
        cases l2
        exact .inl ⟨sp, q α3 H zs x2 y2 as2 st2 r2⟩
      | some z =>
        obtain ⟨d, it3⟩ := z
        obtain ⟨go, i3, yl⟩ := sp
        refine .inr ⟨go, _, fun H' z => ⟨m, Nat.lt_succ_self m, z⟩, fun v H3 y => ?_⟩
        obtain ⟨x3, st3, r3⟩ := yl v H3 y
        dsimp only at l2
        split at l2
        · cases l2
        · rename_i ρ1 hb
          refine ⟨d, ρ, ρ1, α3, μ3, e2.ext st2 x3, st3, r3, hb, fun σ2 e4 w4 => ⟨by rw [w4, wipe_wipe], ?_⟩⟩
          have as4 := as2.ext x3 no_tbl
          have z4 := (x3.one st2)
          refine ⟨ρ1, α3, μ3, e4, st3, ?_⟩
          cases hc : c ρ1 μ3 with
          | exc n d2 μ5 => rw [hc] at l2; cases l2
          | bad => rw [hc] at l2; cases l2
          | ok b μ5 =>
            rw [hc] at l2
            intro b' α5 H5 x5 st5 rb
            cases rb
            have as5 := as4.ext x5 no_tbl
            have z5 := z4.trans (x5.one st3)
            cases b with
            | false =>
              rw [if_neg (by decide)]
              exact ⟨it3, α5, μ5, acc, zs, i3, (x2.trans x3).trans x5, y2.trans z5, as5, (e2.ext st2 x3).ext st3 x5, st5, z5.reps r2, l2⟩
            | true =>
              rw [if_pos rfl]
              refine ⟨ρ1, α5, μ5, e4.ext st3 x5, st5, ?_⟩
              dsimp only at l2
              cases he : el ρ1 μ5 with
              | exc n d2 μ6 => rw [he] at l2; cases l2
              | bad => rw [he] at l2; cases l2
              | ok y μ6 =>
                rw [he] at l2
                intro w α6 H6 x6 st6 r6
                have as6 := as5.ext x6 no_tbl
                have z6 := z5.trans (x6.one st5)
                have hln : zs.length < sizeLine := by
                  have h1 := loopC_len l2
                  rw [r2.length, sizeLine_eq, List.length_reverse]
                  have h2 : (y :: acc).length = acc.length + 1 := rfl
                  have h3 : szMax = 16777216 := rfl
                  omega
                refine ⟨zs, as6.at_, hln, it3, α6, μ6, y :: acc, zs ++ [w], i3, Ext.aside (((x2.trans x3).trans x5).trans x6) hD as6.out, (y2.trans z6).trans as6.one, as6.set rfl no_frz, as6.env (((e2.ext st2 x3).ext st3 x5).ext st5 x6), as6.st st6, ?_, l2⟩
                rw [List.reverse_cons]
                exact (as6.reps (z6.reps r2)).snoc (as6.rep r6)
theorem out_of {G : Gx} {α : List Addr} {H : Hp} {μ : Store} {a : Addr} (st : StOk G α H μ) (hD : H a = none) : a ∉ α := fun z => by
  obtain ⟨u, e, _⟩ := st.kind z
  rw [hD] at e
  cases e
/-- the loop, from the state under the lock -/
theorem lc_loop {σ : L2.St} {ρ : Env} {α1 : List Addr} {H1 : Hp} {μ1 μe : Store} {it : IterD} {J : It} {m : Nat} {res : List D} {Q : Addr → Hp → Prop} (ir : ItRel (gx X) α1 H1 it J) (e : EnvOk (gx X) α1 H1 ρ (wipe σ vs)) (st : StOk (gx X) α1 H1 μ1)
    (hl : loopC pt c el ρ m it μ1 [] = some (res, μe)) (hz : res.length ≤ szMax)
    (q : ∀ Dl α H zs, H1 Dl = none → Ext α1 H1 α H → Aside α H Dl (.lst zs) → StOk (gx X) α H μe → Reps (gx X) α H res.reverse zs → Q Dl H) :
    ∀ Dl, H1 Dl = none → ∃ Wv : Nat → Nat → Hp → Prop, (∃ m, Wv 0 m (upd H1 Dl (.lst []))) ∧ ∀ i m H, Wv i m H → (J.stop i H ∧ Q Dl H) ∨ (J.go i H ∧ ∃ Nx : Hp → Prop, (∀ H', Nx H' → ∃ m', m' < m ∧ Wv (i + 1) m' H') ∧
      ∀ x H', J.yld i H x H' → tGw (gx X) vs pt x (wipe σ vs) H' fun σ2 H2 => wipe σ2 vs = wipe σ vs ∧ tT (gx X) WNo c σ2 H2 fun b H3 =>
        if b = true then tE (gx X) WNo el σ2 H3 fun y H4 => ∃ acc, H4 Dl = some (.lst acc) ∧ acc.length < sizeLine ∧ Nx (upd H4 Dl (.lst (acc ++ [y]))) else Nx H3) := fun Dl hD =>
  lc_gen ir (Ext.fresh hD) hD ((Ext.fresh hD).one st) ⟨out_of st hD, upd_same, rfl, no_frz⟩ (e.ext st (Ext.fresh hD)) (st.fresh hD) .nil hl hz fun α H zs x _ as st' r => q Dl α H zs hD x as st' r
theorem Got.bindI {σ : L2.St} {α : List Addr} {H : Hp} {β γ : Type} {Rl : List Addr → Hp → β → γ → Prop} {r : Res Src} {k : Src → Store → Res β} {Q : γ → Hp → Prop} {R : It → Hp → Prop} (h : Got (gx X) W σ Rl α H (r.bind k) Q)
    (m : ∀ z μ1 α1 H1, Ext α H α1 H1 → StOk (gx X) α1 H1 μ1 → Got (gx X) W σ Rl α1 H1 (k z μ1) Q → RlS X R α1 H1 z.1 z.2) : GotI X W σ α H r R := by
  cases r with
  | ok b μ1 => exact fun α' H' y st1 => m b μ1 α' H' y st1 (Got.ext y h)
  | exc n d μ1 => exact h
  | bad => exact h
theorem lc_fin {G : Gx} {σ : L2.St} {α α1 : List Addr} {H H1 : Hp} {μ : Store} {res : List D} {Dl : Addr} {zs : List V} {Q : VK} (g : Got G W σ (Rep G) α1 H1 (if res.length ≤ szMax then .ok (.ref μ.length) (μ ++ [mkL res.reverse]) else .bad) Q) (x : Ext α1 H1 α H)
    (np : H1 Dl = none) (out : Dl ∉ α) (at_ : H Dl = some (.lst zs)) (st : StOk G α H μ) (r : Reps G α H res.reverse zs) : Q (.ref Dl) H := by
  split at g
  · exact g (.ref Dl) (α ++ [Dl]) H (x.into np) (st.into out (mkL_ok at_ r.into)) (.ref (by rw [← st.len]; exact getLast_app _ _))
  · exact g.elim
theorem pe_lb (hc : X.calm = true) (hN : X.N.Nodup) (hi : PI X tg iter (tI X W ev)) (ok : BlkOk X.N X.env.scope scope own)
    (hg : ∀ (s : Shared) (H : Hp) (C : Addr) (cl : List (Str × Addr)) (fp : List Addr), PG (X.blk s H scope (compEnvC scope cl C X.env) fp) tg (tGw (gx X) (own.map (·.2)) pt))
    (ht : ∀ (s : Shared) (H : Hp) (C : Addr) (cl : List (Str × Addr)) (fp : List Addr), PTs (X.blk s H scope (compEnvC scope cl C X.env) fp) ifs (tT (gx X) WNo c))
    (he : ∀ (s : Shared) (H : Hp) (C : Addr) (cl : List (Str × Addr)) (fp : List Addr), PE (X.blk s H scope (compEnvC scope cl C X.env) fp) elt (tE (gx X) WNo el)) (hs : ∀ x, foldedSetIterable iter X.env x = pure x) :
    ∀ σ H Q, tE (gx X) W (eLc ev pt c el (own.map (·.2))) σ H Q → tLc (tI X W ev) (tGw (gx X) (own.map (·.2)) pt) (tT (gx X) WNo c) (tE (gx X) WNo el) (own.map (·.2)) σ H (unQ X Q) := fun σ H Q ⟨ρ, α, μ, e, st, g⟩ => ⟨ρ, α, μ, e, st, Got.bindI g fun z μ1 α1 H1 x st1 g1 => by
  obtain ⟨it, lk⟩ := z
  split at g1
  · rename_i μ2 hl
    cases hlo : loopC pt c el (wipeE ρ (own.map (·.2))) (it.cnt μ2) it μ2 [] with
    | none => dsimp only at g1; rw [hlo] at g1; exact g1.elim
    | some w =>
      obtain ⟨res, μe⟩ := w
      dsimp only at g1 hl
      rw [hlo] at g1
      unfold endC at g1
      dsimp only at g1
      split at g1
      · rename_i μ4 hu
        have hz : res.length ≤ szMax := by
          split at g1
          · assumption
          · exact g1.elim
        have e1 := (e.ext st x).wipe (own.map (·.2))
        cases lk with
        | none =>
          cases hl
          cases hu
          intro J ir
          exact lc_loop (Q := fun Dl H => unQ X Q (.ref Dl) H) ir e1 st1 hlo hz fun Dl α2 H2 zs np x2 as2 st2 r2 => .inl (lc_fin g1 x2 np as2.out as2.at_ st2 r2)
        | some n =>
          intro J d od u ha hH mu hn ir
          obtain ⟨d2, u2, h1, h2, h3, h4, h5⟩ := lock_ok st1 hl
          have e2 : d2 = d := by
            rw [ha] at h1
            cases h1
            rfl
          subst e2
          rw [hH] at h2
          cases h2
          refine lc_loop (Q := fun Dl H => unQ X Q (.ref Dl) H) ir (e1.ext0 st1 (Ext0.write st1 (List.mem_of_getElem? ha))) (h5 od) hlo hz fun Dl α2 H2 zs np x2 as2 st2 r2 => ?_
          obtain ⟨od2, u3, k1, k2, k3, k4⟩ := unlock_at ha hH h4 x2 st2 hu
          have nd : Dl ≠ d2 := fun z => by
            rw [z, upd_same] at np
            cases np
          exact .inr ⟨d2, od2, u3, k1, hn, lc_fin g1 k2 (by rw [upd_ne nd] at np; exact np) as2.out (by rw [upd_ne nd]; exact as2.at_) k3 (st2.reps0 k4 r2)⟩
      · exact g1.elim
  · exact g1.elim⟩
theorem pe_l (hc : X.calm = true) (hN : X.N.Nodup) (hi : PI X tg iter (tI X W ev)) (ok : BlkOk X.N X.env.scope scope own)
    (hg : ∀ (s : Shared) (H : Hp) (C : Addr) (cl : List (Str × Addr)) (fp : List Addr), PG (X.blk s H scope (compEnvC scope cl C X.env) fp) tg (tGw (gx X) (own.map (·.2)) pt))
    (ht : ∀ (s : Shared) (H : Hp) (C : Addr) (cl : List (Str × Addr)) (fp : List Addr), PTs (X.blk s H scope (compEnvC scope cl C X.env) fp) ifs (tT (gx X) WNo c))
    (he : ∀ (s : Shared) (H : Hp) (C : Addr) (cl : List (Str × Addr)) (fp : List Addr), PE (X.blk s H scope (compEnvC scope cl C X.env) fp) elt (tE (gx X) WNo el)) (hs : ∀ x, foldedSetIterable iter X.env x = pure x) :
    PE X (.ListComp elt [⟨tg, iter, ifs, 0⟩] scope pos) (tE (gx X) W (eLc ev pt c el (own.map (·.2)))) := (pe_unl (pe_lc hc hN hi ok hg ht he hs)).weak (pe_lb hc hN hi ok hg ht he hs)
/-- y = [..]: the comprehension's own exchange of the name -/
theorem ps_sl {i : Nat} {y : Str} {py spos : Pos} (hc : X.calm = true) (hN : X.N.Nodup) (hy : X.N[i]? = some y) (hyl : X.env.scope.names.lookup y = some .local) (hsw : swapsWith (.ListComp elt [⟨tg, iter, ifs, 0⟩] scope pos) (some (.Name y py)) spos.line X.env = pure true)
    (hi : PI X tg iter (tI X W ev)) (ok : BlkOk X.N X.env.scope scope own)
    (hg : ∀ (s : Shared) (H : Hp) (C : Addr) (cl : List (Str × Addr)) (fp : List Addr), PG (X.blk s H scope (compEnvC scope cl C X.env) fp) tg (tGw (gx X) (own.map (·.2)) pt))
    (ht : ∀ (s : Shared) (H : Hp) (C : Addr) (cl : List (Str × Addr)) (fp : List Addr), PTs (X.blk s H scope (compEnvC scope cl C X.env) fp) ifs (tT (gx X) WNo c))
    (he : ∀ (s : Shared) (H : Hp) (C : Addr) (cl : List (Str × Addr)) (fp : List Addr), PE (X.blk s H scope (compEnvC scope cl C X.env) fp) elt (tE (gx X) WNo el)) (hs : ∀ x, foldedSetIterable iter X.env x = pure x) :
    PS X (.Assign [.Name y py] (.ListComp elt [⟨tg, iter, ifs, 0⟩] scope pos) spos) (tS (gx X) W (sAsg (eLc ev pt c el (own.map (·.2))) (gNm i))) :=
  (ps_unl (ps_setLc hc hN hy hyl hsw hi ok hg ht he hs)).weak fun Z σ H q => by
    obtain ⟨ρ, α, μ, e, st, q⟩ := q
    have h1 : tE (gx X) W (eLc ev pt c el (own.map (·.2))) σ H fun v H1 => Z.nx (σ.set i (some v)) H1 := ⟨ρ, α, μ, e, st, GotS.bind e st q fun d μ1 v α1 H1 x e1 st1 r q1 => GotS.nm q1 _ α1 H1 (Ext.refl _ _) st1 (e1.put i r)⟩
    exact pe_lb hc hN hi ok hg ht he hs σ H _ h1
theorem pts_n0 : PTs X [] (tT (gx X) W bYes) := ⟨fun pins s σ H Q I ⟨ρ, α, μ, e, st, g⟩ => pts_nil.run pins s σ H Q I (g true α H (Ext.refl _ _) st rfl)⟩
theorem pts_n1 {q : Expr} (h : PT X q (tT (gx X) W c)) : PTs X [q] (tT (gx X) W c) := pts_one h
end
end Sh
set_option maxRecDepth 100000
set_option maxHeartbeats 4000000
/-! Sh: comprehensions over two rows; dicts by comprehension. -/
namespace Sh
open PySem PySem.Spec PyProof.Rows L2

def loopC2 (pt : Pat) (c : Ev Bool) (ev1 : Ev Src) (pt1 : Pat) (c1 : Ev Bool) (el : Ev D) (vs1 : List Nat) (ρ : Env) : Nat → IterD → Store → List D → Option (List D × Store)
  | 0, _, _, _ => none
  | n + 1, it, μ, acc => match it.step μ with
    | none => none
    | some none => some (acc, μ)
    | some (some (d, it')) => match bindP pt d ρ with
      | none => none
      | some ρ1 => match c ρ1 μ with
        | .ok true μ1 => match ev1 ρ1 μ1 with
          | .ok (it1, none) μ2 => match loopC pt1 c1 el (wipeE ρ1 vs1) (it1.cnt μ2) it1 μ2 acc with
            | some (acc1, μ3) => loopC2 pt c ev1 pt1 c1 el vs1 ρ n it' μ3 acc1
            | none => none
          | _ => none
        | .ok false μ1 => loopC2 pt c ev1 pt1 c1 el vs1 ρ n it' μ1 acc
        | _ => none
theorem loopC2_len {pt pt1 : Pat} {c c1 : Ev Bool} {ev1 : Ev Src} {el : Ev D} {vs1 : List Nat} {ρ : Env} : ∀ {n : Nat} {it : IterD} {μ μ' : Store} {acc res : List D}, loopC2 pt c ev1 pt1 c1 el vs1 ρ n it μ acc = some (res, μ') → acc.length ≤ res.length
  | 0, _, _, _, _, _, h => by cases h
  | n + 1, it, μ, μ', acc, res, h => by
    unfold loopC2 at h
    split at h
    · cases h
    · cases h; exact Nat.le_refl _
    · split at h
      · cases h
      · split at h
        · split at h
          · split at h
            · rename_i h1
              exact Nat.le_trans (loopC_len h1) (loopC2_len h)
            · cases h
          · cases h
        · exact loopC2_len h
        · cases h
def eLc2 (it : Ev Src) (pt : Pat) (c : Ev Bool) (ev1 : Ev Src) (pt1 : Pat) (c1 : Ev Bool) (el : Ev D) (vs vs1 : List Nat) : Ev D := fun ρ μ => (it ρ μ).bind fun z μ1 => match lkS μ1 z.2 with
  | some μ2 => endC z.2 (loopC2 pt c ev1 pt1 c1 el vs1 (wipeE ρ vs) (z.1.cnt μ2) z.1 μ2 [])
  | none => .bad
section
variable {X : Cx} {W : WX} {ev ev1 : Ev Src} {pt pt1 : Pat} {c c1 : Ev Bool} {el : Ev D} {vs vs1 : List Nat} {tg iter tg1 iter1 elt : Expr} {ifs ifs1 : List Expr} {scope : Scope} {own : List (Str × Nat)} {pos : Pos}
/-- rows that need no lock -/
def tI0 (G : Gx) (ev : Ev Src) : TI := fun σ H R => ∃ ρ α μ it μ1, EnvOk G α H ρ σ ∧ StOk G α H μ ∧ ev ρ μ = .ok (it, none) μ1 ∧ ∀ α' H', Ext α H α' H' → StOk G α' H' μ1 → ∀ J, ItRel G α' H' it J → R J H'
theorem tI0_of {X1 : Cx} (hX : gx X1 = gx X) (hi : PI X1 tg iter (tI X1 W ev)) : PI X1 tg iter (tI0 (gx X) ev) := hi.weak fun σ H R ⟨ρ, α, μ, it, μ1, e, st, h1, h2⟩ => by
  rw [← hX] at e st h2
  refine ⟨ρ, α, μ, e, st, ?_⟩
  rw [h1]
  exact fun α' H' x st' J ir => h2 α' H' x st' J ir
theorem lc2_loop {σ : L2.St} {ρ : Env} {α1 : List Addr} {H1 : Hp} {μ1 μe : Store} {it : IterD} {J : It} {m : Nat} {res : List D} {Q : Addr → Hp → Prop} (ir : ItRel (gx X) α1 H1 it J) (e : EnvOk (gx X) α1 H1 ρ (wipe σ vs)) (st : StOk (gx X) α1 H1 μ1)
    (hl : loopC2 pt c ev1 pt1 c1 el vs1 ρ m it μ1 [] = some (res, μe)) (hz : res.length ≤ szMax)
    (q : ∀ Dl α H zs, H1 Dl = none → Ext α1 H1 α H → Aside α H Dl (.lst zs) → StOk (gx X) α H μe → Reps (gx X) α H res.reverse zs → Q Dl H) :
    ∀ Dl, H1 Dl = none → ∃ Wv : Nat → Nat → Hp → Prop, (∃ m, Wv 0 m (upd H1 Dl (.lst []))) ∧ ∀ i m H, Wv i m H → (J.stop i H ∧ Q Dl H) ∨ (J.go i H ∧ ∃ Nx : Hp → Prop, (∀ H', Nx H' → ∃ m', m' < m ∧ Wv (i + 1) m' H') ∧
      ∀ x H', J.yld i H x H' → tGw (gx X) vs pt x (wipe σ vs) H' fun σ2 H2 => wipe σ2 vs = wipe σ vs ∧ tT (gx X) WNo c σ2 H2 fun b H3 =>
        if b = true then tI0 (gx X) ev1 σ2 H3 fun J1 H4 => ∃ W1 : Nat → Nat → Hp → Prop, (∃ m, W1 0 m H4) ∧ ∀ j k H, W1 j k H → (J1.stop j H ∧ Nx H) ∨ (J1.go j H ∧ ∃ Nx1 : Hp → Prop, (∀ H', Nx1 H' → ∃ k', k' < k ∧ W1 (j + 1) k' H') ∧
          ∀ x H', J1.yld j H x H' → tGw (gx X) vs1 pt1 x (wipe σ2 vs1) H' fun σ3 H5 => wipe σ3 vs1 = wipe σ2 vs1 ∧ tT (gx X) WNo c1 σ3 H5 fun b H6 =>
            if b = true then tE (gx X) WNo el σ3 H6 fun y H7 => ∃ acc, H7 Dl = some (.lst acc) ∧ acc.length < sizeLine ∧ Nx1 (upd H7 Dl (.lst (acc ++ [y]))) else Nx1 H6)
        else Nx H3) := by
  intro Dl hD
  have i1 := (Ext.fresh (o := .lst []) hD).one st
  obtain ⟨inv, i0, stp⟩ := ir
  refine ⟨fun i m H => ∃ it α μ acc zs, inv i it ∧ Ext α1 H1 α H ∧ Ext1 α1 H1 α H ∧ Aside α H Dl (.lst zs) ∧ EnvOk (gx X) α H ρ (wipe σ vs) ∧ StOk (gx X) α H μ ∧ Reps (gx X) α H acc.reverse zs ∧ loopC2 pt c ev1 pt1 c1 el vs1 ρ m it μ acc = some (res, μe),
    ⟨m, it, α1, μ1, [], [], i0, Ext.fresh hD, i1, ⟨out_of st hD, upd_same, rfl, no_frz⟩, e.ext st (Ext.fresh hD), st.fresh hD, .nil, hl⟩, ?_⟩
  rintro i m H ⟨it2, α3, μ3, acc, zs, i2, x2, y2, as2, e2, st2, r2, l2⟩
  have sp := stp i it2 i2 α3 H μ3 y2 st2
  cases m with
  | zero => cases l2
  | succ m =>
    unfold loopC2 at l2
    cases hst : it2.step μ3 with
    | none => rw [hst] at l2; cases l2
    | some o =>
      rw [hst] at l2 sp
      cases o with
      | none =>
        cases l2
        exact .inl ⟨sp, q Dl α3 H zs hD x2 as2 st2 r2⟩
      | some z =>
        obtain ⟨d, it3⟩ := z
        obtain ⟨go, i3, yl⟩ := sp
        refine .inr ⟨go, _, fun H' z => ⟨m, Nat.lt_succ_self m, z⟩, fun v H3 y => ?_⟩
        obtain ⟨x3, st3, r3⟩ := yl v H3 y
        dsimp only at l2
        split at l2
        · cases l2
        · rename_i ρ1 hb
          refine ⟨d, ρ, ρ1, α3, μ3, e2.ext st2 x3, st3, r3, hb, fun σ2 e4 w4 => ⟨by rw [w4, wipe_wipe], ?_⟩⟩
          have as4 := as2.ext x3 no_tbl
          have z4 := (x3.one st2)
          refine ⟨ρ1, α3, μ3, e4, st3, ?_⟩
          cases hc : c ρ1 μ3 with
          | exc n d2 μ5 => rw [hc] at l2; cases l2
          | bad => rw [hc] at l2; cases l2
          | ok b μ5 =>
            rw [hc] at l2
            intro b' α5 H5 x5 st5 rb
            cases rb
            have as5 := as4.ext x5 no_tbl
            have z5 := z4.trans (x5.one st3)
            cases b with
            | false =>
              rw [if_neg (by decide)]
              exact ⟨it3, α5, μ5, acc, zs, i3, (x2.trans x3).trans x5, y2.trans z5, as5, (e2.ext st2 x3).ext st3 x5, st5, z5.reps r2, l2⟩
            | true =>
              rw [if_pos rfl]
              dsimp only at l2
              split at l2
              · rename_i it1 μ6 he
                split at l2
                · rename_i acc1 μ7 hin
                  refine ⟨ρ1, α5, μ5, it1, μ6, e4.ext st3 x5, st5, he, fun α6 H6 x6 st6 J1 ir1 => ?_⟩
                  have as6 := as5.ext x6 no_tbl
                  have z6 := z5.trans (x6.one st5)
                  have e6 := ((e2.ext st2 x3).ext st3 x5).ext st5 x6
                  have hz1 : acc1.length ≤ szMax := Nat.le_trans (loopC2_len l2) hz
                  exact lc_gen (vs := vs1) ir1 (((x2.trans x3).trans x5).trans x6) hD (Ext1.refl _ _) as6 (((e4.ext st3 x5).ext st5 x6).wipe vs1) st6 (z6.reps r2) hin hz1 fun α7 H7 zs7 x7 y7 as7 st7 r7 =>
                    ⟨it3, α7, μ7, acc1, zs7, i3, x7, (y2.trans z6).trans y7, as7, ⟨e6.len, fun i d h => by
                      obtain ⟨v, h1, h2⟩ := e6.val i d h
                      exact ⟨v, h1, y7.rep h2⟩⟩, st7, r7, l2⟩
                · cases l2
              · cases l2
theorem pe_l2b {iter1 : Expr} (hc : X.calm = true) (hN : X.N.Nodup) (hi : PI X tg iter (tI X W ev)) (ok : BlkOk X.N X.env.scope scope own) :
    ∀ σ H Q, tE (gx X) W (eLc2 ev pt c ev1 pt1 c1 el (own.map (·.2)) vs1) σ H Q → tLc2 (tI X W ev) (tGw (gx X) (own.map (·.2)) pt) (tT (gx X) WNo c) (tI0 (gx X) ev1) (tGw (gx X) vs1 pt1) (tT (gx X) WNo c1) (tE (gx X) WNo el) (own.map (·.2)) vs1 σ H (unQ X Q) := fun σ H Q ⟨ρ, α, μ, e, st, g⟩ => ⟨ρ, α, μ, e, st, Got.bindI g fun z μ1 α1 H1 x st1 g1 => by
  obtain ⟨it, lk⟩ := z
  split at g1
  · rename_i μ2 hl
    cases hlo : loopC2 pt c ev1 pt1 c1 el vs1 (wipeE ρ (own.map (·.2))) (it.cnt μ2) it μ2 [] with
    | none => dsimp only at g1; rw [hlo] at g1; exact g1.elim
    | some w =>
      obtain ⟨res, μe⟩ := w
      dsimp only at g1 hl
      rw [hlo] at g1
      unfold endC at g1
      dsimp only at g1
      split at g1
      · rename_i μ4 hu
        have hz : res.length ≤ szMax := by
          split at g1
          · assumption
          · exact g1.elim
        have e1 := (e.ext st x).wipe (own.map (·.2))
        cases lk with
        | none =>
          cases hl
          cases hu
          intro J ir
          exact lc2_loop (Q := fun Dl H => unQ X Q (.ref Dl) H) ir e1 st1 hlo hz fun Dl α2 H2 zs np x2 as2 st2 r2 => .inl (lc_fin g1 x2 np as2.out as2.at_ st2 r2)
        | some n =>
          intro J d od u ha hH mu hn ir
          obtain ⟨d2, u2, h1, h2, h3, h4, h5⟩ := lock_ok st1 hl
          have e2 : d2 = d := by
            rw [ha] at h1
            cases h1
            rfl
          subst e2
          rw [hH] at h2
          cases h2
          refine lc2_loop (Q := fun Dl H => unQ X Q (.ref Dl) H) ir (e1.ext0 st1 (Ext0.write st1 (List.mem_of_getElem? ha))) (h5 od) hlo hz fun Dl α2 H2 zs np x2 as2 st2 r2 => ?_
          obtain ⟨od2, u3, k1, k2, k3, k4⟩ := unlock_at ha hH h4 x2 st2 hu
          have nd : Dl ≠ d2 := fun z => by
            rw [z, upd_same] at np
            cases np
          exact .inr ⟨d2, od2, u3, k1, hn, lc_fin g1 k2 (by rw [upd_ne nd] at np; exact np) as2.out (by rw [upd_ne nd]; exact as2.at_) k3 (st2.reps0 k4 r2)⟩
      · exact g1.elim
  · exact g1.elim⟩
theorem pe_l2 (hc : X.calm = true) (hN : X.N.Nodup) (hi : PI X tg iter (tI X W ev)) (ok : BlkOk X.N X.env.scope scope own) (hv : ∀ i ∈ vs1, i ∈ own.map (·.2))
    (hg : ∀ (s : Shared) (H : Hp) (C : Addr) (cl : List (Str × Addr)) (fp : List Addr), PG (X.blk s H scope (compEnvC scope cl C X.env) fp) tg (tGw (gx X) (own.map (·.2)) pt))
    (ht : ∀ (s : Shared) (H : Hp) (C : Addr) (cl : List (Str × Addr)) (fp : List Addr), PTs (X.blk s H scope (compEnvC scope cl C X.env) fp) ifs (tT (gx X) WNo c))
    (hi1 : ∀ (s : Shared) (H : Hp) (C : Addr) (cl : List (Str × Addr)) (fp : List Addr), PI (X.blk s H scope (compEnvC scope cl C X.env) fp) tg1 iter1 (tI (X.blk s H scope (compEnvC scope cl C X.env) fp) WNo ev1))
    (hg1 : ∀ (s : Shared) (H : Hp) (C : Addr) (cl : List (Str × Addr)) (fp : List Addr), PG (X.blk s H scope (compEnvC scope cl C X.env) fp) tg1 (tGw (gx X) vs1 pt1))
    (ht1 : ∀ (s : Shared) (H : Hp) (C : Addr) (cl : List (Str × Addr)) (fp : List Addr), PTs (X.blk s H scope (compEnvC scope cl C X.env) fp) ifs1 (tT (gx X) WNo c1))
    (he : ∀ (s : Shared) (H : Hp) (C : Addr) (cl : List (Str × Addr)) (fp : List Addr), PE (X.blk s H scope (compEnvC scope cl C X.env) fp) elt (tE (gx X) WNo el)) (hs : ∀ x, foldedSetIterable iter X.env x = pure x) (hs1 : ∀ env x, foldedSetIterable iter1 env x = pure x) :
    PE X (.ListComp elt [⟨tg, iter, ifs, 0⟩, ⟨tg1, iter1, ifs1, 0⟩] scope pos) (tE (gx X) W (eLc2 ev pt c ev1 pt1 c1 el (own.map (·.2)) vs1)) :=
  (pe_unl (pe_lc2 hc hN hi ok hv hg ht (fun s H C cl fp => tI0_of rfl (hi1 s H C cl fp)) hg1 ht1 he hs hs1)).weak (pe_l2b (iter1 := iter1) hc hN hi ok)
theorem ps_sl2 {i : Nat} {y : Str} {py spos : Pos} (hc : X.calm = true) (hN : X.N.Nodup) (hy : X.N[i]? = some y) (hyl : X.env.scope.names.lookup y = some .local)
    (hsw : swapsWith (.ListComp elt [⟨tg, iter, ifs, 0⟩, ⟨tg1, iter1, ifs1, 0⟩] scope pos) (some (.Name y py)) spos.line X.env = pure true)
    (hi : PI X tg iter (tI X W ev)) (ok : BlkOk X.N X.env.scope scope own) (hv : ∀ i ∈ vs1, i ∈ own.map (·.2))
    (hg : ∀ (s : Shared) (H : Hp) (C : Addr) (cl : List (Str × Addr)) (fp : List Addr), PG (X.blk s H scope (compEnvC scope cl C X.env) fp) tg (tGw (gx X) (own.map (·.2)) pt))
    (ht : ∀ (s : Shared) (H : Hp) (C : Addr) (cl : List (Str × Addr)) (fp : List Addr), PTs (X.blk s H scope (compEnvC scope cl C X.env) fp) ifs (tT (gx X) WNo c))
    (hi1 : ∀ (s : Shared) (H : Hp) (C : Addr) (cl : List (Str × Addr)) (fp : List Addr), PI (X.blk s H scope (compEnvC scope cl C X.env) fp) tg1 iter1 (tI (X.blk s H scope (compEnvC scope cl C X.env) fp) WNo ev1))
    (hg1 : ∀ (s : Shared) (H : Hp) (C : Addr) (cl : List (Str × Addr)) (fp : List Addr), PG (X.blk s H scope (compEnvC scope cl C X.env) fp) tg1 (tGw (gx X) vs1 pt1))
    (ht1 : ∀ (s : Shared) (H : Hp) (C : Addr) (cl : List (Str × Addr)) (fp : List Addr), PTs (X.blk s H scope (compEnvC scope cl C X.env) fp) ifs1 (tT (gx X) WNo c1))
    (he : ∀ (s : Shared) (H : Hp) (C : Addr) (cl : List (Str × Addr)) (fp : List Addr), PE (X.blk s H scope (compEnvC scope cl C X.env) fp) elt (tE (gx X) WNo el)) (hs : ∀ x, foldedSetIterable iter X.env x = pure x) (hs1 : ∀ env x, foldedSetIterable iter1 env x = pure x) :
    PS X (.Assign [.Name y py] (.ListComp elt [⟨tg, iter, ifs, 0⟩, ⟨tg1, iter1, ifs1, 0⟩] scope pos) spos) (tS (gx X) W (sAsg (eLc2 ev pt c ev1 pt1 c1 el (own.map (·.2)) vs1) (gNm i))) :=
  (ps_unl (ps_setLc2 hc hN hy hyl hsw hi ok hv hg ht (fun s H C cl fp => tI0_of rfl (hi1 s H C cl fp)) hg1 ht1 he hs hs1)).weak fun Z σ H q => by
    obtain ⟨ρ, α, μ, e, st, q⟩ := q
    have h1 : tE (gx X) W (eLc2 ev pt c ev1 pt1 c1 el (own.map (·.2)) vs1) σ H fun v H1 => Z.nx (σ.set i (some v)) H1 := ⟨ρ, α, μ, e, st, GotS.bind e st q fun d μ1 v α1 H1 x e1 st1 r q1 => GotS.nm q1 _ α1 H1 (Ext.refl _ _) st1 (e1.put i r)⟩
    exact pe_l2b (iter1 := iter1) hc hN hi ok σ H _ h1
end
end Sh
set_option maxRecDepth 100000
set_option maxHeartbeats 4000000
/-! Sh: places, slices, stores, what is in what. -/
namespace Sh
open PySem PySem.Spec PyProof.Rows L2

/-! ### keys -/
def hasD (k : P) : List (P × P) → Bool
  | [] => false
  | p :: r => p.1.eqv k || hasD k r
def valD (k : P) : List (P × P) → Option P
  | [] => none
  | p :: r => match p.1.eqv k with
    | true => some p.2
    | false => valD k r
def repD (k v : P) : List (P × P) → List (P × P)
  | [] => []
  | p :: r => (match p.1.eqv k with
    | true => (p.1, v)
    | false => p) :: repD k v r
def putD (k v : P) (kvs : List (P × P)) : List (P × P) := match hasD k kvs with
  | true => repD k v kvs
  | false => kvs ++ [(k, v)]
theorem keyOf_eqv {x y : P} {a b : Key} (h1 : keyOf x = some a) (h2 : keyOf y = some b) : x.eqv y = decide (a = b) := by
  cases x with
  | int i =>
    cases h1
    cases y with
    | int j =>
      cases h2
      show (i == j) = _
      rw [key_ll]
    | str s => cases h2; rw [key_lr]; rfl
    | non => cases h2
    | bl c => cases h2
    | tup ps => cases h2
  | str s =>
    cases h1
    cases y with
    | int j => cases h2; rw [key_rl]; rfl
    | str t =>
      cases h2
      show decide (s = t) = _
      rw [key_rr, decide_eq_decide]
      exact stS_inj.symm
    | non => cases h2
    | bl c => cases h2
    | tup ps => cases h2
  | non => cases h1
  | bl c => cases h1
  | tup ps => cases h1
theorem rep_key {K : PySem.W.Frag} {H : Hp} {x : P} {k : Key} {v : V} (h : keyOf x = some k) (r : RepP K H x v) : v = kV k := by
  cases r with
  | int i => cases h; rfl
  | str s => cases h; rfl
  | non => cases h
  | bl b => cases h
  | tup _ _ => cases h
section
variable {K : PySem.W.Frag} {H : Hp} {k : P} {k' : Key}
theorem KRep.has {kvs : List (P × P)} {ks : List (Key × V)} (h : KRep keyOf K H kvs ks) (hk : keyOf k = some k') : hasD k kvs = (ks.any fun p => decide (p.1 = k')) := by
  induction h with
  | nil => rfl
  | cons r t ih =>
    show (_ || _) = (_ || _)
    rw [ih, keyOf_eqv r.1 hk]
theorem KRep.val {kvs : List (P × P)} {ks : List (Key × V)} (h : KRep keyOf K H kvs ks) (hk : keyOf k = some k') : (∃ x v, valD k kvs = some x ∧ valV ks k' = some v ∧ RepP K H x v) ∨ (valD k kvs = none ∧ valV ks k' = none) := by
  induction h with
  | nil => exact .inr ⟨rfl, rfl⟩
  | @cons p q ps qs r t ih =>
    have e := keyOf_eqv r.1 hk
    by_cases hq : q.1 = k'
    · rw [hq, decide_eq_true rfl] at e
      exact .inl ⟨p.2, q.2, by unfold valD; rw [e], valV_pos hq, r.2⟩
    · rw [decide_eq_false hq] at e
      have h1 : valD k (p :: ps) = valD k ps := by rw [valD, e]
      rw [h1, valV_neg hq]
      exact ih
theorem KRep.rep {kvs : List (P × P)} {ks : List (Key × V)} {x : P} {v : V} (h : KRep keyOf K H kvs ks) (hk : keyOf k = some k') (r : RepP K H x v) : KRep keyOf K H (repD k x kvs) (ks.map fun kv => if kv.1 = k' then (kv.1, v) else kv) := by
  induction h with
  | nil => exact .nil
  | @cons p q ps qs r1 t ih =>
    have e := keyOf_eqv r1.1 hk
    refine .cons ?_ ih
    by_cases hq : q.1 = k'
    · rw [hq, decide_eq_true rfl] at e
      dsimp only
      rw [e, if_pos hq]
      exact ⟨r1.1, r⟩
    · rw [decide_eq_false hq] at e
      dsimp only
      rw [e, if_neg hq]
      exact r1
theorem KRep.app {κ : Type} {f : P → Option κ} {l l2 : List (P × P)} {m m2 : List (κ × V)} (h : KRep f K H l m) (h2 : KRep f K H l2 m2) : KRep f K H (l ++ l2) (m ++ m2) := by
  induction h with
  | nil => exact h2
  | cons r t ih => exact .cons r ih
theorem KRep.put {kvs : List (P × P)} {ks : List (Key × V)} {x : P} {v : V} (h : KRep keyOf K H kvs ks) (hk : keyOf k = some k') (r : RepP K H x v) : KRep keyOf K H (putD k x kvs) (putK ks k' v) := by
  unfold putD putK
  rw [h.has hk]
  cases (ks.any fun p => decide (p.1 = k')) with
  | true =>
    rw [if_pos rfl]
    exact h.rep hk r
  | false =>
    rw [if_neg (by decide)]
    exact KRep.app h (.cons ⟨hk, r⟩ .nil)
end
theorem repD_len (k v : P) : ∀ kvs : List (P × P), (repD k v kvs).length = kvs.length
  | [] => rfl
  | p :: r => congrArg Nat.succ (repD_len k v r)
theorem putD_le (k v : P) (kvs : List (P × P)) : kvs.length ≤ (putD k v kvs).length := by
  unfold putD
  split
  · rw [repD_len]; exact Nat.le_refl _
  · rw [List.length_append]; exact Nat.le_add_right _ _
/-- a dict that is read -/
def rdD (μ : Store) (n : Nat) : Option (List (P × P)) := match μ.get? n with
  | some (.fd kvs) => some kvs
  | some (.lfd kvs) => some kvs
  | _ => none
theorem rdD_of {G : Gx} {α : List Addr} {H : Hp} {μ : Store} {n : Nat} {a : Addr} {kvs : List (P × P)} (st : StOk G α H μ) (ha : α[n]? = some a) (h : rdD μ n = some kvs) : ∃ ks, Rd H a (.dK ks) ∧ KRep keyOf G.K H kvs ks := by
  unfold rdD at h
  try rw [nth_eq] at h
  split at h
  · rename_i q
    cases h
    obtain ⟨ks, h1, h2⟩ := st.cel n _ a q ha
    exact ⟨ks, .inl h1, h2⟩
  · rename_i q
    cases h
    obtain ⟨od, ks, h1, h2⟩ := st.cel n _ a q ha
    exact ⟨ks, .inr ⟨od, h1⟩, h2⟩
  · cases h

/-! ### a[i] -/
def opIx : Op2
  | .p (.tup ps), .p (.int i), μ => match ixN ps.length i with
    | some j => match nth ps j with
      | some x => some (.p x, μ)
      | none => none
    | none => none
  | .mix ds, .p (.int i), μ => match ixN ds.length i with
    | some j => match nth ds j with
      | some x => some (x, μ)
      | none => none
    | none => none
  | .p (.str s), .p (.int i), μ => if s.length ≤ szMax then match ixN s.length i with
      | some j => match nth s j with
        | some c => some (.p (.str [c]), μ)
        | none => none
      | none => none
    else none
  | .rol ps, .p (.int i), μ => match ixN ps.length i with
    | some j => match nth ps j with
      | some x => some (.p x, μ)
      | none => none
    | none => none
  | .ref n, .p k, μ => match rdL μ n with
    | some ds => match k with
      | .int i => match ixN ds.length i with
        | some j => match nth ds j with
          | some x => some (x, μ)
          | none => none
        | none => none
      | _ => none
    | none => match rdD μ n, keyOf k with
      | some kvs, some _ => match valD k kvs with
        | some x => some (.p x, μ)
        | none => none
      | _, _ => none
  | _, _, _ => none
section
variable {X : Cx} {α : List Addr} {H : Hp} {μ : Store}
theorem atI_of {β : Type} {xs : List β} {i : Int} {j : Nat} {x : β} (h1 : ixN xs.length i = some j) (h2 : xs[j]? = some x) : atI xs i = some x := by
  unfold atI
  rw [h1]
  exact h2
theorem ix_dictS (hu : X.A.units + 1 < cLine) {value slice : Expr} {pins : List (Addr × Obj)} {s : Shared} {σ : L2.St} {a : Addr} {y x : V} {u : Value} {Q : VK} (I : Inv X pins σ H s) (g : DGet H a y (some x)) (ry : RelV y u) (q : Q x H)
    (hs : subscripted slice false (.ref a) u = operate [.ref a, u] (getItem (.ref a) u)) : wpAny (model X.prog X.w) X.A (subscriptTail value slice (.ref a) u) (EP X pins σ Q) X.xe s :=
  tail_any (dict_typeIs I g) PySem.F.slot_dict_getitem.lookup (d_getItem hu I g ry fun w' s3 I3 rw' => ⟨x, H, I3, rw', q⟩) hs
theorem ix_S (hu : X.A.units + 1 < cLine) : IxR X (r2 (gx X) opIx) := by
  rintro value slice pins s σ H x y v u Q I rx ry ⟨α, μ, d, e, st, r1, r2, g⟩ hs
  unfold opIx at g
  split at g
  · rename_i ps i
    obtain ⟨a, vs, rfl, h1, h2⟩ := rep_tup r1
    obtain rfl := rep_int r2
    split at g
    · rename_i j hj
      try rw [nth_eq] at g
      split at g
      · rename_i x hx
        obtain ⟨w, h3, h4⟩ := h2.get hx
        exact ix_tup value slice pins s σ H _ _ v u Q I rx ry ⟨a, vs, i, w, rfl, rfl, h1, atI_of (by rw [h2.length]; exact hj) h3, g.here st (.p h4)⟩ hs
      · exact g.elim
    · exact g.elim
  · rename_i ds i
    obtain rfl := rep_int r2
    cases r1 with
    | @mix ds a vs h1 h2 =>
      split at g
      · rename_i j hj
        try rw [nth_eq] at g
        split at g
        · rename_i x hx
          obtain ⟨w, h3, h4⟩ := h2.get hx
          exact ix_tup value slice pins s σ H _ _ v u Q I rx ry ⟨a, vs, i, w, rfl, rfl, h1, atI_of (by rw [h2.length]; exact hj) h3, g.here st h4⟩ hs
        · exact g.elim
      · exact g.elim
  · rename_i s' i
    obtain rfl := rep_str r1
    obtain rfl := rep_int r2
    split at g
    · rename_i hz
      split at g
      · rename_i j hj
        try rw [nth_eq] at g
        split at g
        · rename_i c hc
          exact ix_str value slice pins s σ H _ _ v u Q I rx ry ⟨stS s', i, c, rfl, rfl, by rw [stS_len, sizeLine_eq]; exact hz, atI_of (by simpa [stS] using hj) (by simpa [stS] using hc), g.here st (.p (.str [c]))⟩ hs
        · exact g.elim
      · exact g.elim
    · exact g.elim
  · rename_i ps i
    obtain rfl := rep_int r2
    cases r1 with
    | @rol ps a vs h1 h2 =>
      split at g
      · rename_i j hj
        try rw [nth_eq] at g
        split at g
        · rename_i x hx
          obtain ⟨w, h3, h4⟩ := h2.get hx
          exact ix_list value slice pins s σ H _ _ v u Q I rx ry ⟨a, vs, i, w, rfl, rfl, h1.sq, atI_of (by rw [h2.length]; exact hj) h3, g.here st (.p h4)⟩ hs
        · exact g.elim
      · exact g.elim
  · rename_i n k
    obtain ⟨a, rfl, ha⟩ := rep_ref r1
    split at g
    · rename_i ds hd
      obtain ⟨vs, h1, h2⟩ := rdL_of st ha hd
      split at g
      · rename_i i
        obtain rfl := rep_int r2
        split at g
        · rename_i j hj
          try rw [nth_eq] at g
          split at g
          · rename_i x hx
            obtain ⟨w, h3, h4⟩ := h2.get hx
            exact ix_list value slice pins s σ H _ _ v u Q I rx ry ⟨a, vs, i, w, rfl, rfl, h1, atI_of (by rw [h2.length]; exact hj) h3, g.here st h4⟩ hs
          · exact g.elim
        · exact g.elim
      · exact g.elim
    · split at g
      · rename_i kvs k' hd hk
        obtain ⟨ks, h1, h2⟩ := rdD_of st ha hd
        split at g
        · rename_i x hx
          cases r2 with
          | p r2 =>
            obtain rfl := rep_key hk r2
            rcases h2.val hk with ⟨x', w, e1, e2, e3⟩ | ⟨e1, _⟩
            · rw [hx] at e1
              cases e1
              cases rx
              exact ix_dictS hu I (.inl ⟨ks, k', h1, rfl, e2.symm⟩) ry (g.here st (.p e3)) hs
            · rw [hx] at e1
              cases e1
        · exact g.elim
      · exact g.elim
  · exact g.elim
end
/-! ### x in y -/
/-- how deep things may be that are looked for -/
def inD (d e : D) (μ : Store) : Option Bool := match e with
  | .p (.tup ps) => match d with
    | .p x => if x.dle 60 then some (ps.any fun y => y.eqv x) else none
    | _ => none
  | .p (.str t) => match d with
    | .p (.str [c]) => some (t.contains c)
    | _ => none
  | .ref n => match rdD μ n with
    | some kvs => match d with
      | .p k => match keyOf k with
        | some _ => some (hasD k kvs)
        | none => none
      | _ => none
    | none => match μ.get? n with
      | some (.fl ps) => match d with
        | .p x => if x.dle 60 then some (ps.any fun y => y.eqv x) else none
        | _ => none
      | _ => none
  | _ => none
def opIn : Op2 := fun d e μ => (inD d e μ).map fun b => (.p (.bl b), μ)
def opNotIn : Op2 := fun d e μ => (inD d e μ).map fun b => (.p (.bl (!b)), μ)
theorem any_py (x : P) : ∀ ps : List P, ((pys ps).any fun y => PyData.eqv y x.py) = ps.any fun y => y.eqv x
  | [] => rfl
  | y :: ps => by
    show (PyData.eqv y.py x.py || (pys ps).any fun y => PyData.eqv y x.py) = (y.eqv x || ps.any fun y => y.eqv x)
    rw [eqv_py, any_py x ps]
theorem hasD_val {K : PySem.W.Frag} {H : Hp} {k : P} {k' : Key} {kvs : List (P × P)} {ks : List (Key × V)} (h : KRep keyOf K H kvs ks) (hk : keyOf k = some k') : hasD k kvs = (valV ks k').isSome := by
  rw [h.has hk, valV_any]
inductive InW (X : Cx) (H : Hp) (x y : V) (b : Bool) : Prop
  | lst (a c : PyData) (xs : List PyData) (h1 : Dp X.K H x a) (h2 : Dp X.K H y (.list xs)) (p1 : a.plain = true) (p2 : PyData.plainAll xs = true) (dp : a.depth ≤ 60) (e : (xs.any fun z => PyData.eqv z a) = b)
  | tup (a : PyData) (xs : List PyData) (h1 : Dp X.K H x a) (h2 : Dp X.K H y (.tuple xs)) (p1 : a.plain = true) (p2 : PyData.plainAll xs = true) (dp : a.depth ≤ 60) (e : (xs.any fun z => PyData.eqv z a) = b)
  | sgn (c : Nat) (z : Str) (h1 : x = .str ⟨#[c]⟩) (h2 : y = .str z) (e : decide (c ∈ z.cps.toList) = b)
  | dct (a : Addr) (o : Option V) (h1 : y = .ref a) (h2 : DGet H a x o) (e : o.isSome = b)
section
variable {X : Cx} {α : List Addr} {H : Hp} {μ : Store}
theorem inD_ok {d e : D} {x y : V} {b : Bool} (st : StOk (gx X) α H μ) (r1 : Rep (gx X) α H d x) (r2 : Rep (gx X) α H e y) (h : inD d e μ = some b) : InW X H x y b := by
  unfold inD at h
  split at h
  · rename_i ps
    split at h
    · rename_i z
      split at h
      · rename_i hz
        cases h
        obtain ⟨a, vs, rfl, h1, h2⟩ := rep_tup r2
        cases r1 with
        | p r1 => exact .tup _ _ r1.dp (.tup h1 h2.dp) z.plain (pys_plain ps) (P.dle_ok hz) (any_py z ps)
      · cases h
    · cases h
  · rename_i t
    split at h
    · rename_i c
      cases h
      obtain rfl := rep_str r1
      obtain rfl := rep_str r2
      refine .sgn c (stS t) rfl rfl ?_
      rw [Bool.eq_iff_iff]
      simp [stS]
      exact decide_eq_true_iff
    · cases h
  · rename_i n
    obtain ⟨a, rfl, ha⟩ := rep_ref r2
    split at h
    · rename_i kvs hd
      obtain ⟨ks, h1, h2⟩ := rdD_of st ha hd
      split at h
      · rename_i k
        split at h
        · rename_i k' hk
          cases h
          cases r1 with
          | p r1 =>
            obtain rfl := rep_key hk r1
            exact .dct a (valV ks k') rfl (.inl ⟨ks, k', h1, rfl, rfl⟩) (hasD_val h2 hk).symm
        · cases h
      · cases h
    · try rw [nth_eq] at h
      split at h
      · rename_i ps q
        obtain ⟨vs, h1, h2⟩ := st.cel n _ a q ha
        split at h
        · rename_i z
          split at h
          · rename_i hz
            cases h
            cases r1 with
            | p r1 => exact .lst _ .none _ r1.dp (.lst (.inl (.inl h1)) h2.dp) z.plain (pys_plain ps) (P.dle_ok hz) (any_py z ps)
          · cases h
        · cases h
      · cases h
  · cases h
theorem op_inS (hu : X.A.units + 64 < cLine) : OpR X (compareOp .In) (r2 (gx X) opIn) := by
  rintro pins s σ H x y v u Q I rx ry ⟨α, μ, d, e, st, r1, r2, g⟩
  obtain ⟨b, hb, g⟩ := GotO.ofMap g
  cases inD_ok st r1 r2 hb with
  | lst a c xs h1 h2 p1 p2 dp e =>
    obtain ⟨as, q1⟩ := Dp.reads I a x v h1 rx
    obtain ⟨bs, q2⟩ := Dp.reads I (.list xs) y u h2 ry
    exact SeqAt.in_list_data q2 q1 p2 p1 (by omega) ⟨.bl b, H, I, by rw [e]; rfl, g.here st (.p (.bl _))⟩
  | tup a xs h1 h2 p1 p2 dp e =>
    obtain ⟨as, q1⟩ := Dp.reads I a x v h1 rx
    obtain ⟨bs, q2⟩ := Dp.reads I (.tuple xs) y u h2 ry
    exact SeqAt.in_tuple_data q2 q1 p2 p1 (by omega) ⟨.bl b, H, I, by rw [e]; rfl, g.here st (.p (.bl _))⟩
  | sgn c z h1 h2 e => exact op_in_sign pins s σ H _ _ v u Q I rx ry ⟨c, z, h1, h2, by rw [e]; exact g.here st (.p (.bl _))⟩
  | dct a o h1 h2 e =>
    subst h1
    cases ry
    exact d_in (by omega) I h2 rx fun s' I' => ⟨.bl b, H, I', by rw [e]; rfl, g.here st (.p (.bl _))⟩
theorem op_notInS (hu : X.A.units + 64 < cLine) : OpR X (compareOp .NotIn) (r2 (gx X) opNotIn) := by
  rintro pins s σ H x y v u Q I rx ry ⟨α, μ, d, e, st, r1, r2, g⟩
  obtain ⟨b, hb, g⟩ := GotO.ofMap g
  cases inD_ok st r1 r2 hb with
  | lst a c xs h1 h2 p1 p2 dp e =>
    obtain ⟨as, q1⟩ := Dp.reads I a x v h1 rx
    obtain ⟨bs, q2⟩ := Dp.reads I (.list xs) y u h2 ry
    exact SeqAt.notIn_list_data q2 q1 p2 p1 (by omega) ⟨.bl (!b), H, I, by rw [e]; rfl, g.here st (.p (.bl _))⟩
  | tup a xs h1 h2 p1 p2 dp e =>
    obtain ⟨as, q1⟩ := Dp.reads I a x v h1 rx
    obtain ⟨bs, q2⟩ := Dp.reads I (.tuple xs) y u h2 ry
    exact SeqAt.notIn_tuple_data q2 q1 p2 p1 (by omega) ⟨.bl (!b), H, I, by rw [e]; rfl, g.here st (.p (.bl _))⟩
  | sgn c z h1 h2 e => exact op_notIn_sign pins s σ H _ _ v u Q I rx ry ⟨c, z, h1, h2, by rw [e]; exact g.here st (.p (.bl _))⟩
  | dct a o h1 h2 e =>
    subst h1
    cases ry
    exact d_notIn (by omega) I h2 rx fun s' I' => ⟨.bl (!b), H, I', by rw [e]; rfl, g.here st (.p (.bl _))⟩
end
end Sh
set_option maxRecDepth 100000
set_option maxHeartbeats 4000000
/-! Sh: slices, stores, methods, dicts. -/
namespace Sh
open PySem PySem.Spec PyProof.Rows L2

/-! ### slices -/
def rEqO : List Addr → Hp → Option Int → Option Int → Prop := fun _ _ b c => b = c
abbrev tO (G : Gx) (W : WX) (ev : Ev (Option Int)) : TO := tX G W rEqO ev
def ePart : Option (Ev D) → Ev (Option Int)
  | none => fun _ μ => .ok none μ
  | some e => fun ρ μ => (e ρ μ).bind fun d μ1 => match d with
    | .p (.int i) => .ok (some i) μ1
    | _ => .bad
def cutL {β : Type} (xs : List β) (lo hi : Option Int) : List β := (xs.drop (HT.sIx xs.length 0 lo)).take (HT.sIx xs.length xs.length hi - HT.sIx xs.length 0 lo)
def mkT (ds : List D) : D := match pures ds with
  | some ps => .p (.tup ps)
  | none => .mix ds
def opSl (d : D) (lo hi : Option Int) (μ : Store) : Option (D × Store) := match d with
  | .p (.tup ps) => some (.p (.tup (cutL ps lo hi)), μ)
  | .p (.str s) => if s.length ≤ szMax then some (.p (.str (cutL s lo hi)), μ) else none
  | .ref n => match rdL μ n with
    | some ds => some (.ref μ.length, μ ++ [mkL (cutL ds lo hi)])
    | none => none
  | .rol ps => some (.ref μ.length, μ ++ [Cell.fl (cutL ps lo hi)])
  | _ => none
def eSl (a : Ev D) (lo hi : Option (Ev D)) : Ev D := fun ρ μ => (a ρ μ).bind fun d μ1 => (ePart lo ρ μ1).bind fun l μ2 => (ePart hi ρ μ2).bind fun h μ3 => Res.ofO (opSl d l h μ3)
section
variable {X : Cx} {W : WX} {e : Expr} {ev : Ev D} {lo hi : Option Expr} {el eh : Option (Ev D)} {pos p2 : Pos}
theorem po_n : PO X none (tO (gx X) W (ePart none)) := ⟨fun pins s σ H Q I ⟨ρ, α, μ, en, st, g⟩ => po_none.run pins s σ H Q I (g _ α H (Ext.refl _ _) st rfl)⟩
theorem po_s (h : PE X e (tE (gx X) W ev)) : PO X (some e) (tO (gx X) W (ePart (some ev))) := ⟨fun pins s σ H Q I ⟨ρ, α, μ, en, st, g⟩ => (po_some h).run pins s σ H Q I ⟨ρ, α, μ, en, st, g.bind fun d μ1 v α1 H1 x st1 r g1 => by
  split at g1
  · obtain rfl := rep_int r
    exact ⟨_, rfl, g1 _ α1 H1 (Ext.refl _ _) st1 rfl⟩
  · exact g1.elim⟩⟩
theorem RepPs.cut {K : PySem.W.Frag} {H : Hp} {ps : List P} {vs : List V} (r : RepPs K H ps vs) (lo hi : Option Int) : RepPs K H (cutL ps lo hi) (cutV vs lo hi) := by
  unfold cutL cutV
  rw [r.length]
  exact (r.drop _).take _
theorem Reps.cut {G : Gx} {α : List Addr} {H : Hp} {ps : List D} {vs : List V} (r : Reps G α H ps vs) (lo hi : Option Int) : Reps G α H (cutL ps lo hi) (cutV vs lo hi) := by
  unfold cutL cutV
  rw [r.length]
  exact (r.drop _).take _
theorem cutL_all {β : Type} {xs : List β} {lo hi : Option Int} (h : HT.sIx xs.length 0 lo = 0 ∧ HT.sIx xs.length xs.length hi = xs.length) : cutL xs lo hi = xs := by
  unfold cutL
  rw [h.1, h.2]
  simp
theorem stS_cut (s : List Nat) (lo hi : Option Int) : cutS (stS s) lo hi = stS (cutL s lo hi) := by
  unfold cutS cutL
  rw [stS_len]
  rfl
def rSlx (G : Gx) : V → Option Int → Option Int → Hp → VK → Prop := fun x lo hi H Q => ∃ α μ d, StOk G α H μ ∧ Rep G α H d x ∧ GotO G (Rep G) α H (opSl d lo hi μ) Q
theorem sl_S : SlR X (rSlx (gx X)) := by
  rintro pins s σ H x v vl vu lo hi sl Q I rx hs pl pu ⟨α, μ, d, st, r, g⟩
  unfold opSl at g
  split at g
  · rename_i ps
    obtain ⟨a, vs, rfl, h1, h2⟩ := rep_tup r
    refine sl_tupA pins s σ H _ v vl vu lo hi sl Q I rx hs pl pu ⟨a, vs, rfl, h1, fun hw => ?_, fun hw => g.tup st (h2.cut lo hi)⟩
    rw [h2.length] at hw
    rw [cutL_all hw] at g
    exact g.here st (.p (.tup h1 h2))
  · rename_i s'
    obtain rfl := rep_str r
    split at g
    · rename_i hz
      refine sl_str pins s σ H _ v vl vu lo hi sl Q I rx hs pl pu ⟨stS s', rfl, by rw [stS_len, sizeLine_eq]; exact hz, ?_⟩
      rw [stS_cut]
      exact g.here st (.p (.str _))
    · exact g.elim
  · rename_i n
    obtain ⟨a, rfl, ha⟩ := rep_ref r
    split at g
    · rename_i ds hd
      obtain ⟨vs, h1, h2⟩ := rdL_of st ha hd
      exact sl_list pins s σ H _ v vl vu lo hi sl Q I rx hs pl pu ⟨a, vs, rfl, h1, g.push st (newCell st (h2.cut lo hi))⟩
    · exact g.elim
  · cases r with
    | rol h1 h2 => exact sl_list pins s σ H _ v vl vu lo hi sl Q I rx hs pl pu ⟨_, _, rfl, h1.sq, g.push st (st.newL (h2.cut lo hi))⟩
  · exact g.elim
theorem pe_sc (he : PE X e (tE (gx X) W ev)) (hl : PO X lo (tO (gx X) W (ePart el))) (hu : PO X hi (tO (gx X) W (ePart eh))) : PE X (.Subscript e (.Slice lo hi none p2) pos) (tE (gx X) W (eSl ev el eh)) :=
  (pe_slice sl_S he hl hu).weak fun σ H Q ⟨ρ, α, μ, en, st, g⟩ => ⟨ρ, α, μ, en, st, g.bind fun d μ1 v α1 H1 x st1 r g1 => ⟨ρ, α1, μ1, en.ext st x, st1, g1.bind fun l μ2 l' α2 H2 x2 st2 rl g2 => by
    cases rl
    exact ⟨ρ, α2, μ2, (en.ext st x).ext st1 x2, st2, g2.bind fun h μ3 h' α3 H3 x3 st3 rh g3 => by
      cases rh
      exact ⟨α3, μ3, d, st3, st2.rep x3 (st1.rep x2 r), g3.toO⟩⟩⟩⟩
end

/-! ### a[i] = v -/
def setC (c : Cell) (j : Nat) (v : D) : Option Cell := match c with
  | .fl ps => match v with
    | .p x => some (.fl (put x ps j))
    | v => some (.dl ((ps.map D.p).set j v))
  | .dl ds => some (.dl (put v ds j))
  | _ => none
def lenL : Cell → Option Nat
  | .fl ps => some ps.length
  | .dl ds => some ds.length
  | _ => none
def opSetI : OpSet := fun o i v μ => match o with
  | .ref n => match μ.get? n with
    | some (.fd kvs) => match i, v with
      | .p k, .p x => match keyOf k with
        | some _ => if kvs.length < szMax then some (μ.set n (.fd (putD k x kvs))) else none
        | none => none
      | _, _ => none
    | some c => match lenL c with
      | some l => match i with
        | .p (.int k) => match ixN l k with
          | some j => match setC c j v with
            | some c' => some (μ.set n c')
            | none => none
          | none => none
        | _ => none
      | none => none
    | none => none
  | _ => none
section
variable {X : Cx} {α : List Addr} {H : Hp} {μ : Store}
theorem lst_cell {G : Gx} {n : Nat} {a : Addr} {c : Cell} {l : Nat} (st : StOk G α H μ) (ha : α[n]? = some a) (hc : μ.get? n = some c) (hl : lenL c = some l) : ∃ vs, H a = some (.lst vs) ∧ vs.length = l ∧
    ∀ j v w, Rep G α H v w → ∀ c', setC c j v = some c' → CellOk G α (upd H a (.lst (vs.set j w))) a c' := by
  have x0 : Ext0 α H α (upd H a (.lst [])) := Ext0.write st (List.mem_of_getElem? ha)
  cases c with
  | fl ps =>
    cases hl
    obtain ⟨vs, h1, h2⟩ := st.cel n _ a hc ha
    refine ⟨vs, h1, h2.length, fun j v w r c' hs => ?_⟩
    have x1 : Ext0 α H α (upd H a (.lst (vs.set j w))) := Ext0.write st (List.mem_of_getElem? ha)
    unfold setC at hs
    dsimp only at hs
    split at hs
    · rename_i x
      cases hs
      cases r with
      | p r =>
        try rw [put_eq]
        exact ⟨_, upd_same, (st.repPs0 x1 h2).set (st.repP0 x1 r) j⟩
    · cases hs
      exact ⟨_, upd_same, (st.reps0 x1 h2.toD).set (st.rep0 x1 r) j⟩
  | dl ds =>
    cases hl
    obtain ⟨vs, h1, h2⟩ := st.cel n _ a hc ha
    refine ⟨vs, h1, h2.length, fun j v w r c' hs => ?_⟩
    have x1 : Ext0 α H α (upd H a (.lst (vs.set j w))) := Ext0.write st (List.mem_of_getElem? ha)
    cases hs
    try rw [put_eq]
    exact ⟨_, upd_same, (st.reps0 x1 h2).set (st.rep0 x1 r) j⟩
  | _ => cases hl
theorem set_S (hu : X.A.units + 1 < cLine) : PSet X (r3 (gx X) opSetI) := by
  rintro pins s σ H o i v ov iv u Q I ro ri rv ⟨α, μ, d, e, f, st, r1, r2, r3, g⟩
  unfold opSetI at g
  split at g
  · rename_i μ' hg
    split at hg
    · rename_i n
      obtain ⟨a, rfl, ha⟩ := rep_ref r1
      try rw [nth_eq] at hg
      split at hg
      · rename_i kvs hc
        obtain ⟨ks, h1, h2⟩ := st.cel n _ a hc ha
        split at hg
        · rename_i k x
          split at hg
          · rename_i k' hk
            split at hg
            · rename_i hz
              cases hg
              cases r2 with
              | p r2 => cases r3 with
                | p r3 =>
                  obtain rfl := rep_key hk r2
                  have hl : ks.length < sizeLine := by rw [Paired.len h2, sizeLine_eq]; exact hz
                  cases ro
                  have x1 : Ext0 α H α (upd H a (.dK (putK ks k' v))) := Ext0.write st (List.mem_of_getElem? ha)
                  refine d_setItem hu I (.inl ⟨ks, k', h1, rfl, hl, rfl⟩) ri rv fun s' I' => ⟨_, I', g α _ (Ext.write st (List.mem_of_getElem? ha) h1 (by intro q u z; cases z)) ?_⟩
                  try rw [put_eq]
                  exact st.write ha ⟨_, upd_same, KRep.put (Paired.mapP h2 fun p q z => ⟨z.1, st.repP0 x1 z.2⟩) hk (st.repP0 x1 r3)⟩
            · cases hg
          · cases hg
        · cases hg
      · rename_i c _ hc
        split at hg
        · rename_i l hl
          split at hg
          · rename_i k
            split at hg
            · rename_i j hj
              split at hg
              · rename_i c' hs
                cases hg
                obtain rfl := rep_int r2
                obtain ⟨vs, h1, h2, h3⟩ := lst_cell st ha hc hl
                refine set_list pins s σ H _ _ v ov iv u Q I ro ri rv ⟨a, vs, k, j, rfl, rfl, h1, by rw [h2]; exact hj, g α _ (Ext.write st (List.mem_of_getElem? ha) h1 (by intro q u z; cases z)) ?_⟩
                try rw [put_eq]
                exact st.write ha (h3 j _ _ r3 c' hs)
              · cases hg
            · cases hg
          · cases hg
        · cases hg
      · cases hg
    · cases hg
  · exact g.elim
end

/-! ### methods -/
abbrev OpM := D → List D → Store → Option (D × Store)
inductive MTy where
  | lst | str | dct
def isMT (t : MTy) (d : D) (μ : Store) : Bool := match t, d with
  | .lst, .ref n => match μ.get? n with
    | some (.fl _) => true
    | some (.dl _) => true
    | _ => false
  | .str, .p (.str _) => true
  | .dct, .ref n => match μ.get? n with
    | some (.fd _) => true
    | some (.td _) => true
    | _ => false
  | _, _ => false
def MTy.nm : MTy → String
  | .lst => "list"
  | .str => "str"
  | .dct => "dict"
def eM (t : MTy) (op : OpM) (a : Ev D) (r : Ev (List D)) : Ev D := fun ρ μ => (a ρ μ).bind fun d μ1 => match isMT t d μ1 with
  | true => (r ρ μ1).bind fun ds μ2 => Res.ofO (op d ds μ2)
  | false => .bad
def rM (G : Gx) (op : OpM) : V → List V → Hp → VK → Prop := fun x xs H Q => ∃ α μ d ds, StOk G α H μ ∧ Rep G α H d x ∧ Reps G α H ds xs ∧ GotO G (Rep G) α H (op d ds μ) Q
section
variable {X : Cx} {W : WX} {o e : Expr} {es : List Expr} {eo : Ev D} {ra : Ev (List D)} {t : MTy} {op : OpM} {name : Str} {apos cpos : Pos}
theorem tyM {α : List Addr} {H : Hp} {μ : Store} {d : D} {v : V} (st : StOk (gx X) α H μ) (r : Rep (gx X) α H d v) (h : isMT t d μ = true) : tyV X.K t.nm v H := by
  unfold isMT at h
  split at h
  · rename_i n
    obtain ⟨a, rfl, ha⟩ := rep_ref r
    try rw [nth_eq] at h
    split at h
    · rename_i q
      obtain ⟨vs, h1, _⟩ := st.cel n _ a q ha
      exact .inl ⟨rfl, vs, .inl (.inl h1)⟩
    · rename_i q
      obtain ⟨vs, h1, _⟩ := st.cel n _ a q ha
      exact .inl ⟨rfl, vs, .inl (.inl h1)⟩
    · cases h
  · obtain rfl := rep_str r
    exact rfl
  · rename_i n
    obtain ⟨a, rfl, ha⟩ := rep_ref r
    try rw [nth_eq] at h
    split at h
    · rename_i q
      obtain ⟨ks, h1, _⟩ := st.cel n _ a q ha
      exact .inr (.inr (.inl ⟨rfl, .inl ⟨ks, h1⟩⟩))
    · rename_i q
      obtain ⟨ks, h1, _⟩ := st.cel n _ a q ha
      exact .inr (.inr (.inl ⟨rfl, .inr ⟨ks, h1⟩⟩))
    · cases h
  · cases h
theorem tBM_of : ∀ σ H Q, tE (gx X) W (eM t op eo ra) σ H Q → tBM X.K t.nm (rM (gx X) op) (tE (gx X) W eo) (tAs (gx X) W ra) σ H Q := fun σ H Q ⟨ρ, α, μ, en, st, g⟩ => ⟨ρ, α, μ, en, st, g.bind fun d μ1 v α1 H1 x st1 r g1 => by
  split at g1
  · rename_i hm
    exact ⟨tyM st1 r hm, ρ, α1, μ1, en.ext st x, st1, g1.bind fun ds μ2 vs α2 H2 x2 st2 rr g2 => ⟨α2, μ2, d, ds, st2, st1.rep x2 r, rr, g2.toO⟩⟩
  · exact g1.elim⟩
theorem tBM0_of : ∀ σ H Q, tE (gx X) W (eM t op eo aNil) σ H Q → tBM0 X.K t.nm (rM (gx X) op) (tE (gx X) W eo) σ H Q := fun σ H Q ⟨ρ, α, μ, en, st, g⟩ => ⟨ρ, α, μ, en, st, g.bind fun d μ1 v α1 H1 x st1 r g1 => by
  split at g1
  · rename_i hm
    refine ⟨tyM st1 r hm, α1, μ1, d, [], st1, r, .nil, ?_⟩
    exact Got.toO (g1 : Got (gx X) W σ (Rep (gx X)) α1 H1 (Res.ofO (op d [] μ1)) Q)
  · exact g1.elim⟩
end
def addC (c : Cell) (v : D) : Option Cell := match c with
  | .fl ps => match v with
    | .p x => some (.fl (ps ++ [x]))
    | v => some (mkL (ps.map D.p ++ [v]))
  | .dl ds => some (.dl (ds ++ [v]))
  | _ => none
def opAppend : OpM := fun o xs μ => match o, xs with
  | .ref n, [v] => match μ.get? n with
    | some c => match lenL c, addC c v with
      | some l, some c' => if l < szMax then some (.p .non, μ.set n c') else none
      | _, _ => none
    | none => none
  | _, _ => none
def opExtend : OpM := fun o xs μ => match o, xs with
  | .ref n, [.ref m] => match lstOf μ n, lstOf μ m with
    | some a, some b => if a.length + b.length ≤ szMax then some (.p .non, μ.set n (mkL (a ++ b))) else none
    | _, _ => none
  | _, _ => none
def opPop0 : OpM := fun o xs μ => match o, xs with
  | .ref n, [] => match lstOf μ n with
    | some a => match a.getLast? with
      | some v => some (v, μ.set n (mkL a.dropLast))
      | none => none
    | none => none
  | _, _ => none
def opInsert : OpM := fun o xs μ => match o, xs with
  | .ref n, [.p (.int i), v] => match lstOf μ n with
    | some a => if a.length < szMax then if 0 ≤ i then if i < 4611686018427387904 then some (.p .non, μ.set n (mkL (a.take i.toNat ++ [v] ++ a.drop i.toNat))) else none else none else none
    | none => none
  | _, _ => none
section
variable {X : Cx} {α : List Addr} {H : Hp} {μ : Store}
theorem GotO.wr {G : Gx} {n : Nat} {a : Addr} {o : HO} {c : Cell} {d : D} {v : V} {q : HO} {Q : VK} (st : StOk G α H μ) (ha : α[n]? = some a) (e : H a = some q) (nf : ∀ od u, q ≠ .frz od u) (hc : CellOk G α (upd H a o) a c) (r : Rep G α (upd H a o) d v) (h : GotO G (Rep G) α H (some (d, μ.set n c)) Q) : Q v (upd H a o) := by
  refine h v α _ (Ext.write st (List.mem_of_getElem? ha) e nf) ?_ r
  try rw [put_eq]
  exact st.write ha hc
theorem mkL_wr {G : Gx} {n : Nat} {a : Addr} {ds : List D} {vs : List V} (st : StOk G α H μ) (ha : α[n]? = some a) (r : Reps G α H ds vs) : CellOk G α (upd H a (.lst vs)) a (mkL ds) := mkL_ok upd_same (st.reps0 (Ext0.write st (List.mem_of_getElem? ha)) r)
theorem add_cell {G : Gx} {n : Nat} {a : Addr} {c c' : Cell} {v : D} {w : V} (st : StOk G α H μ) (ha : α[n]? = some a) (hc : μ.get? n = some c) (r : Rep G α H v w) (h : addC c v = some c') : ∃ vs, H a = some (.lst vs) ∧ (∀ l, lenL c = some l → vs.length = l) ∧ CellOk G α (upd H a (.lst (vs ++ [w]))) a c' := by
  cases c with
  | fl ps =>
    obtain ⟨vs, h1, h2⟩ := st.cel n _ a hc ha
    have x1 : Ext0 α H α (upd H a (.lst (vs ++ [w]))) := Ext0.write st (List.mem_of_getElem? ha)
    refine ⟨vs, h1, fun l z => by cases z; exact h2.length, ?_⟩
    unfold addC at h
    dsimp only at h
    split at h
    · cases h
      cases r with
      | p r => exact ⟨_, upd_same, (st.repPs0 x1 h2).append (.cons (st.repP0 x1 r) .nil)⟩
    · cases h
      exact mkL_wr st ha (h2.toD.snoc r)
  | dl ds =>
    obtain ⟨vs, h1, h2⟩ := st.cel n _ a hc ha
    have x1 : Ext0 α H α (upd H a (.lst (vs ++ [w]))) := Ext0.write st (List.mem_of_getElem? ha)
    refine ⟨vs, h1, fun l z => by cases z; exact h2.length, ?_⟩
    cases h
    exact ⟨_, upd_same, st.reps0 x1 (h2.snoc r)⟩
  | _ => cases h
theorem mt_appendS : MtM X "list.append" (rM (gx X) opAppend) := by
  rintro pins s σ H x xs v us Q I rx rxs ⟨α, μ, d, ds, st, r, rr, g⟩
  unfold opAppend at g
  split at g
  · rename_i n w
    obtain ⟨a, rfl, ha⟩ := rep_ref r
    try rw [nth_eq] at g
    split at g
    · rename_i c hc
      split at g
      · rename_i l c' hl h'
        split at g
        · rename_i hz
          cases rr with
          | cons r1 rr =>
            cases rr
            obtain ⟨vs, h1, h2, h3⟩ := add_cell st ha hc r1 h'
            exact mt_append pins s σ H _ _ v us Q I rx rxs ⟨a, vs, _, rfl, rfl, h1, by rw [h2 l hl, sizeLine_eq]; exact hz, g.wr st ha h1 (by intro q u z; cases z) h3 (.p .non)⟩
        · exact g.elim
      · exact g.elim
    · exact g.elim
  · exact g.elim
theorem mt_extendS : MtM X "list.extend" (rM (gx X) opExtend) := by
  rintro pins s σ H x xs v us Q I rx rxs ⟨α, μ, d, ds, st, r, rr, g⟩
  unfold opExtend at g
  split at g
  · rename_i n m
    obtain ⟨a, rfl, ha⟩ := rep_ref r
    split at g
    · rename_i l1 l2 e1 e2
      split at g
      · rename_i hz
        cases rr with
        | cons r1 rr =>
          cases rr
          obtain ⟨b, rfl, hb⟩ := rep_ref r1
          obtain ⟨vs, h1, h2⟩ := lst_of st ha e1
          obtain ⟨ws, h3, h4⟩ := lst_of st hb e2
          exact mt_extend pins s σ H _ _ v us Q I rx rxs ⟨a, b, vs, ws, rfl, rfl, h1, h3, by rw [h2.length, h4.length, sizeLine_eq]; exact hz, g.wr st ha h1 (by intro q u z; cases z) (mkL_wr st ha (h2.append h4)) (.p .non)⟩
      · exact g.elim
    · exact g.elim
  · exact g.elim
theorem Reps.dropLast {G : Gx} {α : List Addr} {H : Hp} {ps : List D} {vs : List V} (r : Reps G α H ps vs) : Reps G α H ps.dropLast vs.dropLast := by
  rw [List.dropLast_eq_take, List.dropLast_eq_take, r.length]
  exact r.take _
theorem mt_popS : MtM X "list.pop" (rM (gx X) opPop0) := by
  rintro pins s σ H x xs v us Q I rx rxs ⟨α, μ, d, ds, st, r, rr, g⟩
  unfold opPop0 at g
  split at g
  · rename_i n
    obtain ⟨a, rfl, ha⟩ := rep_ref r
    split at g
    · rename_i l1 e1
      split at g
      · rename_i w hw
        cases rr
        obtain ⟨vs, h1, h2⟩ := lst_of st ha e1
        rw [List.getLast?_eq_getElem?] at hw
        obtain ⟨u, h3, h4⟩ := h2.get hw
        refine mt_pop pins s σ H _ _ v us Q I rx rxs ⟨a, vs, u, rfl, rfl, h1, by rw [h2.length]; exact h3, g.wr st ha h1 (by intro q u z; cases z) (mkL_wr st ha h2.dropLast) (st.rep0 (Ext0.write st (List.mem_of_getElem? ha)) h4)⟩
      · exact g.elim
    · exact g.elim
  · exact g.elim
theorem big63 {i : Int} (h : i < 4611686018427387904) : i < 2 ^ 63 := by
  have : (2 : Int) ^ 63 = 9223372036854775808 := by decide
  omega
theorem mt_insertS : MtM X "list.insert" (rM (gx X) opInsert) := by
  rintro pins s σ H x xs v us Q I rx rxs ⟨α, μ, d, ds, st, r, rr, g⟩
  unfold opInsert at g
  split at g
  · rename_i n i w
    obtain ⟨a, rfl, ha⟩ := rep_ref r
    split at g
    · rename_i l1 e1
      split at g
      · rename_i hz
        split at g
        · rename_i h0
          split at g
          · rename_i h9
            cases rr with
            | cons r1 rr => cases rr with
              | cons r2 rr =>
                cases rr
                obtain rfl := rep_int r1
                obtain ⟨vs, h1, h2⟩ := lst_of st ha e1
                refine mt_insert pins s σ H _ _ v us Q I rx rxs ⟨a, vs, i, _, rfl, rfl, h1, by rw [h2.length, sizeLine_eq]; exact hz, h0, big63 h9, g.wr st ha h1 (by intro q u z; cases z) (mkL_wr st ha (((h2.take _).snoc r2).append (h2.drop _))) (.p .non)⟩
          · exact g.elim
        · exact g.elim
      · exact g.elim
    · exact g.elim
  · exact g.elim
end
end Sh
set_option maxRecDepth 100000
set_option maxHeartbeats 4000000
/-! Sh: built-in functions. -/
namespace Sh
open PySem PySem.Spec PyProof.Rows L2

/-! ### classes -/
inductive Ty where
  | non | bl | int | str | tup | lst | dct
  deriving DecidableEq
def Ty.nm : Ty → String
  | .non => "NoneType"
  | .bl => "bool"
  | .int => "int"
  | .str => "str"
  | .tup => "tuple"
  | .lst => "list"
  | .dct => "dict"
def Ty.sub : Ty → Ty → Bool
  | .non, .non => true
  | .bl, .bl => true
  | .bl, .int => true
  | .int, .int => true
  | .str, .str => true
  | .tup, .tup => true
  | .lst, .lst => true
  | .dct, .dct => true
  | _, _ => false
theorem kit_all : ∀ t T : Ty, kitB t.nm T.nm = some (t.sub T) := by
  intro t T
  cases t <;> cases T <;> decide +kernel
def tyD (μ : Store) : D → Option Ty
  | .p .non => some .non
  | .p (.bl _) => some .bl
  | .p (.int _) => some .int
  | .p (.str _) => some .str
  | .p (.tup _) => some .tup
  | .mix _ => some .tup
  | .ref n => match μ.get? n with
    | some (.fl _) => some .lst
    | some (.dl _) => some .lst
    | some (.fd _) => some .dct
    | some (.lfd _) => some .dct
    | some (.td _) => some .dct
    | _ => none
  | .exc _ _ => none
  | .rol _ => some .lst
def eIsi (a : Ev D) (T : Ty) : Ev D := fun ρ μ => (a ρ μ).bind fun d μ1 => match tyD μ1 d with
  | some t => .ok (.p (.bl (t.sub T))) μ1
  | none => .bad
section
variable {X : Cx} {W : WX} {a b : Expr} {ea : Ev D} {es : List Expr} {ra : Ev (List D)} {p p2 pos : Pos}
theorem tyX_tup {K : PySem.W.Frag} {H : Hp} {a : Addr} {vs : List V} (h : SqT K H a vs) : TyX K H (.ref a) (.type "tuple") := by
  rcases h with (h | ⟨o, h⟩) | ⟨o, its, n, h1, h2, _⟩
  · exact .base (.tup h)
  · exact .fTuple h
  · exact .kTuple h1 h2
theorem tyD_of {α : List Addr} {H : Hp} {μ : Store} {d : D} {v : V} {t : Ty} (st : StOk (gx X) α H μ) (r : Rep (gx X) α H d v) (h : tyD μ d = some t) : TyX X.K H v (.type t.nm) := by
  unfold tyD at h
  split at h
  · cases h; obtain rfl := rep_non r; exact .base .non
  · cases h; obtain rfl := rep_bl r; exact .base (.bl _)
  · cases h; obtain rfl := rep_int r; exact .base (.int _)
  · cases h; obtain rfl := rep_str r; exact .base (.str _)
  · cases h; obtain ⟨a, vs, rfl, h1, h2⟩ := rep_tup r; exact tyX_tup h1
  · cases h
    cases r with
    | mix h1 h2 => exact tyX_tup h1
  · rename_i n
    obtain ⟨a, rfl, ha⟩ := rep_ref r
    try rw [nth_eq] at h
    split at h
    · rename_i q; cases h; obtain ⟨vs, h1, _⟩ := st.cel n _ a q ha; exact .base (.lst h1)
    · rename_i q; cases h; obtain ⟨vs, h1, _⟩ := st.cel n _ a q ha; exact .base (.lst h1)
    · rename_i q; cases h; obtain ⟨vs, h1, _⟩ := st.cel n _ a q ha; exact .base (.dK h1)
    · rename_i q; cases h; obtain ⟨od, vs, h1, _⟩ := st.cel n _ a q ha; exact .fDict h1
    · rename_i q; cases h; obtain ⟨vs, h1, _⟩ := st.cel n _ a q ha; exact .base (.dT h1)
    · cases h
  · cases h
  · cases h
    cases r with
    | rol h1 h2 =>
      rcases h1 with ⟨o, h1⟩ | ⟨o, its, n, h1, h2, _⟩
      · exact .base (.frz h1)
      · exact .kList h1 h2
theorem pe_isi {T : Ty} (hg : Gl X "isinstance") (hm : X.mg "isinstance" = none) (ha : PE X a (tE (gx X) W ea)) (hb : PE X b (tC (.ty T.nm)))
    (hs : starEach [a, b] X.env = (false, eval a X.env) :: starEach [b] X.env) (hs2 : starEach [b] X.env = (false, eval b X.env) :: starEach [] X.env) (hpl : (backTo pos (starEach [b] X.env)).any (·.1) = false) :
    PE X (.Call (.Name "isinstance" p) [a, b] [] pos) (tE (gx X) W (eIsi ea T)) :=
  (pe_callB call_isi hg hm (by decide +kernel) (pa_cons ha (pa_cons hb pa_nil hs2) hs) (by decide) (by decide) hs hpl).weak fun σ H Q ⟨ρ, α, μ, en, st, g⟩ => ⟨ρ, α, μ, en, st, g.bind fun d μ1 v α1 H1 x st1 r g1 => by
    split at g1
    · rename_i t ht
      exact ⟨v, .ty T.nm, .type t.nm, .type T.nm, t.sub T, rfl, .ty _, tyD_of st1 r ht, kit_ty (kit_all t T), g1 _ α1 H1 (Ext.refl _ _) st1 (.p (.bl _))⟩
    · exact g1.elim⟩
/-! ### calls by values -/
theorem pe_bf {id : String} {x : Str} {op : OpN} {e : Expr} (hc : CallR X (.builtin id) (rN (gx X) op)) (hg : Gl X x) (hm : X.mg x = none) (hv : bootBuiltins x = some (.builtin id)) (ha : PA X (e :: es) (tAs (gx X) W ra)) (hn : x ≠ "__name__") (hdb : (x == ("__debug__" : Str)) = false)
    (he : starEach (e :: es) X.env = (false, eval e X.env) :: starEach es X.env) (hpl : (backTo pos (starEach es X.env)).any (·.1) = false) : PE X (.Call (.Name x p) (e :: es) [] pos) (tE (gx X) W (eN op ra)) :=
  (pe_callB hc hg hm hv ha hn hdb he hpl).weak tCB_of
theorem pe_bt {T : String} {x : Str} {op : OpN} {e : Expr} (hc : CallR X (.type T) (rN (gx X) op)) (hg : Gl X x) (hm : X.mg x = none) (hv : bootBuiltins x = some (.type T)) (ha : PA X (e :: es) (tAs (gx X) W ra)) (hn : x ≠ "__name__") (hdb : (x == ("__debug__" : Str)) = false)
    (he : starEach (e :: es) X.env = (false, eval e X.env) :: starEach es X.env) (hpl : (backTo pos (starEach es X.env)).any (·.1) = false) : PE X (.Call (.Name x p) (e :: es) [] pos) (tE (gx X) W (eN op ra)) :=
  (pe_callTy hc hg hm hv ha hn hdb he hpl).weak tCB_of
end
def opLen : OpN
  | [.p (.tup ps)], μ => some (.p (.int ps.length), μ)
  | [.mix ds], μ => some (.p (.int ds.length), μ)
  | [.p (.str s)], μ => if s.length ≤ szMax then some (.p (.int s.length), μ) else none
  | [.rol ps], μ => some (.p (.int ps.length), μ)
  | [.ref n], μ => match rdL μ n with
    | some ds => some (.p (.int ds.length), μ)
    | none => match rdD μ n with
      | some kvs => some (.p (.int kvs.length), μ)
      | none => none
  | _, _ => none
def opAbs : OpN
  | [.p (.int i)], μ => some (.p (.int (if i < 0 then -i else i)), μ)
  | _, _ => none
def opMax : OpN
  | [.p (.int i), .p (.int j)], μ => some (.p (.int (if j > i then j else i)), μ)
  | _, _ => none
def opMin : OpN
  | [.p (.int i), .p (.int j)], μ => some (.p (.int (if j < i then j else i)), μ)
  | _, _ => none
def opInt : OpN
  | [.p (.int i)], μ => some (.p (.int i), μ)
  | [.p (.bl b)], μ => some (.p (.int (if b then 1 else 0)), μ)
  | _, _ => none
def opBool : OpN
  | [.p (.int i)], μ => some (.p (.bl (i != 0)), μ)
  | [.p (.bl b)], μ => some (.p (.bl b), μ)
  | _, _ => none
def intsOf : List D → Option (List Int)
  | [] => some []
  | .p (.int i) :: r => match intsOf r with
    | some is => some (i :: is)
    | none => none
  | _ => none
def blsOf : List D → Option (List Bool)
  | [] => some []
  | .p (.bl i) :: r => match blsOf r with
    | some is => some (i :: is)
    | none => none
  | _ => none
def opSum : OpN
  | [.ref n], μ => match rdL μ n with
    | some ds => match intsOf ds with
      | some is => some (.p (.int is.sum), μ)
      | none => none
    | none => none
  | _, _ => none
def opAll : OpN
  | [.ref n], μ => match rdL μ n with
    | some ds => match blsOf ds with
      | some bs => some (.p (.bl (bs.all id)), μ)
      | none => none
    | none => none
  | _, _ => none
def opAny : OpN
  | [.ref n], μ => match rdL μ n with
    | some ds => match blsOf ds with
      | some bs => some (.p (.bl (bs.any id)), μ)
      | none => none
    | none => none
  | _, _ => none
def opList : OpN
  | [.p (.tup ps)], μ => some (.ref μ.length, μ ++ [Cell.fl ps])
  | [.mix ds], μ => some (.ref μ.length, μ ++ [mkL ds])
  | [.ref n], μ => match rdL μ n with
    | some ds => some (.ref μ.length, μ ++ [mkL ds])
    | none => none
  | _, _ => none
def opTuple : OpN
  | [.p (.tup ps)], μ => some (.p (.tup ps), μ)
  | [.mix ds], μ => some (.mix ds, μ)
  | [.ref n], μ => match rdL μ n with
    | some ds => match pures ds with
      | some ps => some (.p (.tup ps), μ)
      | none => some (.mix ds, μ)
    | none => none
  | _, _ => none
def opDict : OpN
  | [.ref n], μ => match rdD μ n with
    | some kvs => some (.ref μ.length, μ ++ [Cell.fd kvs])
    | none => none
  | _, _ => none
def opStr : OpN
  | [.p (.int i)], μ => if sm 1920 i.natAbs = true then some (.p (.str (toString i : Str).cps.toList), μ) else none
  | _, _ => none
section
variable {X : Cx} {α : List Addr} {H : Hp} {μ : Store}
theorem ints_of {G : Gx} : ∀ {ds : List D} {vs : List V} {is : List Int}, Reps G α H ds vs → intsOf ds = some is → vs = is.map V.int
  | [], _, _, .nil, e => by cases e; rfl
  | .p (.int i) :: r, _, _, .cons h t, e => by
    unfold intsOf at e
    split at e
    · rename_i is q
      cases e
      rw [rep_int h, ints_of t q]
      rfl
    · cases e
  | .p .non :: _, _, _, _, e => by cases e
  | .p (.bl _) :: _, _, _, _, e => by cases e
  | .p (.str _) :: _, _, _, _, e => by cases e
  | .p (.tup _) :: _, _, _, _, e => by cases e
  | .ref _ :: _, _, _, _, e => by cases e
  | .mix _ :: _, _, _, _, e => by cases e
  | .exc _ _ :: _, _, _, _, e => by cases e
  | .rol _ :: _, _, _, _, e => by cases e
theorem bls_of {G : Gx} : ∀ {ds : List D} {vs : List V} {is : List Bool}, Reps G α H ds vs → blsOf ds = some is → vs = is.map V.bl
  | [], _, _, .nil, e => by cases e; rfl
  | .p (.bl i) :: r, _, _, .cons h t, e => by
    unfold blsOf at e
    split at e
    · rename_i is q
      cases e
      rw [rep_bl h, bls_of t q]
      rfl
    · cases e
  | .p .non :: _, _, _, _, e => by cases e
  | .p (.int _) :: _, _, _, _, e => by cases e
  | .p (.str _) :: _, _, _, _, e => by cases e
  | .p (.tup _) :: _, _, _, _, e => by cases e
  | .ref _ :: _, _, _, _, e => by cases e
  | .mix _ :: _, _, _, _, e => by cases e
  | .exc _ _ :: _, _, _, _, e => by cases e
  | .rol _ :: _, _, _, _, e => by cases e
theorem reps1 {G : Gx} {d : D} {vs : List V} (r : Reps G α H [d] vs) : ∃ v, vs = [v] ∧ Rep G α H d v := by
  cases r with
  | cons r rr => cases rr; exact ⟨_, rfl, r⟩
theorem reps2 {G : Gx} {d e : D} {vs : List V} (r : Reps G α H [d, e] vs) : ∃ v w, vs = [v, w] ∧ Rep G α H d v ∧ Rep G α H e w := by
  cases r with
  | cons r rr => cases rr with
    | cons r2 rr => cases rr; exact ⟨_, _, rfl, r, r2⟩
theorem cr_len : CallR X (.builtin "len") (rN (gx X) opLen) := by
  rintro pins s σ H xs us Q I rx ⟨α, μ, ds, st, rs, g⟩
  unfold opLen at g
  split at g
  · obtain ⟨v, rfl, r⟩ := reps1 rs
    obtain ⟨a, vs, rfl, h1, h2⟩ := rep_tup r
    exact call_len pins s σ H _ us Q I rx ⟨_, _, rfl, .inr ⟨vs, h1, h2.length.symm⟩, g.here st (.p (.int _))⟩
  · obtain ⟨v, rfl, r⟩ := reps1 rs
    cases r with
    | mix h1 h2 => exact call_len pins s σ H _ us Q I rx ⟨_, _, rfl, .inr ⟨_, h1, h2.length.symm⟩, g.here st (.p (.int _))⟩
  · obtain ⟨v, rfl, r⟩ := reps1 rs
    obtain rfl := rep_str r
    split at g
    · rename_i hz
      exact call_len pins s σ H _ us Q I rx ⟨_, _, rfl, ⟨by rw [stS_len, sizeLine_eq]; exact hz, (stS_len _).symm⟩, g.here st (.p (.int _))⟩
    · exact g.elim
  · obtain ⟨v, rfl, r⟩ := reps1 rs
    cases r with
    | rol h1 h2 => exact call_len pins s σ H _ us Q I rx ⟨_, _, rfl, .inl ⟨_, h1.sq, h2.length.symm⟩, g.here st (.p (.int _))⟩
  · obtain ⟨v, rfl, r⟩ := reps1 rs
    obtain ⟨a, rfl, ha⟩ := rep_ref r
    split at g
    · rename_i ds hd
      obtain ⟨vs, h1, h2⟩ := rdL_of st ha hd
      exact call_len pins s σ H _ us Q I rx ⟨_, _, rfl, .inl ⟨vs, h1, h2.length.symm⟩, g.here st (.p (.int _))⟩
    · split at g
      · rename_i kvs hd
        obtain ⟨ks, h1, h2⟩ := rdD_of st ha hd
        obtain ⟨u, rfl, ru⟩ := vals1 rx
        cases ru
        refine d_len I h1 fun t s' I' => ⟨.int ks.length, H, I', ⟨t, rfl⟩, ?_⟩
        rw [Paired.len h2]
        exact g.here st (.p (.int _))
      · exact g.elim
  · exact g.elim
theorem cr_abs : CallR X (.builtin "abs") (rN (gx X) opAbs) := by
  rintro pins s σ H xs us Q I rx ⟨α, μ, ds, st, rs, g⟩
  unfold opAbs at g
  split at g
  · obtain ⟨v, rfl, r⟩ := reps1 rs
    obtain rfl := rep_int r
    exact call_abs pins s σ H _ us Q I rx ⟨_, rfl, g.here st (.p (.int _))⟩
  · exact g.elim
theorem cr_max2 (hc : X.calm = true) : CallR X (.builtin "max") (rN (gx X) opMax) := by
  rintro pins s σ H xs us Q I rx ⟨α, μ, ds, st, rs, g⟩
  unfold opMax at g
  split at g
  · obtain ⟨v, w, rfl, r, r2⟩ := reps2 rs
    obtain rfl := rep_int r
    obtain rfl := rep_int r2
    exact call_max2 hc pins s σ H _ us Q I rx ⟨_, _, rfl, g.here st (.p (.int _))⟩
  · exact g.elim
theorem cr_min2 (hc : X.calm = true) : CallR X (.builtin "min") (rN (gx X) opMin) := by
  rintro pins s σ H xs us Q I rx ⟨α, μ, ds, st, rs, g⟩
  unfold opMin at g
  split at g
  · obtain ⟨v, w, rfl, r, r2⟩ := reps2 rs
    obtain rfl := rep_int r
    obtain rfl := rep_int r2
    exact call_min2 hc pins s σ H _ us Q I rx ⟨_, _, rfl, g.here st (.p (.int _))⟩
  · exact g.elim
theorem cr_int : CallR X (.type "int") (rN (gx X) opInt) := by
  rintro pins s σ H xs us Q I rx ⟨α, μ, ds, st, rs, g⟩
  unfold opInt at g
  split at g
  · obtain ⟨v, rfl, r⟩ := reps1 rs
    obtain rfl := rep_int r
    exact call_int1 pins s σ H _ us Q I rx (.inl ⟨_, rfl, g.here st (.p (.int _))⟩)
  · obtain ⟨v, rfl, r⟩ := reps1 rs
    obtain rfl := rep_bl r
    exact call_int1 pins s σ H _ us Q I rx (.inr ⟨_, rfl, g.here st (.p (.int _))⟩)
  · exact g.elim
theorem cr_bool : CallR X (.type "bool") (rN (gx X) opBool) := by
  rintro pins s σ H xs us Q I rx ⟨α, μ, ds, st, rs, g⟩
  unfold opBool at g
  split at g
  · obtain ⟨v, rfl, r⟩ := reps1 rs
    obtain rfl := rep_int r
    exact call_bool1 pins s σ H _ us Q I rx (.inl ⟨_, rfl, g.here st (.p (.bl _))⟩)
  · obtain ⟨v, rfl, r⟩ := reps1 rs
    obtain rfl := rep_bl r
    exact call_bool1 pins s σ H _ us Q I rx (.inr ⟨_, rfl, g.here st (.p (.bl _))⟩)
  · exact g.elim
theorem cr_sumS (hc : X.calm = true) : CallR X (.builtin "sum") (rN (gx X) opSum) := by
  rintro pins s σ H xs us Q I rx ⟨α, μ, ds, st, rs, g⟩
  unfold opSum at g
  split at g
  · obtain ⟨v, rfl, r⟩ := reps1 rs
    obtain ⟨a, rfl, ha⟩ := rep_ref r
    split at g
    · rename_i ds hd
      obtain ⟨vs, h1, h2⟩ := rdL_of st ha hd
      split at g
      · rename_i is hi
        rw [ints_of h2 hi] at h1
        exact cr_sum hc pins s σ H _ us Q I rx ⟨a, is, rfl, h1, g.here st (.p (.int _))⟩
      · exact g.elim
    · exact g.elim
  · exact g.elim
theorem cr_allS (hc : X.calm = true) : CallR X (.builtin "all") (rN (gx X) opAll) := by
  rintro pins s σ H xs us Q I rx ⟨α, μ, ds, st, rs, g⟩
  unfold opAll at g
  split at g
  · obtain ⟨v, rfl, r⟩ := reps1 rs
    obtain ⟨a, rfl, ha⟩ := rep_ref r
    split at g
    · rename_i ds hd
      obtain ⟨vs, h1, h2⟩ := rdL_of st ha hd
      split at g
      · rename_i is hi
        rw [bls_of h2 hi] at h1
        exact cr_all hc pins s σ H _ us Q I rx ⟨a, is, rfl, h1, g.here st (.p (.bl _))⟩
      · exact g.elim
    · exact g.elim
  · exact g.elim
theorem cr_anyS (hc : X.calm = true) : CallR X (.builtin "any") (rN (gx X) opAny) := by
  rintro pins s σ H xs us Q I rx ⟨α, μ, ds, st, rs, g⟩
  unfold opAny at g
  split at g
  · obtain ⟨v, rfl, r⟩ := reps1 rs
    obtain ⟨a, rfl, ha⟩ := rep_ref r
    split at g
    · rename_i ds hd
      obtain ⟨vs, h1, h2⟩ := rdL_of st ha hd
      split at g
      · rename_i is hi
        rw [bls_of h2 hi] at h1
        exact cr_any hc pins s σ H _ us Q I rx ⟨a, is, rfl, h1, g.here st (.p (.bl _))⟩
      · exact g.elim
    · exact g.elim
  · exact g.elim
theorem cr_listS : CallR X (.type "list") (rN (gx X) opList) := by
  rintro pins s σ H xs us Q I rx ⟨α, μ, ds, st, rs, g⟩
  unfold opList at g
  split at g
  · obtain ⟨v, rfl, r⟩ := reps1 rs
    obtain ⟨a, vs, rfl, h1, h2⟩ := rep_tup r
    exact call_list_of pins s σ H _ us Q I rx ⟨a, vs, rfl, .inr h1, g.push st (st.newL h2)⟩
  · obtain ⟨v, rfl, r⟩ := reps1 rs
    cases r with
    | mix h1 h2 => exact call_list_of pins s σ H _ us Q I rx ⟨_, _, rfl, .inr h1, g.push st (newCell st h2)⟩
  · obtain ⟨v, rfl, r⟩ := reps1 rs
    obtain ⟨a, rfl, ha⟩ := rep_ref r
    split at g
    · rename_i ds hd
      obtain ⟨vs, h1, h2⟩ := rdL_of st ha hd
      exact call_list_of pins s σ H _ us Q I rx ⟨a, vs, rfl, .inl h1, g.push st (newCell st h2)⟩
    · exact g.elim
  · exact g.elim
theorem cr_tupleS : CallR X (.type "tuple") (rN (gx X) opTuple) := by
  rintro pins s σ H xs us Q I rx ⟨α, μ, ds, st, rs, g⟩
  unfold opTuple at g
  split at g
  · obtain ⟨v, rfl, r⟩ := reps1 rs
    obtain ⟨a, vs, rfl, h1, h2⟩ := rep_tup r
    exact call_tuple_of pins s σ H _ us Q I rx ⟨a, vs, rfl, .inr ⟨h1, g.here st (.p (.tup h1 h2))⟩⟩
  · obtain ⟨v, rfl, r⟩ := reps1 rs
    cases r with
    | mix h1 h2 => exact call_tuple_of pins s σ H _ us Q I rx ⟨_, _, rfl, .inr ⟨h1, g.here st (.mix h1 h2)⟩⟩
  · obtain ⟨v, rfl, r⟩ := reps1 rs
    obtain ⟨a, rfl, ha⟩ := rep_ref r
    split at g
    · rename_i ds hd
      obtain ⟨vs, h1, h2⟩ := rdL_of st ha hd
      split at g
      · rename_i ps hp
        exact call_tuple_of pins s σ H _ us Q I rx ⟨a, vs, rfl, .inl ⟨h1, g.tup st (h2.pures hp)⟩⟩
      · exact call_tuple_of pins s σ H _ us Q I rx ⟨a, vs, rfl, .inl ⟨h1, g.mixt st h2⟩⟩
    · exact g.elim
  · exact g.elim
theorem cr_dictS : CallR X (.type "dict") (rN (gx X) opDict) := by
  rintro pins s σ H xs us Q I rx ⟨α, μ, ds, st, rs, g⟩
  unfold opDict at g
  split at g
  · obtain ⟨v, rfl, r⟩ := reps1 rs
    obtain ⟨a, rfl, ha⟩ := rep_ref r
    split at g
    · rename_i kvs hd
      obtain ⟨ks, h1, h2⟩ := rdD_of st ha hd
      exact call_dictD pins s σ H _ us Q I rx ⟨a, ks, rfl, h1, GotO.push (c := .fd kvs) (o := .dK ks) st (fun p np => ⟨ks, upd_same, Paired.mapP h2 fun x y z => ⟨z.1, st.repP (Ext.fresh np) z.2⟩⟩) g⟩
    · exact g.elim
  · exact g.elim
theorem cr_strS : CallR X (.type "str") (rN (gx X) opStr) := by
  rintro pins s σ H xs us Q I rx ⟨α, μ, ds, st, rs, g⟩
  unfold opStr at g
  split at g
  · obtain ⟨v, rfl, r⟩ := reps1 rs
    obtain rfl := rep_int r
    split at g
    · rename_i i hz
      refine call_str_int pins s σ H _ us Q I rx ⟨i, rfl, sm_log (by decide) hz, ?_⟩
      have e : (toString i : Str) = stS (toString i : Str).cps.toList := by
        cases (toString i : Str)
        simp [stS]
      rw [e]
      exact g.here st (.p (.str _))
    · exact g.elim
  · exact g.elim
end
end Sh
set_option maxRecDepth 100000
set_option maxHeartbeats 4000000
/-! Sh: repr of data. -/
namespace Sh
open PySem PySem.Spec PyProof.Rows L2

/-! ### digits -/
def digsN : Nat → Nat → List Nat → List Nat
  | 0, _, acc => acc
  | f + 1, n, acc => match n / 10 with
    | 0 => (48 + n % 10) :: acc
    | q + 1 => digsN f (q + 1) ((48 + n % 10) :: acc)
theorem dig_char : ∀ d : Fin 10, (Nat.digitChar d.1).toNat = 48 + d.1 := by decide
theorem digsN_eq : ∀ (f n : Nat) (ds : List Char), (Nat.toDigitsCore 10 f n ds).map Char.toNat = digsN f n (ds.map Char.toNat)
  | 0, n, ds => rfl
  | f + 1, n, ds => by
    have hd : (Nat.digitChar (n % 10)).toNat = 48 + n % 10 := dig_char ⟨n % 10, Nat.mod_lt _ (by omega)⟩
    unfold digsN
    rw [Nat.toDigitsCore]
    split
    · rename_i h
      have h' : n / 10 = 0 := h
      rw [h']
      simp [hd]
    · rename_i h
      have h' : n / 10 ≠ 0 := h
      rw [digsN_eq f]
      cases hq : n / 10 with
      | zero => exact absurd hq h'
      | succ q => simp [hd]
def shwI : Int → List Nat
  | .ofNat n => digsN (n + 1) n []
  | .negSucc n => 45 :: digsN (n + 2) (n + 1) []
def cod (s : Str) : List Nat := s.cps.toList
theorem cod_app (a b : Str) : cod (a ++ b) = cod a ++ cod b := by
  unfold cod
  show (a.cps ++ b.cps).toList = _
  simp
theorem shwI_eq : ∀ i : Int, cod (toString i : Str) = shwI i
  | .ofNat n => by
    show (Str.ofString (toString ((n : Nat) : Int))).cps.toList = _
    rw [PySem.W.KIN.signs_num]
    exact digsN_eq (n + 1) n []
  | .negSucc n => by
    have h : (toString (Int.negSucc n) : String) = "-" ++ toString (((n + 1 : Nat) : Nat) : Int) := rfl
    have h2 : (Str.ofString (toString (((n + 1 : Nat) : Nat) : Int))).cps.toList = digsN (n + 2) (n + 1) [] := by
      rw [PySem.W.KIN.signs_num]
      exact digsN_eq (n + 2) (n + 1) []
    show (Str.ofString (toString (Int.negSucc n))).cps.toList = 45 :: digsN (n + 2) (n + 1) []
    rw [← h2, h, PySem.Str.ofString_eq_toList, PySem.Str.ofString_eq_toList]
    simp
/-! ### texts -/
def plainC (c : Nat) : Bool := Nat.ble 32 c && Nat.ble c 126 && !Nat.beq c 39 && !Nat.beq c 92
def plainS : List Nat → Bool
  | [] => true
  | c :: r => match plainC c with
    | true => plainS r
    | false => false
theorem plain_print : ∀ c : Fin 127, plainC c.1 = true → Unicode.isPrintable c.1 = true := by decide +kernel
theorem plain_char {c : Nat} (h : plainC c = true) : Builtin.Str.reprChar 39 c = [c] := by
  unfold plainC at h
  simp only [Bool.and_eq_true, Bool.not_eq_true'] at h
  obtain ⟨⟨⟨h1, h2⟩, h3⟩, h4⟩ := h
  have h1 := Nat.le_of_ble_eq_true h1
  have h2 := Nat.le_of_ble_eq_true h2
  have n3 : c ≠ 39 := Nat.ne_of_beq_eq_false h3
  have n4 : c ≠ 92 := Nat.ne_of_beq_eq_false h4
  have hp := plain_print ⟨c, by omega⟩ (by unfold plainC; simp only [Bool.and_eq_true, Bool.not_eq_true']; exact ⟨⟨⟨Nat.ble_eq_true_of_le h1, Nat.ble_eq_true_of_le h2⟩, h3⟩, h4⟩)
  unfold Builtin.Str.reprChar
  have e1 : (c == 39) = false := by simpa using n3
  have e2 : (c == 92) = false := by simpa using n4
  have e3 : (c == 10) = false := by simp; omega
  have e4 : (c == 13) = false := by simp; omega
  have e5 : (c == 9) = false := by simp; omega
  simp only [e1, e2, e3, e4, e5, hp, Bool.or_self, Bool.false_eq_true, if_false, if_true]
theorem plain_all : ∀ {s : List Nat}, plainS s = true → ∀ c ∈ s, plainC c = true
  | [], _, _, h => by cases h
  | x :: r, h, c, hc => by
    unfold plainS at h
    split at h
    · rename_i hx
      rcases List.mem_cons.mp hc with e | e
      · rw [e]; exact hx
      · exact plain_all h c e
    · cases h
theorem repr_plain {x : Str} (h : plainS (cod x) = true) : cod (reprText x) = 39 :: (cod x ++ [39]) := by
  have h39 : x.cps.contains 39 = false := by
    cases e : x.cps.contains 39 with
    | false => rfl
    | true =>
      have m : 39 ∈ cod x := by
        unfold cod
        have := Array.contains_iff_mem.mp e
        exact Array.mem_toList_iff.mpr this
      have := plain_all h 39 m
      cases this
  have hq : reprQuote x = 39 := by
    unfold reprQuote
    rw [h39] <;> rfl
  have key : ∀ (l : List Nat) (acc : Array Nat), plainS l = true → (l.foldl (fun out c => out ++ (Builtin.Str.reprChar 39 c).toArray) acc).toList = acc.toList ++ l := by
    intro l
    induction l with
    | nil => intro acc _; simp
    | cons c r ih =>
      intro acc hl
      have hc := plain_all hl c List.mem_cons_self
      have hr : plainS r = true := by
        unfold plainS at hl
        rw [hc] at hl
        exact hl
      rw [List.foldl_cons, ih _ hr, plain_char hc]
      simp
  unfold reprText cod
  rw [hq]
  show ((x.cps.foldl (fun out c => out ++ (Builtin.Str.reprChar 39 c).toArray) #[39]).push 39).toList = _
  rw [Array.toList_push, ← Array.foldl_toList, key x.cps.toList _ h]
  rfl
/-! ### data -/
def sepJ : List (List Nat) → List Nat
  | [] => []
  | [x] => x
  | x :: r => x ++ 44 :: 32 :: sepJ r
theorem join_cod : ∀ ts : List Str, cod (Str.join ", " ts) = sepJ (ts.map cod)
  | [] => rfl
  | [x] => rfl
  | x :: y :: r => by
    show cod (x ++ ", " ++ Str.join ", " (y :: r)) = _
    rw [cod_app, cod_app, join_cod (y :: r)]
    show (cod x ++ [44, 32]) ++ _ = cod x ++ 44 :: 32 :: sepJ ((y :: r).map cod)
    simp
theorem textFrom_cod : ∀ (ts : List Str) (k : Nat) (acc : Str), cod (textFrom k acc ts) = cod acc ++ (if k > 0 ∧ ts ≠ [] then 44 :: 32 :: sepJ (ts.map cod) else sepJ (ts.map cod))
  | [], k, acc => by simp [textFrom, sepJ]
  | t :: ts, k, acc => by
    unfold textFrom
    rw [textFrom_cod ts, cod_app, cod_app]
    cases ts with
    | nil =>
      by_cases hk : k > 0
      · rw [if_pos hk]
        simp [hk, sepJ]
        rfl
      · rw [if_neg hk]
        simp [hk, sepJ]
        rfl
    | cons u r =>
      by_cases hk : k > 0
      · rw [if_pos hk]
        simp [hk, sepJ]
        rfl
      · rw [if_neg hk]
        simp [hk, sepJ]
        rfl
theorem listText_cod (ts : List Str) : cod (listText ts) = 91 :: (sepJ (ts.map cod) ++ [93]) := by
  unfold listText
  rw [cod_app, textFrom_cod]
  simp
  rfl
theorem tupleText_cod (ts : List Str) : cod (tupleText ts) = 40 :: (sepJ (ts.map cod) ++ (if ts.length = 1 then [44, 41] else [41])) := by
  unfold tupleText
  rw [cod_app, cod_app, join_cod]
  by_cases h : ts.length = 1
  · rw [if_pos h, if_pos (by simpa using h)]
    rfl
  · rw [if_neg h, if_neg (by simpa using h)]
    rfl
theorem dictText_cod (ts : List Str) : cod (dictText ts) = 123 :: (sepJ (ts.map cod) ++ [125]) := by
  unfold dictText
  rw [cod_app, cod_app, join_cod]
  rfl
mutual
def shwY : PyData → List Nat
  | .none => [78, 111, 110, 101]
  | .bool b => match b with
    | true => [84, 114, 117, 101]
    | false => [70, 97, 108, 115, 101]
  | .int i => shwI i
  | .str x => 39 :: (x.cps.toList ++ [39])
  | .list xs => 91 :: (sepJ (shwYs xs) ++ [93])
  | .tuple xs => 40 :: (sepJ (shwYs xs) ++ (match xs with
    | [_] => [44, 41]
    | _ => [41]))
  | .dict kvs => 123 :: (sepJ (shwKv kvs) ++ [125])
def shwYs : List PyData → List (List Nat)
  | [] => []
  | x :: xs => shwY x :: shwYs xs
def shwKv : List (PyData × PyData) → List (List Nat)
  | [] => []
  | (k, v) :: r => (shwY k ++ 58 :: 32 :: shwY v) :: shwKv r
end
mutual
def okY : PyData → Bool
  | .none => true
  | .bool _ => true
  | .int i => sm 1920 i.natAbs
  | .str x => plainS x.cps.toList
  | .list xs => okYs xs
  | .tuple xs => okYs xs
  | .dict kvs => okKv kvs
def okYs : List PyData → Bool
  | [] => true
  | x :: xs => okY x && okYs xs
def okKv : List (PyData × PyData) → Bool
  | [] => true
  | (k, v) :: r => okY k && okY v && okKv r
end
mutual
theorem shw_eq : ∀ y : PyData, okY y = true → cod y.shown = shwY y
  | .none, _ => rfl
  | .bool b, _ => by cases b <;> rfl
  | .int i, _ => shwI_eq i
  | .str x, h => repr_plain h
  | .list xs, h => by
    show cod (listText (PyData.shownAll xs)) = 91 :: (sepJ (shwYs xs) ++ [93])
    rw [listText_cod, shws_eq xs h]
  | .tuple xs, h => by
    show cod (tupleText (PyData.shownAll xs)) = 40 :: (sepJ (shwYs xs) ++ (match xs with
      | [_] => [44, 41]
      | _ => [41]))
    rw [tupleText_cod, shws_eq xs h]
    cases xs with
    | nil => rfl
    | cons a r => cases r <;> simp [PyData.shownAll]
  | .dict kvs, h => by
    show cod (dictText (PyData.shownKv kvs)) = 123 :: (sepJ (shwKv kvs) ++ [125])
    rw [dictText_cod, shwk_eq kvs h]
theorem shws_eq : ∀ xs : List PyData, okYs xs = true → (PyData.shownAll xs).map cod = shwYs xs
  | [], _ => rfl
  | x :: xs, h => by
    have h' : (okY x && okYs xs) = true := h
    obtain ⟨h1, h2⟩ := Bool.and_eq_true_iff.mp h'
    show cod x.shown :: (PyData.shownAll xs).map cod = shwY x :: shwYs xs
    rw [shw_eq x h1, shws_eq xs h2]
theorem shwk_eq : ∀ xs : List (PyData × PyData), okKv xs = true → (PyData.shownKv xs).map cod = shwKv xs
  | [], _ => rfl
  | (k, v) :: xs, h => by
    have h' : ((okY k && okY v) && okKv xs) = true := h
    obtain ⟨h1, h2⟩ := Bool.and_eq_true_iff.mp h'
    obtain ⟨h3, h4⟩ := Bool.and_eq_true_iff.mp h1
    show cod (k.shown ++ ": " ++ v.shown) :: (PyData.shownKv xs).map cod = (shwY k ++ 58 :: 32 :: shwY v) :: shwKv xs
    rw [cod_app, cod_app, shw_eq k h3, shw_eq v h4, shwk_eq xs h2]
    show (shwY k ++ [58, 32] ++ shwY v) :: _ = _
    simp
end
mutual
theorem ok_show : ∀ y : PyData, okY y = true → y.showable = true
  | .none, _ => rfl
  | .bool b, _ => rfl
  | .int i, h => decide_eq_true (sm_log (by omega) h)
  | .str x, h => rfl
  | .list xs, h => oks_show xs h
  | .tuple xs, h => oks_show xs h
  | .dict kvs, h => okk_show kvs h
theorem oks_show : ∀ xs : List PyData, okYs xs = true → PyData.showableAll xs = true
  | [], _ => rfl
  | x :: xs, h => by
    have h' : (okY x && okYs xs) = true := h
    obtain ⟨h1, h2⟩ := Bool.and_eq_true_iff.mp h'
    exact Bool.and_eq_true_iff.mpr ⟨ok_show x h1, oks_show xs h2⟩
theorem okk_show : ∀ xs : List (PyData × PyData), okKv xs = true → PyData.showableKv xs = true
  | [], _ => rfl
  | (k, v) :: xs, h => by
    have h' : ((okY k && okY v) && okKv xs) = true := h
    obtain ⟨h1, h2⟩ := Bool.and_eq_true_iff.mp h'
    obtain ⟨h3, h4⟩ := Bool.and_eq_true_iff.mp h1
    exact Bool.and_eq_true_iff.mpr ⟨Bool.and_eq_true_iff.mpr ⟨ok_show k h3, ok_show v h4⟩, okk_show xs h2⟩
end
/-! ### repr(d) -/
def kvY : List (P × P) → Option (List (PyData × PyData))
  | [] => some []
  | (.int i, v) :: r => match kvY r with
    | some ys => some ((.int i, v.py) :: ys)
    | none => none
  | (.str s, v) :: r => match kvY r with
    | some ys => some ((.str (stS s), v.py) :: ys)
    | none => none
  | _ => none
def rpD (μ : Store) (d : D) : Option PyData := match d with
  | .ref n => match μ.get? n with
    | some (.fd kvs) => match kvY kvs with
      | some ys => some (.dict ys)
      | none => none
    | _ => toPy μ pyDeep d
  | d => toPy μ pyDeep d
def opRepr : OpN
  | [d], μ => match rpD μ d with
    | some y => if okY y = true ∧ y.depth ≤ 40 ∧ (shwY y).length ≤ szMax then some (.p (.str (shwY y)), μ) else none
    | none => none
  | _, _ => none
theorem stS_cod (x : Str) : stS (cod x) = x := by
  unfold stS cod
  simp
section
variable {X : Cx} {α : List Addr} {H : Hp} {μ : Store} {pins : List (Addr × Obj)} {σ : L2.St} {s : Shared}
theorem kv_reads (I : Inv X pins σ H s) : ∀ {kvs : List (P × P)} {ks : List (Key × V)} {vs : List (Key × Value)} {es : List DictEntry} {ys : List (PyData × PyData)}, KRep keyOf X.K H kvs ks → KV ks vs → Pairs (mixKind X.prog X.w) es vs → kvY kvs = some ys →
    ∃ as bs, ReadsAll s.heap (es.map (·.key)) (ys.map (·.1)) as ∧ ReadsAll s.heap (es.map (·.val)) (ys.map (·.2)) bs
  | [], _, _, _, _, .nil, .nil, .nil, e => by
    cases e
    exact ⟨_, _, .nil, .nil⟩
  | (k, v) :: r, _, _, _, _, .cons h1 t1, .cons h2 t2, .cons h3 h4 t3, e => by
    obtain ⟨k1, r1⟩ := h1
    obtain ⟨k2, r2⟩ := h2
    have val : ∃ cs, Reads s.heap _ v.py cs := Dp.reads I v.py _ _ r1.dp r2
    obtain ⟨cs, hv⟩ := val
    rw [← h4] at hv
    unfold kvY at e
    split at e
    · rename_i z
      cases z
    · rename_i i v' r' he
      cases he
      split at e
      · rename_i ys hys
        cases e
        obtain ⟨as, bs, q1, q2⟩ := kv_reads I t1 t2 t3 hys
        have k1 : some (Sum.inl i) = some _ := k1
        rw [← k2] at h3
        rw [← Option.some.inj k1] at h3
        obtain ⟨t, et⟩ := Value.isInt_shape (k := i) h3
        exact ⟨_, _, .cons (by show Reads s.heap (DictEntry.key _) _ _; rw [et]; exact .int i t) q1, .cons hv q2⟩
      · cases e
    · rename_i x v' r' he
      cases he
      split at e
      · rename_i ys hys
        cases e
        obtain ⟨as, bs, q1, q2⟩ := kv_reads I t1 t2 t3 hys
        have k1 : some (Sum.inr (stS x)) = some _ := k1
        rw [← k2] at h3
        rw [← Option.some.inj k1] at h3
        obtain ⟨t, et⟩ := Value.isStrOf_shape (x := stS x) h3
        exact ⟨_, _, .cons (by show Reads s.heap (DictEntry.key _) _ _; rw [et]; exact .str _ t) q1, .cons hv q2⟩
      · cases e
    · cases e
mutual
theorem py_none {h : Heap} : ∀ (x : P) {v : Value} {as : List Addr}, Reads h v x.py as → as = []
  | .non, _, _, r => by cases r; rfl
  | .bl _, _, _, r => by cases r; rfl
  | .int _, _, _, r => by cases r; rfl
  | .str _, _, _, r => by cases r; rfl
  | .tup ps, _, _, r => by
    have r' : Reads h _ (.tuple (pys ps)) _ := r
    cases r' with
    | tuple e1 e2 e3 e4 => exact pys_none ps e4
theorem pys_none {h : Heap} : ∀ (xs : List P) {vs : List Value} {as : List Addr}, ReadsAll h vs (pys xs) as → as = []
  | [], _, _, r => by cases r; rfl
  | x :: xs, _, _, r => by
    have r' : ReadsAll h _ (x.py :: pys xs) _ := r
    cases r' with
    | cons r1 r2 => rw [py_none x r1, pys_none xs r2]; rfl
end
theorem kv_none {h : Heap} : ∀ {kvs : List (P × P)} {ys : List (PyData × PyData)} {ks vs : List Value} {as bs : List Addr}, kvY kvs = some ys → ReadsAll h ks (ys.map (·.1)) as → ReadsAll h vs (ys.map (·.2)) bs → as = [] ∧ bs = []
  | [], _, _, _, _, _, e, r1, r2 => by
    cases e
    cases r1
    cases r2
    exact ⟨rfl, rfl⟩
  | (k, v) :: r, _, _, _, _, _, e, r1, r2 => by
    unfold kvY at e
    split at e
    · rename_i z
      cases z
    · rename_i i v' r' he
      cases he
      split at e
      · rename_i ys hys
        cases e
        cases r1 with
        | cons a1 a2 =>
          cases r2 with
          | cons b1 b2 =>
            obtain ⟨z1, z2⟩ := kv_none hys a2 b2
            subst z1 z2
            have z3 := py_none (.int i) a1
            have z4 := py_none v b1
            subst z3 z4
            exact ⟨rfl, rfl⟩
      · cases e
    · rename_i x v' r' he
      cases he
      split at e
      · rename_i ys hys
        cases e
        cases r1 with
        | cons a1 a2 =>
          cases r2 with
          | cons b1 b2 =>
            obtain ⟨z1, z2⟩ := kv_none hys a2 b2
            subst z1 z2
            have z3 := py_none (.str x) a1
            have z4 := py_none v b1
            subst z3 z4
            exact ⟨rfl, rfl⟩
      · cases e
    · cases e
mutual
theorem plain_nd : ∀ y : PyData, y.plain = true → y.hasDict = false
  | .none, _ => rfl
  | .bool _, _ => rfl
  | .int _, _ => rfl
  | .str _, _ => rfl
  | .list xs, h => plains_nd xs h
  | .tuple xs, h => plains_nd xs h
  | .dict _, h => by cases h
theorem plains_nd : ∀ xs : List PyData, PyData.plainAll xs = true → PyData.hasDictAll xs = false
  | [], _ => rfl
  | x :: xs, h => by
    have h' : (x.plain && PyData.plainAll xs) = true := h
    obtain ⟨h1, h2⟩ := Bool.and_eq_true_iff.mp h'
    show (x.hasDict || PyData.hasDictAll xs) = false
    rw [plain_nd x h1, plains_nd xs h2] <;> rfl
end
theorem cr_reprS (hgd : X.A.guards = some []) (hu : X.A.units + 64 < cLine) : CallR X (.builtin "repr") (rN (gx X) opRepr) := by
  intro pins s σ H xs us Q I r ⟨α, μ, ds, st, rs, g⟩
  unfold opRepr at g
  split at g
  · rename_i d
    split at g
    · rename_i y hy
      split at g
      · rename_i hc
        obtain ⟨h1, h2, h3⟩ := hc
        cases rs with
        | cons rd rr =>
          cases rr
          cases r with
          | @cons v u _ _ ru rr =>
            cases rr
            have rd := rd
            have hshow : y.shown = stS (shwY y) := by rw [← shw_eq y h1, stS_cod]
            have hlen : y.shown.length ≤ sizeLine := by
              rw [hshow, stS_len, sizeLine_eq]
              exact h3
            have fin : ∀ (h' : Heap) (t : Tok) (tk : Nat), (∀ b o, s.heap.get? b = some o → h'.get? b = some o) → EP X pins σ Q (.str y.shown t) { s with heap := h', toks := tk } := fun h' t tk k => by
              rw [hshow]
              exact ⟨.str (stS (shwY y)), H, I.kept k, ⟨t, rfl⟩, g.here st (.p (.str _))⟩
            have main : ∀ as, Reads s.heap u y as → (y.hasDict = true → sysModules ∉ as) → wpAny (model X.prog X.w) X.A (call (.builtin "repr") [u] []) (EP X pins σ Q) X.xe s := fun as rd hs => by
              cases rd with
              | none => exact PySem.P.repr_of_none (fin s.heap _ _ fun _ _ z => z)
              | bool b => exact PySem.P.repr_of_bool (by have q := fin s.heap s.toks (s.toks + 1) fun _ _ z => z; cases b <;> exact q)
              | int i t => exact PySem.P.repr_of_int (by have q := ok_show _ h1; exact of_decide_eq_true q) (fin s.heap _ _ fun _ _ z => z)
              | str x t => exact PySem.P.repr_of_str (fin s.heap _ _ fun _ _ z => z) hlen
              | list e1 e2 e3 e4 => exact repr_of_reads' (.list e1 e2 e3 e4) (ok_show _ h1) hs hgd (by omega) (fun _ _ z => z) (fun h' t tk k => fin h' t tk k) hlen
              | tuple e1 e2 e3 e4 => exact repr_of_reads' (.tuple e1 e2 e3 e4) (ok_show _ h1) hs hgd (by omega) (fun _ _ z => z) (fun h' t tk k => fin h' t tk k) hlen
              | dict e1 e2 e3 e4 e5 => exact repr_of_reads' (.dict e1 e2 e3 e4 e5) (ok_show _ h1) hs hgd (by omega) (fun _ _ z => z) (fun h' t tk k => fin h' t tk k) hlen
            have flat : toPy μ pyDeep d = some y → wpAny (model X.prog X.w) X.A (call (.builtin "repr") [u] []) (EP X pins σ Q) X.xe s := fun z => by
              obtain ⟨as, q⟩ := Dp.reads I y _ u (toPy_ok st _ rd z) ru
              exact main as q fun w => by
                rw [plain_nd y (toPy_plain μ _ z)] at w
                cases w
            unfold rpD at hy
            split at hy
            · rename_i n
              split at hy
              · rename_i kvs hk
                split at hy
                · rename_i ys hys
                  cases hy
                  try rw [nth_eq] at hk
                  obtain ⟨a, rfl, ha⟩ := rep_ref rd
                  obtain ⟨ks, h4, h5⟩ := st.cel _ _ a hk ha
                  obtain ⟨_, hsm, vs, hkv, o, es, ep, e1, e2, e3, e4, e5, e6⟩ := (show ObjOk X.prog X.w H s.heap a (.dK ks) from I.hok a _ h4)
                  cases (show u = Value.ref a from ru)
                  obtain ⟨as, bs, q1, q2⟩ := kv_reads I h5 hkv e5 hys
                  obtain ⟨z1, z2⟩ := kv_none hys q1 q2
                  subst z1 z2
                  refine main _ (.dict e1 e2.1 e3 q1 q2) fun _ m => ?_
                  have ne : a ≠ sysModules := by simpa using hsm
                  have z : sysModules = a := by simpa using m
                  exact ne z.symm
                · cases hy
              · exact flat hy
            · exact flat hy
      · exact g.elim
    · exact g.elim
  · exact g.elim
end
end Sh
set_option maxRecDepth 100000
set_option maxHeartbeats 4000000
/-! Sh: defs and their calls. -/
namespace Sh
open PySem PySem.Spec PyProof.Rows L2

/-! ### how a call's values find the parameters -/
theorem lookup_none_of {β : Type} : ∀ {l : List (Str × β)} {n : Str}, n ∉ l.map (·.1) → (l.lookup n).isSome = false
  | [], _, _ => rfl
  | (m, v) :: l, n, h => by
    simp only [List.map_cons, List.mem_cons, not_or] at h
    have e : (n == m) = false := beq_eq_false_iff_ne.mpr h.1
    simp only [List.lookup_cons, e]
    exact lookup_none_of h.2
theorem kw_loop (f : (Str × Value) → (List (Str × Value)) × (List (Str × Value)) → Sem (ForInStep ((List (Str × Value)) × (List (Str × Value))))) : ∀ (kw acc : List (Str × Value)), (∀ q ∈ kw, ∀ acc, (acc.lookup q.1).isSome = false → f q (acc, []) = pure (.yield (acc ++ [(q.1, q.2)], []))) →
    ((acc ++ kw).map (·.1)).Nodup → forIn kw (acc, []) f = pure (acc ++ kw, [])
  | [], acc, _, _ => by simp
  | q :: kw, acc, h, nd => by
    have e : acc ++ q :: kw = (acc ++ [(q.1, q.2)]) ++ kw := by simp
    rw [List.forIn_cons, h q List.mem_cons_self acc (lookup_none_of fun z => by
      rw [List.map_append, List.nodup_append] at nd
      exact nd.2.2 _ z _ (by simp) rfl), pure_bind]
    dsimp only
    rw [kw_loop f kw _ (fun p hp => h p (List.mem_cons_of_mem _ hp)) (by rw [← e]; exact nd), e]
theorem bind_gen {fd : FuncData} {args : List Arg} (h1 : fd.params = ⟨[], args, none, [], [], none, []⟩) (hd : fd.defaults = .none) (us : List Value) (kw slots : List (Str × Value)) (hl : us.length ≤ args.length)
   (hs : slots = (args.map (·.arg)).zip us ++ kw) (hk : ∀ q ∈ kw, (args.map (·.arg)).contains q.1 = true) (hn : (slots.map (·.1)).Nodup) (hall : ∀ n ∈ args.map (·.arg), (slots.lookup n).isSome = true) :
   bindArgs fd ⟨us, kw⟩ = pure ((args.map (·.arg)).filterMap fun n => (slots.lookup n).map fun v => (n, v)) := by
  unfold bindArgs
  rw [h1, hd]
  have hq : seqItems? .none = pure none := by rfl
  rw [hq]
  simp only [List.map_nil, List.nil_append, List.append_nil, pure_bind, Option.isSome_none, Option.isNone_none]
  rw [kw_loop _ kw ((args.map (·.arg)).zip us) (fun q hq acc ha => by
    have e1 : ((args.map (·.arg)).contains q.1 || [].contains q.1) = true := by rw [hk q hq]; rfl
    rw [if_pos e1, if_neg (by rw [ha]; decide)]) (by rw [← hs]; exact hn), pure_bind, ← hs]
  have hmiss : ∀ k : Nat, ((args.map (·.arg)).take k).filter (fun n => (slots.lookup n).isNone) = [] := fun k => by
    rw [List.filter_eq_nil_iff]
    intro n hm
    have := hall n (List.mem_of_mem_take hm)
    rw [Option.isNone_iff_eq_none]
    intro z
    rw [z] at this
    cases this
  have hle : (decide (us.length > (args.map (·.arg)).length)) = false := by
    rw [List.length_map]
    exact decide_eq_false (by omega)
  dsimp only [Option.getD_none]
  rw [hle]
  simp only [hmiss]
  simp
theorem lookup_ix {β : Type} : ∀ {ns : List Str} {l : List β} {i : Nat} {p : Str}, ns.Nodup → ns[i]? = some p → (ns.zip l).lookup p = l[i]?
  | [], _, _, _, _, h => by simp at h
  | _ :: _, [], i, _, _, _ => by simp
  | n :: ns, v :: l, 0, p, nd, h => by
    simp at h
    subst h
    simp
  | n :: ns, v :: l, i + 1, p, nd, h => by
    have h' : ns[i]? = some p := by simpa using h
    have ne : p ≠ n := fun z => by
      rw [z] at h'
      exact (List.nodup_cons.mp nd).1 (List.mem_of_getElem? h')
    simp only [List.zip_cons_cons, List.lookup_cons]
    rw [beq_eq_false_iff_ne.mpr ne]
    simpa using lookup_ix (List.nodup_cons.mp nd).2 h'
/-- places of values, in the parameters' sequence -/
def permL {β : Type} (idx : List Nat) (l : List β) : List β := idx.filterMap fun i => l[i]?
theorem perm_zip {β : Type} {ns : List Str} {l : List β} (nd : ns.Nodup) (hl : l.length = ns.length) : ∀ {ps : List Str} {idx : List Nat}, idx.map (fun i => ns[i]?) = ps.map some →
    (ps.filterMap fun n => ((ns.zip l).lookup n).map fun v => (n, v)) = ps.zip (permL idx l) ∧ (permL idx l).length = ps.length ∧ ∀ n ∈ ps, ((ns.zip l).lookup n).isSome = true
  | [], [], _ => ⟨rfl, rfl, by intro n z; cases z⟩
  | [], _ :: _, h => by simp at h
  | _ :: _, [], h => by simp at h
  | p :: ps, i :: idx, h => by
    simp only [List.map_cons, List.cons.injEq] at h
    obtain ⟨h1, h2⟩ := h
    obtain ⟨e1, e2, e3⟩ := perm_zip nd hl h2
    have hi : i < l.length := by rw [hl]; exact (List.getElem?_eq_some_iff.mp h1).1
    have lk : (ns.zip l).lookup p = some l[i] := by rw [lookup_ix nd h1, List.getElem?_eq_getElem hi]
    have pe : permL (i :: idx) l = l[i] :: permL idx l := by
      unfold permL
      rw [List.filterMap_cons, List.getElem?_eq_getElem hi]
    refine ⟨?_, ?_, ?_⟩
    · rw [pe, List.zip_cons_cons, List.filterMap_cons, lk]
      show (p, l[i]) :: _ = _
      rw [e1]
    · rw [pe]
      simp [e2]
    · intro n hn
      rcases List.mem_cons.mp hn with z | z
      · rw [z, lk]; rfl
      · exact e3 n z
/-- the call's pattern is good: so many values by place, then the names ks -/
def patOk (ps ks : List Str) (n : Nat) (idx : List Nat) : Bool := decide (n ≤ ps.length) && decide (ps.take n ++ ks).Nodup && decide (idx.map (fun i => (ps.take n ++ ks)[i]?) = ps.map some) && ks.all fun k => ps.contains k
theorem bind_pat {fd : FuncData} {args : List Arg} {ps ks : List Str} {n : Nat} {idx : List Nat} (h1 : fd.params = ⟨[], args, none, [], [], none, []⟩) (hp : args.map (·.arg) = ps) (hd : fd.defaults = .none) (h : patOk ps ks n idx = true) {us ws : List Value} (hu : us.length = n) (hw : ws.length = ks.length) :
    bindArgs fd ⟨us, ks.zip ws⟩ = pure (ps.zip (permL idx (us ++ ws))) := by
  unfold patOk at h
  simp only [Bool.and_eq_true, decide_eq_true_eq] at h
  obtain ⟨⟨⟨h2, h3⟩, h4⟩, h5⟩ := h
  have hz : ps.zip us ++ ks.zip ws = (ps.take n ++ ks).zip (us ++ ws) := by
    rw [List.zip_append (by rw [List.length_take, hu]; omega)]
    congr 1
    rw [← hu]
    apply List.ext_getElem?
    intro i
    simp only [List.getElem?_zip_eq_some, List.zip, List.getElem?_zipWith]
    by_cases hi : i < us.length
    · rw [List.getElem?_take_of_lt hi]
    · rw [List.getElem?_eq_none (l := us) (by omega)]
      cases ps[i]? <;> cases (List.take us.length ps)[i]? <;> rfl
  have hlen : (us ++ ws).length = (ps.take n ++ ks).length := by
    rw [List.length_append, List.length_append, List.length_take, hu, hw]
    omega
  obtain ⟨e1, e2, e3⟩ := perm_zip h3 hlen h4
  have hla : args.length = ps.length := by rw [← hp, List.length_map]
  rw [bind_gen h1 hd us (ks.zip ws) (ps.zip us ++ ks.zip ws) (by rw [hu, hla]; exact h2) (by rw [hp]) (fun q hq => by
    rw [hp]
    exact List.all_eq_true.mp h5 _ (List.of_mem_zip hq).1) (by
    rw [hz, List.map_fst_zip (by omega)]
    exact h3) (by rw [hp, hz]; exact e3), hp, hz, e1]
theorem Vals.perm {vs : List V} {us : List Value} (r : Vals vs us) : ∀ idx : List Nat, Vals (permL idx vs) (permL idx us)
  | [] => .nil
  | i :: idx => by
    unfold permL
    rw [List.filterMap_cons, List.filterMap_cons]
    cases e : vs[i]? with
    | none =>
      rw [Vals.none_of r e]
      exact Vals.perm r idx
    | some v =>
      obtain ⟨u, h1, h2⟩ := Vals.get r e
      rw [h1]
      exact .cons h2 (Vals.perm r idx)
theorem Reps.perm {G : Gx} {α : List Addr} {H : Hp} {ds : List D} {vs : List V} (r : Reps G α H ds vs) : ∀ idx : List Nat, Reps G α H (permL idx ds) (permL idx vs)
  | [] => .nil
  | i :: idx => by
    unfold permL
    rw [List.filterMap_cons, List.filterMap_cons]
    cases e : ds[i]? with
    | none =>
      rw [List.getElem?_eq_none (r.none e)]
      exact Reps.perm r idx
    | some v =>
      obtain ⟨u, h1, h2⟩ := r.get e
      rw [h1]
      exact .cons h2 (Reps.perm r idx)

/-! ### a def's promise; nothing writes texts of itself the while -/
structure FnG (P : Program) (w : World) (K : PySem.W.Frag) (mg : Str → Option Value) (base : Heap) (k : Nat) (f : Addr) (fd : FuncData) (ps : List Str) (sp : Sp) : Prop where
  run : ∀ (A : Around) (outer : List PySem.Env) (s : Shared) (H : Hp) (args : Args) (us : List Value) (vs : List V) (Q : VK) (E : XK), Room k A → A.guards = some [] → Env0 P w K mg base A outer s H → BindsTo s fd args (ps.zip us) → Vals vs us → us.length = ps.length → sp vs H Q E →
    codeAny (model P w) A (.call (.ref f) args) (CR (L2.CX P w) outer P w H s Q E) s
theorem FnG.mono {P : Program} {w : World} {K : PySem.W.Frag} {mg : Str → Option Value} {base : Heap} {j k : Nat} {f : Addr} {fd : FuncData} {ps : List Str} {sp : Sp} (F : FnG P w K mg base j f fd ps sp) (h : j ≤ k) : FnG P w K mg base k f fd ps sp :=
  ⟨fun A outer s H args us vs Q E hr hg e0 hb r hl q => F.run A outer s H args us vs Q E (hr.mono h) hg e0 hb r hl q⟩
theorem FnG.imp {P : Program} {w : World} {K : PySem.W.Frag} {mg : Str → Option Value} {base : Heap} {k : Nat} {f : Addr} {fd : FuncData} {ps : List Str} {sp sp' : Sp} (F : FnG P w K mg base k f fd ps sp) (h : ∀ vs H Q E, sp' vs H Q E → sp vs H Q E) : FnG P w K mg base k f fd ps sp' :=
  ⟨fun A outer s H args us vs Q E hr hg e0 hb r hl q => F.run A outer s H args us vs Q E hr hg e0 hb r hl (h _ _ _ _ q)⟩
theorem run_G {X : Cx} {W : WX} {k : Nat} {f : Addr} {fd : FuncData} {ps : List Str} {sp : Sp} (F : FnG X.prog X.w X.K X.mg X.base k f fd ps sp) (hr : Room k X.A) (hg : X.A.guards = some []) (tk : Takes X W) {pins : List (Addr × Obj)} {σ : L2.St} {H : Hp} {s : Shared} {Q : VK} {us us' : List Value}
    {kw : List (Str × Value)} {vs' : List V} (I : Inv X pins σ H s) (hb : BindsTo s fd ⟨us, kw⟩ (ps.zip us')) (r : Vals vs' us') (hl : us'.length = ps.length) (h : sp vs' H Q fun cls d H' => W cls d σ H') : wpAny (model X.prog X.w) X.A (call (.ref f) us kw) (EP X pins σ Q) X.xe s := by
  refine wpAny_call (codeAny_mono (F.run X.A X.stack s H ⟨us, kw⟩ us' vs' Q _ hr hg I.env0 hb r hl h) fun z s' hq => ?_)
  cases z with
  | error e => exact tk e s' (XE.of_call I (fun _ _ _ z => z) hq)
  | ok fl => cases fl with
    | ret u => exact I.after hq
    | next => exact hq.elim
    | brk => exact hq.elim
    | cont => exact hq.elim
/-- by its body -/
theorem fn_G {P : Program} {w : World} {K : PySem.W.Frag} {mg : Str → Option Value} {base : Heap} {k : Nat} {f : Addr} {name qual : Str} {params : Arguments} {body : List Stmt} {scope : Scope} {dV kV doc pm cdv ct oc : Value} {an od : Option Addr}
    {osl : Array (Option Value)} {N ps : List Str} {sp : Sp} (lk : K.lookup f = some ⟨oc, od, .func (PySem.W.fnOf name qual params body scope dV kV doc pm an cdv ct), osl⟩) (hcd : PySem.W.codeIn K cdv qual = true) (S : FnScope N ps scope)
    (hbody : ∀ (A : Around) (outer : List PySem.Env) (s : Shared) (H : Hp) (vs : List V) (Q : VK) (E : XK), Room k (A.deeper (envOfC qual scope s.heap.objs.size f cdv)) → (A.deeper (envOfC qual scope s.heap.objs.size f cdv)).guards = some [] → sp vs H Q E →
      ∃ t, PSs (cxOf (L2.CX P w) P w K mg base N qual scope f cdv A outer s H E) body t ∧ t { nx := fun _ H' => Q .non H', rt := Q } (start N vs) H) :
    FnG P w K mg base (k + 1) f (PySem.W.fnOf name qual params body scope dV kV doc pm an cdv ct) ps sp := by
  refine ⟨fun A outer s H args us vs Q E room hg en bound rel hlu wish => ?_⟩
  have hlv : vs.length = ps.length := rel.length.trans hlu
  have inK : K.In s.heap := en.mod.kin.keeps fun b o z => (en.bs b o z).1
  have lim : s.heap.NoLimit := en.mod.nolimit.keeps fun b o z => (en.bs b o z).1
  have kinds : ∀ y ∈ ps.zip us, scope.names.lookup y.1 = some .local ∨ (scope.names.lookup y.1 = some .cell ∧ ((cellsFrom (s.heap.objs.size + 1) scope.names []).lookup y.1).isSome = true) := fun y hy =>
    (S.par y.1 (List.of_mem_zip (a := y.1) (b := y.2) hy).1).elim .inl fun z => .inr ⟨z, PySem.W.cellsFrom_some _ _ _ (.inl z)⟩
  refine codeAny_call_function room.depth (inK _ _ lk) rfl S.co S.gen rfl (PySem.W.codeRec_of inK hcd) (bound _ _ _ _ ?_)
  refine wpAny_newFunctionEnv_cells S.kind kinds fun env he s1 x => ?_
  subst he
  obtain ⟨t, pt, hq⟩ := hbody A outer s H vs Q E (room.deeper _) hg wish
  have J : Inv (cxOf (L2.CX P w) P w K mg base N qual scope f cdv A outer s H E) [] (start N vs) H s1 := inv_start S room.hd en hlv rel x
  refine ⟨lim.keeps x.toInCall.keep, codeAny_func (wpAny_mono (pt.run [] s1 (start N vs) H _ J hq) (fun fl s' hs => ?_) fun e s' hs => hs)⟩
  cases fl with
  | ret u =>
    obtain ⟨v, σ', H', J', rv, q⟩ := hs
    exact ⟨v, H', J'.os, J'.bare, J'.base, J'.hok, rv, q⟩
  | next =>
    obtain ⟨σ', H', J', q⟩ := hs
    exact ⟨.non, H', J'.os, J'.bare, J'.base, J'.hok, rfl, q⟩
  | brk => exact hs.elim fun _ z => z.elim fun _ z => z.2.elim
  | cont => exact hs.elim fun _ z => z.elim fun _ z => z.2.elim

/-! ### calls -/
/-- what is known of a def that is called -/
structure CE where
  ps : List Str
  lvl : Nat
  run : Fn
structure FOk (P : Program) (w : World) (K : PySem.W.Frag) (mg : Str → Option Value) (base : Heap) (x : Str) (c : CE) : Prop where
  ex : ∃ (f : Addr) (fd : FuncData) (args : List Arg), mg x = some (.ref f) ∧ PySem.W.keepIn K (.ref f) = true ∧ fd.params = ⟨[], args, none, [], [], none, []⟩ ∧ args.map (·.arg) = c.ps ∧ fd.defaults = .none ∧ FnG P w K mg base c.lvl f fd c.ps (spF ⟨K, mg⟩ c.ps.length c.run)
def eCallK (f : Fn) (n m : Nat) (idx : List Nat) (a k : Ev (List D)) : Ev D := fun ρ μ => (a ρ μ).bind fun ds μ1 => (k ρ μ1).bind fun es μ2 => if ds.length = n then if es.length = m then f (permL idx (ds ++ es)) μ2 else .bad else .bad
def eCallP (f : Fn) (n : Nat) (a : Ev (List D)) : Ev D := fun ρ μ => (a ρ μ).bind fun ds μ1 => if ds.length = n then f ds μ1 else .bad
section
variable {X : Cx} {W : WX} {x : Str} {c : CE} {e : Expr} {es : List Expr} {kws : List Keyword} {ra rk : Ev (List D)} {p pos : Pos} {n : Nat} {ks : List Str} {idx : List Nat}
theorem perm_len {β : Type} {ps ks : List Str} {n : Nat} {idx : List Nat} (h : patOk ps ks n idx = true) {l m : List β} (hl : l.length = n) (hm : m.length = ks.length) : (permL idx (l ++ m)).length = ps.length := by
  unfold patOk at h
  simp only [Bool.and_eq_true, decide_eq_true_eq] at h
  obtain ⟨⟨⟨h2, h3⟩, h4⟩, h5⟩ := h
  exact (perm_zip (β := β) h3 (by rw [List.length_append, List.length_append, List.length_take, hl, hm]; omega) h4).2.1
theorem vals_len {vs : List V} {us : List Value} (r : Vals vs us) : us.length = vs.length := (Vals.length r).symm
theorem go_call (F : FOk X.prog X.w X.K X.mg X.base x c) (hr : Room c.lvl X.A) (hg : X.A.guards = some []) (tk : Takes X W) (hp : patOk c.ps ks n idx = true) :
    ∃ f, X.mg x = some (.ref f) ∧ PySem.W.keepIn X.K (.ref f) = true ∧ ∀ (pins : List (Addr × Obj)) (σ : L2.St) (H : Hp) (s : Shared) (Q : VK) (us ws : List Value) (vs zs : List V), Inv X pins σ H s → Vals vs us → Vals zs ws → us.length = n → ws.length = ks.length →
      spF (gx X) c.ps.length c.run (permL idx (vs ++ zs)) H Q (fun cls d H' => W cls d σ H') → wpAny (model X.prog X.w) X.A (call (.ref f) us (ks.zip ws)) (EP X pins σ Q) X.xe s := by
  obtain ⟨f, fd, args, h1, h2, h3, h4, h5, h6⟩ := F.ex
  refine ⟨f, h1, h2, fun pins σ H s Q us ws vs zs I r rz l1 l2 q => ?_⟩
  exact run_G h6 hr hg tk I (BindsTo.of_eq (bind_pat h3 h4 h5 hp l1 l2)) (Vals.perm (r.append rz) idx) (perm_len hp l1 l2) q
theorem tCallK_of {f : Fn} {m : Nat} : ∀ σ H Q, tE (gx X) W (eCallK f n ks.length idx ra rk) σ H Q → (∀ (l k : List D), l.length = n → k.length = ks.length → (permL idx (l ++ k)).length = m) →
    tAs (gx X) W ra σ H fun vs H1 => tAs (gx X) W rk σ H1 fun zs H2 => vs.length = n ∧ zs.length = ks.length ∧ spF (gx X) m f (permL idx (vs ++ zs)) H2 Q fun cls d H' => W cls d σ H' := fun σ H Q ⟨ρ, α, μ, en, st, g⟩ hm =>
  ⟨ρ, α, μ, en, st, g.bind fun ds μ1 vs α1 H1 x1 st1 r1 g1 => ⟨ρ, α1, μ1, en.ext st x1, st1, g1.bind fun es μ2 zs α2 H2 x2 st2 r2 g2 => by
    split at g2
    · rename_i hd
      split at g2
      · rename_i he
        have rr := Reps.perm ((st1.reps x2 r1).append r2) idx
        exact ⟨r1.length.trans hd, r2.length.trans he, tFn_of (rr.length.trans (hm ds es hd he)) st2 rr g2⟩
      · exact g2.elim
    · exact g2.elim⟩⟩
theorem tCallP_of {f : Fn} : ∀ σ H Q, tE (gx X) W (eCallP f n ra) σ H Q → tAs (gx X) W ra σ H fun vs H1 => vs.length = n ∧ spF (gx X) n f vs H1 Q fun cls d H' => W cls d σ H' := fun σ H Q ⟨ρ, α, μ, en, st, g⟩ =>
  ⟨ρ, α, μ, en, st, g.bind fun ds μ1 vs α1 H1 x1 st1 r1 g1 => by
    split at g1
    · rename_i hd
      exact ⟨r1.length.trans hd, tFn_of (r1.length.trans hd) st1 r1 g1⟩
    · exact g1.elim⟩
theorem tCall0_of {f : Fn} {m : Nat} : ∀ σ H Q, tE (gx X) W (eCallK f 0 ks.length idx aNil rk) σ H Q → (∀ (l k : List D), l.length = 0 → k.length = ks.length → (permL idx (l ++ k)).length = m) →
    tAs (gx X) W rk σ H fun zs H2 => zs.length = ks.length ∧ spF (gx X) m f (permL idx zs) H2 Q fun cls d H' => W cls d σ H' := fun σ H Q ⟨ρ, α, μ, en, st, g⟩ hm =>
  ⟨ρ, α, μ, en, st, Got.bind (show Got (gx X) W σ (Rep (gx X)) α H ((rk ρ μ).bind fun es μ2 => if es.length = ks.length then f (permL idx es) μ2 else .bad) Q from g) fun es μ2 zs α2 H2 x2 st2 r2 g2 => by
    split at g2
    · rename_i he
      have rr := Reps.perm r2 idx
      exact ⟨r2.length.trans he, tFn_of (rr.length.trans (hm [] es rfl he)) st2 rr g2⟩
    · exact g2.elim⟩
theorem pe_call1 (F : FOk X.prog X.w X.K X.mg X.base x c) (hr : Room c.lvl X.A) (hgd : X.A.guards = some []) (tk : Takes X W) (hp : patOk c.ps ks n idx = true) (hg : Gl X x) (ha : PA X (e :: es) (tAs (gx X) W ra)) (hkw : PK X kws (tAs (gx X) W rk))
    (hall : (backToKw pos (keywordEach kws X.env)).all (·.1.isSome) = true) (hks : (backToKw pos (keywordEach kws X.env)).filterMap (·.1) = ks) (hdb : (x == ("__debug__" : Str)) = false) (he : starEach (e :: es) X.env = (false, eval e X.env) :: starEach es X.env)
    (hpl : ((backTo pos (starEach (e :: es) X.env)).any (·.1) || (backToKw pos (keywordEach kws X.env)).any (·.1.isNone)) = false) :
    PE X (.Call (.Name x p) (e :: es) kws pos) (tE (gx X) W (eCallK c.run n ks.length idx ra rk)) := by
  refine ⟨fun pins s σ H Q I h => ?_⟩
  obtain ⟨f, h1, h2, h3⟩ := go_call F hr hgd tk hp
  have h4 := tCallK_of σ H Q h fun l k hl hk => perm_len hp hl hk
  refine wpAny_Call_Name_kw (ld_glob I hg h1 ?_ hdb)
  refine PySem.W.callWith_KW (h₀ := X.base) I.ok.mod.kin h2 hall (thn (ha.run pos pins s σ H _ I h4) fun us s1 ⟨vs, H1, I1, r, q⟩ => ?_) hpl he
  refine thn (hkw.run pos pins s1 σ H1 _ I1 q) fun ws s2 ⟨zs, H2, I2, rz, l1, l2, q2⟩ => ⟨I2.kIn, ?_⟩
  rw [hks]
  exact h3 pins σ H2 s2 Q us ws vs zs I2 r rz ((vals_len r).trans l1) ((vals_len rz).trans l2) q2
theorem pe_call2 (F : FOk X.prog X.w X.K X.mg X.base x c) (hr : Room c.lvl X.A) (hgd : X.A.guards = some []) (tk : Takes X W) (hp : patOk c.ps ks 0 idx = true) (hg : Gl X x) (hkw : PK X kws (tAs (gx X) W rk))
    (hall : (backToKw pos (keywordEach kws X.env)).all (·.1.isSome) = true) (hks : (backToKw pos (keywordEach kws X.env)).filterMap (·.1) = ks) (hdb : (x == ("__debug__" : Str)) = false)
    (hpl : ((backTo pos (starEach [] X.env)).any (·.1) || (backToKw pos (keywordEach kws X.env)).any (·.1.isNone)) = false) :
    PE X (.Call (.Name x p) [] kws pos) (tE (gx X) W (eCallK c.run 0 ks.length idx aNil rk)) := by
  refine ⟨fun pins s σ H Q I h => ?_⟩
  obtain ⟨f, h1, h2, h3⟩ := go_call F hr hgd tk hp
  have h4 := tCall0_of σ H Q h fun l k hl hk => perm_len hp hl hk
  refine wpAny_Call_Name_kw (ld_glob I hg h1 ?_ hdb)
  refine PySem.W.callWith_KW0 (h₀ := X.base) I.ok.mod.kin h2 hall (thn (hkw.run pos pins s σ H _ I h4) fun ws s2 ⟨zs, H2, I2, rz, l2, q2⟩ => ⟨I2.kIn, ?_⟩) hpl
  rw [hks]
  exact h3 pins σ H2 s2 Q [] ws [] zs I2 .nil rz rfl ((vals_len rz).trans l2) q2
theorem permL_id {β : Type} : ∀ (l : List β), permL (List.range l.length) l = l := fun l => by
  unfold permL
  apply List.ext_getElem?
  intro i
  have : (List.range l.length).filterMap (fun i => l[i]?) = l := by
    induction l with
    | nil => rfl
    | cons x l ih =>
      rw [List.length_cons, List.range_succ_eq_map, List.filterMap_cons]
      simp only [List.getElem?_cons_zero]
      rw [List.filterMap_map]
      congr 1
  rw [this]
theorem go_call0 (F : FOk X.prog X.w X.K X.mg X.base x c) (hr : Room c.lvl X.A) (hg : X.A.guards = some []) (tk : Takes X W) (nd : c.ps.Nodup) :
    ∃ f, X.mg x = some (.ref f) ∧ PySem.W.keepIn X.K (.ref f) = true ∧ ∀ (pins : List (Addr × Obj)) (σ : L2.St) (H : Hp) (s : Shared) (Q : VK) (us : List Value) (vs : List V), Inv X pins σ H s → Vals vs us → us.length = c.ps.length →
      spF (gx X) c.ps.length c.run vs H Q (fun cls d H' => W cls d σ H') → wpAny (model X.prog X.w) X.A (call (.ref f) us) (EP X pins σ Q) X.xe s := by
  obtain ⟨f, fd, args, h1, h2, h3, h4, h5, h6⟩ := F.ex
  refine ⟨f, h1, h2, fun pins σ H s Q us vs I r l1 q => run_G h6 hr hg tk I (BindsTo.of_eq ?_) r l1 q⟩
  have hp : patOk c.ps [] c.ps.length (List.range c.ps.length) = true := by
    unfold patOk
    simp only [Bool.and_eq_true, decide_eq_true_eq, List.take_length, List.append_nil, List.all_nil, and_true, Nat.le_refl, true_and]
    refine ⟨nd, ?_⟩
    apply List.ext_getElem?
    intro i
    rw [List.getElem?_map, List.getElem?_map]
    by_cases hi : i < c.ps.length
    · rw [List.getElem?_range hi]
      simp [List.getElem?_eq_getElem hi]
    · rw [List.getElem?_eq_none (by simpa using hi), List.getElem?_eq_none (by omega)]
      rfl
  have e := bind_pat h3 h4 h5 hp l1 (ws := []) rfl
  rw [List.append_nil, ← l1, permL_id] at e
  exact e
theorem pe_call3 (F : FOk X.prog X.w X.K X.mg X.base x c) (hr : Room c.lvl X.A) (hgd : X.A.guards = some []) (tk : Takes X W) (nd : c.ps.Nodup) (hg : Gl X x) (ha : PA X (e :: es) (tAs (gx X) W ra))
    (hdb : (x == ("__debug__" : Str)) = false) (he : starEach (e :: es) X.env = (false, eval e X.env) :: starEach es X.env) (hpl : (backTo pos (starEach es X.env)).any (·.1) = false) :
    PE X (.Call (.Name x p) (e :: es) [] pos) (tE (gx X) W (eCallP c.run c.ps.length ra)) := by
  refine ⟨fun pins s σ H Q I h => ?_⟩
  obtain ⟨f, h1, h2, h3⟩ := go_call0 F hr hgd tk nd
  refine wpAny_Call_Name_kw (ld_glob I hg h1 ?_ hdb)
  refine PySem.W.callWith_K (h₀ := X.base) I.ok.mod.kin h2 (thn (ha.run pos pins s σ H _ I (tCallP_of σ H Q h)) fun us s1 ⟨vs, H1, I1, r, l1, q⟩ => ⟨I1.kIn, ?_⟩) he hpl
  exact h3 pins σ H1 s1 Q us vs I1 r ((vals_len r).trans l1) q
theorem pe_call4 (F : FOk X.prog X.w X.K X.mg X.base x c) (hr : Room c.lvl X.A) (hgd : X.A.guards = some []) (tk : Takes X W) (nd : c.ps.Nodup) (hz : c.ps.length = 0) (hg : Gl X x) (hdb : (x == ("__debug__" : Str)) = false) :
    PE X (.Call (.Name x p) [] [] pos) (tE (gx X) W (eCallP c.run c.ps.length aNil)) := by
  refine ⟨fun pins s σ H Q I h => ?_⟩
  obtain ⟨f, h1, h2, h3⟩ := go_call0 F hr hgd tk nd
  obtain ⟨ρ, α, μ, en, st, g⟩ := h
  have g' : Got (gx X) W σ (Rep (gx X)) α H (if 0 = c.ps.length then c.run [] μ else .bad) Q := g
  rw [if_pos hz.symm] at g'
  refine wpAny_Call_Name_kw (ld_glob I hg h1 ?_ hdb)
  exact PySem.W.callWith_K0 I.kIn h2 (h3 pins σ H s Q [] [] I .nil hz.symm (tFn_of hz.symm st .nil g'))
theorem pk_n : PK X [] (tAs (gx X) W aNil) := pk_nil.weak fun σ H Q ⟨ρ, α, μ, e, st, g⟩ => g _ α H (Ext.refl _ _) st .nil
theorem pk_c {nm : Option Str} {kpos : Pos} {a : Expr} {ea : Ev D} (ha : PE X a (tE (gx X) W ea)) (hr : PK X kws (tAs (gx X) W rk)) : PK X (⟨nm, a, kpos⟩ :: kws) (tAs (gx X) W (aCons ea rk)) := (pk_cons ha hr).weak tCons_of
end
end Sh
set_option maxRecDepth 100000
set_option maxHeartbeats 4000000
/-! Sh: own errors raised, looked at. -/
namespace Sh
open PySem PySem.Spec PyProof.Rows L2

/-- what is asked of an error's class -/
structure ExK (K : PySem.W.Frag) (C : Addr) : Prop where
  cl : (PySem.W.clsIn K C).isSome = true
  ga : PySem.W.findIn K (.ref C) "__getattribute__" = some (some (.builtin "BaseException.__getattribute__"))
  gg : PySem.W.findIn K (.ref C) "__getattr__" = some none
  sb : PySem.W.subIn K (.ref C) (.type "BaseException") = some true
  dc : PySem.W.hasDictIn K C = true
  kc : PySem.W.findIn K (.ref C) "__class__" = some (some (.builtin "object.__class__"))
  gs : PySem.W.specialIn K (.builtin "object.__class__") "__get__" = some (some (.builtin "getset_descriptor.__get__"))
  tk : PySem.W.takesIn K (.builtin "object.__class__") = some true
  ob : PySem.W.mroIn K C (.type "object") = some true
  vl : PySem.W.findIn K (.ref C) "value" = some none
structure ExcG (P : Program) (K : PySem.W.Frag) (mg : Str → Option Value) (x : Str) (subs others : List Str) : Prop where
  mkr : ∃ C D fI, mg x = some (.ref C) ∧ ShX.SupI P K fI D ∧ ShX.SupC K D C ∧ PySem.W.findIn K (.ref C) "__init__" = some (some (.ref fI)) ∧ mg "super" = none ∧ (∀ t : Ty, PySem.W.kitOne K (.type t.nm) (.ref C) = some false) ∧
    (∀ y ∈ subs, ∃ Y, mg y = some (.ref Y) ∧ ExK K Y ∧ PySem.W.kitOne K (.ref Y) (.ref C) = some true ∧ PySem.W.exmOne K (.ref Y) (.ref C) = some true) ∧
    (∀ y ∈ others, ∃ Y, mg y = some (.ref Y) ∧ ExK K Y ∧ PySem.W.kitOne K (.ref Y) (.ref C) = some false ∧ PySem.W.exmOne K (.ref Y) (.ref C) = some false)
def sRaise (x : Str) (a : Ev D) : Sv := fun ρ μ => sOf (a ρ μ) ρ fun d μ1 => .exc ρ x d μ1
def lbS : List Nat → List Nat → Bool
  | [], [] => true
  | x :: xs, y :: ys => match Nat.beq x y with
    | true => lbS xs ys
    | false => false
  | _, _ => false
theorem lbS_eq : ∀ {l m : List Nat}, lbS l m = true → l = m
  | [], [], _ => rfl
  | x :: xs, y :: ys, h => by
    unfold lbS at h
    split at h
    · rename_i e
      rw [Nat.eq_of_beq_eq_true e, lbS_eq h]
    · cases h
  | [], _ :: _, h => by cases h
  | _ :: _, [], h => by cases h
def hasS (x : Str) : List Str → Bool
  | [] => false
  | y :: r => match lbS x.cps.toList y.cps.toList with
    | true => true
    | false => hasS x r
theorem hasS_mem {x : Str} : ∀ {l : List Str}, hasS x l = true → x ∈ l
  | y :: r, h => by
    unfold hasS at h
    split at h
    · rename_i e
      have e := lbS_eq e
      cases x
      cases y
      simp at e
      rw [e]
      exact List.mem_cons_self
    · exact List.mem_cons_of_mem _ (hasS_mem h)
/-- an error of class c: is it one of x's -/
def isX (subs others : List Str) (μ : Store) : D → Option Bool
  | .exc c _ => match hasS c subs with
    | true => some true
    | false => match hasS c others with
      | true => some false
      | false => none
  | d => match tyD μ d with
    | some _ => some false
    | none => none
def eIsX (a : Ev D) (subs others : List Str) : Ev D := fun ρ μ => (a ρ μ).bind fun d μ1 => match isX subs others μ1 d with
  | some b => .ok (.p (.bl b)) μ1
  | none => .bad
def eVal (subs : List Str) (a : Ev D) : Ev D := fun ρ μ => (a ρ μ).bind fun d μ1 => match d with
  | .exc c v => match hasS c subs with
    | true => .ok v μ1
    | false => .bad
  | _ => .bad
section
variable {X : Cx} {W : WX} {a e : Expr} {ea ev : Ev D} {x : Str} {subs others : List Str} {p p2 p3 pos : Pos}
theorem ps_rs (hc : X.calm = true) (tk : Takes X W) (F : ExcG X.prog X.K X.mg x subs others) (hr : Room 2 X.A) (hg : Gl X x) (hdb : (x == ("__debug__" : Str)) = false) (he : PE X e (tE (gx X) W ev)) (hst : starEach [e] X.env = (false, eval e X.env) :: starEach [] X.env) :
    PS X (.Raise (some (.Call (.Name x p) [e] [] p2)) none pos) (tS (gx X) W (sRaise x ev)) := by
  obtain ⟨C, D, fI, hm, S, T, hi, hs, _⟩ := F.mkr
  refine (ps_raise hc tk (ShX.pmk_sup S T hi hs hr hg hm he hst hdb)).weak fun Z σ H ⟨ρ, α, μ, en, st, q⟩ => ⟨ρ, α, μ, en, st, GotS.bind en st q fun d μ1 v α1 H1 y e1 st1 r q1 => ?_⟩
  intro dx hn
  have y2 : Ext α1 H1 α1 (upd H1 dx (.xd [("value", v)])) := Ext.fresh hn
  exact q1 σ (.ref C) dx v α1 _ y2 (st1.fresh hn) (e1.ext st1 y2) hm upd_same (st1.rep y2 r)
theorem ex_at {G : Gx} {α : List Addr} {H : Hp} {c : Str} {d : D} {v : V} (r : Rep G α H (.exc c d) v) : ∃ a dx cls w, v = .ref a ∧ G.mg c = some cls ∧ H a = some (ExV cls dx a) ∧ H dx = some (.xd [("value", w)]) ∧ Rep G α H d w := by
  cases r with
  | exc h1 h2 h3 h4 => exact ⟨_, _, _, _, rfl, h1, h2, h3, h4⟩
/-- the instance behind an error -/
theorem ex_inst {pins : List (Addr × Obj)} {σ : L2.St} {H : Hp} {s : Shared} {b dx C : Addr} {w : V} (I : Inv X pins σ H s) (h : H b = some (ExV (.ref C) dx b)) (hx : H dx = some (.xd [("value", w)])) :
    ∃ (oe od : Obj) (u : Value), PySem.W.InstAt s.heap b oe C (some od) ∧ PySem.W.lookIn "value" od = some (some u) ∧ RelV w u := by
  have x1 : ObjOk X.prog X.w H s.heap b (ExV (.ref C) dx b) := I.hok b _ h
  obtain ⟨⟨oe, vs, ho, hz, hd⟩, _⟩ := x1
  have x2 : ObjOk X.prog X.w H s.heap dx (.xd [("value", w)]) := I.hok dx _ hx
  obtain ⟨mA, hns, hr⟩ := x2
  obtain ⟨od, hod, hl⟩ := lookIn_ns hns
  have hv : RelO (some w) (mA "value") := hr "value"
  obtain ⟨u, hu, ru⟩ := hv.some_of
  exact ⟨oe, od, u, ⟨ho, hz.1, by unfold PySem.W.notCls; rw [hd] <;> rfl, by rw [hz.2]; exact hod⟩, by rw [hl, hu], ru⟩
/-- e.value -/
theorem pe_xv (F : ExcG X.prog X.K X.mg x subs others) (he : PE X e (tE (gx X) W ev)) (hb : attributeBase e "value" X.env (eval e X.env) = eval e X.env) : PE X (.Attribute e "value" pos) (tE (gx X) W (eVal subs ev)) := by
  refine ⟨fun pins s σ H Q I ⟨ρ, α, μ, en, st, g⟩ => ?_⟩
  refine attr_of hb (thn (he.run pins s σ H (fun v H1 => ∃ d α1 μ1, StOk (gx X) α1 H1 μ1 ∧ Rep (gx X) α1 H1 d v ∧ Got (gx X) W σ (Rep (gx X)) α1 H1 (match d with
    | .exc c v => match hasS c subs with
      | true => .ok v μ1
      | false => .bad
    | _ => .bad) Q) I ⟨ρ, α, μ, en, st, g.bind fun d μ1 v α1 H1 y st1 r g1 => ⟨d, α1, μ1, st1, r, g1⟩⟩) fun u s1 ⟨v, H1, I1, r1, d, α1, μ1, st1, r, g1⟩ => ?_)
  obtain ⟨C, D, fI, hm, S, T, hi, hs, _, hsub, _⟩ := F.mkr
  split at g1
  · rename_i c d0
    split at g1
    · rename_i hc
      obtain ⟨b, dx, cls, w, rfl, h1, h2, h3, h4⟩ := ex_at r
      obtain ⟨Y, hY, K, _⟩ := hsub c (hasS_mem hc)
      have ec : cls = .ref Y := by
        have z : X.mg c = some cls := h1
        rw [hY] at z
        exact (Option.some.inj z).symm
      subst ec
      obtain ⟨oe, od, uv, J, hl, rv⟩ := ex_inst I1 h2 h3
      obtain rfl : u = Value.ref b := r1
      exact PySem.HandSPX.exc_get I1.kIn J K.ga K.gg K.sb (PySem.W.findObj_own K.dc K.vl rfl hl) (handed_of rv) ⟨w, H1, I1.tok _, rv, g1 w α1 H1 (Ext.refl _ _) st1 h4⟩
    · exact g1.elim
  · exact g1.elim
/-- isinstance(e, x), x an own error's class -/
theorem pe_isx (F : ExcG X.prog X.K X.mg x subs others) (hg : Gl X "isinstance") (hm : X.mg "isinstance" = none) (hgx : Gl X x) (hdb : (x == ("__debug__" : Str)) = false) (ha : PE X a (tE (gx X) W ea))
    (hs : starEach [a, .Name x p2] X.env = (false, eval a X.env) :: starEach [.Name x p2] X.env) (hs2 : starEach [.Name x p2] X.env = (false, eval (.Name x p2) X.env) :: starEach [] X.env) (hpl : (backTo pos (starEach [.Name x p2] X.env)).any (·.1) = false) :
    PE X (.Call (.Name "isinstance" p) [a, .Name x p2] [] pos) (tE (gx X) W (eIsX ea subs others)) := by
  obtain ⟨C, DD, fI, hx, S, T, hi, hsu, hty, hsub, hoth⟩ := F.mkr
  have hb : PE X (.Name x p2) (tC (.ref C)) := pe_glob hgx hx (show RelV (.ref C) (.ref C) from rfl) hdb
  have rule : CallR X (.builtin "isinstance") (fun xs H Q => ∃ (d : D) (v : V) (b : Bool) (α1 : List Addr) (μ1 : Store), xs = [v, .ref C] ∧ StOk (gx X) α1 H μ1 ∧ Rep (gx X) α1 H d v ∧ isX subs others μ1 d = some b ∧ Q (.bl b) H) := by
    intro pins s σ H xs us Q I r ⟨d, v, b, α1, μ1, exs, st, rd, hd, q⟩
    subst exs
    have plain : ∀ t, tyD μ1 d = some t → b = false → wpAny (model X.prog X.w) X.A (call (.builtin "isinstance") us []) (EP X pins σ Q) X.xe s := fun t ht hb0 => by
      subst hb0
      exact call_isi pins s σ H _ us Q I r ⟨v, .ref C, .type t.nm, .ref C, false, rfl, .own C, tyD_of st rd ht, hty t, q⟩
    unfold isX at hd
    split at hd
    · rename_i c d0
      obtain ⟨b0, dx, cls, w, rfl, h1, h2, h3, h4⟩ := ex_at rd
      have key : ∀ Y, X.mg c = some (.ref Y) → ExK X.K Y → PySem.W.kitOne X.K (.ref Y) (.ref C) = some b → wpAny (model X.prog X.w) X.A (call (.builtin "isinstance") us []) (EP X pins σ Q) X.xe s := fun Y hY K hk => by
        have ec : cls = .ref Y := by
          have z : X.mg c = some cls := h1
          rw [hY] at z
          exact (Option.some.inj z).symm
        subst ec
        obtain ⟨oe, od, uv, J, hl, rv⟩ := ex_inst I h2 h3
        obtain ⟨u1, u2, rfl, r1, r2⟩ := vals2 r
        cases (show u1 = Value.ref b0 from r1)
        cases (show u2 = Value.ref C from r2)
        exact PySem.W.kia_one (PySem.W.kitx_exc K.cl K.ga K.gg K.sb K.kc K.gs K.tk K.ob) I.kIn J hk (fun z => nomatch z) fun tk => ⟨.bl b, H, I.tok tk, rfl, q⟩
      split at hd
      · rename_i hc
        cases hd
        obtain ⟨Y, hY, K, k1, _⟩ := hsub c (hasS_mem hc)
        exact key Y hY K k1
      · split at hd
        · rename_i hc
          cases hd
          obtain ⟨Y, hY, K, k1, _⟩ := hoth c (hasS_mem hc)
          exact key Y hY K k1
        · cases hd
    · split at hd
      · rename_i t ht
        cases hd
        exact plain t ht rfl
      · cases hd
  exact (pe_callB rule hg hm (by decide +kernel) (pa_cons ha (pa_cons hb pa_nil hs2) hs) (by decide) (by decide) hs hpl).weak fun σ H Q ⟨ρ, α, μ, en, st, g⟩ => ⟨ρ, α, μ, en, st, g.bind fun d μ1 v α1 H1 y st1 r g1 => by
    split at g1
    · rename_i b hb
      exact ⟨d, v, b, α1, μ1, rfl, st1, r, hb, g1 _ α1 H1 (Ext.refl _ _) st1 (.p (.bl b))⟩
    · exact g1.elim⟩
end
end Sh
set_option maxRecDepth 100000
set_option maxHeartbeats 4000000
/-! Sh: a def that hears what its lambda raises. -/
namespace Sh
open PySem PySem.Spec PyProof.Rows L2

def ExVo (cls : Value) (d : Option Addr) (a : Addr) : HO := .ext fun h => ∃ (oe : Obj) (vs : Array Value), h.get? a = some oe ∧ Zc cls d oe ∧ oe.data = .fields vs
section
variable {X : Cx} {pins : List (Addr × Obj)} {σ : L2.St} {H : Hp} {s : Shared}
/-- an error's object that is not told of yet -/
theorem Inv.reg (I : Inv X pins σ H s) {a : Addr} {oe : Obj} {vs : Array Value} {cls : Value} {d : Option Addr} (ho : s.heap.get? a = some oe) (hz : Zc cls d oe) (hd : oe.data = .fields vs) (na : H a = none) (nL : a ≠ X.env.locals)
    (n0 : X.s_0.heap.get? a = none) (np : ∀ p ∈ X.pn ++ pins, p.1 ≠ a) : Inv X pins σ (upd H a (ExVo cls d a)) s := by
  have ne0 : ∀ {b : Addr} {o : Obj}, X.s_0.heap.get? b = some o → b ≠ a := fun {b o} e z => by
    rw [z, n0] at e
    cases e
  have kept : ∀ {b : Addr} {u : HO}, H b = some u → upd H a (ExVo cls d a) b = some u := fun {b u} e => by
    rw [upd_ne (ne_of_none e na)]
    exact e
  have B := I.base
  refine ⟨I.ok, I.os, I.bare, ⟨B.keep, B.slot, fun b o e n hx => ?_, B.there, fun b xs e => kept (B.tups b xs e), fun b o u e => kept (B.frzs b o u e), fun b ps e => ?_⟩, I.loc, I.cell, ?_, fun x c e => ?_, fun p hp => ?_, fun b u e => ?_, I.len⟩
  · rw [upd_ne (ne0 e)]
    exact B.free b o e n hx
  · obtain ⟨m, q⟩ := B.tbls b ps e
    exact ⟨m, kept q⟩
  · rw [upd_ne (Ne.symm nL)]
    exact I.free
  · rw [upd_ne]
    · exact I.freeC x c e
    · rintro rfl
      obtain ⟨v, oc, h1, h2⟩ := I.cell x c e
      rw [ho] at h1
      cases h1
      rw [hd] at h2
      cases h2
  · obtain ⟨e1, e2, e3, e4, e5⟩ := I.pin p hp
    exact ⟨e1, by rw [upd_ne (np p hp)]; exact e2, e3, e4, e5⟩
  · by_cases hb : b = a
    · subst hb
      rw [upd_same] at e
      cases e
      exact ⟨⟨oe, vs, ho, hz, hd⟩, ⟨oe, ho⟩, fun h1 h2 ⟨o, v, q1, q2, q3⟩ k => ⟨o, v, k _ q1, q2, q3⟩⟩
    · rw [upd_ne hb] at e
      exact (I.hok b u e).stay (fun c v hc q => q) (fun c q => kept q) fun c xs q => kept q
end
/-- the wish of the clause: the error is told of behind the suite -/
def wReg (K : PySem.W.Frag) (c : Value) (i : Nat) (ts : Addr → Value → Option Addr → TS) (Wout : WX) (D : Ends) : WX := fun cls d σ H => ∃ b, PySem.W.exmOne K cls c = some b ∧
  (b = true → ∀ a, H a = none → ts a cls d { nx := fun σ' H' => D.nx (σ'.set i none) (upd H' a (ExVo cls d a)), rt := fun _ _ => False, bk := fun _ _ => False, ct := fun _ _ => False } (σ.set i (some (.ref a))) H) ∧ (b = false → Wout cls d σ H)
section
variable {X : Cx} {x n : Str} {c : Value} {i : Nat} {body suite : List Stmt} {b0 : Stmt} {np pos pos2 : Pos} {tb : WX → TS} {ts : Addr → Value → Option Addr → TS} {Wout : WX}
theorem ps_try_reg (hs : X.stack = X.env :: X.outer) (hf : X.env.frame = some X.env.locals) (hex : X.ex = []) (hN : X.N.Nodup) (hi : X.N[i]? = some n) (hln : X.env.kindOf n = some .local) (hc : Names X x c) (tk : Takes X Wout)
    (hb : ∀ (W : WX) (pn : List (Addr × Obj)) (xe : Value → Shared → Prop), Takes (X.tr pn xe) W → PassesOwn (model X.prog X.w) X.A X.env xe → PSs (X.tr pn xe) body (tb W))
    (hsu : ∀ (a : Addr) (oe : Obj) (cls : Value) (d : Option Addr) (pn : List (Addr × Obj)), Zc cls d oe → (∃ vs, oe.data = .fields vs) → PSs (X.suite a ((a, oe) :: pn)) (b0 :: suite) (ts a cls d)) :
    PS X (.Try body [.ExceptHandler (some (.Name x np)) (some n) (b0 :: suite) pos2] [] [] pos) (fun D σ H => tb (wReg X.K c i ts Wout D) D σ H) := by
  refine ⟨fun pins st σ H D I wish => ?_⟩
  have good := I.ok
  have frA : X.A.frames = some (X.env :: X.outer) := by rw [good.frames, hs]
  refine wpAny_Try_except (wpAny_mono ((hb (wReg X.K c i ts Wout D) (X.pn ++ pins) (fun u s1 => wpAny (model X.prog X.w) X.A (noteFrame u X.env) (fun _ s2 => wpAny (model X.prog X.w) X.A (setFlight u none) (fun _ s3 =>
    wpAny (model X.prog X.w) X.A (handleBy u X.env [.ExceptHandler (some (.Name x np)) (some n) (b0 :: suite) pos2]) (SP X pins D) X.xe s3) X.xe s2) X.xe s1) (fun u s' air => ?_) PassesOwn.looking).run [] st σ H D (I.toTry _) wish) (fun fl s1 ends => ?_) (fun u s1 z => z))
  · obtain ⟨a, B, sI, pins', σ1, H1, cls, d, rfl, J0, inB, up, sky, na, os, ag, b, hb1, yes, no⟩ := air
    have J : Inv X pins σ1 H1 sI := J0.ofTry good
    have skyE : Sky B (X.env :: X.outer) a (Zc cls d) X.env.locals s'.heap := by rw [← hs]; exact sky
    show wpAny (model X.prog X.w) X.A (noteFrame (.ref a) X.env) _ _ _
    refine Sky.land Zc.steady frA hf skyE fun h3 fl3 up3 => ?_
    obtain ⟨oe3, vs3, at3, z3, d3⟩ := fl3.there
    have away : ∀ {h : Heap} {o : Obj} {vs : Array Value}, h.FunFrames B (X.env :: X.outer) → h.get? a = some o → o.data = .fields vs → a ∉ frs (X.env :: X.outer) := fun {h o vs} ff q1 q2 m => by
      obtain ⟨_, o2, q3, q4⟩ := ff.mem m
      rw [q1] at q3
      cases q3
      exact q4 _ q2
    have nfr := away fl3.2.2.1 at3 d3
    have nL : a ≠ X.env.locals := fun z => nfr (List.mem_filterMap.mpr ⟨X.env, List.mem_cons_self, by rw [hf, z]⟩)
    have nF : a ∉ X.fs := fun m => by
      obtain ⟨q, hq, e⟩ := List.mem_filterMap.mp m
      exact nfr (List.mem_filterMap.mpr ⟨q, List.mem_cons_of_mem _ hq, e⟩)
    have noI : ∀ o, sI.heap.get? a ≠ some o := fun o q => by
      have z := inB a o q (by rw [hs]; exact nfr)
      rw [fl3.2.1] at z
      cases z
    have n0 : X.s_0.heap.get? a = none := by
      cases q : X.s_0.heap.get? a with
      | none => rfl
      | some o =>
        obtain ⟨o2, q2⟩ := J.base.there a o q (by rw [hex]; exact fun z => nomatch z)
        exact absurd q2 (noI o2)
    have npin : ∀ p ∈ X.pn ++ pins, p.1 ≠ a := fun p hp z => by
      obtain ⟨q, _⟩ := J.pin p hp
      rw [z] at q
      exact noI _ q
    have L3 : Inv X pins σ1 H1 { s' with heap := h3 } := J.landed inB fl3.1 (up.trans up3) os ag
    have S3 := L3.suite at3 d3 na nL nF
    refine wpAny_handleBy_cons (codeAny_handlers_test ?_) (by intro q; cases q)
    have tyA : PySem.W.Looks (model X.prog X.w) h3 (typeOf (.ref a)) cls := fun A Q E s k q => wpAny_typeOf_ref (k _ _ at3) (by rw [z3.1]; exact q)
    have fits := PySem.W.exm_one (M := model X.prog X.w) (L3.kIn) tyA hb1
    have named : ∀ {Q : Value → Shared → Prop} {E : Value → Shared → Prop}, Q c { s' with heap := h3 } → wpAny (model X.prog X.w) (X.A.mark (some (.ref a))) (eval (.Name x np) X.env) Q E { s' with heap := h3 } := fun {Q E} q => by
      obtain ⟨g1, g2, g3 | ⟨g3, g4, g5⟩⟩ := hc
      · exact ld_glob (X := X.suite a ((a, oe3) :: (X.pn ++ pins))) S3 g1 g3 q g2
      · exact ld_blt (X := X.suite a ((a, oe3) :: (X.pn ++ pins))) S3 g1 g3 g4 q g5 g2
    refine named (fits.here ?_)
    cases b with
    | false =>
      show wpAny _ X.A (handleBy (.ref a) X.env []) _ _ _
      refine wpAny_handleBy_nil ?_
      obtain ⟨k1, k2, k3, oe, vs, T, oT, ts2, at4, z4, d4, f1, hr⟩ := id fl3
      have goes : wpAny (model X.prog X.w) X.A (setFlight (.ref a) X.env.frame) (fun _ s4 => wpAny (model X.prog X.w) X.A (throw (.ref a) : Sem Flow) (SP X pins D) X.xe s4) X.xe { s' with heap := h3 } := by
        rw [hf]
        exact HandSPX.setFlight_upZ fl3 fun h4 hh4 up4 => wpAny_throw (tk _ _ ⟨a, B, sI, pins, σ1, H1, cls, d, rfl, J, inB, (up.trans up3).trans up4, .inr (.inr (by rw [hs]; exact hh4)), na, os, ag, no rfl⟩)
      unfold PySem.passOn
      refine wpAny_bind (wpAny_field at4 d4 f1 ?_)
      rw [if_neg (show ¬ ((Value.ref T == Value.none) = true) from by simp)]
      first
        | exact wpAny_bind (wpAny_pure (wpAny_bind goes))
        | exact wpAny_bind goes
    | true =>
      refine codeAny_handlers_suite_as (HandSPX.lands_againZ fl3 fun h4 fl4 up4 => ?_)
      obtain ⟨oe4, vs4, at4, z4, d4⟩ := fl4.there
      have L4 : Inv X pins σ1 H1 { s' with heap := h4 } := J.landed inB fl4.1 ((up.trans up3).trans up4) os ag
      refine store_ok (X := X.suite a ((a, oe4) :: (X.pn ++ pins))) (v := .ref a) (L4.suite at4 d4 na nL nF) hN hi (.inl hln) rfl (fun s5 S5 => ?_) (.inr hln)
      refine wpAny_mono ((hsu a oe4 cls d (X.pn ++ pins) z4 ⟨_, d4⟩).run [] s5 _ H1 _ S5 (yes rfl a na)) (fun fl s6 e6 => ?_) (fun _ _ z => False.elim z)
      cases fl with
      | next =>
        obtain ⟨σ6, H6, S6, q6⟩ := e6
        obtain ⟨p1, p2, _⟩ := S6.pin (a, oe4) (by simp)
        have R6 : Inv X pins σ6 (upd H6 a (ExVo cls d a)) s6 := Inv.reg (S6.unsuite good) p1 z4 d4 p2 nL n0 npin
        exact gone_ok R6 hN hi hln fun s7 J7 => ⟨_, _, J7, q6⟩
      | brk =>
        obtain ⟨_, _, _, q6⟩ := e6
        exact q6.elim
      | cont =>
        obtain ⟨_, _, _, q6⟩ := e6
        exact q6.elim
      | ret u =>
        obtain ⟨_, _, _, _, _, q6⟩ := e6
        exact q6.elim
  · cases fl with
    | next =>
      obtain ⟨σ1, H1, J1, q⟩ := ends
      exact wpAny_execs_nil ⟨σ1, H1, J1.ofTry good, q⟩
    | brk =>
      obtain ⟨σ1, H1, J1, q⟩ := ends
      exact ⟨σ1, H1, J1.ofTry good, q⟩
    | cont =>
      obtain ⟨σ1, H1, J1, q⟩ := ends
      exact ⟨σ1, H1, J1.ofTry good, q⟩
    | ret u =>
      obtain ⟨v, σ1, H1, J1, r, q⟩ := ends
      exact ⟨v, σ1, H1, J1.ofTry good, r, q⟩
end
end Sh
set_option maxRecDepth 100000
set_option maxHeartbeats 4000000
/-! Sh: lambdas made, called. -/
namespace Sh
open PySem PySem.Spec PyProof.Rows L2 LamX

/-- all stays but tables, which stay tables -/
structure ExtL (H H' : Hp) : Prop where
  k : ExtN H H'
  t : ∀ b ps, H b = some (.tbl ps) → ∃ qs, H' b = some (.tbl qs)
section
variable {X : Cx} {pins : List (Addr × Obj)} {σ : L2.St} {H : Hp} {s : Shared}
theorem lam_mk {T : List (Addr × Str)} {c P : Addr} {params : Arguments} {body : Expr} {scope : Scope} {pos : Pos} {E : Value → Shared → Prop} {Q : Value → Shared → Prop} (I : Inv X pins σ H s) (TB : TabB X.base X.mg c P) (code : X.env.code = .ref c)
    (mem : (P, X.env.qual ++ "<lambda>") ∈ T) (uni : ∀ p ∈ T, p.1 = P → p.2 = X.env.qual ++ "<lambda>") (tabs : Tabs T H) (nodef : defaultsOf params X.env = ([], [])) (frees : ∀ y ∈ scope.names, y.2 = .free → ∃ c, X.env.cells.lookup y.1 = some c)
    (wish : ∀ (f c2 : Addr) (pm ctv : Value) (H1 : Hp) (s1 : Shared), Inv X pins σ H1 s1 → ExtL H H1 → Tabs T H1 →
      s1.heap.get? f = some (PySem.W.kla_obj "<lambda>" (X.env.qual ++ "<lambda>") params body scope (cloFrom X.env.cells scope.names []) pm c2 ctv) → H1 f = none → f ∉ frs X.stack → H1 c2 = some (CodeO c2 (X.env.qual ++ "<lambda>")) → s.heap.objs.size ≤ f → Q (.ref f) s1) :
    wpAny (model X.prog X.w) X.A (eval (.Lambda params body scope pos) X.env) Q E s := by
  obtain ⟨ps, atP, tri, among⟩ := tabs _ mem
  have heapP : s.heap.get? P = some { cls := .none, data := .fields ps } := I.hok P _ atP
  have bltP : s.heap.BuiltinsAt X.mg P := TB.bm.keeps I.bk
  have notFr : ∀ f, s.heap.objs.size ≤ f → f ∉ frs X.stack := fun f big m => by
    rcases List.mem_cons.mp (I.stkSub _ m) with z | z
    · have q := I.lt
      rw [← z] at q
      exact absurd (Nat.lt_of_lt_of_le q big) (Nat.lt_irrefl _)
    · exact I.nofs big z
  refine PySem.W.kla_eval nodef ?_
  cases found : codeAmong pos ps.toList with
  | some cv =>
    obtain ⟨c2, rfl, told⟩ := among pos cv found
    refine PySem.W.kla_makeFunctionHit (mg := X.mg) (c := c) (P := P) (ps := ps) (closure_ok frees) I.ok.glob (I.mod.glob.keeps I.bk) code (TB.code.keeps I.bk) heapP tri found bltP fun ctv h2 tk up big => ?_
    refine wish h2.objs.size c2 ((X.mg "__name__").getD .none) ctv H _ (I.kept fun b o e => Heap.get?_push_of_some _ (up b o e)) ⟨ExtN.refl H, fun b qs e => ⟨qs, e⟩⟩ tabs (Heap.get?_push_size _ rfl) (I.hok.fresh big) (notFr _ big) told big
  | none =>
    refine PySem.W.kla_makeFunction (mg := X.mg) (c := c) (P := P) (ps := ps) (closure_ok frees) I.ok.glob (I.mod.glob.keeps I.bk) code (TB.code.keeps I.bk) heapP tri found TB.gP bltP fun c2 ctv h2 tk up big lt rec grown => ?_
    obtain ⟨c9, oc, vs, t, z, at2, d2, v2⟩ := rec
    cases z
    have big2 : s.heap.objs.size ≤ h2.objs.size := Nat.le_trans big (Nat.le_of_lt lt)
    have none2 : H c2 = none := I.hok.fresh big
    have J := inv_table (t' := tk) (more := #[rawInt pos.line, rawInt pos.col, .ref c2]) (h' := h2.push (PySem.W.kla_obj "<lambda>" (X.env.qual ++ "<lambda>") params body scope (cloFrom X.env.cells scope.names []) ((X.mg "__name__").getD .none) c2 ctv)) I atP
      (fun b o hb e => Heap.get?_push_of_some _ (up b o hb e)) (Heap.get?_push_of_some _ grown) big ⟨oc, vs, t, Heap.get?_push_of_some _ at2, d2, v2⟩
    have keepN : ExtN H (upd (upd H P (.tbl (ps ++ #[rawInt pos.line, rawInt pos.col, .ref c2]))) c2 (CodeO c2 (X.env.qual ++ "<lambda>"))) := fun b o e n => by
      have h1 : b ≠ c2 := ne_of_none e none2
      have h2 : b ≠ P := fun z => n ps (Option.some.inj (e.symm.trans (by rw [z]; exact atP)))
      rw [upd_ne h1, upd_ne h2]
      exact e
    have keepT : ∀ b qs, H b = some (.tbl qs) → ∃ rs, upd (upd H P (.tbl (ps ++ #[rawInt pos.line, rawInt pos.col, .ref c2]))) c2 (CodeO c2 (X.env.qual ++ "<lambda>")) b = some (.tbl rs) := fun b qs e => by
      rw [upd_ne (ne_of_none e none2)]
      by_cases z : b = P
      · rw [z]
        exact ⟨_, upd_same⟩
      · rw [upd_ne z]
        exact ⟨qs, e⟩
    have rows : (ps ++ #[rawInt pos.line, rawInt pos.col, .ref c2]).toList = ps.toList ++ [rawInt pos.line, rawInt pos.col, .ref c2] := by simp
    refine wish h2.objs.size c2 ((X.mg "__name__").getD .none) ctv _ _ J ⟨keepN, keepT⟩ (fun p hp => ?_) (Heap.get?_push_size _ rfl) ?_ (notFr _ big2) upd_same big2
    · by_cases z : p.1 = P
      · rw [uni p hp z, z]
        refine ⟨_, by rw [upd_ne (ne_of_none atP none2), upd_same], by rw [rows]; exact PySem.TriplesOk_snoc _ _ _ _ tri, fun pos2 cv q => ?_⟩
        rw [rows] at q
        rcases among_app _ tri q with q | q
        · obtain ⟨c3, e1, e2⟩ := among pos2 cv q
          exact ⟨c3, e1, keepN _ _ e2 codeO_ne⟩
        · exact ⟨c2, q, upd_same⟩
      · obtain ⟨qs, a1, a2, a3⟩ := tabs p hp
        refine ⟨qs, by rw [upd_ne (ne_of_none a1 none2), upd_ne z]; exact a1, a2, fun pos2 cv q => ?_⟩
        obtain ⟨c3, e1, e2⟩ := a3 pos2 cv q
        exact ⟨c3, e1, keepN _ _ e2 codeO_ne⟩
    · rw [upd_ne (Nat.ne_of_gt lt), upd_ne (Nat.ne_of_gt (Nat.lt_of_lt_of_le (Heap.lt_size heapP) big2))]
      exact I.hok.fresh big2
/-- g(), in the def that got the lambda -/
theorem pe_acts {CXg : CXT} {Eg : XK} {Ng : List Str} {qg : Str} {sg : Scope} {g f c2 : Addr} {cdg pm ctv : Value} {params : Arguments} {body : Expr} {scope : Scope} {k i : Nat} {a : Str} {pn : List (Addr × Obj)} {xe : Value → Shared → Prop} {W : WX} {t : XK → TE} {p1 p2 : Pos}
    (I : Inv X pins σ H s) (L : LamS X.env.scope scope) (atf : s.heap.get? f = some (PySem.W.kla_obj "<lambda>" (X.env.qual ++ "<lambda>") params body scope (cloFrom X.env.cells scope.names []) pm c2 ctv)) (nof : H f = none) (ofr : f ∉ frs X.stack)
    (bind : bindArgs (PySem.W.kla_fn "<lambda>" (X.env.qual ++ "<lambda>") params body scope (cloFrom X.env.cells scope.names []) pm (.ref c2) ctv) ⟨[], []⟩ = pure [])
    (tk : Takes ((cxOf CXg X.prog X.w X.K X.mg X.base Ng qg sg g cdg X.A X.stack s H Eg).tr pn xe) W) (hr : Room (k + 1) (X.A.deeper (envOfC qg sg s.heap.objs.size g cdg))) (gd : X.A.guards = some [])
    (reads : ∀ (E : XK) (A : Around) (outer : List PySem.Env) (s2 : Shared) (H2 : Hp), Room k (A.deeper (lamEnv X scope s2.heap.objs.size f c2)) → A.guards = some [] → PE (lamCx X A outer s2 H2 E scope f c2) body (t E))
    (hN : Ng[i]? = some a) (hv : Vis sg a) (hd : (a == ("__debug__" : Str)) = false) (hcd : (a == ("__classdict__" : Str)) = false) :
    PE ((cxOf CXg X.prog X.w X.K X.mg X.base Ng qg sg g cdg X.A X.stack s H Eg).tr pn xe) (.Call (.Name a p1) [] [] p2)
      (fun σZ HZ Q => σZ[i]? = some (some (.ref f)) ∧ HZ c2 = some (CodeO c2 (X.env.qual ++ "<lambda>")) ∧ t (fun cls d H2 => W cls d σZ H2) σ HZ Q) := by
  refine ⟨fun pinsZ sZ σZ HZ Q IZ ⟨slot, codeAt, wish⟩ => ?_⟩
  refine wpAny_Call_Name_kw (thn ((pe_var (pos := p1) (i := i) hN hv hd hcd).run pinsZ sZ σZ HZ (fun v H1 => v = .ref f ∧ H1 = HZ) IZ ⟨.ref f, slot, rfl, rfl⟩) fun u s1 ⟨v, H1, I1, r1, ev, eH⟩ => ?_)
  subst ev
  rw [eH] at I1
  obtain rfl : u = Value.ref f := r1
  have there := I1.base.keep f _ atf nof ofr (fun z => nomatch (show f ∈ ([] : List Addr) from z))
  have un : Un (frs X.stack) [] H HZ s.heap s1.heap := I1.base
  obtain ⟨⟨oc, vs, tt, c1, c3, c4⟩, _, _⟩ := I1.hok c2 _ codeAt
  refine PySem.W.callWith_F0 ⟨_, _, _, _, there⟩ ?_
  have runs : codeAny (model X.prog X.w) (X.A.deeper (envOfC qg sg s.heap.objs.size g cdg)) (.call (.ref f) ⟨[], []⟩) (CR (L2.CX X.prog X.w) (envOfC qg sg s.heap.objs.size g cdg :: X.stack) X.prog X.w HZ s1 Q (fun cls d H2 => W cls d σZ H2)) s1 := by
    refine PySem.W.kla_callFunE hr.depth there rfl L.co L.gen rfl ⟨c2, oc, vs, tt, rfl, c1, c3, c4⟩ ?_
    rw [bind]
    refine wpAny_pure (wpAny_newFunctionEnv (fun y hy => (L.own y hy).2) (fun y hy => absurd hy (by simp)) (fun h1 ns1 sb1 => ⟨I1.nolimit.fresh _ sb1, ?_⟩) L.kind)
    have up1 : ∀ b o, s1.heap.get? b = some o → h1.get? b = some o := fun b o e => sb1.extBut b o (Nat.ne_of_lt (Heap.lt_size e)) (Heap.get?_push_of_some _ e)
    show codeAny _ _ (.expr body (lamEnv X scope s1.heap.objs.size f c2)) _ _
    have J : Inv (lamCx X (X.A.deeper (envOfC qg sg s.heap.objs.size g cdg)) (envOfC qg sg s.heap.objs.size g cdg :: X.stack) s1 HZ (fun cls d H2 => W cls d σZ H2) scope f c2) [] σ HZ { s1 with heap := h1, toks := s1.toks + ([] : List (Str × Value)).length } :=
      lam_start2 I L I1.env0 hr.hd un ns1 up1
    refine PySem.W.kla_codeExpr (wpAny_mono ((reads _ _ _ s1 HZ (hr.deeper _) gd).run [] _ _ HZ Q J wish) (fun v s2 hq => ?_) fun u s2 hq => hq)
    obtain ⟨w', H2, J2, rv, q⟩ := hq
    exact ⟨w', H2, J2.os, J2.bare, J2.base, J2.hok, rv, q⟩
  refine wpAny_call (codeAny_mono runs fun z s2 hq => ?_)
  cases z with
  | error u => exact tk u s2 (XE.of_call I1 (fun _ _ _ z => z) hq)
  | ok fl =>
    cases fl with
    | ret u => exact I1.after hq
    | next => exact hq.elim
    | brk => exact hq.elim
    | cont => exact hq.elim
end
end Sh
set_option maxRecDepth 100000
set_option maxHeartbeats 4000000
/-! Sh: heard(lambda: e). -/
namespace Sh
open PySem PySem.Spec PyProof.Rows L2 LamX

def NH : List Str := ["call", "caught", "gave", "error"]
def heardBody (q : Nat → Pos) (n : Nat → Nat) : List Stmt := [
  .Assign [.Tuple [.Name "caught" (q 0), .Name "gave" (q 1)] (n 0) (q 2)] (.Tuple [.Constant .none (n 1) (q 3), .Constant .none (n 2) (q 4)] (n 3) (q 5)) (q 6),
  .Try [.Assign [.Name "gave" (q 7)] (.Call (.Name "call" (q 8)) [] [] (q 9)) (q 10)] [.ExceptHandler (some (.Name "StepError" (q 11))) (some "error") [.Assign [.Name "caught" (q 12)] (.Name "error" (q 13)) (q 14)] (q 15)] [] [] (q 16),
  .Return (some (.Tuple [.Name "caught" (q 17), .Name "gave" (q 18)] (n 4) (q 19))) (q 20)]
structure HeardG (K : PySem.W.Frag) (mg : Str → Option Value) (x : Str) (subs : List Str) : Prop where
  ex : ∃ (g : Addr) (fd : FuncData) (ar : Arg) (sc : Scope) (q : Nat → Pos) (n : Nat → Nat) (CS : Addr), mg x = some (.ref g) ∧ FunD K x x ⟨[], [ar], none, [], [], none, []⟩ (heardBody q n) sc [] [] g fd ∧ ar.arg = "call" ∧ FnScope NH ["call"] sc ∧
    sc.names.lookup ("call" : Str) = some .local ∧ sc.names.lookup ("caught" : Str) = some .local ∧ sc.names.lookup ("gave" : Str) = some .local ∧ sc.names.lookup ("error" : Str) = some .local ∧ sc.names.lookup ("StepError" : Str) = some .globalImplicit ∧
    mg "StepError" = some (.ref CS) ∧ ∀ y ∈ subs, ∃ Y, mg y = some (.ref Y) ∧ PySem.W.exmOne K (.ref Y) (.ref CS) = some true
def pr2 (d e : D) (μ : Store) : Res D := Res.ofO (opTup [d, e] μ)
def eHeard (subs : List Str) (a : Ev D) : Ev D := fun ρ μ => match a ρ μ with
  | .ok d μ1 => pr2 (.p .non) d μ1
  | .exc c d μ1 => match hasS c subs with
    | true => pr2 (.exc c d) (.p .non) μ1
    | false => .bad
  | .bad => .bad
theorem noswap {env : PySem.Env} {q : Nat → Pos} {n : Nat → Nat} : swappedStores [.Tuple [.Name "caught" (q 0), .Name "gave" (q 1)] (n 0) (q 2)] (.Tuple [.Constant .none (n 1) (q 3), .Constant .none (n 2) (q 4)] (n 3) (q 5)) env = pure none := by
  unfold swappedStores
  simp only [pure_bind]
  split
  · rfl
  · split
    · rfl
    · split
      · rfl
      · rfl
theorem opTup2 {G : Gx} {α : List Addr} {H : Hp} {μ : Store} {d e : D} {v w : V} {W : WX} {σ : L2.St} {Q : VK} (st : StOk G α H μ) (r1 : Rep G α H d v) (r2 : Rep G α H e w) (g : Got G W σ (Rep G) α H (pr2 d e μ) Q) : ∀ p, H p = none → Q (.ref p) (upd H p (.tup [v, w])) := by
  have g2 : GotO G (Rep G) α H (opTup [d, e] μ) Q := Got.toO g
  unfold opTup at g2
  rw [if_pos (show ([d, e] : List D).length ≤ szMax by show 2 ≤ 16777216; omega)] at g2
  have rr : Reps G α H [d, e] [v, w] := .cons r1 (.cons r2 .nil)
  split at g2
  · rename_i ps hp
    exact g2.tup st (rr.pures hp)
  · exact g2.mixt st rr
section
variable {X : Cx} {W : WX}
theorem pe_heard {ev : Ev D} {x : Str} {subs : List Str} {c P : Addr} {k : Nat} {params : Arguments} {body : Expr} {scope : Scope} {p lpos pos : Pos} (F : HeardG X.K X.mg x subs) (hg : Gl X x) (hdb : (x == ("__debug__" : Str)) = false) (hr : Room (k + 2) X.A) (gd : X.A.guards = some [])
    (TB : TabB X.base X.mg c P) (code : X.env.code = .ref c) (mem : (P, X.env.qual ++ "<lambda>") ∈ tabsK X.K) (uni : ∀ p ∈ tabsK X.K, p.1 = P → p.2 = X.env.qual ++ "<lambda>") (L : LamS X.env.scope scope) (nodef : defaultsOf params X.env = ([], []))
    (bind : ∀ (q : Str) (cl : List (Str × Addr)) (pm cv ctv : Value), bindArgs (PySem.W.kla_fn "<lambda>" q params body scope cl pm cv ctv) ⟨[], []⟩ = pure [])
    (reads : ∀ (E : XK) (A : Around) (outer : List PySem.Env) (s2 : Shared) (H2 : Hp) (f c2 : Addr), Room k (A.deeper (lamEnv X scope s2.heap.objs.size f c2)) → A.guards = some [] → PE (lamCx X A outer s2 H2 E scope f c2) body (tE (gx X) (fun cls d _ H' => E cls d H') ev)) :
    PE X (.Call (.Name x p) [.Lambda params body scope lpos] [] pos) (tE (gx X) W (eHeard subs ev)) := by
  refine ⟨fun pins s σ H Q I ⟨ρ, α, μ, en, st, wish⟩ => ?_⟩
  obtain ⟨g, fd, ar, sc, q, n, CS, hm, FD, ea, S, l1, l2, l3, l4, l5, hCS, hsub⟩ := F.ex
  obtain ⟨oc, od, dV, kV, doc, pm, an, cdv, ct, osl, e1, e2, e3, e4, e5⟩ := FD.ex
  rw [e1] at e2
  have dv : dV = .none := by
    rcases e4 with ⟨_, z⟩ | ⟨z, _⟩
    · exact z
    · exact absurd rfl z
  refine wpAny_Call_Name_kw (ld_glob I hg hm ?_ hdb)
  refine PySem.W.callWith_K (h₀ := X.base) I.ok.mod.kin FD.kp ?_ (by rfl) (by rfl)
  show wpAny _ _ (spliced ((false, eval (.Lambda params body scope lpos) X.env) :: backTo pos (starEach [] X.env))) _ _ s
  refine Calls.spliced_cons (lam_mk I TB code mem uni st.tabs nodef (L.has I.ok) fun f c2 pm2 ctv H1 s1 I1 xl T1 atf nof ofr told _ => ?_)
  refine Calls.spliced_nil ⟨I1.kIn, ?_⟩
  have lamN : ∀ ps, CodeO c2 (X.env.qual ++ "<lambda>") ≠ .tbl ps := codeO_ne
  -- what stands still stands
  have x1 : Ext α H α H1 := by
    refine ⟨⟨List.prefix_refl _, fun b o _ e t => xl.k b o e t, fun b ps _ e => xl.t b ps e, fun _ h n => absurd h n, fun b o vs e => xl.k b _ e fun ps z => by cases z⟩, fun b o u e => xl.k b _ e fun ps z => by cases z⟩
  have st1 : StOk (gx X) α H1 μ := ⟨st.len, st.nd, T1, fun m cl a h1 h2 => by
    have cel := st.cel m cl a h1 h2
    obtain ⟨o, e, kd⟩ := cel.kind
    have nt : notTbl o := by
      rintro ps rfl
      cases kd
    refine cel.mono (fun b vs z => ?_) (fun _ _ z => z) (fun b o e _ t => xl.k b o e t) (fun b o vs e => xl.k b _ e fun ps z => by cases z) ?_
    · rcases z with (z | ⟨o, z⟩) | z
      · exact .inl (.inl (xl.k b _ z fun ps y => by cases y))
      · exact .inl (.inr ⟨o, xl.k b _ z fun ps y => by cases y⟩)
      · exact .inr z
    · rw [e]
      exact xl.k a o e nt⟩
  have en1 : EnvOk (gx X) α H1 ρ σ := en.ext st x1
  have g1 : Got (gx X) W σ (Rep (gx X)) α H1 (eHeard subs ev ρ μ) Q := Got.ext x1 wish
  have runs : codeAny (model X.prog X.w) X.A (.call (.ref g) ⟨[.ref f], []⟩) (CR C8.CX0 X.stack X.prog X.w H1 s1 Q C8.E0) s1 := by
    have hb : BindsTo s1 (PySem.W.fnOf x x ⟨[], [ar], none, [], [], none, []⟩ (heardBody q n) sc dV kV doc pm an cdv ct) ⟨[.ref f], []⟩ ((["call"] : List Str).zip [Value.ref f]) := by
      refine BindsTo.of_eq ?_
      obtain ⟨y1, y2, y3⟩ := ar
      dsimp only at ea
      subst ea
      subst dv
      rfl
    refine run_ofS (N := NH) (ps := ["call"]) (us := [.ref f]) (vs := [.ref f]) e2 e3 S hr I1.env0 hb (.cons rfl .nil) rfl fun room => ?_
    let Z := (cxOf C8.CX0 X.prog X.w X.K X.mg X.base NH x sc g cdv X.A X.stack s1 H1 C8.E0).nox
    have nd : NH.Nodup := by decide
    have rd : ∀ (W' : WX) (pn : List (Addr × Obj)) (xe : Value → Shared → Prop) , Takes (Z.tr pn xe) W' → PE (Z.tr pn xe) (.Call (.Name "call" (q 8)) [] [] (q 9))
        (fun σZ HZ Q' => σZ[0]? = some (some (.ref f)) ∧ HZ c2 = some (CodeO c2 (X.env.qual ++ "<lambda>")) ∧ tE (gx X) (fun cls d _ H2 => W' cls d σZ H2) ev σ HZ Q') := fun W' pn xe tk =>
      pe_acts (CXg := C8.CX0) (Eg := C8.E0) (Ng := NH) (t := fun E => tE (gx X) (fun cls d _ H2 => E cls d H2) ev) (i := 0) I1 L atf nof ofr (bind _ _ _ _ _) tk room gd (fun E A outer s2 H2 r2 g2 => reads E A outer s2 H2 f c2 r2 g2) rfl (.inl l1) (by decide) (by decide)
    have hgl : Gl Z ("StepError" : Str) := l5
    refine ⟨_, PSs.nox (pss_cons (ps_asg (pe_tup (pa_cons pe_non (pa_cons pe_non pa_nil))) (pg_tup rfl (pgs_cons (pg_name (i := 1) nd rfl (.inl l2)) (pgs_cons (pg_name (i := 2) nd rfl (.inl l3)) pgs_nil))) rfl noswap)
      (pss_cons (ps_try_reg (i := 3) (c := .ref CS) (ts := fun a cls d => tAsg (tVar 3) (gName 1)) (Wout := fun _ _ _ _ => False) (tb := fun W' => tAsg (fun σZ HZ Q' => σZ[0]? = some (some (.ref f)) ∧ HZ c2 = some (CodeO c2 (X.env.qual ++ "<lambda>")) ∧ tE (gx X) (fun cls d _ H2 => W' cls d σZ H2) ev σ HZ Q') (gName 2))
          rfl rfl rfl nd rfl l4 ⟨hgl, by decide, .inl hCS⟩ LamX.takes0 (fun W' pn xe tk _ => pss_one (ps_set (i := 2) nd rfl (.inl l3) (rd W' pn xe tk))) (fun a oe cls d pn _ _ => pss_one (ps_set (i := 1) nd rfl (.inl l2) (pe_var (i := 3) rfl (.inl l4)))))
        (pss_one (ps_ret (pe_tup (pa_cons (pe_var (i := 1) rfl (.inl l2)) (pa_cons (pe_var (i := 2) rfl (.inl l3)) pa_nil))))))), ?_⟩
    have two : ([V.non, V.non] : List V).length ≤ sizeLine := by show 2 ≤ sizeLine; rw [sizeLine_eq]; omega
    refine ⟨two, fun p0 np0 => ⟨p0, _, rfl, .inl (.inl upd_same), rfl, .non, [.non], rfl, .non, [], rfl, rfl, ?_⟩⟩
    have x2 : Ext α H1 α (upd H1 p0 (.tup [.non, .non])) := Ext.fresh np0
    have st2 : StOk (gx X) α (upd H1 p0 (.tup [.non, .non])) μ := st1.fresh np0
    have g2 := Got.ext x2 g1
    refine ⟨rfl, by rw [upd_ne (ne_of_none told np0)]; exact told, ρ, α, μ, en1.ext st1 x2, st2, ?_⟩
    have tup2 : ∀ (v w : V) (H3 : Hp), (∀ p1, H3 p1 = none → Q (.ref p1) (upd H3 p1 (.tup [v, w]))) → ∀ σ3 : L2.St, σ3[1]? = some (some v) → σ3[2]? = some (some w) → tTup (tCons (tVar 1) (tCons (tVar 2) tNil)) σ3 H3 Q := fun v w H3 h σ3 h1 h2 => by
      refine ⟨v, h1, w, h2, ?_, h⟩
      show 2 ≤ sizeLine
      rw [sizeLine_eq]
      omega
    cases hv : ev ρ μ with
    | bad =>
      unfold eHeard at g2
      rw [hv] at g2
      exact g2.elim
    | ok d μ1 =>
      unfold eHeard at g2
      rw [hv] at g2
      intro v α3 H3 y st3 r3
      exact tup2 .non v H3 (opTup2 st3 (.p .non) r3 (Got.ext y g2)) _ rfl rfl
    | exc c0 d μ1 =>
      unfold eHeard at g2
      rw [hv] at g2
      dsimp only at g2
      split at g2
      · rename_i hc
        intro cls dx v α3 H3 y st3 q1 q2 q3
        obtain ⟨Y, hY, hex⟩ := hsub c0 (hasS_mem hc)
        have ec : cls = .ref Y := by
          have z : X.mg c0 = some cls := q1
          rw [hY] at z
          exact (Option.some.inj z).symm
        refine ⟨true, by rw [ec]; exact hex, fun _ a na => ?_, fun z => nomatch z⟩
        refine ⟨.ref a, rfl, ?_⟩
        have y4 : Ext α3 H3 α3 (upd H3 a (ExV cls dx a)) := Ext.fresh na
        have r4 : Rep (gx X) α3 (upd H3 a (ExV cls dx a)) (.exc c0 d) (.ref a) := .exc q1 upd_same (by rw [upd_ne (ne_of_none q2 na)]; exact q2) (st3.rep y4 q3)
        exact tup2 (.ref a) .non _ (opTup2 (st3.fresh na) r4 (.p .non) (Got.ext y4 (Got.ext y g2))) _ rfl rfl
      · exact g2.elim
  refine wpAny_call (codeAny_mono runs fun z s2 hq => ?_)
  cases z with
  | error u => exact (show False from hq).elim
  | ok fl =>
    cases fl with
    | ret u => exact I1.after hq
    | next => exact hq.elim
    | brk => exact hq.elim
    | cont => exact hq.elim
end
end Sh
set_option maxRecDepth 100000
set_option maxHeartbeats 4000000
/-! Sh: lambdas kept in a list. -/
namespace Sh
open PySem PySem.Spec PyProof.Rows L2 LamX

def FnO (a : Addr) (o : Obj) : HO := .ext fun h => h.get? a = some o
section
variable {X : Cx} {pins : List (Addr × Obj)} {σ : L2.St} {H : Hp} {s : Shared}
/-- a new object is told of -/
theorem Inv.regO (I : Inv X pins σ H s) {a : Addr} {ob : Obj} (ho : s.heap.get? a = some ob) (hd : ∀ v, ob.data ≠ .cell v) (hdd : ∀ es ep, ob.data ≠ .dict es ep) (na : H a = none) (n0 : X.s_0.heap.get? a = none) (np : ∀ p ∈ X.pn ++ pins, p.1 ≠ a) : Inv X pins σ (upd H a (FnO a ob)) s := by
  have was : ∀ {b : Addr} {u : HO}, H b = some u → upd H a (FnO a ob) b = some u := fun {b u} e => by
    rw [upd_ne (ne_of_none e na)]
    exact e
  have nL : a ≠ X.env.locals := fun z => by
    obtain ⟨m, ⟨o', es, ep, ho', hd', _⟩, _⟩ := I.loc
    rw [← z, ho] at ho'
    cases ho'
    exact hdd _ _ hd'
  have U := I.base
  have un : Un X.fs X.ex X.H_0 (upd H a (FnO a ob)) X.s_0.heap s.heap := by
    refine ⟨U.keep, U.slot, fun b o e n hx => ?_, U.there, fun b xs e => was (U.tups b xs e), fun b o u e => was (U.frzs b o u e), fun b ps e => ?_⟩
    · have hb : b ≠ a := fun z => by
        rw [z, n0] at e
        cases e
      rw [upd_ne hb]
      exact U.free b o e n hx
    · obtain ⟨m, q⟩ := U.tbls b ps e
      exact ⟨m, was q⟩
  refine ⟨I.ok, I.os, I.bare, un, I.loc, I.cell, ?_, fun x c e => ?_, fun p hp => ?_, fun b u e => ?_, I.len⟩
  · rw [upd_ne (Ne.symm nL)]
    exact I.free
  · have hc : c ≠ a := by
      rintro rfl
      obtain ⟨v, oc, h1, h2⟩ := I.cell x c e
      rw [ho] at h1
      cases h1
      exact hd _ h2
    rw [upd_ne hc]
    exact I.freeC x c e
  · obtain ⟨e1, e2, e3, e4, e5⟩ := I.pin p hp
    exact ⟨e1, by rw [upd_ne (np p hp)]; exact e2, e3, e4, e5⟩
  · by_cases hb : b = a
    · subst hb
      rw [upd_same] at e
      cases e
      exact ⟨ho, ⟨ob, ho⟩, fun h1 h2 q k => k _ q⟩
    · rw [upd_ne hb] at e
      exact (I.hok b u e).stay (fun c v hc q => q) (fun c q => was q) fun c xs q => was q
end
abbrev noArgs : Arguments := ⟨[], [], none, [], [], none, []⟩
/-- a lambda of a def: its body, scope, what it does -/
structure LamI where
  body : Expr
  scope : Scope
  ev : Ev D
abbrev lamObj (X : Cx) (l : LamI) (c2 : Addr) (pm ctv : Value) : Obj := PySem.W.kla_obj "<lambda>" (X.env.qual ++ "<lambda>") noArgs l.body l.scope (cloFrom X.env.cells l.scope.names []) pm c2 ctv
def FnAt (X : Cx) (H : Hp) (l : LamI) (f : Addr) : Prop := ∃ (c2 : Addr) (pm ctv : Value), H f = some (FnO f (lamObj X l c2 pm ctv)) ∧ H c2 = some (CodeO c2 (X.env.qual ++ "<lambda>"))
structure LamG (X : Cx) (k : Nat) (l : LamI) : Prop where
  L : LamS X.env.scope l.scope
  reads : ∀ (E : XK) (A : Around) (outer : List PySem.Env) (s2 : Shared) (H2 : Hp) (f c2 : Addr), Room k (A.deeper (lamEnv X l.scope s2.heap.objs.size f c2)) → A.guards = some [] → PE (lamCx X A outer s2 H2 E l.scope f c2) l.body (tE (gx X) (fun cls d _ H' => E cls d H') l.ev)
/-- what lambdas of the def's table ask -/
structure LamC (X : Cx) : Prop where
  code : ∃ c P, X.env.code = .ref c ∧ TabB X.base X.mg c P ∧ (P, X.env.qual ++ "<lambda>") ∈ tabsK X.K ∧ ∀ p ∈ tabsK X.K, p.1 = P → p.2 = X.env.qual ++ "<lambda>"
theorem FnAt.ext {X : Cx} {G : Gx} {α α1 : List Addr} {H H1 : Hp} {μ : Store} {l : LamI} {f : Addr} (h : FnAt X H l f) (st : StOk G α H μ) (x : Ext α H α1 H1) : FnAt X H1 l f := by
  obtain ⟨c2, pm, ctv, h1, h2⟩ := h
  exact ⟨c2, pm, ctv, x.keep _ _ (st.out h1 rfl) h1 (by intro ps z; cases z), x.keep _ _ (st.out h2 rfl) h2 (by intro ps z; cases z)⟩
theorem StOk.lam {G : Gx} {α : List Addr} {H H1 : Hp} {μ : Store} (st : StOk G α H μ) (xl : ExtL H H1) (T1 : Tabs (tabsK G.K) H1) : StOk G α H1 μ := ⟨st.len, st.nd, T1, fun m cl a h1 h2 => by
  have cel := st.cel m cl a h1 h2
  obtain ⟨o, e, kd⟩ := cel.kind
  have nt : notTbl o := by
    rintro ps rfl
    cases kd
  have kp : ∀ {b : Addr} {u : HO}, H b = some u → notTbl u → H1 b = some u := fun {b u} q t => xl.k b u q t
  refine cel.mono (fun b vs z => ?_) (fun _ _ z => z) (fun b o e _ t => kp e t) (fun b o vs e => kp e (by intro ps z; cases z)) ?_
  · rcases z with (z | ⟨o, z⟩) | z
    · exact .inl (.inl (kp z (by intro ps y; cases y)))
    · exact .inl (.inr ⟨o, kp z (by intro ps y; cases y)⟩)
    · exact .inr z
  · rw [e]
    exact kp e nt⟩
theorem StOk.notin {G : Gx} {α : List Addr} {H : Hp} {μ : Store} (st : StOk G α H μ) {p : Addr} (np : H p = none) : p ∉ α := fun z => by
  obtain ⟨o, e, _⟩ := st.kind z
  rw [np] at e
  cases e
theorem Ext.none {G : Gx} {α α1 : List Addr} {H H1 : Hp} {μ : Store} (x : Ext α H α1 H1) (st : StOk G α1 H1 μ) {p : Addr} (np : H1 p = Option.none) : H p = Option.none := by
  cases q : H p with
  | none => rfl
  | some o =>
    by_cases m : p ∈ α
    · exact absurd (x.pre.subset m) (st.notin np)
    · by_cases t : ∃ ps, o = .tbl ps
      · obtain ⟨ps, rfl⟩ := t
        obtain ⟨qs, e⟩ := x.tbls p ps m q
        rw [np] at e
        cases e
      · have e := x.keep p o m q fun ps z => t ⟨ps, z⟩
        rw [np] at e
        cases e
def tLam (X : Cx) (l : LamI) : TE := fun _ H Q => ∃ α μ, StOk (gx X) α H μ ∧ ∀ f H1, Ext α H α H1 → StOk (gx X) α H1 μ → FnAt X H1 l f → Q (.ref f) H1
section
variable {X : Cx}
theorem pe_lam {l : LamI} {pos : Pos} (C : LamC X) (L : LamS X.env.scope l.scope) : PE X (.Lambda noArgs l.body l.scope pos) (tLam X l) := by
  refine ⟨fun pins s σ H Q I ⟨α, μ, st, wish⟩ => ?_⟩
  obtain ⟨c, P, code, TB, mem, uni⟩ := C.code
  refine lam_mk I TB code mem uni st.tabs rfl (L.has I.ok) fun f c2 pm ctv H1 s1 I1 xl T1 atf nof ofr told big => ?_
  have x1 : Ext α H α H1 := ⟨⟨List.prefix_refl _, fun b o _ e t => xl.k b o e t, fun b ps _ e => xl.t b ps e, fun _ h n => absurd h n, fun b o vs e => xl.k b _ e fun ps z => by cases z⟩, fun b o u e => xl.k b _ e fun ps z => by cases z⟩
  have st1 : StOk (gx X) α H1 μ := st.lam xl T1
  have n0 : X.s_0.heap.get? f = none := by
    cases q : X.s_0.heap.get? f with
    | none => rfl
    | some o => exact absurd (Heap.lt_size q) (Nat.not_lt.mpr (Nat.le_trans I.sz big))
  have np : ∀ p ∈ X.pn ++ pins, p.1 ≠ f := fun p hp z => by
    have q := Heap.lt_size (I.pin p hp).1
    rw [z] at q
    exact absurd q (Nat.not_lt.mpr big)
  have I2 := Inv.regO I1 atf (fun v z => by cases z) (fun es ep z => by cases z) nof n0 np
  refine ⟨.ref f, _, I2, rfl, wish f _ (x1.trans (Ext.fresh nof)) (st1.fresh nof) ⟨c2, pm, ctv, upd_same, ?_⟩⟩
  rw [upd_ne (ne_of_none told nof)]
  exact told
end
/-! ### the list of lambdas -/
/-- the list at L holds the lambdas -/
structure LkAt (X : Cx) (α : List Addr) (H : Hp) (ls : List LamI) (fs : List Addr) (L : Addr) : Prop where
  side : Aside α H L (.lst (fs.map V.ref))
  fns : Paired (FnAt X H) ls fs
theorem LkAt.ext {X : Cx} {α α1 : List Addr} {H H1 : Hp} {μ : Store} {ls : List LamI} {fs : List Addr} {L : Addr} (h : LkAt X α H ls fs L) (st : StOk (gx X) α H μ) (x : Ext α H α1 H1) : LkAt X α1 H1 ls fs L :=
  ⟨h.side.ext x no_tbl, Paired.mapP h.fns fun _ _ q => q.ext st x⟩
def tLk1 (X : Cx) (i : Nat) (l : LamI) : TS := fun Z σ H => ∃ ρ α μ, EnvOk (gx X) α H ρ σ ∧ StOk (gx X) α H μ ∧ i < ρ.length ∧ ∀ σ' H' fs L, Ext α H α H' → EnvOk (gx X) α H' (Sh.put none ρ i) σ' → StOk (gx X) α H' μ → σ'[i]? = some (some (.ref L)) → H L = none → LkAt X α H' [l] fs L → Z.nx σ' H'
def tLk2 (X : Cx) (i : Nat) (ls : List LamI) (l : LamI) : TS := fun Z σ H => ∃ ρ α μ fs L, EnvOk (gx X) α H ρ σ ∧ StOk (gx X) α H μ ∧ σ[i]? = some (some (.ref L)) ∧ LkAt X α H ls fs L ∧ ls.length < szMax ∧ ∀ H' fs', (∀ α0 H0, Ext α0 H0 α H → H0 L = none → Ext α0 H0 α H') → EnvOk (gx X) α H' ρ σ → StOk (gx X) α H' μ → LkAt X α H' (ls ++ [l]) fs' L → Z.nx σ H'
theorem EnvOk.forget {G : Gx} {α : List Addr} {H : Hp} {ρ : Env} {σ : L2.St} (e : EnvOk G α H ρ σ) (i : Nat) (v : V) : EnvOk G α H (Sh.put none ρ i) (σ.set i (some v)) := by
  try rw [put_eq]
  refine ⟨by simpa using e.len, fun j d q => ?_⟩
  by_cases hj : i = j
  · subst hj
    rw [List.getElem?_set] at q
    split at q
    · split at q <;> cases q
    · exact absurd rfl ‹_›
  · rw [List.getElem?_set_ne hj] at q
    obtain ⟨w, h1, h2⟩ := e.val j d q
    exact ⟨w, by rw [List.getElem?_set_ne hj]; exact h1, h2⟩
section
variable {X : Cx} {i : Nat} {x : Str} {l : LamI} {p1 p2 p3 p4 p5 : Pos}
theorem ps_lk1 (hN : X.N.Nodup) (hi : X.N[i]? = some x) (hx : Loc X.env.scope x) (hf : X.fn x = true ∨ X.env.scope.names.lookup x = some .local) (C : LamC X) (L : LamS X.env.scope l.scope) :
    PS X (.Assign [.Name x p1] (.List [.Lambda noArgs l.body l.scope p2] p3) p4) (tLk1 X i l) :=
  (ps_set (hf := hf) hN hi hx (pe_lst (pa_cons (pe_lam C L) pa_nil))).weak fun Z σ H ⟨ρ, α, μ, e, st, hlen, wish⟩ => by
    refine ⟨α, μ, st, fun f H1 x1 st1 at1 => ⟨?_, fun p np => ?_⟩⟩
    · show 1 ≤ sizeLine
      rw [sizeLine_eq]
      omega
    · have x2 : Ext α H1 α (upd H1 p (.lst [.ref f])) := Ext.fresh np
      refine wish _ _ [f] p (x1.trans x2) ((e.ext st (x1.trans x2)).forget i _) (st1.fresh np) ?_ ?_ ⟨⟨st1.notin np, upd_same, rfl, no_frz⟩, .cons (at1.ext st1 x2) .nil⟩
      have hl : i < σ.length := by
        rw [← e.len]
        exact hlen
      · rw [List.getElem?_set_self hl]
      · exact x1.none st1 np
theorem Paired.snoc {β γ : Type} {F : β → γ → Prop} : ∀ {l : List β} {l' : List γ} {b : β} {c : γ}, Paired F l l' → F b c → Paired F (l ++ [b]) (l' ++ [c])
  | _, _, _, _, .nil, h => .cons h .nil
  | _, _, _, _, .cons r t, h => .cons r (Paired.snoc t h)
theorem ps_lk2 {ls : List LamI} (hi : X.N[i]? = some x) (hv : Vis X.env.scope x) (hd : (x == ("__debug__" : Str)) = false) (hcd : (x == ("__classdict__" : Str)) = false) (C : LamC X) (L : LamS X.env.scope l.scope) (hline : (p2.endLine == p4.line) = true) (hbase : attributeBase (.Name x p1) "append" X.env (eval (.Name x p1) X.env) = eval (.Name x p1) X.env) :
    PS X (.Expr (.Call (.Attribute (.Name x p1) "append" p2) [.Lambda noArgs l.body l.scope p3] [] p4) p5) (tLk2 X i ls l) :=
  (ps_expr (pe_bm (X := X) PySem.F.plainAttrs_list PySem.F.slot_list_append PySem.F.type_list_append mt_append (pe_var (i := i) hi hv hd hcd) (pa_cons (pe_lam C L) pa_nil) hbase rfl hline)).weak fun Z σ H ⟨ρ, α, μ, fs, L, e, st, at_, lk, hz, wish⟩ => by
    refine ⟨_, at_, .inl ⟨rfl, _, .inl (.inl lk.side.at_)⟩, α, μ, st, fun f H1 x1 st1 at1 => ?_⟩
    have lk1 := lk.ext st x1
    refine ⟨L, _, .ref f, rfl, rfl, lk1.side.at_, ?_, ?_⟩
    · rw [List.length_map, Paired.len lk.fns, sizeLine_eq]
      exact hz
    · have sd := lk1.side
      have e1 : fs.map V.ref ++ [V.ref f] = (fs ++ [f]).map V.ref := by simp
      rw [e1]
      have mv : ∀ {m : LamI} {g : Addr}, FnAt X H1 m g → FnAt X (upd H1 L (.lst ((fs ++ [f]).map V.ref))) m g := fun {m g} ⟨c2, pm, ctv, q1, q2⟩ => ⟨c2, pm, ctv, by rw [upd_ne (sd.ne q1 rfl)]; exact q1, by rw [upd_ne (sd.ne q2 rfl)]; exact q2⟩
      exact wish _ (fs ++ [f]) (fun α0 H0 x0 n0 => (x0.trans x1).aside n0 sd.out) (sd.env (e.ext st x1)) (sd.st st1) ⟨sd.set rfl no_frz, Paired.snoc (Paired.mapP lk1.fns fun _ _ q => mv q) (mv at1)⟩
end
/-! ### heard(look) in a comprehension over the list -/
section
variable {X : Cx} {pins : List (Addr × Obj)} {σ : L2.St} {H : Hp} {s : Shared}
/-- g(), in the def that got a lambda that is told of -/
theorem pe_actsV {CXg : CXT} {Eg : XK} {Ng : List Str} {qg : Str} {sg : Scope} {g f : Addr} {cdg : Value} {l : LamI} {k i : Nat} {a : Str} {pn : List (Addr × Obj)} {xe : Value → Shared → Prop} {W : WX} {p1 p2 : Pos}
    (I : Inv X pins σ H s) (LG : LamG X k l) (tk : Takes ((cxOf CXg X.prog X.w X.K X.mg X.base Ng qg sg g cdg X.A X.stack s H Eg).tr pn xe) W) (hr : Room (k + 1) (X.A.deeper (envOfC qg sg s.heap.objs.size g cdg))) (gd : X.A.guards = some [])
    (hN : Ng[i]? = some a) (hv : Vis sg a) (hd : (a == ("__debug__" : Str)) = false) (hcd : (a == ("__classdict__" : Str)) = false) :
    PE ((cxOf CXg X.prog X.w X.K X.mg X.base Ng qg sg g cdg X.A X.stack s H Eg).tr pn xe) (.Call (.Name a p1) [] [] p2)
      (fun σZ HZ Q => σZ[i]? = some (some (.ref f)) ∧ FnAt X HZ l f ∧ tE (gx X) (fun cls d _ H2 => W cls d σZ H2) l.ev σ HZ Q) := by
  refine ⟨fun pinsZ sZ σZ HZ Q IZ ⟨slot, ⟨c2, pm, ctv, atF, codeAt⟩, wish⟩ => ?_⟩
  have L := LG.L
  refine wpAny_Call_Name_kw (thn ((pe_var (pos := p1) (i := i) hN hv hd hcd).run pinsZ sZ σZ HZ (fun v H1 => v = .ref f ∧ H1 = HZ) IZ ⟨.ref f, slot, rfl, rfl⟩) fun u s1 ⟨v, H1, I1, r1, ev, eH⟩ => ?_)
  subst ev
  rw [eH] at I1
  obtain rfl : u = Value.ref f := r1
  have there : s1.heap.get? f = some (lamObj X l c2 pm ctv) := (I1.hok f _ atF).1
  have un : Un (frs X.stack) [] H HZ s.heap s1.heap := I1.base
  obtain ⟨⟨oc, vs, tt, c1, c3, c4⟩, _, _⟩ := I1.hok c2 _ codeAt
  refine PySem.W.callWith_F0 ⟨_, _, _, _, there⟩ ?_
  have runs : codeAny (model X.prog X.w) (X.A.deeper (envOfC qg sg s.heap.objs.size g cdg)) (.call (.ref f) ⟨[], []⟩) (CR (L2.CX X.prog X.w) (envOfC qg sg s.heap.objs.size g cdg :: X.stack) X.prog X.w HZ s1 Q (fun cls d H2 => W cls d σZ H2)) s1 := by
    refine PySem.W.kla_callFunE hr.depth there rfl L.co L.gen rfl ⟨c2, oc, vs, tt, rfl, c1, c3, c4⟩ ?_
    rw [show bindArgs (PySem.W.kla_fn "<lambda>" (X.env.qual ++ "<lambda>") noArgs l.body l.scope (cloFrom X.env.cells l.scope.names []) pm (.ref c2) ctv) ⟨[], []⟩ = pure [] from rfl]
    refine wpAny_pure (wpAny_newFunctionEnv (fun y hy => (L.own y hy).2) (fun y hy => absurd hy (by simp)) (fun h1 ns1 sb1 => ⟨I1.nolimit.fresh _ sb1, ?_⟩) L.kind)
    have up1 : ∀ b o, s1.heap.get? b = some o → h1.get? b = some o := fun b o e => sb1.extBut b o (Nat.ne_of_lt (Heap.lt_size e)) (Heap.get?_push_of_some _ e)
    show codeAny _ _ (.expr l.body (lamEnv X l.scope s1.heap.objs.size f c2)) _ _
    have J : Inv (lamCx X (X.A.deeper (envOfC qg sg s.heap.objs.size g cdg)) (envOfC qg sg s.heap.objs.size g cdg :: X.stack) s1 HZ (fun cls d H2 => W cls d σZ H2) l.scope f c2) [] σ HZ { s1 with heap := h1, toks := s1.toks + ([] : List (Str × Value)).length } :=
      lam_start2 I L I1.env0 hr.hd un ns1 up1
    refine PySem.W.kla_codeExpr (wpAny_mono ((LG.reads _ _ _ s1 HZ f c2 (hr.deeper _) gd).run [] _ _ HZ Q J wish) (fun v s2 hq => ?_) fun u s2 hq => hq)
    obtain ⟨w', H2, J2, rv, q⟩ := hq
    exact ⟨w', H2, J2.os, J2.bare, J2.base, J2.hok, rv, q⟩
  refine wpAny_call (codeAny_mono runs fun z s2 hq => ?_)
  cases z with
  | error u => exact tk u s2 (XE.of_call I1 (fun _ _ _ z => z) hq)
  | ok fl =>
    cases fl with
    | ret u => exact I1.after hq
    | next => exact hq.elim
    | brk => exact hq.elim
    | cont => exact hq.elim
def tHv (X : Cx) (σ : L2.St) (ls : List LamI) (subs : List Str) (ik : Nat) : TE := fun σb H Q => ∃ l f ρ α μ, l ∈ ls ∧ σb[ik]? = some (some (.ref f)) ∧ FnAt X H l f ∧ EnvOk (gx X) α H ρ σ ∧ StOk (gx X) α H μ ∧ Got (gx X) WNo σ (Rep (gx X)) α H (eHeard subs l.ev ρ μ) Q
theorem pe_hv {x look : Str} {subs : List Str} {k ik : Nat} {ls : List LamI} {s3 : Shared} {H3 : Hp} {csc : Scope} {ce : PySem.Env} {fp : List Addr} {p lp pos : Pos} (F : HeardG X.K X.mg x subs) (hg : Gl (X.blk s3 H3 csc ce fp) x) (hdb : (x == ("__debug__" : Str)) = false) (hr : Room (k + 2) X.A) (gd : X.A.guards = some [])
    (back : ∀ pb σ' H' s', Inv (X.blk s3 H3 csc ce fp) pb σ' H' s' → Inv X pins σ H' s') (LG : ∀ l ∈ ls, LamG X k l) (hN : X.N[ik]? = some look) (hv : Vis ce.scope look) (hd : (look == ("__debug__" : Str)) = false) (hcd : (look == ("__classdict__" : Str)) = false) :
    PE (X.blk s3 H3 csc ce fp) (.Call (.Name x p) [.Name look lp] [] pos) (tHv X σ ls subs ik) := by
  refine ⟨fun pb s σb H Q Ib ⟨l, f, ρ, α, μ, hl, slot, fat, en, st, wish⟩ => ?_⟩
  have I := back _ _ _ _ Ib
  obtain ⟨g, fd, ar, sc, q, n, CS, hm, FD, ea, S, l1, l2, l3, l4, l5, hCS, hsub⟩ := F.ex
  obtain ⟨oc, od, dV, kV, doc, pm, an, cdv, ct, osl, e1, e2, e3, e4, e5⟩ := FD.ex
  rw [e1] at e2
  have dv : dV = .none := by
    rcases e4 with ⟨_, z⟩ | ⟨z, _⟩
    · exact z
    · exact absurd rfl z
  refine wpAny_Call_Name_kw (ld_glob Ib hg hm ?_ hdb)
  refine PySem.W.callWith_K (h₀ := X.base) I.ok.mod.kin FD.kp ?_ (by rfl) (by rfl)
  show wpAny _ _ (spliced ((false, eval (.Name look lp) ce) :: backTo pos (starEach [] ce))) _ _ s
  refine Calls.spliced_cons (thn ((pe_var (X := X.blk s3 H3 csc ce fp) (pos := lp) (i := ik) hN hv hd hcd).run pb s σb H (fun v H1 => v = .ref f ∧ H1 = H) Ib ⟨.ref f, slot, rfl, rfl⟩) fun u s1 ⟨v, H1, I1b, r1, ev, eH⟩ => ?_)
  subst ev
  rw [eH] at I1b
  obtain rfl : u = Value.ref f := r1
  have I1 := back _ _ _ _ I1b
  refine Calls.spliced_nil ⟨I1.kIn, ?_⟩
  have runs : codeAny (model X.prog X.w) X.A (.call (.ref g) ⟨[.ref f], []⟩) (CR C8.CX0 X.stack X.prog X.w H s1 Q C8.E0) s1 := by
    have hb : BindsTo s1 (PySem.W.fnOf x x ⟨[], [ar], none, [], [], none, []⟩ (heardBody q n) sc dV kV doc pm an cdv ct) ⟨[.ref f], []⟩ ((["call"] : List Str).zip [Value.ref f]) := by
      refine BindsTo.of_eq ?_
      obtain ⟨y1, y2, y3⟩ := ar
      dsimp only at ea
      subst ea
      subst dv
      rfl
    refine run_ofS (N := NH) (ps := ["call"]) (us := [.ref f]) (vs := [.ref f]) e2 e3 S hr I1.env0 hb (.cons rfl .nil) rfl fun room => ?_
    let Z := (cxOf C8.CX0 X.prog X.w X.K X.mg X.base NH x sc g cdv X.A X.stack s1 H C8.E0).nox
    have nd : NH.Nodup := by decide
    have rd : ∀ (W' : WX) (pn : List (Addr × Obj)) (xe : Value → Shared → Prop), Takes (Z.tr pn xe) W' → PE (Z.tr pn xe) (.Call (.Name "call" (q 8)) [] [] (q 9))
        (fun σZ HZ Q' => σZ[0]? = some (some (.ref f)) ∧ FnAt X HZ l f ∧ tE (gx X) (fun cls d _ H2 => W' cls d σZ H2) l.ev σ HZ Q') := fun W' pn xe tk =>
      pe_actsV (CXg := C8.CX0) (Eg := C8.E0) (Ng := NH) (i := 0) I1 (LG l hl) tk room gd rfl (.inl l1) (by decide) (by decide)
    have hgl : Gl Z ("StepError" : Str) := l5
    refine ⟨_, PSs.nox (pss_cons (ps_asg (pe_tup (pa_cons pe_non (pa_cons pe_non pa_nil))) (pg_tup rfl (pgs_cons (pg_name (i := 1) nd rfl (.inl l2)) (pgs_cons (pg_name (i := 2) nd rfl (.inl l3)) pgs_nil))) rfl noswap)
      (pss_cons (ps_try_reg (i := 3) (c := .ref CS) (ts := fun a cls d => tAsg (tVar 3) (gName 1)) (Wout := fun _ _ _ _ => False) (tb := fun W' => tAsg (fun σZ HZ Q' => σZ[0]? = some (some (.ref f)) ∧ FnAt X HZ l f ∧ tE (gx X) (fun cls d _ H2 => W' cls d σZ H2) l.ev σ HZ Q') (gName 2))
          rfl rfl rfl nd rfl l4 ⟨hgl, by decide, .inl hCS⟩ LamX.takes0 (fun W' pn xe tk _ => pss_one (ps_set (i := 2) nd rfl (.inl l3) (rd W' pn xe tk))) (fun a oe cls d pn _ _ => pss_one (ps_set (i := 1) nd rfl (.inl l2) (pe_var (i := 3) rfl (.inl l4)))))
        (pss_one (ps_ret (pe_tup (pa_cons (pe_var (i := 1) rfl (.inl l2)) (pa_cons (pe_var (i := 2) rfl (.inl l3)) pa_nil))))))), ?_⟩
    have two : ([V.non, V.non] : List V).length ≤ sizeLine := by show 2 ≤ sizeLine; rw [sizeLine_eq]; omega
    refine ⟨two, fun p0 np0 => ⟨p0, _, rfl, .inl (.inl upd_same), rfl, .non, [.non], rfl, .non, [], rfl, rfl, ?_⟩⟩
    have x2 : Ext α H α (upd H p0 (.tup [.non, .non])) := Ext.fresh np0
    have st2 : StOk (gx X) α (upd H p0 (.tup [.non, .non])) μ := st.fresh np0
    have g2 := Got.ext x2 wish
    refine ⟨rfl, fat.ext st x2, ρ, α, μ, en.ext st x2, st2, ?_⟩
    have tup2 : ∀ (v w : V) (H3 : Hp), (∀ p1, H3 p1 = none → Q (.ref p1) (upd H3 p1 (.tup [v, w]))) → ∀ σ3 : L2.St, σ3[1]? = some (some v) → σ3[2]? = some (some w) → tTup (tCons (tVar 1) (tCons (tVar 2) tNil)) σ3 H3 Q := fun v w H3 h σ3 h1 h2 => by
      refine ⟨v, h1, w, h2, ?_, h⟩
      show 2 ≤ sizeLine
      rw [sizeLine_eq]
      omega
    cases hv : l.ev ρ μ with
    | bad =>
      unfold eHeard at g2
      rw [hv] at g2
      exact g2.elim
    | ok d μ1 =>
      unfold eHeard at g2
      rw [hv] at g2
      intro v α3 H3 y st3 r3
      exact tup2 .non v H3 (opTup2 st3 (.p .non) r3 (Got.ext y g2)) _ rfl rfl
    | exc c0 d μ1 =>
      unfold eHeard at g2
      rw [hv] at g2
      dsimp only at g2
      split at g2
      · rename_i hc
        intro cls dx v α3 H3 y st3 q1 q2 q3
        obtain ⟨Y, hY, hex⟩ := hsub c0 (hasS_mem hc)
        have ec : cls = .ref Y := by
          have z : X.mg c0 = some cls := q1
          rw [hY] at z
          exact (Option.some.inj z).symm
        refine ⟨true, by rw [ec]; exact hex, fun _ a na => ?_, fun z => nomatch z⟩
        refine ⟨.ref a, rfl, ?_⟩
        have y4 : Ext α3 H3 α3 (upd H3 a (ExV cls dx a)) := Ext.fresh na
        have r4 : Rep (gx X) α3 (upd H3 a (ExV cls dx a)) (.exc c0 d) (.ref a) := .exc q1 upd_same (by rw [upd_ne (ne_of_none q2 na)]; exact q2) (st3.rep y4 q3)
        exact tup2 (.ref a) .non _ (opTup2 (st3.fresh na) r4 (.p .non) (Got.ext y4 (Got.ext y g2))) _ rfl rfl
      · exact g2.elim
  refine wpAny_call (codeAny_mono runs fun z s2 hq => ?_)
  cases z with
  | error u => exact (show False from hq).elim
  | ok fl =>
    cases fl with
    | ret u => exact I1b.after hq
    | next => exact hq.elim
    | brk => exact hq.elim
    | cont => exact hq.elim
end
end Sh
set_option maxRecDepth 100000
set_option maxHeartbeats 4000000
/-! Sh: a comprehension whose element knows the def's frame. -/
namespace Sh
open PySem PySem.Spec PyProof.Rows L2 LamX
abbrev cenv (X : Cx) (scope : Scope) (t : Shared) : PySem.Env := compEnvC scope (cellsFrom (t.heap.objs.size + 1) scope.names (cloFrom X.env.cells scope.names [])) t.heap.objs.size X.env
section
variable {X : Cx} {pins : List (Addr × Obj)} {σ : L2.St} {H : Hp} {s : Shared}
/-- [elt for target in iter]: what the element asks may lean on the frame of the def -/
theorem comp_back {Q : VK} {elt tg iter : Expr} {scope : Scope} {own : List (Str × Nat)} {pos pos' : Pos} {wi : TI} {g : TG} {te : TE} {use : Option (Value → Sem Unit)} {Qf : Value → Shared → Prop}
    (calm : X.calm = true) (nodup : X.N.Nodup) (I : Inv X pins σ H s) (walk : PI X tg iter wi) (blk : BlkOk X.N X.env.scope scope own) (goal : tLc wi g tYes te (own.map (·.2)) σ H Q)
    (target : ∀ (t : Shared) (K : Hp) (fp : List Addr), PG (X.blk t K scope (cenv X scope t) fp) tg g)
    (elem : ∀ (t : Shared) (K : Hp) (fp : List Addr), (∀ pb σ' H' s', Inv (X.blk t K scope (cenv X scope t) fp) pb σ' H' s' → Inv X pins σ H' s') → PE (X.blk t K scope (cenv X scope t) fp) elt te) (noset : ∀ x, foldedSetIterable iter X.env x = pure x)
    (fin : ∀ L C s' m H', Inv X pins σ H' s' → Q (.ref L) H' → s'.heap.Ns C m → FpOk X pins H' C → compPost (model X.prog X.w) X.A X.xe use Qf (.ref L) C (.ok .next) s') :
    wpAny (model X.prog X.w) X.A (comprehension (.ListComp elt [⟨tg, iter, [], 0⟩] scope pos) scope X.env pos' (newList []) false (eval iter X.env) use) Qf X.xe s := by
  have cellsThere : ∀ y ∈ scope.names, y.2 = .free → ∃ c, X.env.cells.lookup y.1 = some c := fun y m z => (blk.free y m z).elim (fun k => I.ok.has _ (.inl k)) fun k => I.ok.has _ (.inr k)
  refine wpAny_comprehension_free (use := use) rfl noset (closure_ok cellsThere) blk.kind (fun y m z => by rw [blk.uniq y m, z]) (thn (walk.run pins s σ H _ I goal) fun xv t1 hx => thn hx fun itv t2 ⟨it, fp, tn, J, K2, eit, J2, TT, at2, free2, rest⟩ => ?_)
  subst eit
  refine wpAny_newObj_type (newEnv_comp ?_) (by show 0 ≤ sizeLine; decide)
  obtain ⟨L, eL⟩ : ∃ L, t2.heap.objs.size = L := ⟨_, rfl⟩
  obtain ⟨Wm, ⟨m0, w0⟩, turn⟩ := rest L (J2.hok.fresh (Nat.le_of_eq eL))
  obtain ⟨t3, et3⟩ : ∃ t3 : Shared, ({ t2 with heap := t2.heap.push { cls := .type "list", data := .seq ([] : List Value).toArray } } : Shared) = t3 := ⟨_, rfl⟩
  have hp3 : t3.heap = t2.heap.push { cls := .type "list", data := .seq ([] : List Value).toArray } := by rw [← et3]
  have J3 : Inv X pins σ (upd K2 L (.lst [])) t3 := by
    rw [← et3]
    exact J2.laid (t' := t2.toks) (fun b o z => Heap.get?_push_of_some _ z) (Nat.le_of_eq eL) ⟨Nat.zero_le _, [], 0, .nil, by rw [← eL]; exact Heap.get?_push_size _ rfl⟩
  have small : ∀ b ∈ fp, b < t2.heap.objs.size := fun b hb => let ⟨o, z, _⟩ := TT.obj _ _ at2 b hb; Heap.lt_size z
  have free3 : ∀ b ∈ fp, FpOk X pins (upd K2 L (.lst [])) b ∧ b < t3.heap.objs.size := fun b hb => by
    have lt := small b hb
    have ne : b ≠ L := by rw [← eL]; exact Nat.ne_of_lt lt
    exact ⟨⟨by rw [upd_ne ne]; exact (free2 b hb).1, (free2 b hb).2⟩, by rw [hp3, Heap.size_push]; exact Nat.lt_succ_of_lt lt⟩
  have at3 : tn 0 t3.heap := TT.keep _ _ _ at2 fun b _ o z => by rw [hp3]; exact Heap.get?_push_of_some _ z
  have J4 := block_start J3 blk nodup free3
  obtain ⟨K3, eK3⟩ : ∃ K3, upd K2 L (.lst []) = K3 := ⟨_, rfl⟩
  rw [eK3] at J3 J4 w0 free3
  -- back in the def's frame at any time
  have back : ∀ pb σ' H' s', Inv (X.blk t3 K3 scope (cenv X scope t3) fp) pb σ' H' s' → Inv X pins σ H' s' := fun pb σ' H' s' J' =>
    J3.call' (ch := fp) J'.os J'.base J'.hok J'.bare fun b hb => let z := (free3 b hb).1; ⟨z.2.2.2.1, z.2.1, z.2.2.2.2.1, z.2.2.2.2.2⟩
  have pg := target t3 K3 fp
  have pe := elem t3 K3 fp back
  have nofp : ∀ b ∈ fp, K3 b = none := fun b hb => (free3 b hb).1.1
  show codeAny _ _ (.compStart (.ListComp elt [⟨tg, iter, [], 0⟩] scope pos) 0 (.ref it) (.ref t2.heap.objs.size) (cenv X scope { t2 with heap := t2.heap.push { cls := .type "list", data := .seq ([] : List Value).toArray } })) _ _
  rw [eL, et3]
  obtain ⟨ce, ece⟩ : ∃ ce, cenv X scope t3 = ce := ⟨_, rfl⟩
  have cL : ce.locals = t3.heap.objs.size := by rw [← ece]; rfl
  have J4 : Inv (X.blk t3 K3 scope (cenv X scope t3) fp) [] (wipe σ (own.map (·.2))) K3 { t3 with heap := pushCells (t3.heap.push { cls := .type "dict", data := .dict #[] }) scope.names } := J4
  rw [ece] at back pg pe J4 ⊢
  obtain ⟨t4, et4⟩ : ∃ t4 : Shared, ({ t3 with heap := pushCells (t3.heap.push { cls := .type "dict", data := .dict #[] }) scope.names } : Shared) = t4 := ⟨_, rfl⟩
  rw [et4] at J4
  have at4 : tn 0 t4.heap := TT.keep _ _ _ at3 fun b _ o z => by rw [← et4]; exact pushCells_keeps _ _ _ _ (Heap.get?_push_of_some _ z)
  have still : ∀ {σ' : L2.St} {H' : Hp} {s' : Shared}, Inv (X.blk t3 K3 scope ce fp) [] σ' H' s' → (∀ b ∈ fp, H' b = none) → ∀ b ∈ fp, FpOk (X.blk t3 K3 scope ce fp) [] H' b := fun J' hn b hb =>
    ⟨hn b hb, (J'.ok.exf b hb).1, J'.ok.exfs b hb, .inl hb, fun x c z => (J'.ok.exf b hb).2 x c z, fun p hp => absurd (show p ∈ ([] : List (Addr × Obj)) ++ [] from hp) (by simp)⟩
  have loop : codeAny (model X.prog X.w) X.A (.compLoop (.ListComp elt [⟨tg, iter, [], 0⟩] scope pos) 0 (.ref it) (.ref L) ce) (compPost (model X.prog X.w) X.A X.xe use Qf (.ref L) t3.heap.objs.size) t4 := by
    refine compLoop_any (fun n s' => ∃ i H', Inv (X.blk t3 K3 scope ce fp) [] (wipe σ (own.map (·.2))) H' s' ∧ tn i s'.heap ∧ (∀ b ∈ fp, H' b = none) ∧ Wm i n H') ?_ m0 ⟨0, K3, J4, at4, nofp, w0⟩
    rintro n t5 ⟨i, H5, J5, at5, no5, w5⟩
    rcases turn i n H5 w5 with ⟨stop, qq⟩ | ⟨go, Nx, less, step⟩
    · refine thnF (TT.done (X.blk t3 K3 scope ce fp) rfl rfl rfl calm i [] t5 _ H5 (fun _ _ => False) J5 (still J5 no5) at5 stop) fun r t6 ⟨hr, J6⟩ => ?_
      subst hr
      have noC : H5 t3.heap.objs.size = none := by
        have z : H5 ce.locals = none := J6.free
        rw [cL] at z
        exact z
      obtain ⟨m, ns, _⟩ := J6.loc
      have ns : t6.heap.Ns ce.locals m := ns
      rw [cL] at ns
      exact fin L t3.heap.objs.size t6 m H5 (back _ _ _ _ J6) qq ns (J3.fpOk (Nat.le_refl _) noC)
    · refine thnF (TT.item (X.blk t3 K3 scope ce fp) rfl rfl rfl calm i [] t5 _ H5 (fun _ _ => False) J5 (still J5 no5) at5 go) fun r t6 ⟨u, hr, h6⟩ => ?_
      subst hr
      refine thnF h6 fun _ t7 ⟨x, H7, J7, r7, y7, at7, no7⟩ => ?_
      refine thnF (pg.run _ t7 _ H7 x u _ (J7.pinned (still J7 no7) (TT.obj _ _ at7)) r7 (step x H7 y7)) fun _ t8 ⟨σ8, H8, J8, hw8, q8⟩ => ?_
      refine thnF ((pts_nil (X := X.blk t3 K3 scope ce fp)).run _ t8 σ8 H8 _ J8 q8) fun b t9 ⟨H9, J9, q9⟩ => ?_
      have turned : ∀ {s' : Shared} {H' : Hp}, Inv (X.blk t3 K3 scope ce fp) ([] ++ pinsAt fp t7.heap) σ8 H' s' → Nx H' → ∃ m, m < n ∧ ∃ i H', Inv (X.blk t3 K3 scope ce fp) [] (wipe σ (own.map (·.2))) H' s' ∧ tn i s'.heap ∧ (∀ b ∈ fp, H' b = none) ∧ Wm i m H' := fun {s' H'} J' nx => by
        obtain ⟨m', hm, w'⟩ := less H' nx
        have pinned : ∀ b ∈ fp, ∀ o, t7.heap.get? b = some o → s'.heap.get? b = some o ∧ H' b = none := fun b hb o z =>
          let q := J'.pin (b, o) (List.mem_append_right _ (List.mem_append_right _ (mem_pinsAt hb z)))
          ⟨q.1, q.2.1⟩
        refine ⟨m', hm, i + 1, H', (J'.unpinned (pins := [])).weak (by rw [← hw8, wipe_length]) (fun j v z => ?_), TT.keep _ _ _ at7 fun b hb o z => (pinned b hb o z).1, fun b hb => ?_, w'⟩
        · rw [← hw8] at z
          exact (wipe_some z).1
        · obtain ⟨o, z, _⟩ := TT.obj _ _ at7 b hb
          exact (pinned b hb o z).2
      cases b with
      | false =>
        simp only [Bool.false_eq_true, if_false] at q9 ⊢
        exact turned J9 q9
      | true =>
        simp only [if_true] at q9 ⊢
        exact thnF (pe.run _ t9 σ8 H9 _ J9 q9) fun z t10 ⟨yv, H10, J10, r10, acc, hD10, hz10, nx⟩ => app_ok (X := X.blk t3 K3 scope ce fp) J10 hD10 hz10 r10 fun t11 J11 => turned J11 nx
  have both := codeAny_compStart_list loop (TT.self X.A 0 _ _ _ at4 loop)
  rw [← et4] at both
  exact both
end
end Sh
set_option maxRecDepth 100000
set_option maxHeartbeats 4000000
/-! Sh: looks = [lambda: ..]; ..; caught = [heard(look)[0] for look in looks]. -/
namespace Sh
open PySem PySem.Spec PyProof.Rows L2 LamX

def eMiss (subs : List Str) (ev : Ev D) : Ev D := fun ρ μ => (eHeard subs ev ρ μ).bind fun d μ1 => Res.ofO (opIx d (.p (.int 0)) μ1)
def loopM (subs : List Str) (ρ : Env) : List (Ev D) → Store → List D → Option (List D × Store)
  | [], μ, acc => some (acc, μ)
  | ev :: r, μ, acc => match eMiss subs ev ρ μ with
    | .ok d μ1 => loopM subs ρ r μ1 (d :: acc)
    | _ => none
theorem loopM_len {subs : List Str} {ρ : Env} : ∀ {evs : List (Ev D)} {μ μ' : Store} {acc res : List D}, loopM subs ρ evs μ acc = some (res, μ') → acc.length ≤ res.length
  | [], _, _, _, _, h => by cases h; exact Nat.le_refl _
  | ev :: r, μ, μ', acc, res, h => by
    unfold loopM at h
    split at h
    · exact Nat.le_of_succ_le (loopM_len h)
    · cases h
theorem EnvOk.into {G : Gx} {α : List Addr} {H : Hp} {ρ : Env} {σ : L2.St} (e : EnvOk G α H ρ σ) (a : Addr) : EnvOk G (α ++ [a]) H ρ σ := ⟨e.len, fun i d h => by
  obtain ⟨v, h1, h2⟩ := e.val i d h
  exact ⟨v, h1, h2.mono (fun _ _ q => q) (pre_get (List.prefix_append _ _)) (fun _ _ e _ _ => e) fun _ _ _ e => e⟩⟩
def tLk3 (X : Cx) (i j ik : Nat) (ls : List LamI) (subs : List Str) : TS := fun Z σ H => ∃ ρ α μ fs L α0 H0 acc μ1, EnvOk (gx X) α H ρ σ ∧ StOk (gx X) α H μ ∧ σ[i]? = some (some (.ref L)) ∧ LkAt X α H ls fs L ∧ Ext α0 H0 α H ∧ H0 L = none ∧ ik < ρ.length ∧ loopM subs ρ (ls.map (·.ev)) μ [] = some (acc, μ1) ∧ acc.length ≤ szMax ∧
  ∀ σ' α' H', Ext α0 H0 α' H' → StOk (gx X) α' H' (μ1 ++ [mkL acc.reverse]) → EnvOk (gx X) α' H' (Sh.put (some (.ref μ1.length)) ρ j) σ' → Z.nx σ' H'
theorem LkAt.over {X : Cx} {α : List Addr} {H : Hp} {ls : List LamI} {fs : List Addr} {L Dl : Addr} {zs ws : List V} (h : LkAt X α H ls fs L) (sd : Aside α H Dl (.lst zs)) (ne : L ≠ Dl) : LkAt X α (upd H Dl (.lst ws)) ls fs L :=
  ⟨⟨h.side.out, by rw [upd_ne ne]; exact h.side.at_, h.side.kind, h.side.nf⟩, Paired.mapP h.fns fun l f ⟨c2, pm, ctv, q1, q2⟩ => ⟨c2, pm, ctv, by rw [upd_ne (sd.ne q1 rfl)]; exact q1, by rw [upd_ne (sd.ne q2 rfl)]; exact q2⟩⟩
section
variable {X : Cx}
theorem lk_loop {i j ik : Nat} {vs : List Nat} {ls : List LamI} {subs : List Str} {Z : Ends} {σ : L2.St} {H : Hp} (hik : ik ∈ vs) (h : tLk3 X i j ik ls subs Z σ H) :
    tLc (iList X.K (tVar i)) (gName ik) tYes (tOp (r2 (gx X) opIx) (tHv X σ ls subs ik) (tC (.int 0))) vs σ H (fun x H1 => gName j x σ H1 Z.nx) := by
  obtain ⟨ρ, α, μ, fs, L, α0, H0, acc, μ1, e, st, slot, lk, x0, n0, hlen, hl, hz, wish⟩ := h
  refine ⟨.ref L, slot, L, rfl, ⟨_, .inl (.inl lk.side.at_)⟩, fun Dl nD => ?_⟩
  have ne : L ≠ Dl := ne_of_none lk.side.at_ nD
  have nD0 : H0 Dl = none := x0.none st nD
  have oD : Dl ∉ α := st.notin nD
  have xD : Ext α H α (upd H Dl (.lst [])) := Ext.fresh nD
  refine ⟨fun n m H' => ∃ α' μ' acc' zs, n ≤ ls.length ∧ m + n = ls.length ∧ Ext α0 H0 α' H' ∧ LkAt X α' H' ls fs L ∧ Aside α' H' Dl (.lst zs) ∧ EnvOk (gx X) α' H' ρ σ ∧ StOk (gx X) α' H' μ' ∧ Reps (gx X) α' H' acc'.reverse zs ∧ loopM subs ρ ((ls.drop n).map (·.ev)) μ' acc' = some (acc, μ1),
    ⟨ls.length, α, μ, [], [], Nat.zero_le _, rfl, x0.trans xD, lk.ext st xD, ⟨oD, upd_same, rfl, no_frz⟩, e.ext st xD, st.fresh nD, .nil, hl⟩, ?_⟩
  rintro n m H1 ⟨α1, μ2, acc1, zs, hn, hm, x1, lk1, as1, e1, st1, r1, l1⟩
  have flen : fs.length = ls.length := Paired.len lk1.fns
  rcases Nat.lt_or_ge n ls.length with lt | ge
  · refine .inr ⟨?_, fun H' => ∃ α' μ' acc' zs, n + 1 ≤ ls.length ∧ Ext α0 H0 α' H' ∧ LkAt X α' H' ls fs L ∧ Aside α' H' Dl (.lst zs) ∧ EnvOk (gx X) α' H' ρ σ ∧ StOk (gx X) α' H' μ' ∧ Reps (gx X) α' H' acc'.reverse zs ∧ loopM subs ρ ((ls.drop (n + 1)).map (·.ev)) μ' acc' = some (acc, μ1), ?_, ?_⟩
    · have hf : n < fs.length := by rw [flen]; exact lt
      exact ⟨_, .ref fs[n], .inl (.inl lk1.side.at_), by rw [List.getElem?_map, List.getElem?_eq_getElem hf]; rfl⟩
    · rintro H' ⟨α', μ', acc', zs', h1, h2⟩
      exact ⟨m - 1, by omega, α', μ', acc', zs', h1, by omega, h2⟩
    · rintro x H' ⟨rfl, hx⟩
      have h2 := hx _ (.inl (.inl lk1.side.at_))
      rw [List.getElem?_map] at h2
      obtain ⟨l, f, hl1, hf1, rfl⟩ : ∃ l f, ls[n]? = some l ∧ fs[n]? = some f ∧ V.ref f = x := by
        cases q : fs[n]? with
        | none => rw [q] at h2; cases h2
        | some f =>
          rw [q] at h2
          cases h2
          exact ⟨ls[n], f, List.getElem?_eq_getElem lt, rfl, rfl⟩
      obtain ⟨f', hf2, fat⟩ := Paired.get lk1.fns hl1
      rw [hf1] at hf2
      cases hf2
      have hd : ls.drop n = l :: ls.drop (n + 1) := by
        rw [List.drop_eq_getElem_cons lt]
        rw [List.getElem?_eq_getElem lt] at hl1
        cases hl1
        rfl
      rw [hd] at l1
      refine ⟨wipe_set hik |>.trans wipe_wipe, ?_⟩
      dsimp only [tYes]
      rw [if_pos rfl]
      have slotk : ((wipe σ vs).set ik (some (.ref f)))[ik]? = some (some (V.ref f)) := by
        rw [List.getElem?_set_self]
        rw [wipe_length, ← e1.len]
        exact hlen
      refine ⟨l, f, ρ, α1, μ2, List.mem_of_getElem? hl1, slotk, fat, e1, st1, ?_⟩
      have l2 : (match eMiss subs l.ev ρ μ2 with | .ok d μ1 => loopM subs ρ ((ls.drop (n + 1)).map (·.ev)) μ1 (d :: acc1) | _ => none) = some (acc, μ1) := l1
      unfold eMiss at l2
      cases hh : eHeard subs l.ev ρ μ2 with
      | exc c d μ3 => rw [hh] at l2; cases l2
      | bad => rw [hh] at l2; cases l2
      | ok d μ3 =>
        rw [hh] at l2
        intro v α3 H3 y3 st3 r3
        refine ⟨α3, μ3, d, .p (.int 0), st3, r3, .p (.int _), ?_⟩
        have l3 : (match Res.ofO (opIx d (.p (.int 0)) μ3) with | .ok d μ1 => loopM subs ρ ((ls.drop (n + 1)).map (·.ev)) μ1 (d :: acc1) | _ => none) = some (acc, μ1) := l2
        cases ho : opIx d (.p (.int 0)) μ3 with
        | none => rw [ho] at l3; cases l3
        | some z =>
          obtain ⟨d4, μ4⟩ := z
          rw [ho] at l3
          have l4 : loopM subs ρ ((ls.drop (n + 1)).map (·.ev)) μ4 (d4 :: acc1) = some (acc, μ1) := l3
          intro w α4 H4 y4 st4 r4
          have x13 := y3.trans y4
          have as4 := as1.ext x13 no_tbl
          have lk4 := (lk1.ext st1 y3).ext st3 y4
          have hln : zs.length < sizeLine := by
            have h1 := loopM_len l4
            rw [r1.length, sizeLine_eq, List.length_reverse]
            have h2 : (d4 :: acc1).length = acc1.length + 1 := rfl
            have h3 : szMax = 16777216 := rfl
            omega
          refine ⟨zs, as4.at_, hln, α4, μ4, d4 :: acc1, zs ++ [w], lt, Ext.aside (x1.trans x13) nD0 as4.out, lk4.over as4 ne, as4.set rfl no_frz, as4.env ((e1.ext st1 y3).ext st3 y4), as4.st st4, ?_, l4⟩
          rw [List.reverse_cons]
          exact (as4.reps (st3.reps y4 (st1.reps y3 r1))).snoc (as4.rep r4)
  · have en : n = ls.length := Nat.le_antisymm hn ge
    refine .inl ⟨⟨_, .inl (.inl lk1.side.at_), by rw [List.length_map, flen]; exact ge⟩, ?_⟩
    rw [en, List.drop_length] at l1
    cases l1
    have st2 := st1.into as1.out (mkL_ok as1.at_ (r1.into (a := Dl)))
    refine wish _ _ _ (x1.into nD0) st2 ((e1.into Dl).put j (.ref ?_))
    rw [← st1.len]
    exact getLast_app _ _
end
end Sh
set_option maxRecDepth 100000
set_option maxHeartbeats 4000000
/-! Sh: the statements of a list of lambdas. -/
namespace Sh
open PySem PySem.Spec PyProof.Rows L2 LamX
section
variable {X : Cx} {W : WX}
theorem ps_lk3 {hx look x y : Str} {subs : List Str} {i j ik k k0 : Nat} {ls : List LamI} {scope : Scope} {own : List (Str × Nat)} {py p lp cp cpos sp tp ip vp spos : Pos} (calm : X.calm = true) (nodup : X.N.Nodup) (hy : X.N[j]? = some y) (hyl : X.env.scope.names.lookup y = some .local)
    (sw : swapsWith (.ListComp (.Subscript (.Call (.Name hx p) [.Name look lp] [] cp) (.Constant (.int 0) k0 cpos) sp) [⟨.Name look tp, .Name x ip, [], 0⟩] scope vp) (some (.Name y py)) spos.line X.env = pure true)
    (hi : X.N[i]? = some x) (hv : Vis X.env.scope x) (hd : (x == ("__debug__" : Str)) = false) (hcd : (x == ("__classdict__" : Str)) = false) (blk : BlkOk X.N X.env.scope scope own) (hik : ik ∈ own.map (·.2)) (hk : X.N[ik]? = some look)
    (locl : ∀ (t : Shared) (K : Hp) (fp : List Addr), Loc (cenv X scope t).scope look ∧ ((X.blk t K scope (cenv X scope t) fp).fn look = true ∨ (cenv X scope t).scope.names.lookup look = some .local)) (hd2 : (look == ("__debug__" : Str)) = false) (hcd2 : (look == ("__classdict__" : Str)) = false)
    (F : HeardG X.K X.mg hx subs) (hg : ∀ (t : Shared), (cenv X scope t).scope.names.lookup hx = some .globalImplicit) (hdb : (hx == ("__debug__" : Str)) = false) (hr : Room (k + 2) X.A) (gd : X.A.guards = some []) (LG : ∀ l ∈ ls, LamG X k l) (hu : X.A.units + 1 < cLine) :
    PS X (.Assign [.Name y py] (.ListComp (.Subscript (.Call (.Name hx p) [.Name look lp] [] cp) (.Constant (.int 0) k0 cpos) sp) [⟨.Name look tp, .Name x ip, [], 0⟩] scope vp) spos) (tLk3 X i j ik ls subs) := by
  refine ⟨fun pins s σ H Z I h => ?_⟩
  rw [exec_Assign_Name_used _ _ _ _ sw]
  refine wpAny_bind (wpAny_standAt (wpAny_bind ?_))
  show wpAny _ X.A (do let _ ← comprehension (.ListComp (.Subscript (.Call (.Name hx p) [.Name look lp] [] cp) (.Constant (.int 0) k0 cpos) sp) [⟨.Name look tp, .Name x ip, [], 0⟩] scope vp) scope X.env (firstIterPos [⟨.Name look tp, .Name x ip, [], 0⟩] vp) (newList []) false (eval (.Name x ip) X.env) (some (assign (.Name y py) X.env))) _ _ s
  refine wpAny_bind (thn (comp_back (Qf := fun _ s' => SP X pins Z .next s') calm nodup I (pi_list (pe_var hi hv hd hcd)) blk (lk_loop hik h) (fun t K fp => pg_name (X := X.blk t K scope (cenv X scope t) fp) (hf := (locl t K fp).2) nodup hk (locl t K fp).1)
    (fun t K fp back => pe_ix (ix_S (X := X.blk t K scope (cenv X scope t) fp) hu) (pe_hv F (hg t) hdb hr gd back LG hk ((locl t K fp).1.elim .inl fun z => .inr (.inl z)) hd2 hcd2) pe_int (fun _ _ => rfl)) (fun _ => rfl) fun L C s' m H' I' q ns f => ?_) fun _ s' hq => wpAny_pure (wpAny_pure hq))
  show wpAny _ _ (assign (.Name y py) X.env (.ref L)) _ _ _
  refine wpAny_assign_Name (store_ok2 (v := V.ref L) I' nodup hy (.inl hyl) rfl (fun t2 I2 ⟨a, sb, ha⟩ => ?_) (.inr hyl))
  obtain ⟨f0, f1, f2, f3, f4, f5⟩ := f
  have hCa : C ≠ a := ha.elim (fun z => by rw [z]; exact f1) fun z q => f4 y a z q.symm
  refine ⟨m, ns.sameBut sb hCa, fun h3 sb3 => ?_⟩
  exact ⟨_, H', I2.turned (t' := t2.toks) (fun b o hb z => (sb3.2 b hb).trans z) f0 f1 f3 f4 f5, q⟩
/-! ### in a row of statements -/
def sLk0 (i : Nat) (sv : Sv) : Sv := fun ρ μ => match decide (i < ρ.length) with
  | true => sv (Sh.put none ρ i) μ
  | false => .bad
def sLk3 (j ik : Nat) (subs : List Str) (evs : List (Ev D)) : Sv := fun ρ μ => match decide (ik < ρ.length) with
  | true => match loopM subs ρ evs μ [] with
    | some (acc, μ1) => match decide (acc.length ≤ szMax) with
      | true => .next (Sh.put (some (.ref μ1.length)) ρ j) (μ1 ++ [mkL acc.reverse])
      | false => .bad
    | none => .bad
  | false => .bad
def tMore (X : Cx) (W : WX) (i : Nat) (ls : List LamI) (sv : Sv) : TS := fun Z σ H => ∃ ρ α μ fs L α0 H0, EnvOk (gx X) α H ρ σ ∧ StOk (gx X) α H μ ∧ σ[i]? = some (some (.ref L)) ∧ LkAt X α H ls fs L ∧ Ext α0 H0 α H ∧ H0 L = none ∧ GotS (gx X) W Z α0 H0 (sv ρ μ)
variable {st : Stmt} {r : List Stmt} {sv : Sv} {i j ik : Nat} {ls : List LamI} {l : LamI} {subs : List Str}
theorem pss_lk1 (h1 : PS X st (tLk1 X i l)) (h2 : PSs X r (tMore X W i [l] sv)) : PSs X (st :: r) (tS (gx X) W (sLk0 i sv)) :=
  (pss_cons h1 h2).weak fun Z σ H ⟨ρ, α, μ, e, s, q⟩ => by
    unfold sLk0 at q
    split at q
    · rename_i hl
      exact ⟨ρ, α, μ, e, s, of_decide_eq_true hl, fun σ' H' fs L x e' s' slot nL lk => ⟨_, α, μ, fs, L, α, H, e', s', slot, lk, x, nL, q⟩⟩
    · exact q.elim
theorem pss_lk2 (h1 : PS X st (tLk2 X i ls l)) (hz : ls.length < szMax) (h2 : PSs X r (tMore X W i (ls ++ [l]) sv)) : PSs X (st :: r) (tMore X W i ls sv) :=
  (pss_cons h1 h2).weak fun Z σ H ⟨ρ, α, μ, fs, L, α0, H0, e, s, slot, lk, x0, n0, q⟩ =>
    ⟨ρ, α, μ, fs, L, e, s, slot, lk, hz, fun H' fs' x e' s' lk' => ⟨ρ, α, μ, fs', L, α0, H0, e', s', slot, lk', x α0 H0 x0 n0, n0, q⟩⟩
theorem pss_lk3 (h1 : PS X st (tLk3 X i j ik ls subs)) (h2 : PSs X r (tS (gx X) W sv)) : PSs X (st :: r) (tMore X W i ls (sSeq (sLk3 j ik subs (ls.map (·.ev))) sv)) :=
  (pss_cons h1 h2).weak fun Z σ H ⟨ρ, α, μ, fs, L, α0, H0, e, s, slot, lk, x0, n0, q⟩ => by
    unfold sSeq sLk3 at q
    cases hd : decide (ik < ρ.length) with
    | false => rw [hd] at q; exact q.elim
    | true =>
      rw [hd] at q
      cases hl : loopM subs ρ (ls.map (·.ev)) μ [] with
      | none => simp only [hl] at q; exact q.elim
      | some z =>
        obtain ⟨acc, μ1⟩ := z
        simp only [hl] at q
        cases hz : decide (acc.length ≤ szMax) with
        | false => rw [hz] at q; exact q.elim
        | true =>
          rw [hz] at q
          exact ⟨ρ, α, μ, fs, L, α0, H0, acc, μ1, e, s, slot, lk, x0, n0, of_decide_eq_true hd, hl, of_decide_eq_true hz, fun σ' α' H' x s' e' => ⟨_, α', _, e', s', GotS.ext x q⟩⟩
end
end Sh
set_option maxRecDepth 100000
set_option maxHeartbeats 4000000
/-! Sh: dicts made, dicts asked. -/
namespace Sh
open PySem PySem.Spec PyProof.Rows L2

/-! ### {} and {k: v, ..} -/
def eDict0 : Ev D := fun _ μ => Res.ofO (some (.ref μ.length, μ ++ [Cell.fd []]))
def pairsE : List (Ev D × Ev D) → Ev (List (P × P))
  | [] => fun _ μ => .ok [] μ
  | p :: r => fun ρ μ => (p.1 ρ μ).bind fun dk μ1 => (p.2 ρ μ1).bind fun dv μ2 => (pairsE r ρ μ2).bind fun ps μ3 => match dk, dv with
    | .p k, .p v => match keyOf k with
      | some _ => .ok ((k, v) :: ps) μ3
      | none => .bad
    | _, _ => .bad
def mergeD (kvs more : List (P × P)) : List (P × P) := more.foldl (fun acc kv => putD kv.1 kv.2 acc) kvs
def eDisp (es : List (Ev D × Ev D)) : Ev D := fun ρ μ => (pairsE es ρ μ).bind fun ps μ1 => if ps.length ≤ 15 then .ok (.ref μ1.length) (μ1 ++ [Cell.fd (mergeD [] ps)]) else .bad
/-- pairs of values as they come -/
def VRep (K : PySem.W.Frag) (H : Hp) : List (P × P) → List (V × V) → Prop := Paired fun p q => (∃ k, keyOf p.1 = some k ∧ q.1 = kV k) ∧ RepP K H p.2 q.2
theorem VRep.kvs {K : PySem.W.Frag} {H : Hp} {ps : List (P × P)} {vs : List (V × V)} (h : VRep K H ps vs) : ∃ kvs : List (Key × V), vs = kvs.map (fun kv => (kV kv.1, kv.2)) ∧ KRep keyOf K H ps kvs := by
  induction h with
  | nil => exact ⟨[], rfl, .nil⟩
  | @cons p q ps vs h t ih =>
    obtain ⟨⟨k, h1, h2⟩, r⟩ := h
    obtain ⟨kvs, e, rr⟩ := ih
    obtain ⟨q1, q2⟩ := q
    dsimp only at h2
    subst h2
    exact ⟨(k, q2) :: kvs, by rw [List.map_cons, e], .cons ⟨h1, r⟩ rr⟩
theorem KRep.merge {K : PySem.W.Frag} {H : Hp} {ps : List (P × P)} {qs : List (Key × V)} (h2 : KRep keyOf K H ps qs) : ∀ {kvs : List (P × P)} {ks : List (Key × V)}, KRep keyOf K H kvs ks → KRep keyOf K H (mergeD kvs ps) (mergeK ks qs) := by
  induction h2 with
  | nil => intro _ _ h; exact h
  | cons r t ih => intro _ _ h; exact ih (KRep.put h r.1 r.2)
theorem KRep.mono0 {κ : Type} {f : P → Option κ} {K : PySem.W.Frag} {H H' : Hp} (m : ∀ a vs, SqT K H a vs → SqT K H' a vs) {l : List (P × P)} {l' : List (κ × V)} (r : KRep f K H l l') : KRep f K H' l l' := Paired.mapP r fun p q z => ⟨z.1, z.2.mono m⟩
section
variable {X : Cx} {W : WX} {pos : Pos}
theorem pe_d0 : PE X (.Dict [] [] pos) (tE (gx X) W eDict0) := pe_dnewK.weak fun σ H Q ⟨ρ, α, μ, e, st, g⟩ => GotO.push (c := .fd []) st (fun p np => ⟨[], upd_same, .nil⟩) (Got.toO (r := some (D.ref μ.length, μ ++ [Cell.fd []])) g)
abbrev RV (G : Gx) : List Addr → Hp → List (P × P) → List (V × V) → Prop := fun _ H ps vs => VRep G.K H ps vs
theorem pairs_gen {σ : L2.St} : ∀ {es : List (Ev D × Ev D)} {ρ : Env} {α : List Addr} {H : Hp} {μ : Store} {Q : List (V × V) → Hp → Prop}, EnvOk (gx X) α H ρ σ → StOk (gx X) α H μ → Got (gx X) W σ (RV (gx X)) α H (pairsE es ρ μ) Q →
    tPairs (es.map fun p => (tE (gx X) W p.1, tE (gx X) W p.2)) σ H Q
  | [], ρ, α, H, μ, Q, e, st, g => g [] α H (Ext.refl _ _) st .nil
  | p :: es, ρ, α, H, μ, Q, e, st, g => ⟨ρ, α, μ, e, st, g.bind fun dk μ1 v α1 H1 x1 st1 r1 g1 => ⟨ρ, α1, μ1, e.ext st x1, st1, g1.bind fun dv μ2 u α2 H2 x2 st2 r2 g2 =>
      pairs_gen ((e.ext st x1).ext st1 x2) st2 (g2.bind fun ps μ3 vs α3 H3 x3 st3 r3 g3 => by
        split at g3
        · rename_i k w
          split at g3
          · rename_i k' hk
            cases r1 with
            | p r1 => cases r2 with
              | p r2 =>
                exact g3 _ α3 H3 (Ext.refl _ _) st3 (.cons ⟨⟨k', hk, rep_key hk r1⟩, st2.repP x3 r2⟩ r3)
          · exact g3.elim
        · exact g3.elim)⟩⟩
theorem disp_of {es : List (Ev D × Ev D)} : ∀ σ H Q, tE (gx X) W (eDisp es) σ H Q → tDisp (es.map fun p => (tE (gx X) W p.1, tE (gx X) W p.2)) σ H Q := by
  rintro σ H Q ⟨ρ, α, μ, e, st, g⟩ p np
  have x1 : Ext α H α (upd H p (.dK [])) := Ext.fresh np
  have a1 : Aside α (upd H p (.dK [])) p (.dK []) := ⟨out_of st np, upd_same, rfl, by intro q u z; cases z⟩
  refine pairs_gen (e.ext st x1) (st.fresh np) ?_
  unfold eDisp at g
  cases hr : pairsE es ρ μ with
  | bad => rw [hr] at g; exact g
  | exc n d μ1 => rw [hr] at g; exact Got.ext x1 g
  | ok ps μ1 =>
    rw [hr] at g
    intro vs α2 H2 x2 st2 r2
    have a2 := a1.ext x2 (by intro z w; cases w)
    obtain ⟨kvs, ek, rk⟩ := VRep.kvs r2
    change Got (gx X) W σ (Rep (gx X)) α H (if ps.length ≤ 15 then _ else _) Q at g
    split at g
    · rename_i hz
      refine ⟨a2.at_, kvs, ek, by rw [Paired.len rk]; exact hz, ?_⟩
      have a3 : Aside α2 (upd H2 p (.dK (mergeK [] kvs))) p (.dK (mergeK [] kvs)) := a2.set rfl (by intro q u z; cases z)
      have x3 : Ext α H (α2 ++ [p]) (upd H2 p (.dK (mergeK [] kvs))) := (Ext.aside (x1.trans x2) np a2.out).into np
      refine g (.ref p) _ _ x3 ((a2.st st2).into a2.out ⟨_, upd_same, ?_⟩) (.ref (by rw [← st2.len]; exact getLast_app _ _))
      exact KRep.mono0 (fun _ _ q => sqT_side a2.at_ a2.nt a2.nf q) (KRep.merge rk .nil)
    · exact g.elim
theorem pps_n : PPs X pos [] [] (([] : List (Ev D × Ev D)).map fun p => (tE (gx X) W p.1, tE (gx X) W p.2)) := pps_nil
def dispOf (f : Expr → Ev D) : List (Option Expr) → List Expr → Option (List (Ev D × Ev D))
  | [], [] => some []
  | some k :: ks, v :: vs => match dispOf f ks vs with
    | some r => some ((f k, f v) :: r)
    | none => none
  | _, _ => none
theorem dispOf_ok {f : Expr → Ev D} (hf : ∀ a, PE X a (tE (gx X) W (f a))) : ∀ {ks : List (Option Expr)} {vs : List Expr} {es : List (Ev D × Ev D)}, dispOf f ks vs = some es →
    PPs X pos ks vs (es.map fun p => (tE (gx X) W p.1, tE (gx X) W p.2)) ∧ ks.all (·.isSome) = true ∧ ks.length = vs.length
  | [], [], es, h => by cases h; exact ⟨pps_nil, rfl, rfl⟩
  | some k :: ks, v :: vs, es, h => by
    unfold dispOf at h
    split at h
    · rename_i r hr
      cases h
      obtain ⟨h1, h2, h3⟩ := dispOf_ok hf hr
      exact ⟨pps_cons (hf k) (hf v) h1, by rw [List.all_cons, h2]; rfl, congrArg Nat.succ h3⟩
    · cases h
  | none :: ks, _, _, h => by cases h
  | some _ :: _, [], _, h => by cases h
  | [], _ :: _, _, h => by cases h
def trDict (f : Expr → Ev D) (ks : List (Option Expr)) (vs : List Expr) : Ev D := match ks, vs with
  | [], [] => eDict0
  | k :: ks, vs => match dispOf f (k :: ks) vs with
    | some es => if (k :: ks).length ≤ 15 then eDisp es else eBad
    | none => eBad
  | _, _ => eBad
theorem trDict_ok {f : Expr → Ev D} (hf : ∀ a, PE X a (tE (gx X) W (f a))) (ks : List (Option Expr)) (vs : List Expr) : PE X (.Dict ks vs pos) (tE (gx X) W (trDict f ks vs)) := by
  unfold trDict
  split
  · exact pe_d0
  · rename_i k ks vs
    split
    · rename_i es h
      split
      · rename_i hz
        obtain ⟨h1, h2, h3⟩ := dispOf_ok (pos := pos) hf h
        exact (pe_disp h1 h2 h3 (by intro z; cases z) hz).weak disp_of
      · exact pe_bad
    · exact pe_bad
  · exact pe_bad

/-! ### d.get(k), d.get(k, x) -/
def opGet : OpM := fun o xs μ => match o, xs with
  | .ref n, [.p k] => match rdD μ n, keyOf k with
    | some kvs, some _ => match valD k kvs with
      | some x => some (.p x, μ)
      | none => some (.p .non, μ)
    | _, _ => none
  | .ref n, [.p k, d] => match rdD μ n, keyOf k with
    | some kvs, some _ => match valD k kvs with
      | some x => some (.p x, μ)
      | none => some (d, μ)
    | _, _ => none
  | _, _ => none
theorem mt_getS (hu : X.A.units + 1 < cLine) : MtR X "dict.get" (rM (gx X) opGet) := by
  rintro pins s σ H x xs v us Q I rx rxs ⟨α, μ, d, ds, st, r, rr, g⟩
  unfold opGet at g
  split at g
  · rename_i n k
    obtain ⟨a, rfl, ha⟩ := rep_ref r
    cases rx
    split at g
    · rename_i kvs k' hd hk
      obtain ⟨ks, h1, h2⟩ := rdD_of st ha hd
      cases rr with
      | cons r1 rr =>
        cases rr
        cases r1 with
        | p r1 =>
          obtain rfl := rep_key hk r1
          cases rxs with
          | cons q1 q2 =>
            cases q2
            refine d_get1 hu I (.inl ⟨ks, k', h1, rfl, rfl⟩) q1 fun w' s' I' rw' => ⟨_, H, I', rw', ?_⟩
            rcases h2.val hk with ⟨x', w, e1, e2, e3⟩ | ⟨e1, e2⟩
            · rw [e1] at g
              rw [e2]
              exact g.here st (.p e3)
            · rw [e1] at g
              rw [e2]
              exact g.here st (.p .non)
    · exact g.elim
  · rename_i n k d
    obtain ⟨a, rfl, ha⟩ := rep_ref r
    cases rx
    split at g
    · rename_i kvs k' hd hk
      obtain ⟨ks, h1, h2⟩ := rdD_of st ha hd
      cases rr with
      | cons r1 rr =>
        cases rr with
        | cons r3 rr =>
          cases rr
          cases r1 with
          | p r1 =>
            obtain rfl := rep_key hk r1
            cases rxs with
            | cons q1 q2 =>
              cases q2 with
              | cons q3 q2 =>
                cases q2
                refine d_get2 hu I (.inl ⟨ks, k', h1, rfl, rfl⟩) q1 q3 fun w' s' I' rw' => ⟨_, H, I', rw', ?_⟩
                rcases h2.val hk with ⟨x', w, e1, e2, e3⟩ | ⟨e1, e2⟩
                · rw [e1] at g
                  rw [e2]
                  exact g.here st (.p e3)
                · rw [e1] at g
                  rw [e2]
                  exact g.here st r3
    · exact g.elim
  · exact g.elim
end
end Sh
set_option maxRecDepth 100000
set_option maxHeartbeats 4000000
/-! Sh: o[i] op= e; joined texts; a text's place in a text. -/
namespace Sh
open PySem PySem.Spec PyProof.Rows L2

/-! ### o[i] by values -/
def opIxR : Op2
  | .ref n, .p k, μ => match rdL μ n with
    | some ds => match k with
      | .int i => match ixN ds.length i with
        | some j => match nth ds j with
          | some x => some (x, μ)
          | none => none
        | none => none
      | _ => none
    | none => match rdD μ n, keyOf k with
      | some kvs, some _ => match valD k kvs with
        | some x => some (.p x, μ)
        | none => none
      | _, _ => none
  | _, _, _ => none
section
variable {X : Cx} {α : List Addr} {H : Hp} {μ : Store}
theorem get_list {pins : List (Addr × Obj)} {s : Shared} {σ : L2.St} {H : Hp} {p : Addr} {xs : List V} {i : Int} {z : V} {t : Tok} {Q : VK} (I : Inv X pins σ H s) (hq : SqL X.K H p xs) (he : atI xs i = some z) (q : Q z H) :
    wpAny (model X.prog X.w) X.A (getItem (.ref p) (.int i t)) (EP X pins σ Q) X.xe s := by
  obtain ⟨its, r, pl, hz⟩ := I.list hq
  obtain ⟨j, h1, h2, h3, h4, h5⟩ := atI_get he
  obtain ⟨w, ew, rw'⟩ := r.get h2
  have hl := r.length
  have hn := line63
  have fin : EP X pins σ Q w s := ⟨z, H, I, rw', q⟩
  by_cases h0 : 0 ≤ i
  · have hj : i.toNat = j := by
      rw [seqIndex_of h0 h5] at h1
      exact Option.some.inj h1
    exact wpAny_getItem_list pl.isList h0 (by omega) (by rw [hj]; simpa using ew) fin
  · have hj : (i + (its.toArray.size : Int)).toNat = j := by
      rw [seqIndex_neg (by omega) h4] at h1
      rw [List.size_toArray, ← hl]
      exact Option.some.inj h1
    exact wpAny_getItem_list_neg pl.isList (by omega) (by rw [List.size_toArray] <;> omega) (by omega) (by rw [hj]; simpa using ew) fin
theorem get_S (hu : X.A.units + 1 < cLine) : PGet X (r2 (gx X) opIxR) := by
  rintro pins s σ H x y v u Q I rx ry ⟨α, μ, d, e, st, r1, r2, g⟩
  unfold opIxR at g
  split at g
  · rename_i n k
    obtain ⟨a, rfl, ha⟩ := rep_ref r1
    cases rx
    split at g
    · rename_i ds hd
      obtain ⟨vs, h1, h2⟩ := rdL_of st ha hd
      split at g
      · rename_i i
        obtain rfl := rep_int r2
        obtain ⟨t, rfl⟩ := ry
        split at g
        · rename_i j hj
          try rw [nth_eq] at g
          split at g
          · rename_i x hx
            obtain ⟨w, h3, h4⟩ := h2.get hx
            exact get_list I h1 (atI_of (by rw [h2.length]; exact hj) h3) (g.here st h4)
          · exact g.elim
        · exact g.elim
      · exact g.elim
    · split at g
      · rename_i kvs k' hd hk
        obtain ⟨ks, h1, h2⟩ := rdD_of st ha hd
        split at g
        · rename_i x hx
          cases r2 with
          | p r2 =>
            obtain rfl := rep_key hk r2
            rcases h2.val hk with ⟨x', w, e1, e2, e3⟩ | ⟨e1, _⟩
            · rw [hx] at e1
              cases e1
              exact d_getItem hu I (.inl ⟨ks, k', h1, rfl, e2.symm⟩) ry fun w' s3 I3 rw' => ⟨w, H, I3, rw', g.here st (.p e3)⟩
            · rw [hx] at e1
              cases e1
        · exact g.elim
      · exact g.elim
  · exact g.elim
end

/-! ### sep.join(texts) -/
def strsP : List P → Option (List (List Nat))
  | [] => some []
  | .str s :: r => match strsP r with
    | some l => some (s :: l)
    | none => none
  | _ :: _ => none
def strsD : List D → Option (List (List Nat))
  | [] => some []
  | .p (.str s) :: r => match strsD r with
    | some l => some (s :: l)
    | none => none
  | _ :: _ => none
def joinP (a : List Nat) : List (List Nat) → List Nat
  | [] => []
  | [x] => x
  | x :: y :: r => x ++ (a ++ joinP a (y :: r))
def lensP : List (List Nat) → Nat
  | [] => 0
  | x :: r => x.length + lensP r
def opJoin : OpM := fun o xs μ => match o, xs with
  | .p (.str a), [.p (.tup ps)] => match strsP ps with
    | some l => if lensP l + l.length * a.length ≤ szMax then some (.p (.str (joinP a l)), μ) else none
    | none => none
  | .p (.str a), [.ref n] => match lstOf μ n with
    | some ds => match strsD ds with
      | some l => if lensP l + l.length * a.length ≤ szMax then some (.p (.str (joinP a l)), μ) else none
      | none => none
    | none => none
  | _, _ => none
theorem strsP_of {K : PySem.W.Frag} {H : Hp} : ∀ {ps : List P} {vs : List V} {l : List (List Nat)}, RepPs K H ps vs → strsP ps = some l → vs = (l.map stS).map V.str
  | _, _, _, .nil, h => by cases h; rfl
  | _, _, _, .cons (x := .str s) (.str _) t, h => by
    unfold strsP at h
    split at h
    · rename_i l hl
      cases h
      rw [List.map_cons, List.map_cons, ← strsP_of t hl]
    · cases h
  | _, _, _, .cons (x := .int _) _ t, h => by cases h
  | _, _, _, .cons (x := .non) _ t, h => by cases h
  | _, _, _, .cons (x := .bl _) _ t, h => by cases h
  | _, _, _, .cons (x := .tup _) _ t, h => by cases h
theorem strsD_of {G : Gx} {α : List Addr} {H : Hp} : ∀ {ps : List D} {vs : List V} {l : List (List Nat)}, Reps G α H ps vs → strsD ps = some l → vs = (l.map stS).map V.str
  | _, _, _, .nil, h => by cases h; rfl
  | _, _, _, .cons (d := .p (.str s)) (.p (.str _)) t, h => by
    unfold strsD at h
    split at h
    · rename_i l hl
      cases h
      rw [List.map_cons, List.map_cons, ← strsD_of t hl]
    · cases h
  | _, _, _, .cons (d := .p (.int _)) _ t, h => by cases h
  | _, _, _, .cons (d := .p .non) _ t, h => by cases h
  | _, _, _, .cons (d := .p (.bl _)) _ t, h => by cases h
  | _, _, _, .cons (d := .p (.tup _)) _ t, h => by cases h
  | _, _, _, .cons (d := .ref _) _ t, h => by cases h
  | _, _, _, .cons (d := .mix _) _ t, h => by cases h
  | _, _, _, .cons (d := .exc _ _) _ t, h => by cases h
  | _, _, _, .cons (d := .rol _) _ t, h => by cases h
theorem join_stS (a : List Nat) : ∀ l : List (List Nat), Txt.join (stS a) (l.map stS) = stS (joinP a l)
  | [] => by rw [TL.join_eq]; rfl
  | [x] => by rw [TL.join_eq]; rfl
  | x :: y :: r => by
    rw [TL.join_eq]
    show stS x ++ stS a ++ Str.join (stS a) ((y :: r).map stS) = _
    rw [← TL.join_eq, join_stS a (y :: r), stS_app, stS_app, List.append_assoc]
    rfl
theorem lensP_eq : ∀ l : List (List Nat), ((l.map stS).map (·.length)).sum = lensP l
  | [] => rfl
  | x :: r => by
    rw [List.map_cons, List.map_cons, List.sum_cons, lensP_eq r, stS_len]
    rfl
section
variable {X : Cx} {α : List Addr} {H : Hp} {μ : Store}
theorem mt_joinS : MtR X "str.join" (rM (gx X) opJoin) := by
  rintro pins s σ H x xs v us Q I rx rxs ⟨α, μ, d, ds, st, r, rr, g⟩
  unfold opJoin at g
  split at g
  · rename_i a ps
    obtain rfl := rep_str r
    split at g
    · rename_i l hl
      split at g
      · rename_i hz
        cases rr with
        | cons r1 rr =>
          cases rr
          obtain ⟨p, vs, rfl, h1, h2⟩ := rep_tup r1
          have e := strsP_of h2 hl
          subst e
          exact mt_join pins s σ H _ _ v us Q I rx rxs ⟨stS a, p, l.map stS, rfl, rfl, .inr h1, by rw [lensP_eq, List.length_map, stS_len]; exact hz, by rw [join_stS]; exact g.here st (.p (.str _))⟩
      · exact g.elim
    · exact g.elim
  · rename_i a n
    obtain rfl := rep_str r
    split at g
    · rename_i ws hw
      split at g
      · rename_i l hl
        split at g
        · rename_i hz
          cases rr with
          | cons r1 rr =>
            cases rr
            obtain ⟨p, rfl, ha⟩ := rep_ref r1
            obtain ⟨vs, h1, h2⟩ := lst_of st ha hw
            have e := strsD_of h2 hl
            subst e
            exact mt_join pins s σ H _ _ v us Q I rx rxs ⟨stS a, p, l.map stS, rfl, rfl, .inl (.inl (.inl h1)), by rw [lensP_eq, List.length_map, stS_len]; exact hz, by rw [join_stS]; exact g.here st (.p (.str _))⟩
        · exact g.elim
      · exact g.elim
    · exact g.elim
  · exact g.elim
end

/-! ### text.index(sign) -/
def find1 (c : Nat) : List Nat → Option Nat
  | [] => none
  | x :: r => match Nat.beq x c with
    | true => some 0
    | false => match find1 c r with
      | some i => some (i + 1)
      | none => none
def opSIndex : OpM := fun o xs μ => match o, xs with
  | .p (.str s), [.p (.str [c])] => match find1 c s with
    | some i => some (.p (.int i), μ)
    | none => none
  | _, _ => none
theorem find1_ok {c : Nat} : ∀ {s : List Nat} {i : Nat}, find1 c s = some i → s[i]? = some c ∧ ∀ k, k < i → s[k]? ≠ some c
  | x :: r, i, h => by
    unfold find1 at h
    split at h
    · rename_i e
      cases h
      have := Nat.eq_of_beq_eq_true e
      subst this
      exact ⟨rfl, fun k hk => absurd hk (Nat.not_lt_zero _)⟩
    · rename_i e
      split at h
      · rename_i j hj
        cases h
        obtain ⟨h1, h2⟩ := find1_ok hj
        refine ⟨h1, fun k hk => ?_⟩
        cases k with
        | zero =>
          intro z
          have e2 : x = c := Option.some.inj z
          subst e2
          rw [Nat.beq_refl] at e
          cases e
        | succ k => exact h2 k (by omega)
      · cases h
theorem at_sign {s : List Nat} {c i : Nat} : PySem.StrLaws.At (stS s) (stS [c]) (stS s).length i ↔ s[i]? = some c := by
  unfold PySem.StrLaws.At
  have h1 : (stS [c]).length = 1 := rfl
  rw [h1, stS_len]
  have h2 : Builtin.Str.subAt (stS s) (stS [c]) i = ((stS s).cps.extract i (i + 1) == (stS [c]).cps) := rfl
  rw [h2]
  have h3 : (stS s).cps = s.toArray := rfl
  have h4 : (stS [c]).cps = #[c] := rfl
  rw [h3, h4]
  constructor
  · rintro ⟨a, b⟩
    have b' := eq_of_beq b
    have hi : i < s.length := by omega
    have e : (s.toArray.extract i (i + 1))[0]? = some s[i] := by
      rw [Array.getElem?_extract]
      simp [hi]
      omega
    rw [b'] at e
    rw [List.getElem?_eq_getElem hi, ← e]
    rfl
  · intro h
    obtain ⟨hi, e⟩ := List.getElem?_eq_some_iff.mp h
    refine ⟨hi, ?_⟩
    rw [beq_iff_eq]
    apply Array.ext
    · simp
      omega
    · intro j h5 h6
      have : j = 0 := by simp at h6; exact h6
      subst this
      simp [e]
theorem occ_sign {s : List Nat} {c i : Nat} (h : find1 c s = some i) : ∃ rest, Builtin.Str.occurrences (stS s) (stS [c]) 0 (stS s).length 1 = i :: rest := by
  obtain ⟨h1, h2⟩ := find1_ok h
  rcases PySem.StrLaws.occ_head (stS s) (stS [c]) 1 (Nat.le_refl _) with ⟨_, n⟩ | ⟨j, r, e, a, n⟩
  · exact absurd (at_sign.mpr h1) (n i)
  · have : j = i := by
      rcases Nat.lt_trichotomy j i with k | k | k
      · exact absurd (at_sign.mp a) (h2 j k)
      · exact k
      · exact absurd (at_sign.mpr h1) (n i k)
    subst this
    exact ⟨r, e⟩
theorem mt_sindexS {X : Cx} : MtR X "str.index" (rM (gx X) opSIndex) := by
  rintro pins s σ H x xs v us Q I rx rxs ⟨α, μ, d, ds, st, r, rr, g⟩
  unfold opSIndex at g
  split at g
  · rename_i a c
    obtain rfl := rep_str r
    split at g
    · rename_i i hi
      cases rr with
      | cons r1 rr =>
        cases rr
        obtain rfl := rep_str r1
        obtain ⟨rest, e⟩ := occ_sign hi
        exact mt_sindex pins s σ H _ _ v us Q I rx rxs ⟨stS a, stS [c], i, rest, rfl, rfl, e, g.here st (.p (.int _))⟩
    · exact g.elim
  · exact g.elim
end Sh
set_option maxRecDepth 100000
set_option maxHeartbeats 4000000
/-! Sh: dict comprehensions. -/
namespace Sh
open PySem PySem.Spec PyProof.Rows L2

def loopK (pt : Pat) (c : Ev Bool) (ek ev : Ev D) (ρ : Env) : Nat → IterD → Store → List (P × P) → Option (List (P × P) × Store)
  | 0, _, _, _ => none
  | n + 1, it, μ, acc => match it.step μ with
    | none => none
    | some none => some (acc, μ)
    | some (some (d, it')) => match bindP pt d ρ with
      | none => none
      | some ρ1 => match c ρ1 μ with
        | .ok true μ1 => match ek ρ1 μ1 with
          | .ok (.p k) μ2 => match keyOf k with
            | some _ => match ev ρ1 μ2 with
              | .ok (.p v) μ3 => loopK pt c ek ev ρ n it' μ3 (putD k v acc)
              | _ => none
            | none => none
          | _ => none
        | .ok false μ1 => loopK pt c ek ev ρ n it' μ1 acc
        | _ => none
theorem loopK_len {pt : Pat} {c : Ev Bool} {ek ev : Ev D} {ρ : Env} : ∀ {n : Nat} {it : IterD} {μ μ' : Store} {acc res : List (P × P)}, loopK pt c ek ev ρ n it μ acc = some (res, μ') → acc.length ≤ res.length
  | 0, _, _, _, _, _, h => by cases h
  | n + 1, it, μ, μ', acc, res, h => by
    unfold loopK at h
    split at h
    · cases h
    · cases h; exact Nat.le_refl _
    · split at h
      · cases h
      · split at h
        · split at h
          · split at h
            · split at h
              · exact Nat.le_trans (putD_le _ _ _) (loopK_len h)
              · cases h
            · cases h
          · cases h
        · exact loopK_len h
        · cases h
def endK (lk : Option Nat) (o : Option (List (P × P) × Store)) : Res D := match o with
  | some (acc, μ) => match ulS μ lk with
    | some μ1 => if acc.length < szMax then .ok (.ref μ1.length) (μ1 ++ [Cell.fd acc]) else .bad
    | none => .bad
  | none => .bad
def eDc (it : Ev Src) (pt : Pat) (c : Ev Bool) (ek ev : Ev D) (vs : List Nat) : Ev D := fun ρ μ => (it ρ μ).bind fun z μ1 => match lkS μ1 z.2 with
  | some μ2 => endK z.2 (loopK pt c ek ev (wipeE ρ vs) (z.1.cnt μ2) z.1 μ2 [])
  | none => .bad
section
variable {X : Cx} {W : WX} {ei : Ev Src} {pt : Pat} {c : Ev Bool} {ek ev : Ev D} {vs : List Nat} {tg iter kx vx : Expr} {ifs : List Expr} {scope : Scope} {own : List (Str × Nat)} {pos : Pos}
theorem no_tblK {xs : List (Key × V)} : notTbl (.dK xs) := by intro ps z; cases z
theorem no_frzK {xs : List (Key × V)} : ∀ q u, HO.dK xs ≠ .frz q u := by intro q u z; cases z
theorem KRep.ext1 {G : Gx} {α α' : List Addr} {H H' : Hp} (x : Ext1 α H α' H') {l : List (P × P)} {l' : List (Key × V)} (r : KRep keyOf G.K H l l') : KRep keyOf G.K H' l l' := KRep.mono0 (fun _ _ q => x.sq q) r
/-- the loop: the dict grows aside -/
theorem dc_gen {σ : L2.St} {ρ : Env} {α0 α1 α2 : List Addr} {H0 H1 H2 : Hp} {μ2 μe : Store} {it : IterD} {J : It} {m : Nat} {acc0 res : List (P × P)} {zs0 : List (Key × V)} {Dl : Addr} {Q : Hp → Prop} (ir : ItRel (gx X) α1 H1 it J) (x01 : Ext α0 H0 α2 H2) (hD : H0 Dl = none) (x12 : Ext1 α1 H1 α2 H2)
    (as0 : Aside α2 H2 Dl (.dK zs0)) (e : EnvOk (gx X) α2 H2 ρ (wipe σ vs)) (st : StOk (gx X) α2 H2 μ2) (r0 : KRep keyOf X.K H2 acc0 zs0) (hl : loopK pt c ek ev ρ m it μ2 acc0 = some (res, μe)) (hz : res.length < szMax)
    (q : ∀ α H zs, Ext α0 H0 α H → Ext1 α2 H2 α H → Aside α H Dl (.dK zs) → StOk (gx X) α H μe → KRep keyOf X.K H res zs → Q H) :
    ∃ Wv : Nat → Nat → Hp → Prop, (∃ m, Wv 0 m H2) ∧ ∀ i m H, Wv i m H → (J.stop i H ∧ Q H) ∨ (J.go i H ∧ ∃ Nx : Hp → Prop, (∀ H', Nx H' → ∃ m', m' < m ∧ Wv (i + 1) m' H') ∧
      ∀ x H', J.yld i H x H' → tGw (gx X) vs pt x (wipe σ vs) H' fun σ2 H2 => wipe σ2 vs = wipe σ vs ∧ tT (gx X) WNo c σ2 H2 fun b H3 =>
        if b = true then tE (gx X) WNo ek σ2 H3 fun y H4 => tE (gx X) WNo ev σ2 H4 fun z H5 => ∃ kvs k, y = kV k ∧ H5 Dl = some (.dK kvs) ∧ kvs.length < sizeLine ∧ Nx (upd H5 Dl (.dK (putK kvs k z))) else Nx H3) := by
  obtain ⟨inv, i0, stp⟩ := ir
  refine ⟨fun i m H => ∃ it α μ acc zs, inv i it ∧ Ext α0 H0 α H ∧ Ext1 α2 H2 α H ∧ Aside α H Dl (.dK zs) ∧ EnvOk (gx X) α H ρ (wipe σ vs) ∧ StOk (gx X) α H μ ∧ KRep keyOf X.K H acc zs ∧ loopK pt c ek ev ρ m it μ acc = some (res, μe),
    ⟨m, it, α2, μ2, acc0, zs0, i0, x01, Ext1.refl _ _, as0, e, st, r0, hl⟩, ?_⟩
  rintro i m H ⟨it2, α3, μ3, acc, zs, i2, x2, y2, as2, e2, st2, r2, l2⟩
  have sp := stp i it2 i2 α3 H μ3 (x12.trans y2) st2
  cases m with
  | zero => cases l2
  | succ m =>
    unfold loopK at l2
    cases hst : it2.step μ3 with
    | none => rw [hst] at l2; cases l2
    | some o =>
      rw [hst] at l2 sp
      cases o with
      | none =>
        cases l2
        exact .inl ⟨sp, q α3 H zs x2 y2 as2 st2 r2⟩
      | some z =>
        obtain ⟨d, it3⟩ := z
        obtain ⟨go, i3, yl⟩ := sp
        refine .inr ⟨go, _, fun H' z => ⟨m, Nat.lt_succ_self m, z⟩, fun v H3 y => ?_⟩
        obtain ⟨x3, st3, r3⟩ := yl v H3 y
        dsimp only at l2
        split at l2
        · cases l2
        · rename_i ρ1 hb
          refine ⟨d, ρ, ρ1, α3, μ3, e2.ext st2 x3, st3, r3, hb, fun σ2 e4 w4 => ⟨by rw [w4, wipe_wipe], ?_⟩⟩
          have as4 := as2.ext x3 no_tblK
          have z4 := (x3.one st2)
          refine ⟨ρ1, α3, μ3, e4, st3, ?_⟩
          cases hc : c ρ1 μ3 with
          | exc n d2 μ5 => rw [hc] at l2; cases l2
          | bad => rw [hc] at l2; cases l2
          | ok b μ5 =>
            rw [hc] at l2
            intro b' α5 H5 x5 st5 rb
            cases rb
            have as5 := as4.ext x5 no_tblK
            have z5 := z4.trans (x5.one st3)
            cases b with
            | false =>
              rw [if_neg (by decide)]
              exact ⟨it3, α5, μ5, acc, zs, i3, (x2.trans x3).trans x5, y2.trans z5, as5, (e2.ext st2 x3).ext st3 x5, st5, KRep.ext1 (G := gx X) z5 r2, l2⟩
            | true =>
              rw [if_pos rfl]
              refine ⟨ρ1, α5, μ5, e4.ext st3 x5, st5, ?_⟩
              dsimp only at l2
              cases he : ek ρ1 μ5 with
              | exc n d2 μ6 => rw [he] at l2; cases l2
              | bad => rw [he] at l2; cases l2
              | ok y μ6 =>
                rw [he] at l2
                intro w α6 H6 x6 st6 r6
                have as6 := as5.ext x6 no_tblK
                have z6 := z5.trans (x6.one st5)
                cases y with
                | p k =>
                  dsimp only at l2
                  cases hk : keyOf k with
                  | none => rw [hk] at l2; cases l2
                  | some k' =>
                    rw [hk] at l2
                    dsimp only at l2
                    refine ⟨ρ1, α6, μ6, (e4.ext st3 x5).ext st5 x6, st6, ?_⟩
                    cases hv : ev ρ1 μ6 with
                    | exc n d2 μ7 => rw [hv] at l2; cases l2
                    | bad => rw [hv] at l2; cases l2
                    | ok y2' μ7 =>
                      rw [hv] at l2
                      intro w2 α7 H7 x7 st7 r7
                      have as7 := as6.ext x7 no_tblK
                      have z7 := z6.trans (x7.one st6)
                      cases y2' with
                      | p pv =>
                        dsimp only at l2
                        cases r6 with
                        | p r6 => cases r7 with
                          | p r7 =>
                            have ekey := rep_key hk r6
                            have hln : zs.length < sizeLine := by
                              have h1 := Nat.le_trans (putD_le k pv acc) (loopK_len l2)
                              rw [Paired.len r2, sizeLine_eq]
                              have h3 : szMax = 16777216 := rfl
                              omega
                            refine ⟨zs, k', ekey, as7.at_, hln, it3, α7, μ7, putD k pv acc, putK zs k' w2, i3, Ext.aside ((((x2.trans x3).trans x5).trans x6).trans x7) hD as7.out, (y2.trans z7).trans as7.one, as7.set rfl no_frzK, as7.env ((((e2.ext st2 x3).ext st3 x5).ext st5 x6).ext st6 x7), as7.st st7, ?_, l2⟩
                            exact KRep.mono0 (fun _ _ q => sqT_side as7.at_ as7.nt as7.nf q) (KRep.put (KRep.ext1 (G := gx X) z7 r2) hk r7)
                      | ref n => cases l2
                      | mix n => cases l2
                      | exc n a => cases l2
                      | rol n => cases l2
                | ref n => cases l2
                | mix n => cases l2
                | exc n a => cases l2
                | rol n => cases l2
/-- the loop, from the state under the lock -/
theorem dc_loop {σ : L2.St} {ρ : Env} {α1 : List Addr} {H1 : Hp} {μ1 μe : Store} {it : IterD} {J : It} {m : Nat} {res : List (P × P)} {Q : Addr → Hp → Prop} (ir : ItRel (gx X) α1 H1 it J) (e : EnvOk (gx X) α1 H1 ρ (wipe σ vs)) (st : StOk (gx X) α1 H1 μ1)
    (hl : loopK pt c ek ev ρ m it μ1 [] = some (res, μe)) (hz : res.length < szMax)
    (q : ∀ Dl α H zs, H1 Dl = none → Ext α1 H1 α H → Aside α H Dl (.dK zs) → StOk (gx X) α H μe → KRep keyOf X.K H res zs → Q Dl H) :
    ∀ Dl, H1 Dl = none → ∃ Wv : Nat → Nat → Hp → Prop, (∃ m, Wv 0 m (upd H1 Dl (.dK []))) ∧ ∀ i m H, Wv i m H → (J.stop i H ∧ Q Dl H) ∨ (J.go i H ∧ ∃ Nx : Hp → Prop, (∀ H', Nx H' → ∃ m', m' < m ∧ Wv (i + 1) m' H') ∧
      ∀ x H', J.yld i H x H' → tGw (gx X) vs pt x (wipe σ vs) H' fun σ2 H2 => wipe σ2 vs = wipe σ vs ∧ tT (gx X) WNo c σ2 H2 fun b H3 =>
        if b = true then tE (gx X) WNo ek σ2 H3 fun y H4 => tE (gx X) WNo ev σ2 H4 fun z H5 => ∃ kvs k, y = kV k ∧ H5 Dl = some (.dK kvs) ∧ kvs.length < sizeLine ∧ Nx (upd H5 Dl (.dK (putK kvs k z))) else Nx H3) := fun Dl hD =>
  dc_gen ir (Ext.fresh hD) hD ((Ext.fresh hD).one st) ⟨out_of st hD, upd_same, rfl, no_frzK⟩ (e.ext st (Ext.fresh hD)) (st.fresh hD) .nil hl hz fun α H zs x _ as st' r => q Dl α H zs hD x as st' r
theorem dc_fin {G : Gx} {σ : L2.St} {α α1 : List Addr} {H H1 : Hp} {μ : Store} {res : List (P × P)} {Dl : Addr} {zs : List (Key × V)} {Q : VK} (g : Got G W σ (Rep G) α1 H1 (if res.length < szMax then .ok (.ref μ.length) (μ ++ [Cell.fd res]) else .bad) Q) (x : Ext α1 H1 α H)
    (np : H1 Dl = none) (out : Dl ∉ α) (at_ : H Dl = some (.dK zs)) (st : StOk G α H μ) (r : KRep keyOf G.K H res zs) : Q (.ref Dl) H := by
  split at g
  · exact g (.ref Dl) (α ++ [Dl]) H (x.into np) (st.into out ⟨zs, at_, r⟩) (.ref (by rw [← st.len]; exact getLast_app _ _))
  · exact g.elim
theorem pe_db (hc : X.calm = true) (hN : X.N.Nodup) : ∀ σ H Q, tE (gx X) W (eDc ei pt c ek ev (own.map (·.2))) σ H Q → tDc (tI X W ei) (tGw (gx X) (own.map (·.2)) pt) (tT (gx X) WNo c) (tE (gx X) WNo ek) (tE (gx X) WNo ev) (own.map (·.2)) σ H (unQ X Q) := fun σ H Q ⟨ρ, α, μ, e, st, g⟩ => ⟨ρ, α, μ, e, st, Got.bindI g fun z μ1 α1 H1 x st1 g1 => by
  obtain ⟨it, lk⟩ := z
  split at g1
  · rename_i μ2 hl
    cases hlo : loopK pt c ek ev (wipeE ρ (own.map (·.2))) (it.cnt μ2) it μ2 [] with
    | none => dsimp only at g1; rw [hlo] at g1; exact g1.elim
    | some w =>
      obtain ⟨res, μe⟩ := w
      dsimp only at g1 hl
      rw [hlo] at g1
      unfold endK at g1
      dsimp only at g1
      split at g1
      · rename_i μ4 hu
        have hz : res.length < szMax := by
          split at g1
          · assumption
          · exact g1.elim
        have e1 := (e.ext st x).wipe (own.map (·.2))
        cases lk with
        | none =>
          cases hl
          cases hu
          intro J ir
          exact dc_loop (Q := fun Dl H => unQ X Q (.ref Dl) H) ir e1 st1 hlo hz fun Dl α2 H2 zs np x2 as2 st2 r2 => .inl (dc_fin g1 x2 np as2.out as2.at_ st2 r2)
        | some n =>
          intro J d od u ha hH mu hn ir
          obtain ⟨d2, u2, h1, h2, h3, h4, h5⟩ := lock_ok st1 hl
          have e2 : d2 = d := by
            rw [ha] at h1
            cases h1
            rfl
          subst e2
          rw [hH] at h2
          cases h2
          refine dc_loop (Q := fun Dl H => unQ X Q (.ref Dl) H) ir (e1.ext0 st1 (Ext0.write st1 (List.mem_of_getElem? ha))) (h5 od) hlo hz fun Dl α2 H2 zs np x2 as2 st2 r2 => ?_
          obtain ⟨od2, u3, k1, k2, k3, k4⟩ := unlock_at ha hH h4 x2 st2 hu
          have nd : Dl ≠ d2 := fun z => by
            rw [z, upd_same] at np
            cases np
          exact .inr ⟨d2, od2, u3, k1, hn, dc_fin g1 k2 (by rw [upd_ne nd] at np; exact np) as2.out (by rw [upd_ne nd]; exact as2.at_) k3 (KRep.mono0 (fun _ _ q => st2.sqT0 k4 q) r2)⟩
      · exact g1.elim
  · exact g1.elim⟩
theorem pe_dct (hc : X.calm = true) (hN : X.N.Nodup) (hi : PI X tg iter (tI X W ei)) (ok : BlkOk X.N X.env.scope scope own)
    (hg : ∀ (s : Shared) (H : Hp) (C : Addr) (cl : List (Str × Addr)) (fp : List Addr), PG (X.blk s H scope (compEnvC scope cl C X.env) fp) tg (tGw (gx X) (own.map (·.2)) pt))
    (ht : ∀ (s : Shared) (H : Hp) (C : Addr) (cl : List (Str × Addr)) (fp : List Addr), PTs (X.blk s H scope (compEnvC scope cl C X.env) fp) ifs (tT (gx X) WNo c))
    (hk : ∀ (s : Shared) (H : Hp) (C : Addr) (cl : List (Str × Addr)) (fp : List Addr), PE (X.blk s H scope (compEnvC scope cl C X.env) fp) kx (tE (gx X) WNo ek))
    (he : ∀ (s : Shared) (H : Hp) (C : Addr) (cl : List (Str × Addr)) (fp : List Addr), PE (X.blk s H scope (compEnvC scope cl C X.env) fp) vx (tE (gx X) WNo ev)) (hs : ∀ x, foldedSetIterable iter X.env x = pure x) :
    PE X (.DictComp kx vx [⟨tg, iter, ifs, 0⟩] scope pos) (tE (gx X) W (eDc ei pt c ek ev (own.map (·.2)))) := (pe_unl (pe_dc hc hN hi ok hg ht hk he hs)).weak (pe_db hc hN)
/-- y = {k: v ..} with the comprehension's own exchange of the name -/
theorem ps_setD {i : Nat} {y : Str} {py spos : Pos} {wi : TI} {g : TG} {tt : TT} {tk tv : TE} (hc : X.calm = true) (hN : X.N.Nodup) (hy : X.N[i]? = some y) (hyl : X.env.scope.names.lookup y = some .local)
    (hsw : swapsWith (.DictComp kx vx [⟨tg, iter, ifs, 0⟩] scope pos) (some (.Name y py)) spos.line X.env = pure true) (hi : PI X tg iter wi) (ok : BlkOk X.N X.env.scope scope own)
    (kg : ∀ (u : Shared) (Hh : Hp) (A : Addr) (cl : List (Str × Addr)) (fp : List Addr), PG (X.blk u Hh scope (compEnvC scope cl A X.env) fp) tg g)
    (kt : ∀ (u : Shared) (Hh : Hp) (A : Addr) (cl : List (Str × Addr)) (fp : List Addr), PTs (X.blk u Hh scope (compEnvC scope cl A X.env) fp) ifs tt)
    (kk : ∀ (u : Shared) (Hh : Hp) (A : Addr) (cl : List (Str × Addr)) (fp : List Addr), PE (X.blk u Hh scope (compEnvC scope cl A X.env) fp) kx tk)
    (kv : ∀ (u : Shared) (Hh : Hp) (A : Addr) (cl : List (Str × Addr)) (fp : List Addr), PE (X.blk u Hh scope (compEnvC scope cl A X.env) fp) vx tv) (hs : ∀ x, foldedSetIterable iter X.env x = pure x) :
    PS X (.Assign [.Name y py] (.DictComp kx vx [⟨tg, iter, ifs, 0⟩] scope pos) spos) (tAsg (tDc wi g tt tk tv (own.map (·.2))) (gName i)) := ⟨fun pins s σ H Z I w => by
  rw [exec_Assign_Name_used _ _ _ _ hsw]
  refine wpAny_bind (wpAny_standAt (wpAny_bind ?_))
  show wpAny _ X.A (comprehension (.DictComp kx vx [⟨tg, iter, ifs, 0⟩] scope pos) scope X.env (firstIterPos [⟨tg, iter, ifs, 0⟩] pos) newDict false (eval iter X.env) (some (assign (.Name y py) X.env)) >>= fun _ => pure ()) _ _ s
  have w2 : tDc wi g tt tk tv (own.map (·.2)) σ H (fun x H1 => gName i x σ H1 Z.nx) := w
  refine wpAny_bind (thn (dc_core (Qf := fun _ r => SP X pins Z .next r) hc hN I hi ok kg kt kk kv hs w2 fun L A r m H2 I2 q hn f => ?_) fun _ r hq => wpAny_pure (wpAny_pure hq))
  obtain ⟨f0, f1, f2, f3, f4, f5⟩ := f
  show wpAny _ _ (assign (.Name y py) X.env (.ref L)) _ _ _
  refine wpAny_assign_Name (store_ok2 (v := V.ref L) I2 hN hy (.inl hyl) rfl (fun r2 I3 ⟨a, sb, ha⟩ => ?_) (.inr hyl))
  have nea : A ≠ a := by
    rcases ha with z | z
    · rw [z]; exact f1
    · exact fun e => f4 y a z e.symm
  exact ⟨m, hn.sameBut sb nea, fun h3 sb3 => ⟨_, H2, I3.turned (t' := r2.toks) (fun b o hb e => (sb3.2 b hb).trans e) f0 f1 f3 f4 f5, q⟩⟩⟩
theorem ps_sd {i : Nat} {y : Str} {py spos : Pos} (hc : X.calm = true) (hN : X.N.Nodup) (hy : X.N[i]? = some y) (hyl : X.env.scope.names.lookup y = some .local)
    (hsw : swapsWith (.DictComp kx vx [⟨tg, iter, ifs, 0⟩] scope pos) (some (.Name y py)) spos.line X.env = pure true) (hi : PI X tg iter (tI X W ei)) (ok : BlkOk X.N X.env.scope scope own)
    (hg : ∀ (s : Shared) (H : Hp) (C : Addr) (cl : List (Str × Addr)) (fp : List Addr), PG (X.blk s H scope (compEnvC scope cl C X.env) fp) tg (tGw (gx X) (own.map (·.2)) pt))
    (ht : ∀ (s : Shared) (H : Hp) (C : Addr) (cl : List (Str × Addr)) (fp : List Addr), PTs (X.blk s H scope (compEnvC scope cl C X.env) fp) ifs (tT (gx X) WNo c))
    (hk : ∀ (s : Shared) (H : Hp) (C : Addr) (cl : List (Str × Addr)) (fp : List Addr), PE (X.blk s H scope (compEnvC scope cl C X.env) fp) kx (tE (gx X) WNo ek))
    (he : ∀ (s : Shared) (H : Hp) (C : Addr) (cl : List (Str × Addr)) (fp : List Addr), PE (X.blk s H scope (compEnvC scope cl C X.env) fp) vx (tE (gx X) WNo ev)) (hs : ∀ x, foldedSetIterable iter X.env x = pure x) :
    PS X (.Assign [.Name y py] (.DictComp kx vx [⟨tg, iter, ifs, 0⟩] scope pos) spos) (tS (gx X) W (sAsg (eDc ei pt c ek ev (own.map (·.2))) (gNm i))) :=
  (ps_unl (ps_setD hc hN hy hyl hsw hi ok hg ht hk he hs)).weak fun Z σ H q => by
    obtain ⟨ρ, α, μ, e, st, q⟩ := q
    have h1 : tE (gx X) W (eDc ei pt c ek ev (own.map (·.2))) σ H fun v H1 => Z.nx (σ.set i (some v)) H1 := ⟨ρ, α, μ, e, st, GotS.bind e st q fun d μ1 v α1 H1 x e1 st1 r q1 => GotS.nm q1 _ α1 H1 (Ext.refl _ _) st1 (e1.put i r)⟩
    exact pe_db hc hN σ H _ h1
end
end Sh
set_option maxRecDepth 100000
set_option maxHeartbeats 4000000
/-! Sh: rows that are sorted. -/
namespace Sh
open PySem PySem.Spec PyProof.Rows L2

/-! ### a plain sort that is the stable one -/
section
variable {β : Type} (le : β → β → Bool)
def insS (x : β) : List β → List β
  | [] => [x]
  | y :: r => match le x y with
    | true => x :: y :: r
    | false => y :: insS x r
def srt : List β → List β
  | [] => []
  | x :: r => insS le x (srt r)
variable {le}
theorem insS_mem {x z : β} : ∀ {l : List β}, z ∈ insS le x l → z = x ∨ z ∈ l
  | [], h => .inl (by simpa [insS] using h)
  | y :: r, h => by
    unfold insS at h
    split at h
    · rcases List.mem_cons.mp h with h | h
      · exact .inl h
      · exact .inr h
    · rcases List.mem_cons.mp h with h | h
      · exact .inr (by rw [h]; exact List.mem_cons_self)
      · rcases insS_mem h with h | h
        · exact .inl h
        · exact .inr (List.mem_cons_of_mem _ h)
theorem insS_pw (t : PySem.W.TotalLe le) {x : β} : ∀ {l : List β}, l.Pairwise (fun a b => le a b = true) → (insS le x l).Pairwise (fun a b => le a b = true)
  | [], _ => by simp [insS]
  | y :: r, h => by
    obtain ⟨h1, h2⟩ := List.pairwise_cons.mp h
    unfold insS
    split
    · rename_i e
      exact List.pairwise_cons.mpr ⟨fun z hz => by
        rcases List.mem_cons.mp hz with hz | hz
        · rw [hz]; exact e
        · exact t.trans _ _ _ e (h1 z hz), h⟩
    · rename_i e
      refine List.pairwise_cons.mpr ⟨fun z hz => ?_, insS_pw t h2⟩
      rcases insS_mem hz with hz | hz
      · rw [hz]
        rcases t.total x y with q | q
        · rw [q] at e; cases e
        · exact q
      · exact h1 z hz
theorem srt_pw (t : PySem.W.TotalLe le) : ∀ l : List β, (srt le l).Pairwise (fun a b => le a b = true)
  | [] => .nil
  | x :: r => insS_pw t (srt_pw t r)
theorem insS_fl (t : PySem.W.TotalLe le) {x c : β} : ∀ l : List β, (insS le x l).filter (PySem.W.sameRank le c) = (x :: l).filter (PySem.W.sameRank le c)
  | [] => rfl
  | y :: r => by
    unfold insS
    split
    · rfl
    · rename_i e
      have ih := insS_fl t (x := x) (c := c) r
      rw [List.filter_cons, ih, List.filter_cons, List.filter_cons, List.filter_cons]
      cases hx : PySem.W.sameRank le c x with
      | false => rfl
      | true =>
        cases hy : PySem.W.sameRank le c y with
        | false => rfl
        | true =>
          unfold PySem.W.sameRank at hx hy
          rw [Bool.and_eq_true] at hx hy
          have := t.trans _ _ _ hx.2 hy.1
          rw [this] at e
          cases e
theorem srt_fl (t : PySem.W.TotalLe le) (c : β) : ∀ l : List β, (srt le l).filter (PySem.W.sameRank le c) = l.filter (PySem.W.sameRank le c)
  | [] => rfl
  | x :: r => by
    show (insS le x (srt le r)).filter _ = _
    rw [insS_fl t, List.filter_cons, srt_fl t c r, ← List.filter_cons]
theorem srt_eq (t : PySem.W.TotalLe le) (l : List β) : srt le l = l.mergeSort le := PySem.W.sort_unique t (srt_pw t l) fun c => srt_fl t c l
end

/-! ### rows of one shape -/
mutual
def sameS : P → P → Bool
  | .int _, .int _ => true
  | .str _, .str _ => true
  | .tup xs, .tup ys => sameSs xs ys
  | _, _ => false
def sameSs : List P → List P → Bool
  | [], [] => true
  | x :: xs, y :: ys => sameS x y && sameSs xs ys
  | _, _ => false
end
mutual
theorem sameS_al : ∀ {f a b : P}, sameS f a = true → sameS f b = true → PySem.W.alike a.py b.py = true
  | .int _, .int _, .int _, _, _ => rfl
  | .str _, .str _, .str _, _, _ => rfl
  | .tup fs, .tup xs, .tup ys, h1, h2 => sameSs_al (fs := fs) h1 h2
  | .int _, .str _, _, h, _ => by cases h
  | .int _, .tup _, _, h, _ => by cases h
  | .int _, .non, _, h, _ => by cases h
  | .int _, .bl _, _, h, _ => by cases h
  | .int _, .int _, .str _, _, h => by cases h
  | .int _, .int _, .tup _, _, h => by cases h
  | .int _, .int _, .non, _, h => by cases h
  | .int _, .int _, .bl _, _, h => by cases h
  | .str _, .int _, _, h, _ => by cases h
  | .str _, .tup _, _, h, _ => by cases h
  | .str _, .non, _, h, _ => by cases h
  | .str _, .bl _, _, h, _ => by cases h
  | .str _, .str _, .int _, _, h => by cases h
  | .str _, .str _, .tup _, _, h => by cases h
  | .str _, .str _, .non, _, h => by cases h
  | .str _, .str _, .bl _, _, h => by cases h
  | .tup _, .int _, _, h, _ => by cases h
  | .tup _, .str _, _, h, _ => by cases h
  | .tup _, .non, _, h, _ => by cases h
  | .tup _, .bl _, _, h, _ => by cases h
  | .tup _, .tup _, .int _, _, h => by cases h
  | .tup _, .tup _, .str _, _, h => by cases h
  | .tup _, .tup _, .non, _, h => by cases h
  | .tup _, .tup _, .bl _, _, h => by cases h
  | .non, a, _, h, _ => by cases a <;> cases h
  | .bl _, a, _, h, _ => by cases a <;> cases h
theorem sameSs_al : ∀ {fs xs ys : List P}, sameSs fs xs = true → sameSs fs ys = true → PySem.W.alikeAll (pys xs) (pys ys) = true
  | [], [], [], _, _ => rfl
  | f :: fs, x :: xs, y :: ys, h1, h2 => by
    have g1 : (sameS f x && sameSs fs xs) = true := h1
    have g2 : (sameS f y && sameSs fs ys) = true := h2
    rw [Bool.and_eq_true] at g1 g2
    show (PySem.W.alike x.py y.py && PySem.W.alikeAll (pys xs) (pys ys)) = true
    rw [sameS_al g1.1 g2.1, sameSs_al g1.2 g2.2]
    rfl
  | [], _ :: _, _, h, _ => by cases h
  | _ :: _, [], _, h, _ => by cases h
  | [], [], _ :: _, _, h => by cases h
  | _ :: _, _ :: _, [], _, h => by cases h
end
def okF : P → Bool
  | .int _ => true
  | .str _ => true
  | .tup (_ :: _) => true
  | _ => false
theorem sortable_of {f : P} (hf : okF f = true) {l : List P} (h : ∀ a ∈ l, sameS f a = true) : PySem.W.Sortable (l.map P.py) := by
  cases f with
  | int i =>
    refine .inr fun d hd => ?_
    obtain ⟨a, ha, rfl⟩ := List.mem_map.mp hd
    have := h a ha
    cases a with
    | int j => exact ⟨fun z => (by cases z), fun xs z => (by cases z)⟩
    | _ => cases this
  | str i =>
    refine .inr fun d hd => ?_
    obtain ⟨a, ha, rfl⟩ := List.mem_map.mp hd
    have := h a ha
    cases a with
    | str j => exact ⟨fun z => (by cases z), fun xs z => (by cases z)⟩
    | _ => cases this
  | tup xs =>
    cases xs with
    | nil => cases hf
    | cons x xs =>
      refine .inl fun d hd => ?_
      obtain ⟨a, ha, rfl⟩ := List.mem_map.mp hd
      have := h a ha
      cases a with
      | tup ys =>
        cases ys with
        | nil => cases this
        | cons y ys => exact ⟨y.py, pys ys, rfl⟩
      | _ => cases this
  | non => cases hf
  | bl b => cases hf
def leP : P → P → Bool := PySem.W.dataLe false P.py
def canS (l : List P) : Bool := match l with
  | [] => true
  | f :: _ => okF f && l.all (sameS f) && l.all (P.dle 60)
def srtP (l : List P) : Option (List P) := match canS l with
  | true => some (srt leP l)
  | false => none
theorem leP_total : PySem.W.TotalLe leP := PySem.W.sortLe_total (listOrd itemOrd) false fun b : P => PySem.W.keyToks b.py
section
variable {X : Cx} {α : List Addr} {H : Hp} {μ : Store}
theorem each_of {pins : List (Addr × Obj)} {σ : L2.St} {s : Shared} {R : Value → P → Prop} : ∀ {ps : List P} {vs : List V} {us : List Value}, RepPs X.K H ps vs → Vals vs us → (∀ p v u, RepP X.K H p v → RelV v u → R u p) → PySem.W.EachIs R us ps
  | _, _, _, .nil, .nil, _ => .nil
  | _, _, _, .cons r t, .cons q u, f => .cons (f _ _ _ r q) (each_of (pins := pins) (σ := σ) (s := s) t u f)
theorem each_back {R : Value → P → Prop} : ∀ {us : List Value} {ps : List P}, PySem.W.EachIs R us ps → (∀ u p, R u p → ∃ v, RelV v u ∧ RepP X.K H p v) → ∃ vs, Vals vs us ∧ RepPs X.K H ps vs
  | _, _, .nil, _ => ⟨[], .nil, .nil⟩
  | _, _, .cons r t, f => by
    obtain ⟨v, h1, h2⟩ := f _ _ r
    obtain ⟨vs, h3, h4⟩ := each_back t f
    exact ⟨v :: vs, .cons h1 h3, .cons h2 h4⟩
def opSorted : OpN := fun ds μ => match ds with
  | [.ref n] => match lstOf μ n with
    | some l => match pures l with
      | some ps => match srtP ps with
        | some qs => if qs.length ≤ szMax then some (.ref μ.length, μ ++ [Cell.fl qs]) else none
        | none => none
      | none => none
    | none => none
  | _ => none
theorem insS_len {β : Type} {le : β → β → Bool} (x : β) : ∀ l : List β, (insS le x l).length = l.length + 1
  | [] => rfl
  | y :: r => by
    unfold insS
    split
    · rfl
    · rw [List.length_cons, insS_len x r, List.length_cons]
theorem srt_len {β : Type} {le : β → β → Bool} : ∀ l : List β, (srt le l).length = l.length
  | [] => rfl
  | x :: r => by rw [srt, insS_len, srt_len r]; rfl
theorem cr_sortedP (hu : X.A.units + 64 < cLine) : CallR X (.builtin "sorted") (rN (gx X) opSorted) := by
  rintro pins s σ H xs us Q I rx ⟨α, μ, ds, st, r, g⟩
  unfold opSorted at g
  split at g
  · rename_i n
    cases r with
    | cons r0 rr =>
      cases rr
      obtain ⟨a, rfl, ha⟩ := rep_ref r0
      have eu := Vals.ref1 rx
      subst eu
      split at g
      · rename_i l hl
        obtain ⟨vs, h1, h2⟩ := lst_of st ha hl
        split at g
        · rename_i ps hp
          have h3 := h2.pures hp
          split at g
          · rename_i qs hq
            split at g
            · rename_i hz
              unfold srtP at hq
              split at hq
              · rename_i hcan
                cases hq
                obtain ⟨its, rv, pl, hzz⟩ := I.list (.inl (.inl h1) : SqL X.K H a vs)
                have lenq : (srt leP ps).length = ps.length := srt_len ps
                have al : ∀ x ∈ ps, ∀ y ∈ ps, PySem.W.alike x.py y.py = true := by
                  cases ps with
                  | nil => intro x hx; cases hx
                  | cons f r =>
                    have hc : (okF f && (f :: r).all (sameS f) && (f :: r).all (P.dle 60)) = true := hcan
                    simp only [Bool.and_eq_true] at hc
                    intro x hx y hy
                    exact sameS_al (List.all_eq_true.mp hc.1.2 x hx) (List.all_eq_true.mp hc.1.2 y hy)
                have so : PySem.W.Sortable (ps.map P.py) := by
                  cases ps with
                  | nil => exact .inr fun d hd => by cases hd
                  | cons f r =>
                    have hc : (okF f && (f :: r).all (sameS f) && (f :: r).all (P.dle 60)) = true := hcan
                    simp only [Bool.and_eq_true] at hc
                    exact sortable_of hc.1.1 fun x hx => List.all_eq_true.mp hc.1.2 x hx
                have dp : ∀ x ∈ ps, x.py.depth ≤ 60 := by
                  cases ps with
                  | nil => intro x hx; cases hx
                  | cons f r =>
                    have hc : (okF f && (f :: r).all (sameS f) && (f :: r).all (P.dle 60)) = true := hcan
                    simp only [Bool.and_eq_true] at hc
                    exact fun x hx => P.dle_ok (List.all_eq_true.mp hc.2 x hx)
                refine PySem.W.sorted_data (bs := ps) (enc := P.py) (R := fun u p => ∃ v, RelV v u ∧ RepP X.K H p v) pl.isList (each_of (pins := pins) (σ := σ) (s := s) h3 rv fun p v u q1 q2 => ⟨v, q2, q1⟩)
                  (each_of (pins := pins) (σ := σ) (s := s) h3 rv fun p v u q1 q2 => Dp.reads I p.py v u q1.dp q2) (fun d hd d' hd' => ?_) so (by rw [← lenq, sizeLine_eq]; exact hz) (fun b hb => by have := dp b hb; omega) fun out hlen hout => ?_
                · obtain ⟨x, hx, rfl⟩ := List.mem_map.mp hd
                  obtain ⟨y, hy, rfl⟩ := List.mem_map.mp hd'
                  exact al x hx y hy
                · have hout' : PySem.W.EachIs (fun u p => ∃ v, RelV v u ∧ RepP X.K H p v) out (srt leP ps) := by
                    rw [srt_eq leP_total]
                    exact hout
                  obtain ⟨ws, k1, k2⟩ := each_back hout' fun u p q => q
                  obtain ⟨ep, he'⟩ := PyProof.Rows.sortedAll_at s.heap its out.toArray
                  have hw : ws.length ≤ sizeLine := by rw [k2.length, sizeLine_eq]; exact hz
                  have np := I.hok.fresh (Nat.le_succ s.heap.objs.size)
                  refine ⟨.ref _, upd H (s.heap.objs.size + 1) (.lst ws), I.laid (t' := s.toks) (fun _ _ => PyProof.Rows.sortedAll_old) (Nat.le_succ _) ⟨hw, out, ep, k1, he'⟩, rfl, ?_⟩
                  exact g.push st (st.newL k2) _ np
              · cases hq
            · exact g.elim
          · exact g.elim
        · exact g.elim
      · exact g.elim
  · exact g.elim
end
end Sh
set_option maxRecDepth 100000
set_option maxHeartbeats 4000000
/-! Sh: rows and texts many times over. -/
namespace Sh
open PySem PySem.Spec PyProof.Rows L2

theorem tuple_mul1 (l : Addr) (items : Array Value) (n : Nat) (dd : Option Addr) (sl : Array (Option Value)) (u : Tok) :
    Meets (Builtin.«tuple.__mul__» ⟨[.ref l, .int 1 u], []⟩) (fun _ R s => s.heap.get? l = some { cls := .type "tuple", dict := dd, data := .seq items n, slots := sl } ∧ R (.ok (.ret (.ref l))) s) :=
  .of_wp fun prog w A R s h => by
    obtain ⟨hp, g, d, tk, os⟩ := s
    obtain ⟨hl, h⟩ := h
    have f1 := AutoSeq1.idx_int
    have e1 : (items.isEmpty || (1 : Int) == 1) = true := by simp
    wp_walk using wpAny_loadPart' hl
    repeat (first
      | (refine wpAny_ite_true (by simp) ?_; wp_walk using wpAny_loadPart' hl)
      | (refine wpAny_ite_false (by decide) ?_; wp_walk using wpAny_loadPart' hl))
    exact ⟨_, rfl, h⟩

def repL {β : Type} : Nat → List β → List β
  | 0, _ => []
  | n + 1, l => l ++ repL n l
theorem repL_eq {β : Type} (l : List β) : ∀ n, repL n l = (List.replicate n l).flatten
  | 0 => rfl
  | n + 1 => by rw [List.replicate_succ, List.flatten_cons, ← repL_eq l n]; rfl
def opMulA : Op2 := fun a b μ => match a, b with
  | .p (.str s), .p (.int k) => if 1 ≤ k ∧ k ≤ 1000 ∧ 1 ≤ s.length ∧ s.length ≤ 1000 then some (.p (.str (repL k.toNat s)), μ) else none
  | .p (.tup ps), .p (.int k) => if 1 ≤ k ∧ k ≤ 1000 ∧ 1 ≤ ps.length ∧ ps.length ≤ 1000 then some (.p (.tup (repL k.toNat ps)), μ) else none
  | a, b => opMul a b μ
theorem rep_arr (s : List Nat) : ∀ (n : Nat) (a : Array Nat), (List.replicate n s.toArray).foldl (· ++ ·) a = a ++ (repL n s).toArray
  | 0, a => by simp [repL]
  | n + 1, a => by
    rw [List.replicate_succ, List.foldl_cons, rep_arr s n, repL, ← List.append_toArray, Array.append_assoc]
theorem RepPs.repL {K : PySem.W.Frag} {H : Hp} {ps : List P} {vs : List V} (r : RepPs K H ps vs) : ∀ n, RepPs K H (Sh.repL n ps) (List.replicate n vs).flatten
  | 0 => .nil
  | n + 1 => by
    rw [List.replicate_succ, List.flatten_cons]
    exact r.append (RepPs.repL r n)
theorem op_mulA {X : Cx} : OpR X (binaryOp .Mult) (r2 (gx X) opMulA) := by
  rintro pins s σ H x y v u Q I rx ry ⟨α, μ, d, e, st, r1, r2, g⟩
  unfold opMulA at g
  split at g
  · rename_i a k
    obtain rfl := rep_str r1
    obtain rfl := rep_int r2
    split at g
    · rename_i hz
      obtain ⟨h1, h2, h3, h4⟩ := hz
      obtain ⟨t, rfl⟩ := rx
      obtain ⟨t2, rfl⟩ := ry
      have hl : (stS a).length = a.length := stS_len a
      have c0 : (decide (k < -(2 ^ 63 : Int)) || decide (k ≥ 2 ^ 63)) = false := by
        rw [decide_eq_false (by omega), decide_eq_false (by omega)]
        rfl
      have mul_le : a.length * k.toNat ≤ 1000 * 1000 := Nat.mul_le_mul h4 (by omega)
      refine PySem.P.mul_str c0 (fun _ _ => ?_) (fun _ _ => ?_) ?_
      · rw [hl]
        have q : (2 ^ 63 - 1 : Int) / k ≥ (2 ^ 63 - 1 : Int) / 1000 := by
          have := Int.ediv_mul_le (2 ^ 63 - 1) (b := k) (by omega)
          have h5 : ((2 ^ 63 - 1 : Int) / 1000) * k ≤ 2 ^ 63 - 1 := by
            have e : ((2 ^ 63 - 1 : Int) / 1000) = 9223372036854775 := by decide
            rw [e]
            omega
          exact (Int.le_ediv_iff_mul_le (by omega)).mpr h5
        have e : ((2 ^ 63 - 1 : Int) / 1000) = 9223372036854775 := by decide
        rw [e] at q
        omega
      · unfold Builtin.Str.tooLong
        rw [hl, sizeLine_eq]
        exact decide_eq_false (by omega)
      · rw [if_neg (by omega)]
        split
        · rename_i hb
          rw [hl] at hb
          have hk : k = 1 := by
            rcases Bool.or_eq_true_iff.mp hb with q | q
            · exact eq_of_beq q
            · have := eq_of_beq q
              omega
          subst hk
          refine ⟨.str (stS a), H, I, ⟨t, rfl⟩, ?_⟩
          have e : repL (1 : Int).toNat a = a := by
            show a ++ [] = a
            rw [List.append_nil]
          rw [e] at g
          exact g.here st (.p (.str a))
        · have e : (List.replicate k.toNat (stS a).cps).foldl (· ++ ·) #[] = (repL k.toNat a).toArray := by
            rw [show (stS a).cps = a.toArray from rfl, rep_arr]
            simp
          rw [e]
          refine ⟨by rw [repL_eq]; simp [Str.length, sizeLine_eq, Builtin.Str.tooLong]; rw [Nat.mul_comm] at mul_le; omega, .str (stS (repL k.toNat a)), H, I.tok _, ⟨_, rfl⟩, g.here st (.p (.str _))⟩
    · exact g.elim
  · rename_i ps k
    obtain ⟨a, vs, rfl, h1, h2⟩ := rep_tup r1
    obtain rfl := rep_int r2
    split at g
    · rename_i hz
      obtain ⟨k1, k2, k3, k4⟩ := hz
      have hlen := h2.length
      by_cases hk : k = 1
      · subst hk
        cases rx
        obtain ⟨t, rfl⟩ := ry
        obtain ⟨its, r, ⟨⟨cls, dd, data, sl⟩, ho, hc, n, hd⟩, hs⟩ := I.tuple h1
        simp only at hc hd
        subst hc hd
        refine wpAny_binaryOp_repeat_ref (T := "tuple") (U := "int") (by decide) ⟨_, ho, rfl⟩ (fun s' => typeIs_int s' 1 t) noFill_tuple_mul F.fills_int_mul F.slot_int_rmul repeat_tuple F.slot_int_index.lookup
          (call_meets F.slot_int_rmul (typeIs_int s 1 t) F.entry_int_rmul (F.args_int_rmul_2 _ _) (int_rmul_tuple 1 t a its.toArray n dd sl)
            ⟨ho, rfl, ⟨_, ho, rfl⟩, call_meets F.slot_tuple_mul ⟨_, ho, rfl⟩ F.entry_tuple_mul (F.args_tuple_mul_2 _ _) (tuple_mul1 a its.toArray n dd sl t) ⟨ho, ?_⟩⟩)
        refine ⟨.ref a, H, I, rfl, ?_⟩
        have e : repL (1 : Int).toNat ps = ps := by
          show ps ++ [] = ps
          rw [List.append_nil]
        rw [e] at g
        exact g.here st (.p (.tup h1 h2))
      · exact op_repT pins s σ H _ _ v u Q I rx ry ⟨a, k, vs, rfl, rfl, h1, fun z => by rw [z] at hlen; simp at hlen; omega, by omega, by omega, by omega, g.tup st (h2.repL _)⟩
    · exact g.elim
  · exact op_mulS pins s σ H x y v u Q I rx ry ⟨α, μ, d, e, st, r1, r2, g⟩
end Sh
namespace Sh
open PySem PySem.Spec PyProof.Rows L2
/-! ### dicts of unlike sizes, empty dicts -/
def fdOf (μ : Store) (n : Nat) : Option (List (P × P)) := match μ.get? n with
  | some (.fd kvs) => some kvs
  | _ => none
theorem fdOf_of {G : Gx} {α : List Addr} {H : Hp} {μ : Store} {n : Nat} {a : Addr} {kvs : List (P × P)} (st : StOk G α H μ) (ha : α[n]? = some a) (h : fdOf μ n = some kvs) : ∃ ks, H a = some (.dK ks) ∧ KRep keyOf G.K H kvs ks := by
  unfold fdOf at h
  try rw [nth_eq] at h
  split at h
  · rename_i q
    cases h
    exact st.cel n _ a q ha
  · cases h
def eqL (a b : Nat) : Option Bool := match Nat.beq a b with
  | false => some false
  | true => match a with
    | 0 => some true
    | _ + 1 => none
def eqF (d e : D) (μ : Store) : Option Bool := match d, e with
  | .ref n, .ref m => match fdOf μ n, fdOf μ m with
    | some a, some b => eqL a.length b.length
    | _, _ => none
  | _, _ => none
def opEqA : Op2 := fun d e μ => match eqF d e μ with
  | some b => some (.p (.bl b), μ)
  | none => opEq d e μ
def opNeA : Op2 := fun d e μ => match eqF d e μ with
  | some b => some (.p (.bl (!b)), μ)
  | none => opNe d e μ
section
variable {X : Cx} {α : List Addr} {H : Hp} {μ : Store}
theorem eqF_ok {d e : D} {x y : V} {v u : Value} {b : Bool} {pins : List (Addr × Obj)} {s : Shared} {σ : L2.St} (I : Inv X pins σ H s) (st : StOk (gx X) α H μ) (r1 : Rep (gx X) α H d x) (r2 : Rep (gx X) α H e y) (rx : RelV x v) (ry : RelV y u) (h : eqF d e μ = some b) :
    ∃ (p q : Addr) (va vb : List (Key × Value)), v = .ref p ∧ u = .ref q ∧ (p == sysModules) = false ∧ (q == sysModules) = false ∧ s.heap.DictOf (mixKind X.prog X.w) p va ∧ s.heap.DictOf (mixKind X.prog X.w) q vb ∧ (va.length == vb.length) = b ∧ (va.length = vb.length → va = []) := by
  unfold eqF at h
  split at h
  · rename_i n m
    split at h
    · rename_i a c h1 h2
      obtain ⟨p, rfl, hp⟩ := rep_ref r1
      obtain ⟨q, rfl, hq⟩ := rep_ref r2
      obtain ⟨ks, e1, k1⟩ := fdOf_of st hp h1
      obtain ⟨ls, e2, k2⟩ := fdOf_of st hq h2
      obtain ⟨_, ya, va, ra, da⟩ := dk_of I.hok e1
      obtain ⟨_, yb, vb, rb, db⟩ := dk_of I.hok e2
      have la : va.length = a.length := by rw [← ra.length]; exact Paired.len k1
      have lb : vb.length = c.length := by rw [← rb.length]; exact Paired.len k2
      cases rx
      cases ry
      refine ⟨p, q, va, vb, rfl, rfl, ya, yb, da, db, ?_, fun z => ?_⟩
      · rw [la, lb]
        unfold eqL at h
        split at h
        · rename_i hb
          cases h
          exact beq_eq_false_iff_ne.mpr fun z => by rw [z, Nat.beq_refl] at hb; cases hb
        · rename_i hb
          split at h
          · cases h
            exact beq_iff_eq.mpr (Nat.eq_of_beq_eq_true hb)
          · cases h
      · unfold eqL at h
        rw [← la, ← lb, z] at h
        split at h
        · rename_i hb
          rw [Nat.beq_refl] at hb
          cases hb
        · split at h
          · rename_i hz
            rw [← z] at hz
            exact List.eq_nil_of_length_eq_zero hz
          · cases h
    · cases h
  · cases h
theorem op_eqA (hu : X.A.units + 64 < cLine) : OpR X (compareOp .Eq) (r2 (gx X) opEqA) := by
  rintro pins s σ H x y v u Q I rx ry ⟨α, μ, d, e, st, r1, r2, g⟩
  unfold opEqA at g
  split at g
  · rename_i b hb
    obtain ⟨p, q, va, vb, rfl, rfl, ya, yb, da, db, e1, e2⟩ := eqF_ok I st r1 r2 rx ry hb
    exact PySem.W.keq_eq (knd := mixKind X.prog X.w) (r := true) ya yb da db (by omega) (fun z => by rw [e2 z]; exact .nil) (fin_bl I (g.here st (.p (.bl _))) (by rw [e1, Bool.and_true]))
  · exact op_eqS hu pins s σ H x y v u Q I rx ry ⟨α, μ, d, e, st, r1, r2, g⟩
theorem op_neA (hu : X.A.units + 64 < cLine) : OpR X (compareOp .NotEq) (r2 (gx X) opNeA) := by
  rintro pins s σ H x y v u Q I rx ry ⟨α, μ, d, e, st, r1, r2, g⟩
  unfold opNeA at g
  split at g
  · rename_i b hb
    obtain ⟨p, q, va, vb, rfl, rfl, ya, yb, da, db, e1, e2⟩ := eqF_ok I st r1 r2 rx ry hb
    exact PySem.W.keq_ne (knd := mixKind X.prog X.w) (r := true) ya yb da db (by omega) (fun z => by rw [e2 z]; exact .nil) (fin_bl I (g.here st (.p (.bl _))) (by rw [e1, Bool.and_true]))
  · exact op_neS hu pins s σ H x y v u Q I rx ry ⟨α, μ, d, e, st, r1, r2, g⟩
end
end Sh
set_option maxRecDepth 100000
set_option maxHeartbeats 4000000
/-! Sh: a dict's keys sorted. -/
namespace Sh
open PySem PySem.Spec PyProof.Rows L2

def leN (a b : List Nat) : Bool := !ltCps b a
def leI (a b : Int) : Bool := decide (a ≤ b)
theorem leN_iff {a b : List Nat} : leN a b = true ↔ a ≤ b := by
  unfold leN
  rw [ltCps_eq, Bool.not_eq_true', decide_eq_false_iff_not]
  exact Iff.rfl
theorem leN_total : PySem.W.TotalLe leN := ⟨fun a b c h1 h2 => leN_iff.mpr (List.le_trans (leN_iff.mp h1) (leN_iff.mp h2)), fun a b => by
  rcases List.le_total a b with h | h
  · exact .inl (leN_iff.mpr h)
  · exact .inr (leN_iff.mpr h)⟩
theorem leI_total : PySem.W.TotalLe leI := ⟨fun a b c h1 h2 => decide_eq_true (Int.le_trans (of_decide_eq_true h1) (of_decide_eq_true h2)), fun a b => by
  rcases Int.le_total a b with h | h
  · exact .inl (decide_eq_true h)
  · exact .inr (decide_eq_true h)⟩
theorem insS_perm {β : Type} {le : β → β → Bool} (x : β) : ∀ l : List β, (insS le x l).Perm (x :: l)
  | [] => .refl _
  | y :: r => by
    unfold insS
    split
    · exact .refl _
    · exact ((insS_perm x r).cons y).trans (.swap x y r)
theorem srt_perm {β : Type} {le : β → β → Bool} : ∀ l : List β, (srt le l).Perm l
  | [] => .refl _
  | x :: r => (insS_perm x _).trans ((srt_perm r).cons x)
theorem srt_one {β : Type} {le : β → β → Bool} (t : PySem.W.TotalLe le) (anti : ∀ a b, le a b = true → le b a = true → a = b) {l ys : List β} (hp : ys.Perm l) (hs : ys.Pairwise fun a b => le a b = true) : ys = srt le l :=
  List.Perm.eq_of_pairwise (fun a b _ _ => anti a b) hs (srt_pw t l) (hp.trans (srt_perm l).symm)
theorem rising_pw : ∀ {l : List Str} {p : Str}, risingS p l = true → (∀ x ∈ l, leN p.cps.toList x.cps.toList = true) ∧ (l.map fun x => x.cps.toList).Pairwise fun a b => leN a b = true
  | [], _, _ => ⟨fun x h => absurd h (by simp), List.Pairwise.nil⟩
  | x :: r, p, h => by
    have h' : (!ltCps x.cps.toList p.cps.toList && risingS x r) = true := h
    rw [Bool.and_eq_true] at h'
    obtain ⟨h1, h2⟩ := h'
    obtain ⟨i1, i2⟩ := rising_pw h2
    refine ⟨fun y hy => ?_, ?_⟩
    · rcases List.mem_cons.mp hy with hy | hy
      · rw [hy]; exact h1
      · exact leN_total.trans _ _ _ h1 (i1 y hy)
    · rw [List.map_cons]
      refine List.pairwise_cons.mpr ⟨fun y hy => ?_, i2⟩
      obtain ⟨z, hz, rfl⟩ := List.mem_map.mp hy
      exact i1 z hz
theorem sortedS_pw {l : List Str} (h : sortedS l = true) : (l.map fun x => x.cps.toList).Pairwise fun a b => leN a b = true := by
  cases l with
  | nil => exact .nil
  | cons x r =>
    obtain ⟨i1, i2⟩ := rising_pw (show risingS x r = true from h)
    rw [List.map_cons]
    refine List.pairwise_cons.mpr ⟨fun y hy => ?_, i2⟩
    obtain ⟨z, hz, rfl⟩ := List.mem_map.mp hy
    exact i1 z hz
def strKs : List P → Option (List (List Nat))
  | [] => some []
  | .str s :: r => match strKs r with
    | some l => some (s :: l)
    | none => none
  | _ => none
def intKs : List P → Option (List Int)
  | [] => some []
  | .int s :: r => match intKs r with
    | some l => some (s :: l)
    | none => none
  | _ => none
def srtKs (ks : List P) : Option (List P) := match strKs ks with
  | some ss => if ss.length < 64 then some ((srt leN ss).map .str) else none
  | none => match intKs ks with
    | some is => if is.length < 64 then some ((srt leI is).map .int) else none
    | none => none
def opSortedD : OpN := fun ds μ => match ds with
  | [.ref n] => match μ.get? n with
    | some (.fd kvs) => match srtKs (kvs.map (·.1)) with
      | some qs => some (.ref μ.length, μ ++ [Cell.fl qs])
      | none => none
    | some (.lfd kvs) => match srtKs (kvs.map (·.1)) with
      | some qs => some (.ref μ.length, μ ++ [Cell.fl qs])
      | none => none
    | _ => opSorted ds μ
  | _ => opSorted ds μ
theorem strKs_keys {K : PySem.W.Frag} {H : Hp} : ∀ {kvs : List (P × P)} {ks : List (Key × V)} {ss : List (List Nat)}, KRep keyOf K H kvs ks → strKs (kvs.map (·.1)) = some ss → ks.map (·.1) = (ss.map stS).map Sum.inr
  | _, _, _, .nil, h => by cases h; rfl
  | _, _, _, .cons (a := p) (b := q) r t, h => by
    obtain ⟨k, v⟩ := p
    rw [List.map_cons] at h
    cases k with
    | str s =>
      unfold strKs at h
      split at h
      · rename_i l hl
        cases h
        have e : some (Sum.inr (stS s)) = some q.1 := r.1
        have e2 := Option.some.inj e
        rw [List.map_cons, List.map_cons, List.map_cons, ← strKs_keys t hl, ← e2]
      · cases h
    | _ => cases h
theorem intKs_keys {K : PySem.W.Frag} {H : Hp} : ∀ {kvs : List (P × P)} {ks : List (Key × V)} {ss : List Int}, KRep keyOf K H kvs ks → intKs (kvs.map (·.1)) = some ss → ks.map (·.1) = ss.map Sum.inl
  | _, _, _, .nil, h => by cases h; rfl
  | _, _, _, .cons (a := p) (b := q) r t, h => by
    obtain ⟨k, v⟩ := p
    rw [List.map_cons] at h
    cases k with
    | int s =>
      unfold intKs at h
      split at h
      · rename_i l hl
        cases h
        have e : some (Sum.inl s) = some q.1 := r.1
        have e2 := Option.some.inj e
        rw [List.map_cons, List.map_cons, ← intKs_keys t hl, ← e2]
      · cases h
    | _ => cases h
theorem strs_rep {K : PySem.W.Frag} {H : Hp} : ∀ l : List (List Nat), RepPs K H (l.map .str) ((l.map stS).map V.str)
  | [] => .nil
  | s :: r => .cons (.str s) (strs_rep r)
theorem ints_rep {K : PySem.W.Frag} {H : Hp} : ∀ l : List Int, RepPs K H (l.map .int) (l.map V.int)
  | [] => .nil
  | s :: r => .cons (.int s) (ints_rep r)
section
variable {X : Cx} {α : List Addr} {H : Hp} {μ : Store}
theorem cr_sortedD (hc : X.calm = true) (hu : X.A.units + 64 < cLine) : CallR X (.builtin "sorted") (rN (gx X) opSortedD) := by
  rintro pins s σ H xs us Q I rx ⟨α, μ, ds, st, r, g⟩
  have gen : GotO (gx X) (Rep (gx X)) α H (opSorted ds μ) Q → wpAny (model X.prog X.w) X.A (call (.builtin "sorted") us) (EP X pins σ Q) X.xe s := fun g => cr_sortedP hu pins s σ H xs us Q I rx ⟨α, μ, ds, st, r, g⟩
  have key : ∀ {kvs : List (P × P)} {ks : List (Key × V)} {a : Addr}, xs = [.ref a] → Rd H a (.dK ks) → KRep keyOf X.K H kvs ks → GotO (gx X) (Rep (gx X)) α H (match srtKs (kvs.map (·.1)) with | some qs => some (.ref μ.length, μ ++ [Cell.fl qs]) | none => none) Q → wpAny (model X.prog X.w) X.A (call (.builtin "sorted") us) (EP X pins σ Q) X.xe s := fun {kvs ks a} ex rd kr g => by
    unfold srtKs at g
    cases hs : strKs (kvs.map (·.1)) with
    | some ss =>
      rw [hs] at g
      dsimp only at g
      by_cases hl : ss.length < 64
      · rw [if_pos hl] at g
        refine call_sortedD hc pins s σ H xs us Q I rx ⟨a, ks, ss.map stS, ex, rd, strKs_keys kr hs, by rw [List.length_map]; exact hl, fun ys p hp hsr np => ?_⟩
        have cps : ∀ l : List (List Nat), (l.map stS).map (fun x => x.cps.toList) = l := fun l => by
          rw [List.map_map]
          exact (List.map_congr_left fun x _ => rfl).trans (List.map_id l)
        have e : ys.map (fun x => x.cps.toList) = srt leN ss := srt_one leN_total (fun a b h1 h2 => List.le_antisymm (leN_iff.mp h1) (leN_iff.mp h2)) (by have := hp.map fun x : Str => x.cps.toList; rw [cps] at this; exact this) (sortedS_pw hsr)
        have e2 : ys = (srt leN ss).map stS := by
          rw [← e, List.map_map]
          exact ((List.map_congr_left fun x _ => by cases x; simp [stS]).trans (List.map_id ys)).symm
        rw [e2]
        have g2 : GotO (gx X) (Rep (gx X)) α H (some (D.ref μ.length, μ ++ [Cell.fl ((srt leN ss).map .str)])) Q := g
        exact g2.push st (st.newL (strs_rep _)) p np
      · rw [if_neg hl] at g
        exact g.elim
    | none =>
      rw [hs] at g
      dsimp only at g
      cases hi : intKs (kvs.map (·.1)) with
      | none => rw [hi] at g; exact g.elim
      | some is =>
        rw [hi] at g
        dsimp only at g
        by_cases hl : is.length < 64
        · rw [if_pos hl] at g
          refine call_sortedDI hc pins s σ H xs us Q I rx ⟨a, ks, is, ex, rd, intKs_keys kr hi, hl, fun ys p hp hsr np => ?_⟩
          have e : ys = srt leI is := srt_one leI_total (fun a b h1 h2 => Int.le_antisymm (of_decide_eq_true h1) (of_decide_eq_true h2)) hp (hsr.imp fun h => decide_eq_true h)
          rw [e]
          have g2 : GotO (gx X) (Rep (gx X)) α H (some (D.ref μ.length, μ ++ [Cell.fl ((srt leI is).map .int)])) Q := g
          exact g2.push st (st.newL (ints_rep _)) p np
        · rw [if_neg hl] at g
          exact g.elim
  unfold opSortedD at g
  split at g
  · rename_i n
    cases r with
    | cons r0 rr =>
      cases rr
      obtain ⟨a, rfl, ha⟩ := rep_ref r0
      split at g
      · rename_i kvs q
        try rw [nth_eq] at q
        obtain ⟨ks, h1, h2⟩ := st.cel n _ a q ha
        exact key rfl (.inl h1) h2 g
      · rename_i kvs q
        try rw [nth_eq] at q
        obtain ⟨od, ks, h1, h2⟩ := st.cel n _ a q ha
        exact key rfl (.inr ⟨od, h1⟩) h2 g
      · exact cr_sortedP hu pins s σ H _ us Q I rx ⟨α, μ, _, st, .cons r0 .nil, g⟩
  · exact gen g
end
end Sh
set_option maxRecDepth 100000
set_option maxHeartbeats 4000000
/-! Sh: slices by steps; lists taken apart. -/
namespace Sh
open PySem PySem.Spec PyProof.Rows L2

/-! ### a tuple's slice by any step -/
abbrev adjS (lo hi st : Option Int) (n : Nat) : Int × Int := Builtin.Slice.sliceAdjust lo hi (st.getD 1) (n : Int)
def pickT {β : Type} (xs : List β) (lo hi st : Option Int) : List β :=
  (List.range (Builtin.Slice.slicePlaces (adjS lo hi st xs.length).1 (adjS lo hi st xs.length).2 (st.getD 1))).filterMap fun (m : Nat) => xs[((adjS lo hi st xs.length).1 + (m : Int) * st.getD 1).toNat]?
def pickL {β : Type} (xs : List β) (lo hi st : Option Int) : List β := (sliceRange (sliceBounds lo hi st xs.length).1 (sliceBounds lo hi st xs.length).2.1 (sliceBounds lo hi st xs.length).2.2).filterMap (xs[·]?)
section
variable {prog : Program} {w : World} {A : Around} {E : Value → Shared → Prop} {s : Shared}
theorem sl_app {sl : Addr} {vl vu vs : Value} {lo hi st : Option Int} {n : Nat} {Q : Int × Int × Nat → Shared → Prop} (hs : s.heap.IsSliceOf sl vl vu vs) (pl : IsPart vl lo) (pu : IsPart vu hi) (ps : IsPart vs st) (h0 : st.getD 1 ≠ 0)
    (h : Q ((adjS lo hi st n).1, st.getD 1, Builtin.Slice.slicePlaces (adjS lo hi st n).1 (adjS lo hi st n).2 (st.getD 1)) s) :
    wpAny (model prog w) A (Builtin.Slice.sliceApplied (.ref sl) (pure (n : Int))) Q E s := by
  obtain ⟨os, e1, e2, e3⟩ := id hs
  unfold Builtin.Slice.sliceApplied Builtin.Slice.sliceFields
  refine wpAny_bind (wpAny_bind (wpAny_field e1 e3 (x := vl) rfl (wpAny_bind (wpAny_field e1 e3 (x := vu) rfl (wpAny_bind (wpAny_field e1 e3 (x := vs) rfl (wpAny_pure ?_)))))))
  refine wpAny_bind (HT.slicePart_ ps ?_)
  show wpAny _ _ (if (st.getD 1 == 0) = true then _ else _) _ _ s
  rw [if_neg (by simpa using h0)]
  refine wpAny_bind (HT.slicePart_ pl (wpAny_bind (HT.slicePart_ pu (wpAny_bind (wpAny_pure ?_)))))
  exact wpAny_pure h
theorem tup_step {t sl : Addr} {items : Array Value} {vl vu vs : Value} {lo hi st : Option Int} {Q : Value → Shared → Prop} (ht : IsTup s.heap t items) (hs : s.heap.IsSliceOf sl vl vu vs) (pl : IsPart vl lo) (pu : IsPart vu hi) (ps : IsPart vs st) (h0 : st.getD 1 ≠ 0) (h1 : st.getD 1 ≠ 1)
    (hz : (pickT items.toList lo hi st).length ≤ sizeLine)
    (h : Q (.ref s.heap.objs.size) { s with heap := s.heap.push { cls := .type "tuple", data := .seq (pickT items.toList lo hi st).toArray } }) : wpAny (model prog w) A (getItem (.ref t) (.ref sl)) Q E s := by
  have room : sizeOk (.seq (pickT items.toList lo hi st).toArray) := by
    show (pickT items.toList lo hi st).toArray.size ≤ sizeLine
    rw [List.size_toArray]
    exact hz
  obtain ⟨os, e1, e2, e3⟩ := id hs
  have isSl : s.TypeIs (.ref sl) "slice" := ⟨os, e1, e2⟩
  unfold getItem
  try with_reducible refine wpAny_holding ?_
  first | refine wpAny_bind (wpAny_pure ?_) | skip
  refine wpAny_bind (wpAny_sequenceKey ht.typeIs (by decide) ?_)
  refine wpAny_bind (wpAny_callSpecial?_slot (name := Str.ofString "__getitem__") ht.typeIs PyProof.Rows.slot_tuple_getitem
    (wpAny_call_entry PyProof.Rows.slot_tuple_getitem ht.typeIs entry_tuple_getitem ?_ (args_tuple_getitem _ _)))
  show wpAny _ _ (Builtin.Tuple.tupleItemsOf (.ref t) >>= _) _ _ s
  refine wpAny_bind (tupleItemsOf_ ht ?_)
  refine wpAny_bind (wpAny_typeOf isSl ?_)
  rw [if_pos (by decide)]
  refine wpAny_bind (sl_app hs pl pu ps h0 ?_)
  have hno : ¬ (((adjS lo hi st items.size).1 == 0 && st.getD 1 == 1 && Builtin.Slice.slicePlaces (adjS lo hi st items.size).1 (adjS lo hi st items.size).2 (st.getD 1) == items.size) = true) := by
    intro q
    rw [Bool.and_eq_true, Bool.and_eq_true] at q
    exact h1 (eq_of_beq q.1.2)
  show wpAny _ _ (if ((adjS lo hi st items.size).1 == 0 && st.getD 1 == 1 && Builtin.Slice.slicePlaces (adjS lo hi st items.size).1 (adjS lo hi st items.size).2 (st.getD 1) == items.size) = true then _ else _) _ _ s
  rw [if_neg hno]
  have e : ((List.range (Builtin.Slice.slicePlaces (adjS lo hi st items.size).1 (adjS lo hi st items.size).2 (st.getD 1))).filterMap fun (m : Nat) => items[((adjS lo hi st items.size).1 + (m : Int) * st.getD 1).toNat]?) = pickT items.toList lo hi st := by
    unfold pickT
    simp
  show wpAny _ _ (do
    let r ← Builtin.Tuple.tupleExact ((List.range (Builtin.Slice.slicePlaces (adjS lo hi st items.size).1 (adjS lo hi st items.size).2 (st.getD 1))).filterMap fun (m : Nat) => items[((adjS lo hi st items.size).1 + (m : Int) * st.getD 1).toNat]?).toArray
    _) _ _ s
  rw [e]
  first
    | exact wpAny_bind (m := Builtin.Tuple.tupleExact _) (wpAny_newObj_type (wpAny_pure ⟨_, rfl, wpAny_pure h⟩) room)
    | exact wpAny_bind (m := Builtin.Tuple.tupleExact _) (wpAny_newObj_type (wpAny_bind (wpAny_pure (wpAny_pure ⟨_, rfl, wpAny_pure h⟩))) room)
    | exact wpAny_bind (wpAny_bind (m := Builtin.Tuple.tupleExact _) (wpAny_newObj_type (wpAny_pure (wpAny_pure ⟨_, rfl, wpAny_pure h⟩)) room))
    | exact wpAny_bind (wpAny_bind (m := Builtin.Tuple.tupleExact _) (wpAny_newObj_type (wpAny_pure ⟨_, rfl, wpAny_pure h⟩) room))
end

def fmI {β ι : Type} (f : ι → Nat) (l : List ι) (xs : List β) : List β := l.filterMap fun i => xs[f i]?
theorem RepPs.fm {K : PySem.W.Frag} {H : Hp} {ι : Type} (f : ι → Nat) {ps : List P} {vs : List V} (r : RepPs K H ps vs) : ∀ l : List ι, RepPs K H (fmI f l ps) (fmI f l vs)
  | [] => .nil
  | i :: l => by
    unfold fmI
    rw [List.filterMap_cons, List.filterMap_cons]
    cases e : ps[f i]? with
    | none =>
      rw [List.getElem?_eq_none (by rw [r.length]; exact List.getElem?_eq_none_iff.mp e)]
      exact RepPs.fm f r l
    | some x =>
      obtain ⟨v, h1, h2⟩ := r.get e
      rw [h1]
      exact .cons h2 (RepPs.fm f r l)
theorem Reps.fm {G : Gx} {α : List Addr} {H : Hp} {ι : Type} (f : ι → Nat) {ps : List D} {vs : List V} (r : Reps G α H ps vs) : ∀ l : List ι, Reps G α H (fmI f l ps) (fmI f l vs)
  | [] => .nil
  | i :: l => by
    unfold fmI
    rw [List.filterMap_cons, List.filterMap_cons]
    cases e : ps[f i]? with
    | none =>
      rw [List.getElem?_eq_none (r.none e)]
      exact Reps.fm f r l
    | some x =>
      obtain ⟨v, h1, h2⟩ := r.get e
      rw [h1]
      exact .cons h2 (Reps.fm f r l)
theorem Vals.fm {ι : Type} (f : ι → Nat) {vs : List V} {us : List Value} (r : Vals vs us) : ∀ l : List ι, Vals (fmI f l vs) (fmI f l us)
  | [] => .nil
  | i :: l => by
    unfold fmI
    rw [List.filterMap_cons, List.filterMap_cons]
    cases e : vs[f i]? with
    | none =>
      rw [Vals.none_of r e]
      exact Vals.fm f r l
    | some v =>
      obtain ⟨u, h1, h2⟩ := Vals.get r e
      rw [h1]
      exact .cons h2 (Vals.fm f r l)
def opSt (d : D) (lo hi : Option Int) (st : Int) (μ : Store) : Option (D × Store) := if st = 0 then none else if st = 1 then none else match d with
  | .p (.tup ps) => if (pickT ps lo hi (some st)).length ≤ szMax then some (.p (.tup (pickT ps lo hi (some st))), μ) else none
  | .ref n => match rdL μ n with
    | some ds => if (pickL ds lo hi (some st)).length ≤ szMax then some (.ref μ.length, μ ++ [mkL (pickL ds lo hi (some st))]) else none
    | none => none
  | _ => none
def eSt (a : Ev D) (lo hi : Option (Ev D)) (st : Ev D) : Ev D := fun ρ μ => (a ρ μ).bind fun d μ1 => (ePart lo ρ μ1).bind fun l μ2 => (ePart hi ρ μ2).bind fun h μ3 => (st ρ μ3).bind fun k μ4 => match k with
  | .p (.int i) => Res.ofO (opSt d l h i μ4)
  | _ => .bad
section
variable {X : Cx} {W : WX} {e sx : Expr} {ev es : Ev D} {lo hi : Option Expr} {el eh : Option (Ev D)} {pos p2 : Pos}
theorem st_fin {pins : List (Addr × Obj)} {σ : L2.St} {s4 : Shared} {H4 : Hp} {Q : VK} {α4 : List Addr} {μ4 : Store} {d : D} {x : V} {v vl vu vs : Value} {l u : Option Int} {i : Int} (I4 : Inv X pins σ H4 s4) (rx : RelV x v) (pl : IsPart vl l) (pu : IsPart vu u) (ps : IsPart vs (some i)) (st4 : StOk (gx X) α4 H4 μ4) (r4 : Rep (gx X) α4 H4 d x)
    (g4 : GotO (gx X) (Rep (gx X)) α4 H4 (opSt d l u i μ4) Q) : wpAny (model X.prog X.w) X.A (subscriptTail e (.Slice lo hi (some sx) p2) v (.ref s4.heap.objs.size)) (EP X pins σ Q) X.xe { s4 with heap := s4.heap.push { cls := .type "slice", data := .fields #[vl, vu, vs] } } := by
  have I5 : Inv X pins σ H4 { s4 with heap := s4.heap.push { cls := .type "slice", data := .fields #[vl, vu, vs] } } := I4.kept (t' := s4.toks) fun b ob q => Heap.get?_push_of_some _ q
  unfold opSt at g4
  split at g4
  · exact g4.elim
  · rename_i h0
    split at g4
    · exact g4.elim
    · rename_i h1
      split at g4
      · rename_i qs
        split at g4
        · rename_i hz
          obtain ⟨a, ws, rfl, q1, q2⟩ := rep_tup r4
          obtain rfl : v = Value.ref a := rx
          obtain ⟨its, rv, ht, hsz⟩ := I5.tuple q1
          have fin : Vals (pickT ws l u (some i)) (pickT its l u (some i)) := by
            unfold pickT
            rw [Vals.length rv]
            exact Vals.fm _ rv _
          have rep : RepPs X.K H4 (pickT qs l u (some i)) (pickT ws l u (some i)) := by
            unfold pickT
            rw [q2.length]
            exact RepPs.fm _ q2 _
          have len : (pickT its l u (some i)).length ≤ sizeLine := by
            rw [← Vals.length fin, rep.length, sizeLine_eq]
            exact hz
          refine tail_any (ops := [.ref a, .ref s4.heap.objs.size]) ht.typeIs PyProof.Rows.slot_tuple_getitem.lookup ?_ (by with_unfolding_all rfl)
          refine tup_step ht (Heap.IsSliceOf.new _ vl vu vs) pl pu ps h0 h1 (by simpa using len) ?_
          rw [List.toList_toArray]
          refine ⟨.ref _, _, I5.laid (t' := s4.toks) (o := .tup (pickT ws l u (some i))) (fun b ob q => Heap.get?_push_of_some _ q) (Nat.le_refl _) ?_, rfl, g4.tup st4 rep _ (I5.hok.fresh (Nat.le_refl _))⟩
          exact ⟨by rw [Vals.length fin]; exact len, _, fin, _, Heap.get?_push_size _ rfl, rfl, _, rfl⟩
        · exact g4.elim
      · rename_i n
        obtain ⟨a, rfl, ha⟩ := rep_ref r4
        obtain rfl : v = Value.ref a := rx
        split at g4
        · rename_i ds hd
          split at g4
          · rename_i hz
            obtain ⟨ws, q1, q2⟩ := rdL_of st4 ha hd
            obtain ⟨its, rv, ht, hsz⟩ := I5.list q1
            have fin : Vals (pickL ws l u (some i)) (pickL its l u (some i)) := by
              unfold pickL
              rw [Vals.length rv]
              exact Vals.fm _ rv _
            have rep : Reps (gx X) α4 H4 (pickL ds l u (some i)) (pickL ws l u (some i)) := by
              unfold pickL
              rw [q2.length]
              exact Reps.fm _ q2 _
            have len : (pickL its l u (some i)).length ≤ sizeLine := by
              rw [← Vals.length fin, rep.length, sizeLine_eq]
              exact hz
            refine tail_any (ops := [.ref a, .ref s4.heap.objs.size]) ht.isList.typeIs PySem.slot_list_getitem.lookup ?_ (by with_unfolding_all rfl)
            refine wpAny_getItem_list_slice ht.isList (Heap.IsSliceOf.new _ vl vu vs) pl pu ps (by intro z; cases z; exact h0 rfl) ?_ (by rw [List.size_toArray, ← Vals.length rv]; exact hsz)
            have e : slicePick its.toArray l u (some i) = (pickL its l u (some i)).toArray := by
              unfold slicePick pickL
              simp
            rw [e]
            refine ⟨.ref _, _, I5.laid (t' := s4.toks) (o := .lst (pickL ws l u (some i))) (fun b ob q => Heap.get?_push_of_some _ q) (Nat.le_refl _) ?_, rfl, g4.push st4 (newCell st4 rep) _ (I5.hok.fresh (Nat.le_refl _))⟩
            exact ⟨by rw [Vals.length fin]; exact len, _, 0, fin, Heap.get?_push_size _ rfl⟩
          · exact g4.elim
        · exact g4.elim
      · exact g4.elim
theorem pe_st (he : PE X e (tE (gx X) W ev)) (hl : PO X lo (tO (gx X) W (ePart el))) (hu : PO X hi (tO (gx X) W (ePart eh))) (hs : PE X sx (tE (gx X) W es)) : PE X (.Subscript e (.Slice lo hi (some sx) p2) pos) (tE (gx X) W (eSt ev el eh es)) := by
  refine ⟨fun pins s σ H Q I ⟨ρ, α, μ, en, st, g⟩ => ?_⟩
  refine Subscript_ (thn (he.run pins s σ H (fun x H1 => ∃ α1 μ1 d, EnvOk (gx X) α1 H1 ρ σ ∧ StOk (gx X) α1 H1 μ1 ∧ Rep (gx X) α1 H1 d x ∧ Got (gx X) W σ (Rep (gx X)) α1 H1 ((ePart el ρ μ1).bind fun l μ2 => (ePart eh ρ μ2).bind fun h μ3 => (es ρ μ3).bind fun k μ4 => match k with
      | .p (.int i) => Res.ofO (opSt d l h i μ4)
      | _ => .bad) Q) I ⟨ρ, α, μ, en, st, g.bind fun d μ1 v α1 H1 x st1 r g1 => ⟨α1, μ1, d, en.ext st x, st1, r, g1⟩⟩) fun v s1 ⟨x, H1, I1, rx, α1, μ1, d, en1, st1, r1, g1⟩ => ?_)
  refine wpAny_Slice (thn (hl.run pins s1 σ H1 (fun o H2 => ∃ α2 μ2, EnvOk (gx X) α2 H2 ρ σ ∧ StOk (gx X) α2 H2 μ2 ∧ Rep (gx X) α2 H2 d x ∧ Got (gx X) W σ (Rep (gx X)) α2 H2 ((ePart eh ρ μ2).bind fun h μ3 => (es ρ μ3).bind fun k μ4 => match k with
      | .p (.int i) => Res.ofO (opSt d o h i μ4)
      | _ => .bad) Q) I1 ⟨ρ, α1, μ1, en1, st1, g1.bind fun l μ2 l' α2 H2 x2 st2 rl g2 => by
        cases rl
        exact ⟨α2, μ2, en1.ext st1 x2, st2, st1.rep x2 r1, g2⟩⟩) fun vl s2 ⟨l, H2, I2, pl, α2, μ2, en2, st2, r2, g2⟩ => ?_)
  refine thn (hu.run pins s2 σ H2 (fun o H3 => ∃ α3 μ3, EnvOk (gx X) α3 H3 ρ σ ∧ StOk (gx X) α3 H3 μ3 ∧ Rep (gx X) α3 H3 d x ∧ Got (gx X) W σ (Rep (gx X)) α3 H3 ((es ρ μ3).bind fun k μ4 => match k with
      | .p (.int i) => Res.ofO (opSt d l o i μ4)
      | _ => .bad) Q) I2 ⟨ρ, α2, μ2, en2, st2, g2.bind fun h μ3 h' α3 H3 x3 st3 rh g3 => by
        cases rh
        exact ⟨α3, μ3, en2.ext st2 x3, st3, st2.rep x3 r2, g3⟩⟩) fun vu s3 ⟨u, H3, I3, pu, α3, μ3, en3, st3, r3, g3⟩ => ?_
  refine thn ((po_some hs).run pins s3 σ H3 (fun o H4 => ∃ i α4 μ4, o = some i ∧ StOk (gx X) α4 H4 μ4 ∧ Rep (gx X) α4 H4 d x ∧ GotO (gx X) (Rep (gx X)) α4 H4 (opSt d l u i μ4) Q) I3 ⟨ρ, α3, μ3, en3, st3, g3.bind fun k μ4 w α4 H4 x4 st4 rk g4 => by
        split at g4
        · obtain rfl := rep_int rk
          exact ⟨_, rfl, _, α4, μ4, rfl, st4, st3.rep x4 r3, g4.toO⟩
        · exact g4.elim⟩) fun vs s4 ⟨o, H4, I4, ps, i, α4, μ4, eo, st4, r4, g4⟩ => ?_
  subst eo
  exact st_fin I4 rx pl pu ps st4 r4 g4
end
end Sh
set_option maxRecDepth 100000
set_option maxHeartbeats 4000000
/-! Sh: the same functions with their values worked out before they go on. -/
namespace Sh
open PySem PySem.Spec PyProof.Rows L2

section
variable {β : Type}
def seqNs : List Nat → (List Nat → β) → β
  | [], k => k []
  | n :: r, k => seqN n fun m => seqNs r fun r' => k (m :: r')
theorem seqNs_eq : ∀ (l : List Nat) (k : List Nat → β), seqNs l k = k l
  | [], k => rfl
  | n :: r, k => by
    unfold seqNs
    rw [seqN_eq, seqNs_eq r]
/-- the row alone, not what stands in it -/
def seqL {γ : Type} : List γ → (List γ → β) → β
  | [], k => k []
  | n :: r, k => seqL r fun r' => k (n :: r')
theorem seqL_eq {γ : Type} : ∀ (l : List γ) (k : List γ → β), seqL l k = k l
  | [], k => rfl
  | n :: r, k => by
    unfold seqL
    rw [seqL_eq r]
mutual
def seqP : P → (P → β) → β
  | .non, k => k .non
  | .bl b, k => seqB b fun b => k (.bl b)
  | .int i, k => seqI i fun i => k (.int i)
  | .str s, k => seqNs s fun s => k (.str s)
  | .tup ps, k => seqPs ps fun ps => k (.tup ps)
def seqPs : List P → (List P → β) → β
  | [], k => k []
  | x :: r, k => seqP x fun x => seqPs r fun r => k (x :: r)
end
mutual
theorem seqP_eq : ∀ (x : P) (k : P → β), seqP x k = k x
  | .non, k => rfl
  | .bl b, k => by unfold seqP; exact seqB_eq b _
  | .int i, k => by unfold seqP; exact seqI_eq i _
  | .str s, k => by unfold seqP; exact seqNs_eq s _
  | .tup ps, k => by unfold seqP; exact seqPs_eq ps _
theorem seqPs_eq : ∀ (x : List P) (k : List P → β), seqPs x k = k x
  | [], k => rfl
  | x :: r, k => by
    unfold seqPs
    rw [seqP_eq x, seqPs_eq r]
end
mutual
def seqDv : D → (D → β) → β
  | .p x, k => seqP x fun x => k (.p x)
  | .ref n, k => seqN n fun n => k (.ref n)
  | .mix ds, k => seqDvs ds fun ds => k (.mix ds)
  | .exc c d, k => seqDv d fun d => k (.exc c d)
  | .rol ps, k => k (.rol ps)
def seqDvs : List D → (List D → β) → β
  | [], k => k []
  | x :: r, k => seqDv x fun x => seqDvs r fun r => k (x :: r)
end
mutual
theorem seqDv_eq : ∀ (x : D) (k : D → β), seqDv x k = k x
  | .p x, k => by unfold seqDv; exact seqP_eq x _
  | .ref n, k => by unfold seqDv; rfl
  | .mix ps, k => by unfold seqDv; exact seqDvs_eq ps _
  | .exc c d, k => by unfold seqDv; exact seqDv_eq d _
  | .rol ps, k => by unfold seqDv; rfl
theorem seqDvs_eq : ∀ (x : List D) (k : List D → β), seqDvs x k = k x
  | [], k => rfl
  | x :: r, k => by
    unfold seqDvs
    rw [seqDv_eq x, seqDvs_eq r]
end
def seqKv : List (P × P) → (List (P × P) → β) → β
  | [], k => k []
  | x :: r, k => seqP x.1 fun y => seqP x.2 fun z => seqKv r fun r => k ((y, z) :: r)
theorem seqKv_eq : ∀ (x : List (P × P)) (k : List (P × P) → β), seqKv x k = k x
  | [], k => rfl
  | x :: r, k => by
    unfold seqKv
    rw [seqP_eq, seqP_eq, seqKv_eq r]
def seqC (c : Cell) (k : Cell → β) : β := match c with
  | .fl ps => seqPs ps fun ps => k (.fl ps)
  | .dl ds => seqDvs ds fun ds => k (.dl ds)
  | .fd kvs => seqKv kvs fun kvs => k (.fd kvs)
  | .td kvs => seqKv kvs fun kvs => k (.td kvs)
  | .lfd kvs => seqKv kvs fun kvs => k (.lfd kvs)
  | .ltd kvs => seqKv kvs fun kvs => k (.ltd kvs)
theorem seqC_eq (c : Cell) (k : Cell → β) : seqC c k = k c := by
  cases c with
  | fl ps => exact seqPs_eq _ _
  | dl ps => exact seqDvs_eq _ _
  | fd ps => exact seqKv_eq _ _
  | td ps => exact seqKv_eq _ _
  | lfd ps => exact seqKv_eq _ _
  | ltd ps => exact seqKv_eq _ _
end

/-! ### in their places -/
def fzE (ev : Ev D) : Ev D := fun ρ μ => match ev ρ μ with
  | .ok d μ1 => seqDv d fun d => .ok d μ1
  | .exc c d μ1 => .exc c d μ1
  | .bad => .bad
theorem fzE_eq (ev : Ev D) : fzE ev = ev := by
  funext ρ μ
  unfold fzE
  split
  · rename_i d μ1 h
    rw [seqDv_eq, h]
  · rename_i h; rw [h]
  · rename_i h; rw [h]
def fzH (ev : Ev D) : Ev D := fun ρ μ => match ev ρ μ with
  | .ok d μ1 => seqH d fun d => .ok d μ1
  | .exc c d μ1 => .exc c d μ1
  | .bad => .bad
theorem fzH_eq (ev : Ev D) : fzH ev = ev := by
  funext ρ μ
  unfold fzH
  split
  · rename_i d μ1 h
    rw [seqH_eq, h]
  · rename_i h; rw [h]
  · rename_i h; rw [h]
def isRead (cal : Str → Bool) : Expr → Bool
  | .Subscript _ (.Slice ..) _ => false
  | .Subscript .. => true
  | .Attribute .. => true
  | .Call (.Name x _) _ _ _ => cal x
  | .Compare .. => true
  | .BoolOp .. => true
  | .Tuple .. => true
  | .List .. => true
  | _ => false
def fzW (cal : Str → Bool) (e : Expr) (ev : Ev D) : Ev D := match e with
  | .Name .. => ev
  | .Constant .. => ev
  | e => match isRead cal e with
    | true => fzH ev
    | false => fzE ev
theorem fzW_eq (cal : Str → Bool) (e : Expr) (ev : Ev D) : fzW cal e ev = ev := by
  unfold fzW
  split
  · rfl
  · rfl
  · split
    · exact fzH_eq ev
    · exact fzE_eq ev
def fzG (g : Tg) : Tg := fun d ρ μ => seqH d fun d => g d ρ μ
theorem fzG_eq (g : Tg) : fzG g = g := by
  funext d ρ μ
  unfold fzG
  rw [seqH_eq]
/-- the env worked out to the place, the value there -/
def seqO {β : Type} (o : Option D) (k : Option D → β) : β := match o with
  | some d => seqDv d fun d => k (some d)
  | none => k none
theorem seqO_eq {β : Type} (o : Option D) (k : Option D → β) : seqO o k = k o := by
  cases o with
  | none => rfl
  | some d => exact seqDv_eq d _
def seqEn {β : Type} : Nat → Env → (Env → β) → β
  | _, [], k => k []
  | 0, c :: r, k => seqO c fun c => k (c :: r)
  | n + 1, c :: r, k => seqEn n r fun r => k (c :: r)
theorem seqEn_eq {β : Type} : ∀ (n : Nat) (μ : Env) (k : Env → β), seqEn n μ k = k μ
  | 0, [], k => rfl
  | _ + 1, [], k => rfl
  | 0, c :: r, k => by
    unfold seqEn
    rw [seqO_eq]
  | n + 1, c :: r, k => by
    unfold seqEn
    rw [seqEn_eq n]
def fzA (i : Nat) (s : Sv) : Sv := fun ρ μ => match s ρ μ with
  | .next ρ1 μ1 => seqEn i ρ1 fun ρ2 => .next ρ2 μ1
  | r => r
theorem fzA_eq (i : Nat) (s : Sv) : fzA i s = s := by
  funext ρ μ
  unfold fzA
  split
  · rename_i ρ1 μ1 h
    rw [seqEn_eq, h]
  · rfl
def fzF (f : Fn) : Fn := fun ds μ => seqHs ds fun ds => f ds μ
theorem fzF_eq (f : Fn) : fzF f = f := by
  funext ds μ
  unfold fzF
  rw [seqHs_eq]
/-- what a reading gives, kept as it is -/
structure Bx (β : Type) where
  run : β
abbrev BE := Bx (Ev D)
abbrev BT := Bx (Ev Bool)
abbrev BA := Bx (Ev (List D))
abbrev BI := Bx (Ev Src)
abbrev BS := Bx Sv
abbrev BG := Bx Tg
def xE : BE := ⟨eBad⟩
def xT : BT := ⟨eBad⟩
def xS : BS := ⟨sBad⟩
end Sh
set_option maxRecDepth 100000
set_option maxHeartbeats 4000000
/-! Sh: the reading of a text: what is known of its names; operators. -/
namespace Sh
open PySem PySem.Spec PyProof.Rows L2

/-! ### texts, quick -/
def lb : List Nat → List Nat → Bool
  | [], [] => true
  | x :: xs, y :: ys => match Nat.beq x y with
    | true => lb xs ys
    | false => false
  | _, _ => false
theorem lb_eq : ∀ {l m : List Nat}, lb l m = true → l = m
  | [], [], _ => rfl
  | x :: xs, y :: ys, h => by
    unfold lb at h
    split at h
    · rename_i e
      rw [Nat.eq_of_beq_eq_true e, lb_eq h]
    · cases h
  | [], _ :: _, h => by cases h
  | _ :: _, [], h => by cases h
theorem lb_refl : ∀ l : List Nat, lb l l = true
  | [] => rfl
  | x :: xs => by
    unfold lb
    rw [Nat.beq_refl]
    exact lb_refl xs
def sq (x y : Str) : Bool := lb x.cps.toList y.cps.toList
theorem sq_eq {x y : Str} (h : sq x y = true) : x = y := by
  cases x
  cases y
  have := lb_eq h
  simp at this
  rw [this]
theorem sq_refl (x : Str) : sq x x = true := lb_refl _
theorem sq_beq (x y : Str) : sq x y = (x == y) := by
  cases e : sq x y with
  | true => rw [sq_eq e]; simp
  | false =>
    symm
    rw [beq_eq_false_iff_ne]
    rintro rfl
    rw [sq_refl] at e
    cases e
def lkN {β : Type} (x : Str) : List (Str × β) → Option β
  | [] => none
  | p :: r => match sq x p.1 with
    | true => some p.2
    | false => lkN x r
theorem lkN_eq {β : Type} (x : Str) : ∀ l : List (Str × β), lkN x l = l.lookup x
  | [] => rfl
  | (y, b) :: r => by
    unfold lkN
    simp only [List.lookup_cons]
    rw [sq_beq, lkN_eq x r]
    cases x == y <;> rfl
def ixN? (x : Str) : List Str → Option Nat
  | [] => none
  | y :: r => match sq x y with
    | true => some 0
    | false => match ixN? x r with
      | some i => some (i + 1)
      | none => none
theorem ixN?_ok {x : Str} : ∀ {l : List Str} {i : Nat}, ixN? x l = some i → l[i]? = some x
  | y :: r, i, h => by
    unfold ixN? at h
    split at h
    · rename_i e
      cases h
      rw [sq_eq e]
      rfl
    · split at h
      · rename_i j hj
        cases h
        simpa using ixN?_ok hj
      · cases h

/-! ### what is known of names -/
inductive GV where
  | fn (c : CE) | con (p : P) | free | no | exc (subs others : List Str) | heard (subs : List Str)
structure Cc where
  N : List Str
  kinds : List (Str × NameKind)
  fn : Str → Bool
  lvl : Nat
  glob : Str → GV
  lam : Bool
structure GOk (P : Program) (w : World) (K : PySem.W.Frag) (mg : Str → Option Value) (base : Heap) (g : Str → GV) : Prop where
  fn : ∀ x c, g x = .fn c → FOk P w K mg base x c ∧ c.ps.Nodup
  con : ∀ x p, g x = .con p → ∃ u v, mg x = some u ∧ RelV v u ∧ ∀ H, RepP K H p v
  free : ∀ x, g x = .free → mg x = none
  exc : ∀ x a b, g x = .exc a b → ExcG P K mg x a b
  heard : ∀ x a, g x = .heard a → HeardG K mg x a
  tb : ∀ p ∈ codesK K, LamX.TabB base mg p.1 p.2
  tu : ∀ p ∈ tabsK K, ∀ q ∈ tabsK K, p.1 = q.1 → p.2 = q.2
structure XOk (C : Cc) (X : Cx) (W : WX) : Prop where
  calm : X.calm = true
  N : X.N = C.N
  nd : C.N.Nodup
  kinds : X.env.scope.names = C.kinds
  skind : X.env.scope.kind = .function
  fn : X.fn = C.fn
  room : Room C.lvl X.A
  gd : X.A.guards = some []
  tk : Takes X W
  glob : GOk X.prog X.w X.K X.mg X.base C.glob
  cod : C.lam = true → ∃ c, X.env.code = .ref c ∧ (c, He.tabOf X.K c) ∈ codesK X.K ∧ (He.tabOf X.K c, X.env.qual ++ "<lambda>") ∈ tabsK X.K
section
variable {C : Cc} {X : Cx} {W : WX}
theorem XOk.hu (o : XOk C X W) : X.A.units + 64 < cLine := Room.units o.room
theorem XOk.hu1 (o : XOk C X W) : X.A.units + 1 < cLine := by have := o.hu; omega
theorem XOk.gl (o : XOk C X W) {x : Str} (h : lkN x C.kinds = some .globalImplicit) : Gl X x := by
  show X.env.scope.names.lookup x = _
  rw [o.kinds, ← lkN_eq]
  exact h
def visK : Option NameKind → Bool
  | some .local => true
  | some .cell => true
  | some .free => true
  | _ => false
theorem XOk.vis (o : XOk C X W) {x : Str} (h : visK (lkN x C.kinds) = true) : Vis X.env.scope x := by
  unfold Vis
  rw [o.kinds, ← lkN_eq]
  unfold visK at h
  split at h
  · rename_i e; exact .inl e
  · rename_i e; exact .inr (.inl e)
  · rename_i e; exact .inr (.inr e)
  · cases h
end
def dbg (x : Str) : Bool := sq x "__debug__"
def cld (x : Str) : Bool := sq x "__classdict__"
def okNm (x : Str) : Bool := !dbg x && !cld x
theorem okNm_of {x : Str} (h : okNm x = true) : (x == ("__debug__" : Str)) = false ∧ (x == ("__classdict__" : Str)) = false := by
  unfold okNm dbg cld at h
  rw [sq_beq, sq_beq] at h
  simpa using h
/-- a name -/
def trNm (C : Cc) (x : Str) : BE := match okNm x with
  | true => match lkN x C.kinds with
    | some .globalImplicit => match C.glob x with
      | .con p => ⟨eC p⟩
      | _ => xE
    | k => match visK k with
      | true => match ixN? x C.N with
        | some i => ⟨eV i⟩
        | none => xE
      | false => xE
  | false => xE
theorem trNm_ok {C : Cc} {X : Cx} {W : WX} (o : XOk C X W) {x : Str} {pos : Pos} : PE X (.Name x pos) (tE (gx X) W (trNm C x).run) := by
  unfold trNm
  split
  · rename_i h
    obtain ⟨h1, h2⟩ := okNm_of h
    split
    · rename_i hk
      split
      · rename_i p hp
        obtain ⟨u, v, e1, e2, e3⟩ := o.glob.con x p hp
        exact pe_c (pe_glob (o.gl hk) e1 e2 h1) e3
      · exact pe_bad
    · rename_i hk
      split
      · rename_i hv
        split
        · rename_i i hi
          exact pe_v (pe_var (by rw [o.N]; exact ixN?_ok hi) (o.vis hv) h1 h2)
        · exact pe_bad
      · exact pe_bad
  · exact pe_bad
/-- a constant -/
def trC : Const → BE
  | .none => ⟨eC .non⟩
  | .bool b => ⟨eC (.bl b)⟩
  | .int i => ⟨eC (.int i)⟩
  | .str s => ⟨eC (.str s.cps.toList)⟩
  | _ => xE
theorem stS_of (s : Str) : stS s.cps.toList = s := by
  cases s
  simp [stS]
theorem str_rep {K : PySem.W.Frag} (s : Str) : ∀ H, RepP K H (.str s.cps.toList) (.str s) := fun H => by
  have h := RepP.str (K := K) (H := H) s.cps.toList
  rw [stS_of] at h
  exact h
theorem trC_ok {X : Cx} {W : WX} {c : Const} {k : Nat} {pos : Pos} : PE X (.Constant c k pos) (tE (gx X) W (trC c).run) := by
  cases c with
  | none => exact pe_c pe_non fun _ => .non
  | bool b => exact pe_c pe_bl fun _ => .bl b
  | int i => exact pe_c pe_int fun _ => .int i
  | str s => exact pe_c pe_str (str_rep s)
  | float f => exact pe_bad
  | complex a b => exact pe_bad
  | bytes b => exact pe_bad
  | ellipsis => exact pe_bad

/-! ### operators -/
def binO : Operator → Op2
  | .Add => opAdd
  | .Sub => opSub
  | .Mult => opMulA
  | .Mod => opMod
  | .FloorDiv => opDiv
  | .Pow => opPow
  | _ => fun _ _ _ => none
theorem opNo {X : Cx} {f : Value → Value → Sem Value} : OpR X f (r2 (gx X) fun _ _ _ => none) := by
  rintro pins s σ H x y v u Q I rx ry ⟨α, μ, d, e, st, r1, r2, g⟩
  exact g.elim
theorem binO_ok {X : Cx} (op : Operator) : OpR X (binaryOp op) (r2 (gx X) (binO op)) := by
  cases op with
  | Add => exact op_addS
  | Sub => exact op_subS
  | Mult => exact op_mulA
  | Mod => exact op_modS
  | FloorDiv => exact op_divS
  | Pow => exact op_powS
  | _ => exact opNo
def opIAdd : Op2
  | .p (.int i), .p (.int j), μ => some (.p (.int (i + j)), μ)
  | .p (.str s), .p (.str t), μ => if s.length + t.length ≤ szMax then some (.p (.str (s ++ t)), μ) else none
  | _, _, _ => none
def iopO : Operator → Op2
  | .Add => opIAdd
  | .Sub => opSub
  | .Mult => fun d e μ => match d, e with
    | .p (.int _), .p (.int _) => opMul d e μ
    | _, _ => none
  | .Mod => opMod
  | .FloorDiv => opDiv
  | _ => fun _ _ _ => none
section
variable {X : Cx}
theorem iopO_ok (op : Operator) : OpR X (inplaceOp op) (r2 (gx X) (iopO op)) := by
  cases op with
  | Add =>
    rintro pins s σ H x y v u Q I rx ry ⟨α, μ, d, e, st, r1, r2, g⟩
    have g : GotO (gx X) (Rep (gx X)) α H (opIAdd d e μ) Q := g
    unfold opIAdd at g
    split at g
    · obtain rfl := rep_int r1
      obtain rfl := rep_int r2
      exact iop_add pins s σ H _ _ v u Q I rx ry ⟨_, _, rfl, rfl, g.here st (.p (.int _))⟩
    · obtain rfl := rep_str r1
      obtain rfl := rep_str r2
      split at g
      · rename_i hz
        refine iop_add_str pins s σ H _ _ v u Q I rx ry ⟨_, _, rfl, rfl, by rw [stS_len, stS_len, sizeLine_eq]; exact hz, ?_⟩
        rw [stS_app]
        exact g.here st (.p (.str _))
      · exact g.elim
    · exact g.elim
  | Sub =>
    rintro pins s σ H x y v u Q I rx ry ⟨α, μ, d, e, st, r1, r2, g⟩
    have g : GotO (gx X) (Rep (gx X)) α H (opSub d e μ) Q := g
    unfold opSub at g
    split at g
    · obtain rfl := rep_int r1
      obtain rfl := rep_int r2
      exact iop_sub pins s σ H _ _ v u Q I rx ry ⟨_, _, rfl, rfl, g.here st (.p (.int _))⟩
    · rename_i i j g0
      clear g0
      obtain rfl := rep_bl r1
      obtain rfl := rep_bl r2
      cases (show v = Value.bool i from rx)
      cases (show u = Value.bool j from ry)
      refine PyProof.Rows.isub_bool ⟨.int (PyProof.Rows.b2i i - PyProof.Rows.b2i j), H, I.tok _, ⟨_, rfl⟩, ?_⟩
      have q := g.here st (.p (.int _))
      cases i <;> cases j <;> exact q
    · exact g.elim
  | Mult =>
    rintro pins s σ H x y v u Q I rx ry ⟨α, μ, d, e, st, r1, r2, g⟩
    have g : GotO (gx X) (Rep (gx X)) α H (iopO .Mult d e μ) Q := g
    unfold iopO at g
    dsimp only at g
    split at g
    · rename_i i j
      obtain rfl := rep_int r1
      obtain rfl := rep_int r2
      unfold opMul at g
      dsimp only at g
      split at g
      · rename_i hz
        obtain ⟨t, rfl⟩ := rx
        obtain ⟨t', rfl⟩ := ry
        exact imul_int ⟨.int _, H, I.tok _, ⟨_, rfl⟩, g.here st (.p (.int _))⟩ (CMulW.ok (by have h1 := sm_log (by decide) hz.1; have h2 := sm_log (by decide) hz.2; exact Nat.lt_of_lt_of_le (Nat.add_lt_add h1 h2) (by decide)))
      · exact g.elim
    · exact g.elim
  | Mod =>
    rintro pins s σ H x y v u Q I rx ry ⟨α, μ, d, e, st, r1, r2, g⟩
    have g : GotO (gx X) (Rep (gx X)) α H (opMod d e μ) Q := g
    unfold opMod at g
    split at g
    · obtain rfl := rep_int r1
      obtain rfl := rep_int r2
      split at g
      · exact g.elim
      · rename_i h
        obtain ⟨t, rfl⟩ := rx
        obtain ⟨t', rfl⟩ := ry
        exact imod_int h ⟨.int _, H, I.tok _, ⟨_, rfl⟩, g.here st (.p (.int _))⟩
    · exact g.elim
  | FloorDiv =>
    rintro pins s σ H x y v u Q I rx ry ⟨α, μ, d, e, st, r1, r2, g⟩
    have g : GotO (gx X) (Rep (gx X)) α H (opDiv d e μ) Q := g
    unfold opDiv at g
    split at g
    · obtain rfl := rep_int r1
      obtain rfl := rep_int r2
      split at g
      · exact g.elim
      · rename_i h
        split at g
        · rename_i h2
          obtain ⟨t, rfl⟩ := rx
          obtain ⟨t', rfl⟩ := ry
          exact ifloordiv_int h ⟨.int _, H, I.tok _, ⟨_, rfl⟩, g.here st (.p (.int _))⟩ (.inl (PyProof.noPylong_of_log2 (sm_log (by decide) h2)))
        · exact g.elim
    · exact g.elim
  | _ => exact opNo
end
def cmpO : CmpOp → Op2
  | .Eq => opEqA
  | .NotEq => opNeA
  | .Lt => opLt
  | .LtE => opLe
  | .Gt => opGt
  | .GtE => opGe
  | .Is => opIs
  | .IsNot => opIsNot
  | .In => opIn
  | .NotIn => opNotIn
theorem cmpO_ok {X : Cx} (hu : X.A.units + 64 < cLine) (op : CmpOp) : OpR X (compareOp op) (r2 (gx X) (cmpO op)) := by
  cases op with
  | Eq => exact op_eqA hu
  | NotEq => exact op_neA hu
  | Lt => exact op_ltS hu
  | LtE => exact op_leS hu
  | Gt => exact op_gtS hu
  | GtE => exact op_geS hu
  | Is => exact op_isS
  | IsNot => exact op_isNotS
  | In => exact op_inS hu
  | NotIn => exact op_notInS hu

/-! ### the shape of texts -/
def isStar : Expr → Bool
  | .Starred _ _ => true
  | _ => false
theorem star_no {e : Expr} (h : isStar e = false) (es : List Expr) (env : PySem.Env) : starEach (e :: es) env = (false, eval e env) :: starEach es env := by
  cases e <;> first | rfl | cases h
theorem star_any {es : List Expr} (h : es.all (fun e => !isStar e) = true) (pos : Pos) (env : PySem.Env) : (backTo pos (starEach es env)).any (·.1) = false := by
  induction es with
  | nil => rfl
  | cons e es ih =>
    simp only [List.all_cons, Bool.and_eq_true, Bool.not_eq_true'] at h
    rw [star_no h.1]
    show (false || (backTo pos (starEach es env)).any (·.1)) = false
    rw [ih h.2]
    rfl
theorem asg_no {e : Expr} (h : isStar e = false) (es : List Expr) (env : PySem.Env) : assignEach (e :: es) env = (false, assign e env) :: assignEach es env := by
  cases e <;> first | rfl | cases h
theorem asg_len {env : PySem.Env} : ∀ (es : List Expr), (assignEach es env).length = es.length
  | [] => by unfold assignEach; rfl
  | e :: es => by
    cases h : isStar e with
    | false => rw [asg_no h]; exact congrArg Nat.succ (asg_len es)
    | true =>
      cases e with
      | Starred v p =>
        show ((true, assign v env) :: assignEach es env).length = _
        exact congrArg Nat.succ (asg_len es)
      | _ => cases h
theorem asg_find {env : PySem.Env} : ∀ {es : List Expr}, es.all (fun e => !isStar e) = true → (assignEach es env).findIdx? (·.1) = none
  | [], _ => by unfold assignEach; rfl
  | e :: es, h => by
    simp only [List.all_cons, Bool.and_eq_true, Bool.not_eq_true'] at h
    rw [asg_no h.1, List.findIdx?_cons]
    simp [asg_find h.2]
/-- what is no comprehension -/
def noComp : Expr → Bool
  | .ListComp .. => false
  | .SetComp .. => false
  | .DictComp .. => false
  | _ => true
theorem swaps_no {e : Expr} (h : noComp e = true) (t : Option Expr) (l : Nat) (env : PySem.Env) : swapsWith e t l env = pure false := by
  cases e <;> first | rfl | cases h
def plainTest : Expr → Bool
  | .UnaryOp .Not .. => false
  | .BoolOp .. => false
  | .IfExp .. => false
  | .Compare .. => false
  | _ => true
theorem test_of {e : Expr} (h : plainTest e = true) (env : PySem.Env) (whole : Sem Value) : isTrue e env whole = (do let v ← whole; standAt e.pos; holding [v] (truthy v)) := by
  cases e with
  | UnaryOp op a p => cases op <;> first | rfl | cases h
  | BoolOp => cases h
  | IfExp => cases h
  | Compare => cases h
  | _ => rfl
def okBase : Expr → Bool
  | .Call _ [] [] _ => false
  | _ => true
theorem base_of {o : Expr} (h : okBase o = true) (name : Str) (env : PySem.Env) (t : Sem Value) : attributeBase o name env t = t := by
  cases o with
  | Call f as ks p =>
    cases as with
    | cons a as => cases f <;> rfl
    | nil => cases ks with
      | nil => cases h
      | cons k ks => cases f <;> rfl
  | _ => rfl
def plainIx : Expr → Bool
  | .Slice _ _ none _ => false
  | _ => true
theorem ix_of {e : Expr} (h : plainIx e = true) : PlainIx e := by
  intro o i
  cases e with
  | Slice l u s p => cases s with
    | none => cases h
    | some s => rfl
  | _ => rfl
def noSet : Expr → Bool
  | .Set .. => false
  | _ => true
theorem set_no {e : Expr} (h : noSet e = true) (env : PySem.Env) (x : Value) : foldedSetIterable e env x = pure x := by
  cases e <;> first | rfl | cases h
end Sh
set_option maxRecDepth 100000
set_option maxHeartbeats 4000000
/-! Sh: the reading of expressions. -/
namespace Sh
open PySem PySem.Spec PyProof.Rows L2

structure Tr where
  be : Cc → Expr → BE
  bt : Cc → Expr → BT
def Tr.e (r : Tr) (C : Cc) (a : Expr) : Ev D := (r.be C a).run
def Tr.t (r : Tr) (C : Cc) (a : Expr) : Ev Bool := (r.bt C a).run
structure TrOk (r : Tr) : Prop where
  e : ∀ {C : Cc} {X : Cx} {W : WX}, XOk C X W → ∀ a, PE X a (tE (gx X) W (r.e C a))
  t : ∀ {C : Cc} {X : Cx} {W : WX}, XOk C X W → ∀ a, PT X a (tT (gx X) W (r.t C a))

/-! ### rows of values, stars too -/
def seqD (μ : Store) : D → Option (List D)
  | .p (.tup ps) => some (ps.map .p)
  | .mix ds => some ds
  | .ref n => rdL μ n
  | .rol ps => some (ps.map .p)
  | _ => none
def aStar (a : Ev D) (r : Ev (List D)) : Ev (List D) := fun ρ μ => (a ρ μ).bind fun d μ1 => match seqD μ1 d with
  | some ds => (r ρ μ1).bind fun es μ2 => .ok (ds ++ es) μ2
  | none => .bad
def bA (f : Expr → Ev D) : List Expr → BA
  | [] => ⟨aNil⟩
  | e :: es => match e with
    | .Starred a _ => ⟨aStar (f a) (bA f es).run⟩
    | e => ⟨aCons (f e) (bA f es).run⟩
def aOf (f : Expr → Ev D) (es : List Expr) : Ev (List D) := (bA f es).run
def bK (f : Expr → Ev D) : List Keyword → BA
  | [] => ⟨aNil⟩
  | k :: ks => ⟨aCons (f k.value) (bK f ks).run⟩
def kOf (f : Expr → Ev D) (ks : List Keyword) : Ev (List D) := (bK f ks).run
section
variable {X : Cx} {W : WX} {f : Expr → Ev D}
theorem seqD_of {G : Gx} {α : List Addr} {H : Hp} {μ : Store} {d : D} {v : V} {ds : List D} (st : StOk G α H μ) (r : Rep G α H d v) (h : seqD μ d = some ds) : ∃ a vs, v = .ref a ∧ (SqT G.K H a vs ∨ SqL G.K H a vs) ∧ Reps G α H ds vs := by
  unfold seqD at h
  split at h
  · cases h
    obtain ⟨a, vs, rfl, h1, h2⟩ := rep_tup r
    exact ⟨a, vs, rfl, .inl h1, h2.toD⟩
  · cases h
    cases r with
    | mix h1 h2 => exact ⟨_, _, rfl, .inl h1, h2⟩
  · obtain ⟨a, rfl, ha⟩ := rep_ref r
    obtain ⟨vs, h1, h2⟩ := rdL_of st ha h
    exact ⟨a, vs, rfl, .inr h1, h2⟩
  · cases h
    cases r with
    | rol h1 h2 => exact ⟨_, _, rfl, .inr h1.sq, h2.toD⟩
  · cases h
theorem aOf_ok (hf : ∀ a, PE X a (tE (gx X) W (f a))) : ∀ es, PA X es (tAs (gx X) W (aOf f es))
  | [] => pa_n
  | e :: es => by
    cases hs : isStar e with
    | false =>
      have q : aOf f (e :: es) = aCons (f e) (aOf f es) := by cases e <;> first | rfl | cases hs
      rw [q]
      exact pa_c (hf e) (aOf_ok hf es) (star_no hs es X.env)
    | true =>
      cases e with
      | Starred a p =>
        exact (StX.pa_star (hf a) (aOf_ok hf es) rfl).weak fun σ H Q ⟨ρ, α, μ, en, st, g⟩ => ⟨ρ, α, μ, en, st, Got.bind g fun d μ1 v α1 H1 x st1 r g1 => by
          split at g1
          · rename_i ds hd
            obtain ⟨b, vs, rfl, h1, h2⟩ := seqD_of st1 r hd
            exact ⟨b, vs, rfl, h1, ρ, α1, μ1, en.ext st x, st1, g1.bind fun es' μ2 ws α2 H2 x2 st2 rr g2 => g2 _ α2 H2 (Ext.refl _ _) st2 ((st1.reps x2 h2).append rr)⟩
          · exact g1.elim⟩
      | _ => cases hs
theorem kOf_ok (hf : ∀ a, PE X a (tE (gx X) W (f a))) : ∀ ks, PK X ks (tAs (gx X) W (kOf f ks))
  | [] => pk_n
  | ⟨nm, v, p⟩ :: ks => pk_c (hf v) (kOf_ok hf ks)
end

/-! ### and, or -/
def boolE (f : Expr → Ev D) (op : BoolOp) : List Expr → BE
  | [] => xE
  | a :: r => match r with
    | [] => ⟨f a⟩
    | _ :: _ => match op with
      | .And => ⟨eAnd (f a) (boolE f op r).run⟩
      | .Or => ⟨eOr (f a) (boolE f op r).run⟩
def boolT (f : Expr → Ev Bool) (op : BoolOp) : List Expr → BT
  | [] => xT
  | a :: r => match r with
    | [] => ⟨f a⟩
    | _ :: _ => match op with
      | .And => ⟨bAnd (f a) (boolT f op r).run⟩
      | .Or => ⟨bOr (f a) (boolT f op r).run⟩
section
variable {X : Cx} {W : WX} {f : Expr → Ev D} {ft : Expr → Ev Bool} {pos : Pos}
theorem boolE_ok (hf : ∀ a, PE X a (tE (gx X) W (f a))) (op : BoolOp) : ∀ es, PE X (.BoolOp op es pos) (tE (gx X) W (boolE f op es).run)
  | [] => pe_bad
  | [a] => pe_one (hf a)
  | a :: b :: r => by
    cases op with
    | And => exact pe_an (hf a) (boolE_ok hf .And (b :: r))
    | Or => exact pe_o (hf a) (boolE_ok hf .Or (b :: r))
theorem boolT_ok (hf : ∀ a, PT X a (tT (gx X) W (ft a))) (op : BoolOp) : ∀ es, PW X (.BoolOp op es pos) (tT (gx X) W (boolT ft op es).run)
  | [] => pw_bad
  | [a] => by
    cases op with
    | And => exact pw_and1 (hf a)
    | Or => exact pw_or1 (hf a)
  | a :: b :: r => by
    cases op with
    | And => exact (pw_and (hf a) (boolT_ok hf .And (b :: r))).weak tAnd_of
    | Or => exact (pw_or (hf a) (boolT_ok hf .Or (b :: r))).weak tOr_of
end

/-! ### calls of what is built in -/
def biTab : List (Str × OpN) := [("len", opLen), ("abs", opAbs), ("max", opMax), ("min", opMin), ("int", opInt), ("bool", opBool), ("sum", opSum), ("all", opAll), ("any", opAny), ("list", opList), ("tuple", opTuple), ("dict", opDict), ("str", opStr), ("sorted", opSortedD), ("repr", opRepr)]
def biOp (x : Str) : Option OpN := lkN x biTab
theorem lkN_mem {β : Type} {x : Str} {b : β} : ∀ {l : List (Str × β)}, lkN x l = some b → (x, b) ∈ l
  | (y, c) :: r, h => by
    unfold lkN at h
    split at h
    · rename_i e
      cases h
      rw [sq_eq e]
      exact List.mem_cons_self
    · exact List.mem_cons_of_mem _ (lkN_mem h)
inductive BiOk (X : Cx) (x : Str) (op : OpN) : Prop
  | f (id : String) (h : bootBuiltins x = some (.builtin id)) (c : CallR X (.builtin id) (rN (gx X) op)) (n : x ≠ "__name__")
  | t (T : String) (h : bootBuiltins x = some (.type T)) (c : CallR X (.type T) (rN (gx X) op)) (n : x ≠ "__name__")
theorem biTab_ok {X : Cx} (hc : X.calm = true) (hu : X.A.units + 64 < cLine) (hgd : X.A.guards = some []) : ∀ p ∈ biTab, BiOk X p.1 p.2 := by
  unfold biTab
  refine List.forall_mem_cons.mpr ⟨.f "len" (by decide +kernel) cr_len (by decide), ?_⟩
  refine List.forall_mem_cons.mpr ⟨.f "abs" (by decide +kernel) cr_abs (by decide), ?_⟩
  refine List.forall_mem_cons.mpr ⟨.f "max" (by decide +kernel) (cr_max2 hc) (by decide), ?_⟩
  refine List.forall_mem_cons.mpr ⟨.f "min" (by decide +kernel) (cr_min2 hc) (by decide), ?_⟩
  refine List.forall_mem_cons.mpr ⟨.t "int" (by decide +kernel) cr_int (by decide), ?_⟩
  refine List.forall_mem_cons.mpr ⟨.t "bool" (by decide +kernel) cr_bool (by decide), ?_⟩
  refine List.forall_mem_cons.mpr ⟨.f "sum" (by decide +kernel) (cr_sumS hc) (by decide), ?_⟩
  refine List.forall_mem_cons.mpr ⟨.f "all" (by decide +kernel) (cr_allS hc) (by decide), ?_⟩
  refine List.forall_mem_cons.mpr ⟨.f "any" (by decide +kernel) (cr_anyS hc) (by decide), ?_⟩
  refine List.forall_mem_cons.mpr ⟨.t "list" (by decide +kernel) cr_listS (by decide), ?_⟩
  refine List.forall_mem_cons.mpr ⟨.t "tuple" (by decide +kernel) cr_tupleS (by decide), ?_⟩
  refine List.forall_mem_cons.mpr ⟨.t "dict" (by decide +kernel) cr_dictS (by decide), ?_⟩
  refine List.forall_mem_cons.mpr ⟨.t "str" (by decide +kernel) cr_strS (by decide), ?_⟩
  refine List.forall_mem_cons.mpr ⟨.f "sorted" (by decide +kernel) (cr_sortedD hc hu) (by decide), ?_⟩
  refine List.forall_mem_cons.mpr ⟨.f "repr" (by decide +kernel) (cr_reprS hgd hu) (by decide), ?_⟩
  intro p h
  cases h
theorem biOp_ok {X : Cx} (hc : X.calm = true) (hu : X.A.units + 64 < cLine) (hgd : X.A.guards = some []) {x : Str} {op : OpN} (h : biOp x = some op) : BiOk X x op := biTab_ok hc hu hgd _ (lkN_mem h)
def tyTab : List (Str × Ty) := [("int", .int), ("bool", .bl), ("str", .str), ("tuple", .tup), ("list", .lst), ("dict", .dct)]
def tyNm (x : Str) : Option Ty := lkN x tyTab
theorem tyTab_ok : ∀ p ∈ tyTab, bootBuiltins p.1 = some (.type p.2.nm) ∧ p.1 ≠ "__name__" := by
  unfold tyTab
  refine List.forall_mem_cons.mpr ⟨⟨by decide +kernel, by decide⟩, ?_⟩
  refine List.forall_mem_cons.mpr ⟨⟨by decide +kernel, by decide⟩, ?_⟩
  refine List.forall_mem_cons.mpr ⟨⟨by decide +kernel, by decide⟩, ?_⟩
  refine List.forall_mem_cons.mpr ⟨⟨by decide +kernel, by decide⟩, ?_⟩
  refine List.forall_mem_cons.mpr ⟨⟨by decide +kernel, by decide⟩, ?_⟩
  refine List.forall_mem_cons.mpr ⟨⟨by decide +kernel, by decide⟩, ?_⟩
  intro p h
  cases h
theorem tyNm_ok {x : Str} {T : Ty} (h : tyNm x = some T) : bootBuiltins x = some (.type T.nm) ∧ x ≠ "__name__" := tyTab_ok _ (lkN_mem h)
/-- a name that stands for what is built in -/
def isBi (C : Cc) (x : Str) : Bool := okNm x && (match lkN x C.kinds with
  | some .globalImplicit => true
  | _ => false) && (match C.glob x with
  | .free => true
  | _ => false)
theorem isBi_ok {C : Cc} {X : Cx} {W : WX} (o : XOk C X W) {x : Str} (h : isBi C x = true) : Gl X x ∧ X.mg x = none ∧ (x == ("__debug__" : Str)) = false := by
  unfold isBi at h
  simp only [Bool.and_eq_true] at h
  obtain ⟨⟨h1, h2⟩, h3⟩ := h
  refine ⟨o.gl ?_, o.glob.free x ?_, (okNm_of h1).1⟩
  · split at h2
    · assumption
    · cases h2
  · split at h3
    · assumption
    · cases h3
def noStars (es : List Expr) : Bool := es.all fun e => !isStar e
theorem noStars_cons {e : Expr} {es : List Expr} (h : noStars (e :: es) = true) : isStar e = false ∧ noStars es = true := by
  unfold noStars at *
  simp only [List.all_cons, Bool.and_eq_true, Bool.not_eq_true'] at h
  exact h
/-- list(range(..)), tuple(range(..)) -/
def rgV2 (l : Bool) (i j : Int) (μ : Store) : Option (D × Store) := if inI i && inI j && decide ((j - i).toNat ≤ szMax) then (match pures (rangeD (j - i).toNat i) with
  | some ps => if l then some (.ref μ.length, μ ++ [Cell.fl ps]) else some (.p (.tup ps), μ)
  | none => none) else none
def eRg1 (l : Bool) (a : Ev D) : Ev D := fun ρ μ => (a ρ μ).bind fun d μ1 => match d with
  | .p (.int j) => Res.ofO (rgV2 l 0 j μ1)
  | _ => .bad
def eRg2 (l : Bool) (a b : Ev D) : Ev D := fun ρ μ => (a ρ μ).bind fun d μ1 => (b ρ μ1).bind fun e μ2 => match d, e with
  | .p (.int i), .p (.int j) => Res.ofO (rgV2 l i j μ2)
  | _, _ => .bad
section
variable {X : Cx} {W : WX} {a b : Expr} {ea eb : Ev D} {p pos q : Pos}
theorem rgV_rep {G : Gx} {α : List Addr} {H : Hp} : ∀ (n : Nat) (i j : Int), (j - i).toNat = n → Reps G α H (rangeD n i) ((List.range n).map fun k => V.int (i + (k : Nat)))
  | 0, _, _, _ => .nil
  | n + 1, i, j, h => by
    rw [List.range_succ_eq_map, List.map_cons, List.map_map]
    refine .cons (by simpa using (Rep.p (RepP.int (K := G.K) (H := H) i) : Rep G α H (.p (.int i)) (.int i))) ?_
    have := rgV_rep (G := G) (α := α) (H := H) n (i + 1) j (by omega)
    have e : ((fun k : Nat => V.int (i + (k : Nat))) ∘ Nat.succ) = fun k : Nat => V.int (i + 1 + (k : Nat)) := by
      funext k
      show V.int (i + ((k + 1 : Nat) : Int)) = _
      congr 1
      omega
    rw [e]
    exact this
theorem rg_ok {α : List Addr} {H : Hp} {μ : Store} {l : Bool} {i j : Int} {Q : VK} (st : StOk (gx X) α H μ) (g : GotO (gx X) (Rep (gx X)) α H (rgV2 l i j μ) Q) :
    RgOk i j ∧ ∀ q, H q = none → Q (.ref q) (upd H q (if l then .lst (rgV i j) else .tup (rgV i j))) := by
  unfold rgV2 at g
  split at g
  · rename_i h
    have h3 : (inI i && inI j) = true ∧ (j - i).toNat ≤ szMax := by simpa using h
    obtain ⟨h1, h2⟩ := inI2 h3.1
    refine ⟨⟨(inI_of h1).1, (inI_of h1).2, (inI_of h2).1, (inI_of h2).2, h3.2⟩, ?_⟩
    split at g
    · rename_i ps hp
      have rr := (rgV_rep (G := gx X) (α := α) (H := H) _ i j rfl).pures hp
      cases l with
      | true => exact g.push st (st.newL rr)
      | false => exact g.tup st rr
    · exact g.elim
  · exact g.elim
theorem pe_rgL1 {c1 c2 : Pos} (hc : X.calm = true) (hg : Gl X "list") (hm : X.mg "list" = none) (hg2 : Gl X "range") (hm2 : X.mg "range" = none) (ha : PE X a (tE (gx X) W ea)) (na : starEach [a] X.env = (false, eval a X.env) :: starEach [] X.env) :
    PE X (.Call (.Name "list" p) [.Call (.Name "range" q) [a] [] c1] [] c2) (tE (gx X) W (eRg1 true ea)) :=
  (pe_listRg hc hg hm (prg_1 hg2 hm2 ha na) rfl).weak fun σ H Q ⟨ρ, α, μ, en, st, g⟩ => ⟨ρ, α, μ, en, st, g.bind fun d μ1 v α1 H1 x st1 r g1 => by
    split at g1
    · obtain rfl := rep_int r
      obtain ⟨h1, h2⟩ := rg_ok st1 g1.toO
      exact ⟨_, rfl, h1, h2⟩
    · exact g1.elim⟩
theorem pe_rgT1 {c1 c2 : Pos} (hc : X.calm = true) (hg : Gl X "tuple") (hm : X.mg "tuple" = none) (hg2 : Gl X "range") (hm2 : X.mg "range" = none) (ha : PE X a (tE (gx X) W ea)) (na : starEach [a] X.env = (false, eval a X.env) :: starEach [] X.env) :
    PE X (.Call (.Name "tuple" p) [.Call (.Name "range" q) [a] [] c1] [] c2) (tE (gx X) W (eRg1 false ea)) :=
  (pe_tupRg hc hg hm (prg_1 hg2 hm2 ha na) rfl).weak fun σ H Q ⟨ρ, α, μ, en, st, g⟩ => ⟨ρ, α, μ, en, st, g.bind fun d μ1 v α1 H1 x st1 r g1 => by
    split at g1
    · obtain rfl := rep_int r
      obtain ⟨h1, h2⟩ := rg_ok st1 g1.toO
      exact ⟨_, rfl, h1, h2⟩
    · exact g1.elim⟩
theorem tRg2_of {l : Bool} : ∀ σ H Q, tE (gx X) W (eRg2 l ea eb) σ H Q → tRg2 (tE (gx X) W ea) (tE (gx X) W eb) σ H fun i j H1 => RgOk i j ∧ ∀ q, H1 q = none → Q (.ref q) (upd H1 q (if l then .lst (rgV i j) else .tup (rgV i j))) := fun σ H Q ⟨ρ, α, μ, en, st, g⟩ =>
  ⟨ρ, α, μ, en, st, g.bind fun d μ1 v α1 H1 x st1 r g1 => ⟨ρ, α1, μ1, en.ext st x, st1, g1.bind fun d2 μ2 v2 α2 H2 x2 st2 r2 g2 => by
    split at g2
    · obtain rfl := rep_int r
      obtain rfl := rep_int r2
      obtain ⟨h1, h2⟩ := rg_ok st2 g2.toO
      exact ⟨_, _, rfl, rfl, h1, h2⟩
    · exact g2.elim⟩⟩
theorem pe_rgL2 {c1 c2 : Pos} (hc : X.calm = true) (hg : Gl X "list") (hm : X.mg "list" = none) (hg2 : Gl X "range") (hm2 : X.mg "range" = none) (ha : PE X a (tE (gx X) W ea)) (hb : PE X b (tE (gx X) W eb)) (na : starEach [a, b] X.env = (false, eval a X.env) :: starEach [b] X.env) (nb : starEach [b] X.env = (false, eval b X.env) :: starEach [] X.env)
    (hp : (backTo c1 (starEach [b] X.env)).any (·.1) = false) : PE X (.Call (.Name "list" p) [.Call (.Name "range" q) [a, b] [] c1] [] c2) (tE (gx X) W (eRg2 true ea eb)) := (pe_listRg hc hg hm (prg_2 hg2 hm2 ha hb na nb hp) rfl).weak tRg2_of
theorem pe_rgT2 {c1 c2 : Pos} (hc : X.calm = true) (hg : Gl X "tuple") (hm : X.mg "tuple" = none) (hg2 : Gl X "range") (hm2 : X.mg "range" = none) (ha : PE X a (tE (gx X) W ea)) (hb : PE X b (tE (gx X) W eb)) (na : starEach [a, b] X.env = (false, eval a X.env) :: starEach [b] X.env) (nb : starEach [b] X.env = (false, eval b X.env) :: starEach [] X.env)
    (hp : (backTo c1 (starEach [b] X.env)).any (·.1) = false) : PE X (.Call (.Name "tuple" p) [.Call (.Name "range" q) [a, b] [] c1] [] c2) (tE (gx X) W (eRg2 false ea eb)) := (pe_tupRg hc hg hm (prg_2 hg2 hm2 ha hb na nb hp) rfl).weak tRg2_of
end
end Sh
set_option maxRecDepth 100000
set_option maxHeartbeats 4000000
/-! Sh: the reading of calls, walks, comprehensions; all expressions. -/
namespace Sh
open PySem PySem.Spec PyProof.Rows L2

/-! ### built-in functions -/
def callGen (f : Expr → Ev D) (x : Str) (args : List Expr) : BE := match noStars args with
  | true => match args with
    | [] => xE
    | _ :: _ => match biOp x with
      | some op => ⟨eN op (aOf f args)⟩
      | none => xE
  | false => xE
def callRg (f : Expr → Ev D) (l : Bool) (as : List Expr) : BE := match noStars as with
  | true => match as with
    | [a] => ⟨eRg1 l (f a)⟩
    | [a, b] => ⟨eRg2 l (f a) (f b)⟩
    | _ => xE
  | false => xE
def rgOf (C : Cc) (args : List Expr) : Option (List Expr) := match args with
  | [.Call (.Name q _) as [] _] => match sq q "range" && isBi C q with
    | true => some as
    | false => none
  | _ => none
/-- an own error's class -/
def exNm (C : Cc) (x : Str) : Bool := okNm x && (match lkN x C.kinds with
  | some .globalImplicit => true
  | _ => false)
theorem exNm_ok {C : Cc} {X : Cx} {W : WX} (o : XOk C X W) {x : Str} (h : exNm C x = true) : Gl X x ∧ (x == ("__debug__" : Str)) = false := by
  unfold exNm at h
  simp only [Bool.and_eq_true] at h
  obtain ⟨h1, h2⟩ := h
  refine ⟨o.gl ?_, (okNm_of h1).1⟩
  split at h2
  · assumption
  · cases h2
def callBi (f : Expr → Ev D) (C : Cc) (x : Str) (args : List Expr) : BE := match sq x "isinstance" with
  | true => match args with
    | [a, .Name t _] => match isBi C t && !isStar a with
      | true => match tyNm t with
        | some T => ⟨eIsi (f a) T⟩
        | none => xE
      | false => match exNm C t && !isStar a with
        | true => match C.glob t with
          | .exc subs others => ⟨eIsX (f a) subs others⟩
          | _ => xE
        | false => xE
    | _ => xE
  | false => match rgOf C args with
    | some as => match sq x "list" with
      | true => callRg f true as
      | false => match sq x "tuple" with
        | true => callRg f false as
        | false => callGen f x args
    | none => callGen f x args
section
variable {C : Cc} {X : Cx} {W : WX} {f : Expr → Ev D} {p pos : Pos} {x : Str}
theorem callGen_ok (o : XOk C X W) (hf : ∀ a, PE X a (tE (gx X) W (f a))) (hx : isBi C x = true) (args : List Expr) : PE X (.Call (.Name x p) args [] pos) (tE (gx X) W (callGen f x args).run) := by
  unfold callGen
  obtain ⟨h1, h2, h3⟩ := isBi_ok o hx
  split
  · rename_i hs
    cases args with
    | nil => exact pe_bad
    | cons a as =>
      obtain ⟨s1, s2⟩ := noStars_cons hs
      dsimp only
      split
      · rename_i op hb
        have ha := aOf_ok hf (a :: as)
        cases biOp_ok o.calm o.hu o.gd hb with
        | f id h c n => exact pe_bf c h1 h2 h ha n h3 (star_no s1 as X.env) (star_any s2 pos X.env)
        | t T h c n => exact pe_bt c h1 h2 h ha n h3 (star_no s1 as X.env) (star_any s2 pos X.env)
      · exact pe_bad
  · exact pe_bad
theorem rgOf_ok {args as : List Expr} (h : rgOf C args = some as) : ∃ q p1 p2, args = [.Call (.Name q p1) as [] p2] ∧ q = "range" ∧ isBi C q = true := by
  unfold rgOf at h
  split at h
  · split at h
    · rename_i hb
      cases h
      simp only [Bool.and_eq_true] at hb
      exact ⟨_, _, _, rfl, sq_eq hb.1, hb.2⟩
    · cases h
  · cases h
theorem callBi_ok (o : XOk C X W) (hf : ∀ a, PE X a (tE (gx X) W (f a))) (hx : isBi C x = true) (args : List Expr) : PE X (.Call (.Name x p) args [] pos) (tE (gx X) W (callBi f C x args).run) := by
  obtain ⟨h1, h2, h3⟩ := isBi_ok o hx
  unfold callBi
  split
  · rename_i hi
    have e := sq_eq hi
    subst e
    split
    · rename_i a t pt
      split
      · rename_i hb
        simp only [Bool.and_eq_true, Bool.not_eq_true'] at hb
        split
        · rename_i T hT
          obtain ⟨g1, g2, g3⟩ := isBi_ok o hb.1
          obtain ⟨t1, t2⟩ := tyNm_ok hT
          exact pe_isi h1 h2 (hf a) (pe_bltn g1 g2 t1 (show RelV (.ty T.nm) (.type T.nm) from rfl) t2 g3) (star_no hb.2 _ _) (star_no rfl _ _) rfl
        · exact pe_bad
      · split
        · rename_i hx2
          simp only [Bool.and_eq_true, Bool.not_eq_true'] at hx2
          obtain ⟨g1, g2⟩ := exNm_ok o hx2.1
          split
          · rename_i subs others hg
            exact pe_isx (o.glob.exc _ _ _ hg) h1 h2 g1 g2 (hf a) (star_no hx2.2 _ _) (star_no rfl _ _) rfl
          · exact pe_bad
        · exact pe_bad
    · exact pe_bad
  · split
    · rename_i as has
      obtain ⟨q, p1, p2, rfl, rfl, hq⟩ := rgOf_ok has
      obtain ⟨r1, r2, r3⟩ := isBi_ok o hq
      split
      · rename_i hl
        have e := sq_eq hl
        subst e
        unfold callRg
        split
        · rename_i hs
          split
          · obtain ⟨s1, s2⟩ := noStars_cons hs
            exact pe_rgL1 o.calm h1 h2 r1 r2 (hf _) (star_no s1 _ _)
          · obtain ⟨s1, s2⟩ := noStars_cons hs
            obtain ⟨s3, s4⟩ := noStars_cons s2
            exact pe_rgL2 o.calm h1 h2 r1 r2 (hf _) (hf _) (star_no s1 _ _) (star_no s3 _ _) (star_any s2 _ _)
          · exact pe_bad
        · exact pe_bad
      · split
        · rename_i hl
          have e := sq_eq hl
          subst e
          unfold callRg
          split
          · rename_i hs
            split
            · obtain ⟨s1, s2⟩ := noStars_cons hs
              exact pe_rgT1 o.calm h1 h2 r1 r2 (hf _) (star_no s1 _ _)
            · obtain ⟨s1, s2⟩ := noStars_cons hs
              obtain ⟨s3, s4⟩ := noStars_cons s2
              exact pe_rgT2 o.calm h1 h2 r1 r2 (hf _) (hf _) (star_no s1 _ _) (star_no s3 _ _) (star_any s2 _ _)
            · exact pe_bad
          · exact pe_bad
        · exact callGen_ok o hf hx _
    · exact callGen_ok o hf hx _
end

/-! ### defs -/
def ksOf : List Keyword → Option (List Str)
  | [] => some []
  | k :: r => match k.arg, ksOf r with
    | some x, some ks => some (x :: ks)
    | _, _ => none
theorem ksOf_ok {pos : Pos} {env : PySem.Env} : ∀ {kws : List Keyword} {ks : List Str}, ksOf kws = some ks → (backToKw pos (keywordEach kws env)).all (·.1.isSome) = true ∧ (backToKw pos (keywordEach kws env)).filterMap (·.1) = ks ∧ (backToKw pos (keywordEach kws env)).any (·.1.isNone) = false
  | [], _, h => by cases h; exact ⟨rfl, rfl, rfl⟩
  | ⟨nm, v, p⟩ :: r, ks, h => by
    unfold ksOf at h
    dsimp only at h
    cases nm with
    | none => cases h
    | some x =>
      cases hr : ksOf r with
      | none => rw [hr] at h; cases h
      | some ks' =>
        rw [hr] at h
        cases h
        obtain ⟨h1, h2, h3⟩ := ksOf_ok (pos := pos) (env := env) hr
        have e : backToKw pos (keywordEach (⟨some x, v, p⟩ :: r) env) = (some x, do let v ← eval v env; standAt pos; pure v) :: backToKw pos (keywordEach r env) := rfl
        refine ⟨?_, ?_, ?_⟩
        · rw [e, List.all_cons, h1]; rfl
        · rw [e, List.filterMap_cons, h2]
        · rw [e, List.any_cons, h3]; rfl
def mkIdx (ps ns : List Str) : List Nat := ps.filterMap fun p => ixN? p ns
def callFn (f : Expr → Ev D) (C : Cc) (c : CE) (args : List Expr) (kws : List Keyword) : BE := match decide (c.lvl ≤ C.lvl) && noStars args with
  | true => match kws with
    | [] => match args with
      | [] => match decide (c.ps.length = 0) with
        | true => ⟨eCallP c.run c.ps.length aNil⟩
        | false => xE
      | _ :: _ => ⟨eCallP c.run c.ps.length (aOf f args)⟩
    | _ :: _ => match ksOf kws with
      | some ks => match patOk c.ps ks args.length (mkIdx c.ps (c.ps.take args.length ++ ks)) with
        | true => match args with
          | [] => ⟨eCallK c.run 0 ks.length (mkIdx c.ps (c.ps.take args.length ++ ks)) aNil (kOf f kws)⟩
          | _ :: _ => ⟨eCallK c.run args.length ks.length (mkIdx c.ps (c.ps.take args.length ++ ks)) (aOf f args) (kOf f kws)⟩
        | false => xE
      | none => xE
  | false => xE
section
variable {C : Cc} {X : Cx} {W : WX} {f : Expr → Ev D} {p pos : Pos} {x : Str}
theorem callFn_ok (o : XOk C X W) (hf : ∀ a, PE X a (tE (gx X) W (f a))) {c : CE} (hg : Gl X x) (hd : (x == ("__debug__" : Str)) = false) (hc : C.glob x = .fn c) (args : List Expr) (kws : List Keyword) : PE X (.Call (.Name x p) args kws pos) (tE (gx X) W (callFn f C c args kws).run) := by
  obtain ⟨F, nd⟩ := o.glob.fn x c hc
  unfold callFn
  split
  · rename_i h
    simp only [Bool.and_eq_true, decide_eq_true_eq] at h
    have room := o.room.mono h.1
    cases kws with
    | nil =>
      cases args with
      | nil =>
        dsimp only
        split
        · rename_i hz
          exact pe_call4 F room o.gd o.tk nd (of_decide_eq_true hz) hg hd
        · exact pe_bad
      | cons a as =>
        obtain ⟨s1, s2⟩ := noStars_cons h.2
        exact pe_call3 F room o.gd o.tk nd hg (aOf_ok hf _) hd (star_no s1 _ _) (star_any s2 _ _)
    | cons k ks0 =>
      dsimp only
      split
      · rename_i ks hk
        obtain ⟨k1, k2, k3⟩ := ksOf_ok (pos := pos) (env := X.env) hk
        split
        · rename_i hp
          cases args with
          | nil => exact pe_call2 F room o.gd o.tk hp hg (kOf_ok hf _) k1 k2 hd (by rw [k3]; rfl)
          | cons a as =>
            obtain ⟨s1, s2⟩ := noStars_cons h.2
            exact pe_call1 F room o.gd o.tk hp hg (aOf_ok hf _) (kOf_ok hf _) k1 k2 hd (star_no s1 _ _) (by rw [star_any h.2, k3]; rfl)
        · exact pe_bad
      · exact pe_bad
  · exact pe_bad
end

/-! ### methods -/
def mtTab : List (Str × (MTy × OpM)) := [("append", (.lst, opAppend)), ("extend", (.lst, opExtend)), ("insert", (.lst, opInsert)), ("get", (.dct, opGet)), ("join", (.str, opJoin)), ("index", (.str, opSIndex))]
def mtTab0 : List (Str × (MTy × OpM)) := [("pop", (.lst, opPop0))]
inductive MtOk (X : Cx) (m : Str) (t : MTy) (op : OpM) : Prop
  | mk (id : String) (pa : PlainAttrs t.nm) (slot : Slot t.nm m id) (ty : typeOf (.builtin id) = pure (.type "method_descriptor")) (rule : MtR X id (rM (gx X) op))
theorem mtTab_ok {X : Cx} (hu : X.A.units + 1 < cLine) : ∀ p ∈ mtTab, MtOk X p.1 p.2.1 p.2.2 := by
  unfold mtTab
  refine List.forall_mem_cons.mpr ⟨.mk "list.append" PySem.F.plainAttrs_list PySem.F.slot_list_append PySem.F.type_list_append mt_appendS, ?_⟩
  refine List.forall_mem_cons.mpr ⟨.mk "list.extend" PySem.F.plainAttrs_list PySem.F.slot_list_extend PySem.F.type_list_extend mt_extendS, ?_⟩
  refine List.forall_mem_cons.mpr ⟨.mk "list.insert" PySem.F.plainAttrs_list PySem.F.slot_list_insert PySem.F.type_list_insert mt_insertS, ?_⟩
  refine List.forall_mem_cons.mpr ⟨.mk "dict.get" PySem.F.plainAttrs_dict PySem.F.slot_dict_get PySem.F.type_dict_get (mt_getS hu), ?_⟩
  refine List.forall_mem_cons.mpr ⟨.mk "str.join" PySem.F.plainAttrs_str PySem.F.slot_str_join PySem.F.type_str_join mt_joinS, ?_⟩
  refine List.forall_mem_cons.mpr ⟨.mk "str.index" PySem.F.plainAttrs_str PySem.F.slot_str_index PySem.F.type_str_index mt_sindexS, ?_⟩
  intro p h
  cases h
theorem mtTab0_ok {X : Cx} : ∀ p ∈ mtTab0, MtOk X p.1 p.2.1 p.2.2 := by
  unfold mtTab0
  refine List.forall_mem_cons.mpr ⟨.mk "list.pop" PySem.F.plainAttrs_list PySem.F.slot_list_pop PySem.F.type_list_pop mt_popS, ?_⟩
  intro p h
  cases h
def callMt (f : Expr → Ev D) (o : Expr) (m : Str) (ap : Pos) (args : List Expr) (pos : Pos) : BE := match okBase o && (ap.endLine == pos.line) && noStars args && decide (args.length < 30) with
  | true => match args with
    | [] => match lkN m mtTab0 with
      | some (t, op) => ⟨eM t op (f o) aNil⟩
      | none => xE
    | _ :: _ => match lkN m mtTab with
      | some (t, op) => ⟨eM t op (f o) (aOf f args)⟩
      | none => xE
  | false => xE
theorem few_ok {cpos : Pos} {env : PySem.Env} {es : List Expr} (h : noStars es = true) (hl : es.length < 30) : ((backTo cpos (starEach es env)).all (fun x => !x.1) && (backToKw cpos (keywordEach [] env)).all (fun x => x.1.isSome)
      && decide (es.length + ([] : List Keyword).length + (if ([] : List Keyword).isEmpty then 0 else 1) < 30)) = true := by
  have h1 : (backTo cpos (starEach es env)).all (fun x => !x.1) = true := by
    have := star_any h cpos env
    rw [List.any_eq_false] at this
    rw [List.all_eq_true]
    intro x hx
    have := this x hx
    simpa using this
  rw [h1]
  simp [hl, keywordEach, backToKw]
section
variable {X : Cx} {W : WX} {f : Expr → Ev D} {pos : Pos}
theorem callMt_ok {C : Cc} (xo : XOk C X W) (hf : ∀ a, PE X a (tE (gx X) W (f a))) (o : Expr) (m : Str) (ap : Pos) (args : List Expr) : PE X (.Call (.Attribute o m ap) args [] pos) (tE (gx X) W (callMt f o m ap args pos).run) := by
  unfold callMt
  split
  · rename_i h
    simp only [Bool.and_eq_true, decide_eq_true_eq] at h
    obtain ⟨⟨⟨h1, h2⟩, h3⟩, h4⟩ := h
    cases args with
    | nil =>
      dsimp only
      split
      · rename_i t op hm
        obtain ⟨id, pa, slot, ty, rule⟩ := mtTab0_ok (X := X) _ (lkN_mem hm)
        dsimp only
        exact (pe_bm0 pa slot ty rule (hf o) (base_of h1 m X.env _) h2).weak tBM0_of
      · exact pe_bad
    | cons a as =>
      obtain ⟨s1, s2⟩ := noStars_cons h3
      dsimp only
      split
      · rename_i t op hm
        obtain ⟨id, pa, slot, ty, rule⟩ := mtTab_ok (X := X) xo.hu1 _ (lkN_mem hm)
        dsimp only
        exact (pe_bm pa slot ty rule (hf o) (aOf_ok hf _) (base_of h1 m X.env _) (few_ok h3 h4) h2 (star_no s1 _ _) (star_any s2 _ _)).weak tBM_of
      · exact pe_bad
  · exact pe_bad
end

/-! ### rows that are walked -/
def isTup : Expr → Bool
  | .Tuple .. => true
  | _ => false
def walkBi (f : Expr → Ev D) (tg : Expr) (x : Str) (args : List Expr) : Option (Ev Src) := match noStars args with
  | true => match sq x "range" with
    | true => match args with
      | [a] => some (itR range1 (aOf f [a]))
      | [a, b] => some (itR range2 (aOf f [a, b]))
      | [a, b, c] => some (itR range3 (aOf f [a, b, c]))
      | _ => none
    | false => match isTup tg with
      | true => match sq x "enumerate" with
        | true => match args with
          | [a] => some (itEnm (aOf f [a]))
          | _ => none
        | false => match sq x "zip" with
          | true => match args with
            | [a, b] => some (itZip (aOf f [a, b]))
            | _ => none
          | false => none
      | false => none
  | false => none
def bI (f : Expr → Ev D) (C : Cc) (tg iter : Expr) : BI := match iter with
  | .Call g args kws cpos => match g with
    | .Name x _ => match kws with
      | [] => match isBi C x with
        | true => match walkBi f tg x args with
          | some ev => ⟨ev⟩
          | none => ⟨itAny (f iter)⟩
        | false => ⟨itAny (f iter)⟩
      | _ :: _ => ⟨itAny (f iter)⟩
    | .Attribute o m ap => match args with
      | [] => match kws with
        | [] => match sq m "items" && isTup tg && okBase o && (ap.endLine == cpos.line) with
          | true => ⟨itItems (f o)⟩
          | false => ⟨itAny (f iter)⟩
        | _ :: _ => ⟨itAny (f iter)⟩
      | _ :: _ => ⟨itAny (f iter)⟩
    | _ => ⟨itAny (f iter)⟩
  | _ => ⟨itAny (f iter)⟩
def trI (f : Expr → Ev D) (C : Cc) (tg iter : Expr) : Ev Src := (bI f C tg iter).run
section
variable {C : Cc} {X : Cx} {W : WX} {f : Expr → Ev D} {p pos : Pos} {x : Str}
theorem walkBi_ok (o : XOk C X W) (hf : ∀ a, PE X a (tE (gx X) W (f a))) (hx : isBi C x = true) {tg : Expr} {args : List Expr} {ev : Ev Src} (h : walkBi f tg x args = some ev) : PI X tg (.Call (.Name x p) args [] pos) (tI X W ev) := by
  obtain ⟨h1, h2, h3⟩ := isBi_ok o hx
  unfold walkBi at h
  split at h
  · rename_i hs
    split at h
    · rename_i hr
      have e := sq_eq hr
      subst e
      split at h
      · rename_i a
        cases h
        obtain ⟨s1, s2⟩ := noStars_cons hs
        exact pi_r1 h1 h2 (aOf_ok hf _) (star_no s1 _ _)
      · rename_i a b
        cases h
        obtain ⟨s1, s2⟩ := noStars_cons hs
        obtain ⟨s3, s4⟩ := noStars_cons s2
        exact pi_r2 h1 h2 (aOf_ok hf _) (by rw [star_no s1, star_no s3]; rfl) (star_no s3 _ _)
      · rename_i a b c
        cases h
        obtain ⟨s1, s2⟩ := noStars_cons hs
        exact pi_r3 h1 h2 (aOf_ok hf _) (star_no s1 _ _) (star_any s2 _ _)
      · cases h
    · split at h
      · rename_i ht
        cases tg with
        | Tuple elts k tp =>
          split at h
          · rename_i he
            have e := sq_eq he
            subst e
            split at h
            · cases h
              obtain ⟨s1, s2⟩ := noStars_cons hs
              exact pi_en h1 h2 (aOf_ok hf _) (star_no s1 _ _)
            · cases h
          · split at h
            · rename_i hz
              have e := sq_eq hz
              subst e
              split at h
              · cases h
                obtain ⟨s1, s2⟩ := noStars_cons hs
                exact pi_zp h1 h2 (aOf_ok hf _) (star_no s1 _ _) (star_any s2 _ _)
              · cases h
            · cases h
        | _ => cases ht
      · cases h
  · cases h
theorem trI_ok (o : XOk C X W) (hf : ∀ a, PE X a (tE (gx X) W (f a))) (tg iter : Expr) : PI X tg iter (tI X W (trI f C tg iter)) := by
  have any := pi_any (tg := tg) (hf iter)
  cases iter with
  | Call g args kws cpos =>
    cases g with
    | Name x np =>
      cases kws with
      | nil =>
        unfold trI bI
        dsimp only
        split
        · rename_i hb
          split
          · rename_i ev hw
            exact walkBi_ok o hf hb hw
          · exact any
        · exact any
      | cons k ks => exact any
    | Attribute q m ap =>
      cases args with
      | nil =>
        cases kws with
        | nil =>
          unfold trI bI
          dsimp only
          split
          · rename_i h
            simp only [Bool.and_eq_true] at h
            obtain ⟨⟨⟨h1, h2⟩, h3⟩, h4⟩ := h
            have e := sq_eq h1
            subst e
            cases tg with
            | Tuple elts k tp => exact pi_its (hf q) (base_of h3 _ X.env _) h4
            | _ => cases h2
          · exact any
        | cons k ks => exact any
      | cons a as => exact any
    | _ => exact any
  | _ => exact any
end
end Sh
set_option maxRecDepth 100000
set_option maxHeartbeats 4000000
/-! Sh: the reading of comprehensions, of all expressions. -/
namespace Sh
open PySem PySem.Spec PyProof.Rows L2

/-! ### inside a comprehension -/
def relK (kinds : List (Str × NameKind)) : List (Str × NameKind) → List (Str × NameKind)
  | [] => []
  | p :: r => (match p.2 with
    | .free => match lkN p.1 kinds with
      | some .cell => (p.1, .cell)
      | _ => p
    | _ => p) :: relK kinds r
def Cc.blk (C : Cc) (scope : Scope) : Cc := { C with kinds := relK C.kinds scope.names, fn := fun x => scope.names.lookup x == some .cell, lam := false }
theorem relK_ok (kinds : List (Str × NameKind)) : ∀ names : List (Str × NameKind), (names.map fun (n, k) => if (k == .free && kinds.lookup n == some .cell) = true then (n, NameKind.cell) else (n, k)) = relK kinds names
  | [] => rfl
  | (n, k) :: r => by
    rw [List.map_cons, relK_ok kinds r]
    show _ :: _ = _ :: _
    congr 1
    dsimp only
    rw [← lkN_eq]
    cases k with
    | free => cases lkN n kinds with
      | none => rfl
      | some k' => cases k' <;> rfl
    | _ => rfl
def ownFrom (N : List Str) : List (Str × NameKind) → List (Str × Nat)
  | [] => []
  | p :: r => match p.2 with
    | .local => match ixN? p.1 N with
      | some i => (p.1, i) :: ownFrom N r
      | none => ownFrom N r
    | .cell => match ixN? p.1 N with
      | some i => (p.1, i) :: ownFrom N r
      | none => ownFrom N r
    | _ => ownFrom N r
def kScope (C : Cc) : Scope := ⟨.function, C.kinds, false, false, []⟩
theorem blk_of {C : Cc} {X : Cx} {W : WX} (o : XOk C X W) {scope : Scope} {own : List (Str × Nat)} (h : blkC C.N (kScope C) scope own = true) : BlkOk X.N X.env.scope scope own := by
  have b := blkOk_by h
  rw [o.N]
  exact ⟨b.kind, b.uniq, b.ix, fun y hy e => by
    have := b.free y hy e
    rw [o.kinds]
    exact this, b.own⟩
theorem XOk.blk {C : Cc} {X : Cx} {W : WX} (o : XOk C X W) {scope : Scope} (hk : scope.kind = .function) (s : Shared) (H : Hp) (cl : List (Str × Addr)) (A : Addr) (fp : List Addr) : XOk (C.blk scope) (X.blk s H scope (compEnvC scope cl A X.env) fp) WNo where
  calm := o.calm
  N := o.N
  nd := o.nd
  kinds := by
    show (scope.names.map fun (n, k) => if (k == NameKind.free && X.env.scope.kind == .function && X.env.kindOf n == some .cell) then (n, NameKind.cell) else (n, k)) = relK C.kinds scope.names
    rw [← relK_ok, o.skind]
    have e : ∀ n, X.env.kindOf n = C.kinds.lookup n := fun n => by
      show X.env.scope.names.lookup n = _
      rw [o.kinds]
    simp only [e]
    congr 1
    funext p
    cases hk : (p.2 == NameKind.free) <;> simp [hk]
  skind := hk
  fn := rfl
  room := o.room
  gd := o.gd
  tk := fun u s' ⟨_, _, _, _, _, _, _, _, _, _, _, _, _, _, _, _, w⟩ => w.elim
  glob := o.glob
  cod := fun z => nomatch z
/-- names that may be bound here -/
def locK (C : Cc) (x : Str) : Bool := match lkN x C.kinds with
  | some .local => true
  | some .cell => C.fn x
  | _ => false
theorem locK_ok {C : Cc} {X : Cx} {W : WX} (o : XOk C X W) {x : Str} (h : locK C x = true) : L2.Loc X.env.scope x ∧ (X.fn x = true ∨ X.env.scope.names.lookup x = some .local) := by
  unfold L2.Loc
  rw [o.kinds, o.fn, ← lkN_eq]
  unfold locK at h
  split at h
  · rename_i e; exact ⟨.inl e, .inr e⟩
  · rename_i e; exact ⟨.inr e, .inl h⟩
  · cases h
def patOf (C : Cc) : Nat → Expr → Option Pat
  | 0, _ => none
  | n + 1, e => match e with
    | .Name x _ => match locK C x with
      | true => match ixN? x C.N with
        | some i => some (.nm i)
        | none => none
      | false => none
    | .Tuple es _ _ => match es.mapM (patOf C n) with
      | some ps => some (.tp ps)
      | none => none
    | _ => none
section
variable {C : Cc} {X : Cx} {W : WX} {vs : List Nat}
theorem patOf_ok (o : XOk C X W) : ∀ (n : Nat) {tg : Expr} {p : Pat}, patOf C n tg = some p → p.within vs = true → PG X tg (tGw (gx X) vs p) ∧ isStar tg = false
  | 0, _, _, h, _ => by cases h
  | n + 1, tg, p, h, hv => by
    unfold patOf at h
    split at h
    · rename_i x pos
      split at h
      · rename_i hl
        split at h
        · rename_i i hi
          cases h
          obtain ⟨h1, h2⟩ := locK_ok o hl
          have hm : i ∈ vs := by
            unfold Pat.within at hv
            simpa using hv
          exact ⟨pgw_nm hm (pg_name (by rw [o.N]; exact o.nd) (by rw [o.N]; exact ixN?_ok hi) h1 h2), rfl⟩
        · cases h
      · cases h
    · rename_i es k pos
      split at h
      · rename_i ps hps
        cases h
        have key : ∀ {es : List Expr} {ps : List Pat}, es.mapM (patOf C n) = some ps → withinAll vs ps = true → PGs X es (tGws (gx X) vs ps) ∧ es.length = ps.length ∧ es.all (fun e => !isStar e) = true := by
          intro es
          induction es with
          | nil =>
            intro ps h hw
            simp at h
            subst h
            exact ⟨pgw_n, rfl, rfl⟩
          | cons e es ih =>
            intro ps h hw
            rw [List.mapM_cons] at h
            cases h1 : patOf C n e with
            | none => rw [h1] at h; simp at h
            | some p =>
              cases h2 : es.mapM (patOf C n) with
              | none => rw [h1, h2] at h; simp at h
              | some qs =>
                rw [h1, h2] at h
                simp at h
                subst h
                have hw' : (p.within vs && withinAll vs qs) = true := hw
                simp only [Bool.and_eq_true] at hw'
                obtain ⟨a1, a2⟩ := patOf_ok o n h1 hw'.1
                obtain ⟨b1, b2, b3⟩ := ih h2 hw'.2
                exact ⟨pgw_c a1 b1 (by rw [asg_no a2]; rfl), congrArg Nat.succ b2, by rw [List.all_cons, a2, b3]; rfl⟩
        obtain ⟨k1, k2, k3⟩ := key hps (by unfold Pat.within at hv; exact hv)
        exact ⟨pgw_tp o.calm k1 ((asg_len es).trans k2) (asg_find k3), rfl⟩
      · cases h
    · cases h
end
def condOf (t : Expr → Ev Bool) : List Expr → Ev Bool
  | [] => bYes
  | [c] => t c
  | _ => eBad
theorem condOf_ok {X : Cx} {W : WX} {t : Expr → Ev Bool} (ht : ∀ a, PT X a (tT (gx X) W (t a))) : ∀ ifs, PTs X ifs (tT (gx X) W (condOf t ifs))
  | [] => ⟨fun pins s σ H Q I ⟨ρ, α, μ, e, st, g⟩ => pts_nil.run pins s σ H Q I (g true α H (Ext.refl _ _) st rfl)⟩
  | [c] => pts_one (ht c)
  | _ :: _ :: _ => ⟨fun _ _ _ _ _ _ ⟨_, _, _, _, _, q⟩ => q.elim⟩
mutual
def Pat.ixs : Pat → List Nat
  | .nm i => [i]
  | .tp ps => ixsAll ps
def ixsAll : List Pat → List Nat
  | [] => []
  | p :: ps => p.ixs ++ ixsAll ps
end
/-- [e for p in row if c] -/
def evLc (r : Tr) (C : Cc) (elt : Expr) (g : Comprehension) (scope : Scope) : BE := match blkC C.N (kScope C) scope (ownFrom C.N scope.names) && decide (g.is_async = 0) && noSet g.iter with
  | true => match patOf (C.blk scope) 3 g.target with
    | some pt => match pt.within ((ownFrom C.N scope.names).map (·.2)) with
      | true => ⟨eLc (trI (r.e C) C g.target g.iter) pt (condOf (r.t (C.blk scope)) g.ifs) (r.e (C.blk scope) elt) ((ownFrom C.N scope.names).map (·.2))⟩
      | false => xE
    | none => xE
  | false => xE
def evLc2 (r : Tr) (C : Cc) (elt : Expr) (g g1 : Comprehension) (scope : Scope) : BE := match blkC C.N (kScope C) scope (ownFrom C.N scope.names) && decide (g.is_async = 0) && noSet g.iter && decide (g1.is_async = 0) && noSet g1.iter with
  | true => match patOf (C.blk scope) 3 g.target, patOf (C.blk scope) 3 g1.target with
    | some pt, some pt1 => match pt.within ((ownFrom C.N scope.names).map (·.2)) && pt1.within pt1.ixs && (pt1.ixs.all fun i => ((ownFrom C.N scope.names).map (·.2)).contains i) with
      | true => ⟨eLc2 (trI (r.e C) C g.target g.iter) pt (condOf (r.t (C.blk scope)) g.ifs) (trI (r.e (C.blk scope)) (C.blk scope) g1.target g1.iter) pt1 (condOf (r.t (C.blk scope)) g1.ifs) (r.e (C.blk scope) elt) ((ownFrom C.N scope.names).map (·.2)) pt1.ixs⟩
      | false => xE
    | _, _ => xE
  | false => xE
/-- {k: v for p in row if c} -/
def evDc (r : Tr) (C : Cc) (kx vx : Expr) (g : Comprehension) (scope : Scope) : BE := match blkC C.N (kScope C) scope (ownFrom C.N scope.names) && decide (g.is_async = 0) && noSet g.iter with
  | true => match patOf (C.blk scope) 3 g.target with
    | some pt => match pt.within ((ownFrom C.N scope.names).map (·.2)) with
      | true => ⟨eDc (trI (r.e C) C g.target g.iter) pt (condOf (r.t (C.blk scope)) g.ifs) (r.e (C.blk scope) kx) (r.e (C.blk scope) vx) ((ownFrom C.N scope.names).map (·.2))⟩
      | false => xE
    | none => xE
  | false => xE
section
variable {C : Cc} {X : Cx} {W : WX} {r : Tr} {pos : Pos}
theorem evLc_ok (h : TrOk r) (o : XOk C X W) (elt : Expr) (g : Comprehension) (scope : Scope) : PE X (.ListComp elt [g] scope pos) (tE (gx X) W (evLc r C elt g scope).run) := by
  unfold evLc
  split
  · rename_i hc
    simp only [Bool.and_eq_true, decide_eq_true_eq] at hc
    obtain ⟨⟨hb, ha⟩, hs⟩ := hc
    obtain ⟨tg, iter, ifs, as⟩ := g
    dsimp only at ha hs
    subst ha
    split
    · rename_i pt hp
      split
      · rename_i hw
        have b := blk_of o hb
        exact pe_l o.calm (by rw [o.N]; exact o.nd) (trI_ok o (h.e o) tg iter) b (fun s H A cl fp => (patOf_ok (o.blk b.kind s H cl A fp) 3 hp hw).1) (fun s H A cl fp => condOf_ok (h.t (o.blk b.kind s H cl A fp)) ifs) (fun s H A cl fp => h.e (o.blk b.kind s H cl A fp) elt) (set_no hs X.env)
      · exact pe_bad
    · exact pe_bad
  · exact pe_bad
theorem evDc_ok (h : TrOk r) (o : XOk C X W) (kx vx : Expr) (g : Comprehension) (scope : Scope) : PE X (.DictComp kx vx [g] scope pos) (tE (gx X) W (evDc r C kx vx g scope).run) := by
  unfold evDc
  split
  · rename_i hc
    simp only [Bool.and_eq_true, decide_eq_true_eq] at hc
    obtain ⟨⟨hb, ha⟩, hs⟩ := hc
    obtain ⟨tg, iter, ifs, as⟩ := g
    dsimp only at ha hs
    subst ha
    split
    · rename_i pt hp
      split
      · rename_i hw
        have b := blk_of o hb
        exact pe_dct o.calm (by rw [o.N]; exact o.nd) (trI_ok o (h.e o) tg iter) b (fun s H A cl fp => (patOf_ok (o.blk b.kind s H cl A fp) 3 hp hw).1) (fun s H A cl fp => condOf_ok (h.t (o.blk b.kind s H cl A fp)) ifs) (fun s H A cl fp => h.e (o.blk b.kind s H cl A fp) kx) (fun s H A cl fp => h.e (o.blk b.kind s H cl A fp) vx) (set_no hs X.env)
      · exact pe_bad
    · exact pe_bad
  · exact pe_bad
theorem evLc2_ok (h : TrOk r) (o : XOk C X W) (elt : Expr) (g g1 : Comprehension) (scope : Scope) : PE X (.ListComp elt [g, g1] scope pos) (tE (gx X) W (evLc2 r C elt g g1 scope).run) := by
  unfold evLc2
  split
  · rename_i hc
    simp only [Bool.and_eq_true, decide_eq_true_eq] at hc
    obtain ⟨⟨⟨⟨hb, ha⟩, hs⟩, ha1⟩, hs1⟩ := hc
    obtain ⟨tg, iter, ifs, as⟩ := g
    obtain ⟨tg1, iter1, ifs1, as1⟩ := g1
    dsimp only at ha hs ha1 hs1
    subst ha
    subst ha1
    split
    · rename_i pt pt1 hp hp1
      split
      · rename_i hw
        simp only [Bool.and_eq_true] at hw
        obtain ⟨⟨w1, w2⟩, w3⟩ := hw
        have b := blk_of o hb
        refine pe_l2 o.calm (by rw [o.N]; exact o.nd) (trI_ok o (h.e o) tg iter) b (fun i hi => by simpa using List.all_eq_true.mp w3 i hi) (fun s H A cl fp => (patOf_ok (o.blk b.kind s H cl A fp) 3 hp w1).1) (fun s H A cl fp => condOf_ok (h.t (o.blk b.kind s H cl A fp)) ifs)
          (fun s H A cl fp => trI_ok (o.blk b.kind s H cl A fp) (h.e (o.blk b.kind s H cl A fp)) tg1 iter1) (fun s H A cl fp => (patOf_ok (o.blk b.kind s H cl A fp) 3 hp1 w2).1) (fun s H A cl fp => condOf_ok (h.t (o.blk b.kind s H cl A fp)) ifs1) (fun s H A cl fp => h.e (o.blk b.kind s H cl A fp) elt) (set_no hs X.env) (fun env x => set_no hs1 env x)
      · exact pe_bad
    · exact pe_bad
  · exact pe_bad
end

/-! ### heard(lambda: e) -/
def Cc.inLam (C : Cc) (scope : Scope) : Cc := { C with kinds := scope.names, fn := fun _ => false, lvl := C.lvl - 2, lam := false }
def noPar : Arguments → Bool
  | ⟨[], [], none, [], [], none, []⟩ => true
  | _ => false
def lamB (C : Cc) (params : Arguments) (scope : Scope) : Bool := C.lam && noPar params && LamX.lamSB (kScope C) scope && decide (2 ≤ C.lvl)
def heardE (r : Tr) (C : Cc) (subs : List Str) (args : List Expr) : BE := match args with
  | [.Lambda params body scope _] => match lamB C params scope with
    | true => ⟨eHeard subs (r.e (C.inLam scope) body)⟩
    | false => xE
  | _ => xE
section
variable {C : Cc} {X : Cx} {W : WX} {r : Tr} {pos p : Pos} {x : Str}
theorem XOk.inLam (o : XOk C X W) {scope : Scope} (L : LamX.LamS X.env.scope scope) {E : XK} {A : Around} {outer : List PySem.Env} {s : Shared} {H : Hp} {f c2 : Addr} (hr : Room (C.lvl - 2) (A.deeper (LamX.lamEnv X scope s.heap.objs.size f c2))) (gd : A.guards = some []) :
    XOk (C.inLam scope) (LamX.lamCx X A outer s H E scope f c2) (fun cls d _ H' => E cls d H') where
  calm := rfl
  N := o.N
  nd := o.nd
  kinds := rfl
  skind := L.kind
  fn := rfl
  room := hr
  gd := gd
  tk := takes_of rfl rfl rfl rfl
  glob := o.glob
  cod := fun z => nomatch z
theorem heardE_ok (h : TrOk r) (o : XOk C X W) {subs : List Str} (hg : Gl X x) (hdb : (x == ("__debug__" : Str)) = false) (hx : C.glob x = .heard subs) (args : List Expr) : PE X (.Call (.Name x p) args [] pos) (tE (gx X) W (heardE r C subs args).run) := by
  unfold heardE
  split
  · rename_i params body scope lpos
    split
    · rename_i hb
      unfold lamB at hb
      simp only [Bool.and_eq_true, decide_eq_true_eq] at hb
      obtain ⟨⟨⟨hl, hp⟩, hs⟩, hv⟩ := hb
      have hpar : params = ⟨[], [], none, [], [], none, []⟩ := by
        unfold noPar at hp
        split at hp
        · rfl
        · cases hp
      subst hpar
      obtain ⟨c, e1, e2, e3⟩ := o.cod hl
      have hsc : LamX.lamSB X.env.scope scope = true := by
        have z : X.env.scope.names = C.kinds := o.kinds
        unfold LamX.lamSB at hs ⊢
        rw [z]
        exact hs
      have L := LamX.lamS_by hsc
      have room : Room (C.lvl - 2 + 2) X.A := by
        rw [show C.lvl - 2 + 2 = C.lvl by omega]
        exact o.room
      exact pe_heard (o.glob.heard x subs hx) hg hdb room o.gd (o.glob.tb _ e2) e1 e3 (fun p hp z => o.glob.tu p hp _ e3 z) L rfl (fun _ _ _ _ _ => rfl) fun E A outer s2 H2 f c2 hr hgd => h.e (o.inLam L hr hgd) body
    · exact pe_bad
  · exact pe_bad
end

/-! ### all expressions -/
def callE (r : Tr) (C : Cc) (g : Expr) (args : List Expr) (kws : List Keyword) (pos : Pos) : BE := match g with
  | .Name x _ => match okNm x with
    | true => match lkN x C.kinds with
      | some .globalImplicit => match C.glob x with
        | .fn c => callFn (r.e C) C c args kws
        | .free => match kws with
          | [] => callBi (r.e C) C x args
          | _ :: _ => xE
        | .heard subs => match kws with
          | [] => heardE r C subs args
          | _ :: _ => xE
        | _ => xE
      | _ => xE
    | false => xE
  | .Attribute o m ap => match kws with
    | [] => callMt (r.e C) o m ap args pos
    | _ :: _ => xE
  | _ => xE
def subE (r : Tr) (C : Cc) (a b : Expr) : BE := match b with
  | .Slice lo hi st _ => match st with
    | none => ⟨eSl (r.e C a) (lo.map (r.e C)) (hi.map (r.e C))⟩
    | some st => ⟨eSt (r.e C a) (lo.map (r.e C)) (hi.map (r.e C)) (r.e C st)⟩
  | b => ⟨e2 opIx (r.e C a) (r.e C b)⟩
def cmpE (r : Tr) (C : Cc) (a : Expr) (ops : List CmpOp) (bs : List Expr) : BE := match ops, bs with
  | [op], [b] => match behindInMarks op b with
    | false => ⟨e2 (cmpO op) (r.e C a) (r.e C b)⟩
    | true => xE
  | [op, op'], [b, c] => match lastMarks [op, op'] [b, c] with
    | false => ⟨eChain (cmpO op) (cmpO op') (r.e C a) (r.e C b) (r.e C c)⟩
    | true => xE
  | _, _ => xE
def unE (r : Tr) (C : Cc) (op : UnaryOp) (a : Expr) : BE := match op with
  | .USub => ⟨e1 opNeg (r.e C a)⟩
  | .Not => ⟨eNot (r.e C a)⟩
  | _ => xE
def lcE (r : Tr) (C : Cc) (elt : Expr) (gs : List Comprehension) (scope : Scope) : BE := match gs with
  | [g] => evLc r C elt g scope
  | [g, g1] => evLc2 r C elt g g1 scope
  | _ => xE
def dcE (r : Tr) (C : Cc) (kx vx : Expr) (gs : List Comprehension) (scope : Scope) : BE := match gs with
  | [g] => evDc r C kx vx g scope
  | _ => xE
def attE (r : Tr) (C : Cc) (a : Expr) (n : Str) : BE := match sq n "value" && okBase a with
  | true => match C.glob "StepError" with
    | .exc subs _ => ⟨eVal subs (r.e C a)⟩
    | _ => xE
  | false => xE
def stepE0 (r : Tr) (C : Cc) (e : Expr) : BE := match e with
  | .Constant c _ _ => trC c
  | .Name x _ => trNm C x
  | .UnaryOp op a _ => unE r C op a
  | .BinOp a op b _ => ⟨e2 (binO op) (r.e C a) (r.e C b)⟩
  | .BoolOp op es _ => boolE (r.e C) op es
  | .Compare a ops bs _ => cmpE r C a ops bs
  | .IfExp c a b _ => ⟨eIf (r.t C c) (r.e C a) (r.e C b)⟩
  | .Tuple es _ _ => ⟨eN opTup (aOf (r.e C) es)⟩
  | .List es _ => ⟨eN opLst (aOf (r.e C) es)⟩
  | .Subscript a b _ => subE r C a b
  | .Call g args kws pos => callE r C g args kws pos
  | .ListComp elt gs scope _ => lcE r C elt gs scope
  | .DictComp kx vx gs scope _ => dcE r C kx vx gs scope
  | .Dict ks vs _ => ⟨trDict (r.e C) ks vs⟩
  | .Attribute a n _ => attE r C a n
  | _ => xE
def isDef (C : Cc) (x : Str) : Bool := match C.glob x with
  | .fn _ => true
  | _ => false
def fzX (C : Cc) (e : Expr) (b : BE) : BE := match b with
  | ⟨ev⟩ => ⟨fzW (isDef C) e ev⟩
theorem fzX_eq (C : Cc) (e : Expr) (b : BE) : (fzX C e b).run = b.run := fzW_eq _ e b.run
def stepE (r : Tr) (C : Cc) (e : Expr) : BE := fzX C e (stepE0 r C e)
def bTest (b : BE) : BT := match b with
  | ⟨ev⟩ => ⟨eTest ev⟩
def stepT (r : Tr) (C : Cc) (e : Expr) : BT := match e with
  | .UnaryOp op a _ => match op with
    | .Not => ⟨bNot (r.t C a)⟩
    | _ => ⟨eTru (r.e C e)⟩
  | .BoolOp op es _ => boolT (r.t C) op es
  | .Compare a ops bs _ => bTest (cmpE r C a ops bs)
  | .IfExp .. => xT
  | _ => ⟨eTru (r.e C e)⟩
section
variable {C : Cc} {X : Cx} {W : WX} {r : Tr} {pos : Pos}
theorem callE_ok (h : TrOk r) (o : XOk C X W) (g : Expr) (args : List Expr) (kws : List Keyword) : PE X (.Call g args kws pos) (tE (gx X) W (callE r C g args kws pos).run) := by
  cases g with
  | Name x np =>
    unfold callE
    dsimp only
    split
    · rename_i hn
      split
      · rename_i hk
        split
        · rename_i c hc
          exact callFn_ok o (h.e o) (o.gl hk) (okNm_of hn).1 hc args kws
        · rename_i hf
          cases kws with
          | nil => exact callBi_ok o (h.e o) (by unfold isBi; rw [hn, hk, hf]; rfl) args
          | cons k ks => exact pe_bad
        · rename_i subs hh
          cases kws with
          | nil => exact heardE_ok h o (o.gl hk) (okNm_of hn).1 hh args
          | cons k ks => exact pe_bad
        · exact pe_bad
      · exact pe_bad
    · exact pe_bad
  | Attribute q m ap =>
    cases kws with
    | nil => exact callMt_ok o (h.e o) q m ap args
    | cons k ks => exact pe_bad
  | _ => exact pe_bad
theorem subE_ok (h : TrOk r) (o : XOk C X W) (a b : Expr) : PE X (.Subscript a b pos) (tE (gx X) W (subE r C a b).run) := by
  have gen : plainIx b = true → PE X (.Subscript a b pos) (tE (gx X) W (e2 opIx (r.e C a) (r.e C b))) := fun hb => (pe_ix (ix_S o.hu1) (h.e o a) (h.e o b) (ix_of hb)).weak tOp_of
  cases b with
  | Slice lo hi st p2 =>
    cases st with
    | none =>
      refine pe_sc (h.e o a) ?_ ?_
      · cases lo with
        | none => exact po_n
        | some e => exact po_s (h.e o e)
      · cases hi with
        | none => exact po_n
        | some e => exact po_s (h.e o e)
    | some s =>
      refine pe_st (h.e o a) ?_ ?_ (h.e o s)
      · cases lo with
        | none => exact po_n
        | some e => exact po_s (h.e o e)
      · cases hi with
        | none => exact po_n
        | some e => exact po_s (h.e o e)
  | _ => exact gen rfl
theorem cmpE_ok (h : TrOk r) (o : XOk C X W) (a : Expr) (ops : List CmpOp) (bs : List Expr) : PE X (.Compare a ops bs pos) (tE (gx X) W (cmpE r C a ops bs).run) := by
  unfold cmpE
  split
  · split
    · rename_i hm
      exact pe_cm (cmpO_ok o.hu _) (h.e o a) (h.e o _) hm
    · exact pe_bad
  · split
    · rename_i hm
      exact pe_ch (cmpO_ok o.hu _) (cmpO_ok o.hu _) (h.e o a) (h.e o _) (h.e o _) hm
    · exact pe_bad
  · exact pe_bad
theorem cmpT_ok (h : TrOk r) (o : XOk C X W) (a : Expr) (ops : List CmpOp) (bs : List Expr) : PT X (.Compare a ops bs pos) (tT (gx X) W (eTest (cmpE r C a ops bs).run)) := by
  have bad : ∀ e : Expr, PT X e (tT (gx X) W (eTest eBad)) := fun e => ⟨fun _ _ _ _ _ _ ⟨_, _, _, _, _, q⟩ => q.elim⟩
  unfold cmpE
  split
  · split
    · rename_i hm
      exact pt_cm (cmpO_ok o.hu _) (h.e o a) (h.e o _) hm
    · exact bad _
  · split
    · rename_i hm
      exact pt_ch (cmpO_ok o.hu _) (cmpO_ok o.hu _) (h.e o a) (h.e o _) (h.e o _) hm
    · exact bad _
  · exact bad _
theorem stepE_ok (h : TrOk r) (o : XOk C X W) (e : Expr) : PE X e (tE (gx X) W (stepE r C e).run) := by
  unfold stepE
  rw [fzX_eq]
  cases e with
  | Constant c k p => exact trC_ok
  | Name x p => exact trNm_ok o
  | UnaryOp op a p =>
    cases op with
    | USub => exact pe_u un_negS (h.e o a)
    | Not => exact pe_nt (h.e o a)
    | _ => exact pe_bad
  | BinOp a op b p => exact pe_b (binO_ok op) (h.e o a) (h.e o b)
  | BoolOp op es p => exact boolE_ok (h.e o) op es
  | Compare a ops bs p => exact cmpE_ok h o a ops bs
  | IfExp c a b p => exact pe_if (h.t o c) (h.e o a) (h.e o b)
  | Tuple es k p => exact pe_tp (aOf_ok (h.e o) es)
  | List es p => exact pe_ls (aOf_ok (h.e o) es)
  | Subscript a b p => exact subE_ok h o a b
  | Call g args kws p => exact callE_ok h o g args kws
  | ListComp elt gs scope p =>
    unfold stepE0 lcE
    dsimp only
    split
    · exact evLc_ok h o elt _ scope
    · exact evLc2_ok h o elt _ _ scope
    · exact pe_bad
  | DictComp kx vx gs scope p =>
    unfold stepE0 dcE
    dsimp only
    split
    · exact evDc_ok h o kx vx _ scope
    · exact pe_bad
  | Dict ks vs p => exact trDict_ok (h.e o) ks vs
  | Attribute a n p =>
    unfold stepE0 attE
    dsimp only
    split
    · rename_i hb
      simp only [Bool.and_eq_true] at hb
      have en := sq_eq hb.1
      subst en
      split
      · rename_i subs others hg
        exact pe_xv (o.glob.exc _ _ _ hg) (h.e o a) (base_of hb.2 _ _ _)
      · exact pe_bad
    · exact pe_bad
  | _ => exact pe_bad
theorem stepT_ok (h : TrOk r) (o : XOk C X W) (e : Expr) : PT X e (tT (gx X) W (stepT r C e).run) := by
  have gen : plainTest e = true → PT X e (tT (gx X) W (eTru (r.e C e))) := fun hp => pt_tr (h.e o e) (test_of hp X.env)
  cases e with
  | UnaryOp op a p =>
    cases op with
    | Not => exact pt_n (h.t o a)
    | _ => exact gen rfl
  | BoolOp op es p => exact (boolT_ok (h.t o) op es).pt
  | Compare a ops bs p => exact cmpT_ok h o a ops bs
  | IfExp c a b p => exact pt_bad
  | _ => exact gen rfl
end
def tr : Nat → Tr
  | 0 => ⟨fun _ _ => xE, fun _ _ => xT⟩
  | n + 1 => ⟨stepE (tr n), stepT (tr n)⟩
theorem tr_ok : ∀ n, TrOk (tr n)
  | 0 => ⟨fun _ _ => pe_bad, fun _ _ => pt_bad⟩
  | n + 1 => ⟨fun o e => stepE_ok (tr_ok n) o e, fun o e => stepT_ok (tr_ok n) o e⟩
end Sh
set_option maxRecDepth 100000
set_option maxHeartbeats 4000000
/-! Sh: the reading of statements. -/
namespace Sh
open PySem PySem.Spec PyProof.Rows L2

structure XSt (C : Cc) (X : Cx) (W : WX) : Prop extends XOk C X W where
  po : PassesOwn (model X.prog X.w) X.A X.env X.xe

/-! ### stores in another sequence -/
def isStarE : Expr → Bool
  | .Starred .. => true
  | _ => false
def nmOn (C : Cc) (line : Nat) : Expr → Option Str
  | .Name id pos => match lkN id C.kinds with
    | some .local => match pos.line == line with
      | true => some id
      | false => none
    | _ => none
  | _ => none
def swT (C : Cc) (ts vs : List Expr) : Option (Option (List Str)) :=
  if !(ts.length == 2 || ts.length == 3) || vs.length != ts.length then some none
  else if vs.any isStarE then some none
  else
    let names := ts.filterMap (nmOn C ((ts.head?.map (·.pos.line)).getD 0))
    if names.length != ts.length || names.eraseDups.length != names.length then some none
    else if vs.all (foldedForSure 8) then some none
    else if vs.all (constantsAlone 8) then none
    else some (some names)
def swP (C : Cc) (targets : List Expr) (value : Expr) : Option (Option (List Str)) := match targets, value with
  | [.Tuple ts _ _], .Tuple vs _ _ => swT C ts vs
  | [.List ts _], .Tuple vs _ _ => none
  | _, _ => some none
theorem sw_ok {C : Cc} {X : Cx} {W : WX} (o : XOk C X W) {targets : List Expr} {value : Expr} {z : Option (List Str)} (h : swP C targets value = some z) : swappedStores targets value X.env = pure z := by
  have hbk : (X.env.blockKind != .function) = false := by
    unfold PySem.Env.blockKind
    rw [o.skind]
    rfl
  have fm : ∀ (ts : List Expr) (l : Nat) (f : Expr → Option Str), (∀ e, f e = nmOn C l e) → List.filterMap f ts = List.filterMap (nmOn C l) ts := fun ts l f hf => by
    congr 1
    funext e
    exact hf e
  have an : ∀ (vs : List Expr) (f : Expr → Bool), (∀ e, f e = isStarE e) → vs.any f = vs.any isStarE := fun vs f hf => by
    congr 1
    funext e
    exact hf e
  unfold swP at h
  split at h
  · rename_i ts k p vs k2 p2
    unfold swT at h
    unfold swappedStores
    simp only [hbk, Bool.or_false, pure_bind]
    split at h
    · rename_i h1
      cases h
      rw [if_pos h1]
    · rename_i h1
      rw [if_neg h1]
      rw [an vs _ (by intro e; cases e <;> rfl)]
      split at h
      · rename_i h2
        cases h
        rw [if_pos h2]
      · rename_i h2
        rw [if_neg h2]
        rw [fm ts ((ts.head?.map (·.pos.line)).getD 0) _ (by
          intro e
          cases e with
          | Name id pos =>
            have e1 : X.env.kindOf id = lkN id C.kinds := by
              rw [lkN_eq, ← o.kinds]
              rfl
            dsimp only
            unfold nmOn
            rw [e1]
            dsimp only
            cases lkN id C.kinds with
            | none => rfl
            | some k => cases k <;> first | rfl | (cases pos.line == (Option.map (fun x => x.pos.line) ts.head?).getD 0 <;> rfl)
          | _ => rfl)]
        dsimp only at h
        split at h
        · rename_i h3
          cases h
          rw [if_pos h3]
        · rename_i h3
          rw [if_neg h3]
          split at h
          · rename_i h4
            cases h
            rw [if_pos h4]
          · rename_i h4
            rw [if_neg h4]
            split at h
            · cases h
            · rename_i h5
              cases h
              rw [if_neg h5]
  · cases h
  · rename_i n1 n2
    cases h
    unfold swappedStores
    split
    · rename_i q
      split at q
      · rename_i ts k p vs k2 p2
        exact absurd rfl (n1 _ _ _ _ _ _ rfl)
      · exact absurd rfl (n2 _ _ _ _ _ rfl)
      · cases q
    · rfl

/-! ### targets -/
def bGs (g : Expr → Tg) : List Expr → Bx Tgs
  | [] => ⟨gNo⟩
  | e :: es => ⟨gCn (g e) (bGs g es).run⟩
def gsOf (g : Expr → Tg) (es : List Expr) : Tgs := (bGs g es).run
def bG (f : Expr → Ev D) (C : Cc) : Nat → Expr → BG
  | 0, _ => ⟨gBad⟩
  | n + 1, e => match e with
    | .Name x _ => match locK C x with
      | true => match ixN? x C.N with
        | some i => ⟨gNm i⟩
        | none => ⟨gBad⟩
      | false => ⟨gBad⟩
    | .Tuple es _ _ => match noStars es with
      | true => ⟨gTp es.length ((bGs (fun e => (bG f C n e).run) es).run)⟩
      | false => ⟨gBad⟩
    | .Subscript o i _ => match plainIx i with
      | true => ⟨gSb (f o) (f i) opSetI⟩
      | false => ⟨gBad⟩
    | _ => ⟨gBad⟩
def trG (f : Expr → Ev D) (C : Cc) (n : Nat) (e : Expr) : Tg := (bG f C n e).run
theorem asg_sub {o i : Expr} {pos : Pos} {env : PySem.Env} (h : plainIx i = true) (v : Value) : assign (.Subscript o i pos) env v = (do
      let ov ← holding [v] (eval o env)
      let iv ← holding [v, ov] (eval i env)
      standAt pos
      holding [v, ov, iv] (setItem ov iv v)
      release [v, ov, iv] []) := by
  cases i with
  | Slice l u s p => cases s with
    | none => cases h
    | some s => rfl
  | _ => rfl
theorem aug_sub {i : Expr} (h : plainIx i = true) (ov iv new : Value) : augStore i ov iv new = (do holding [new, ov, iv] (setItem ov iv new); release [new, ov, iv] []; pure .next) := by
  cases i with
  | Slice l u s p => cases s with
    | none => cases h
    | some s => rfl
  | _ => rfl
section
variable {C : Cc} {X : Cx} {W : WX} {f : Expr → Ev D}
theorem trG_ok (o : XOk C X W) (hf : ∀ a, PE X a (tE (gx X) W (f a))) : ∀ (n : Nat) (tg : Expr), PG X tg (tGx (gx X) W (trG f C n tg))
  | 0, _ => pg_bad
  | n + 1, tg => by
    unfold trG bG
    split
    · rename_i x pos
      split
      · rename_i hl
        split
        · rename_i i hi
          obtain ⟨h1, h2⟩ := locK_ok o hl
          exact pg_nm (pg_name (by rw [o.N]; exact o.nd) (by rw [o.N]; exact ixN?_ok hi) h1 h2)
        · exact pg_bad
      · exact pg_bad
    · rename_i es k pos
      split
      · rename_i hs
        have key : ∀ es : List Expr, noStars es = true → PGs X es (tGs (gx X) W (gsOf (trG f C n) es)) := by
          intro es
          induction es with
          | nil => intro _; exact pgs_n
          | cons e es ih =>
            intro h
            obtain ⟨s1, s2⟩ := noStars_cons h
            exact pgs_c (trG_ok o hf n e) (ih s2) (by rw [asg_no s1]; rfl)
        exact pg_tp o.calm (key es hs) (asg_len es) (asg_find hs)
      · exact pg_bad
    · rename_i q i pos
      split
      · rename_i hi
        exact pg_sb (pg_sub (hf q) (hf i) (set_S o.hu1) (asg_sub hi))
      · exact pg_bad
    · exact pg_bad
end

/-! ### statements -/
def swLc (C : Cc) (y : Str) (pl vl : Nat) (scope : Scope) : Bool := (match lkN y C.kinds with
  | some .local => true
  | _ => false) && pl == vl && !(scope.names.any fun (n, k) => n == y && (k == .local || k == .cell))
/-- a list of lambdas that grows -/
structure LkM where
  x : Str
  i : Nat
  ls : List LamI
def lkLam (r : Tr) (C : Cc) (e : Expr) : Option LamI := match e with
  | .Lambda params body scope _ => match lamB C params scope with
    | true => some ⟨body, scope, r.e (C.inLam scope) body⟩
    | false => none
  | _ => none
def lkStart (r : Tr) (C : Cc) (s : Stmt) : Option LkM := match s with
  | .Assign [.Name x _] (.List [e] _) _ => match lkLam r C e, locK C x, ixN? x C.N, okNm x with
    | some l, true, some i, true => some ⟨x, i, [l]⟩
    | _, _, _, _ => none
  | _ => none
def lkApp (r : Tr) (C : Cc) (a : LkM) (s : Stmt) : Option LamI := match s with
  | .Expr (.Call (.Attribute (.Name y _) m p2) [e] [] p4) _ => match sq y a.x && sq m "append" && p2.endLine == p4.line && decide (a.ls.length < szMax) with
    | true => lkLam r C e
    | false => none
  | _ => none
def lkEnd (C : Cc) (a : LkM) (s : Stmt) : Option (Nat × Nat × List Str) := match s with
  | .Assign [.Name y py] (.ListComp (.Subscript (.Call (.Name hx _) [.Name look _] [] _) (.Constant (.int z) _ _) _) [⟨.Name look2 _, .Name x2 _, [], ia⟩] scope vp) _ =>
    match sq x2 a.x && sq look2 look && decide (z = 0) && decide (ia = 0) && okNm hx && okNm look && swLc C y py.line vp.line scope && blkC C.N (kScope C) scope (ownFrom C.N scope.names) && locK (C.blk scope) look && decide (2 ≤ C.lvl) with
    | true => match lkN hx (C.blk scope).kinds, C.glob hx, ixN? y C.N, ixN? look C.N with
      | some .globalImplicit, .heard subs, some j, some ik => match ((ownFrom C.N scope.names).map (·.2)).contains ik with
        | true => some (j, ik, subs)
        | false => none
      | _, _, _, _ => none
    | false => none
  | _ => none
def bB (r : Tr) (C : Cc) (g : Stmt → Sv) : Option LkM → List Stmt → BS
  | none, [] => ⟨sSkip⟩
  | some _, [] => ⟨sBad⟩
  | none, s :: b => match lkStart r C s with
    | some a => ⟨sLk0 a.i (bB r C g (some a) b).run⟩
    | none => ⟨sSeq (g s) (bB r C g none b).run⟩
  | some a, s :: b => match lkApp r C a s with
    | some l => bB r C g (some ⟨a.x, a.i, a.ls ++ [l]⟩) b
    | none => match lkEnd C a s with
      | some (j, ik, subs) => ⟨sSeq (sLk3 j ik subs (a.ls.map (·.ev))) (bB r C g none b).run⟩
      | none => ⟨sBad⟩
def bOf (r : Tr) (C : Cc) (g : Stmt → Sv) (b : List Stmt) : Sv := (bB r C g none b).run
def whileN : Nat := 1000000
def asg1 (r : Tr) (C : Cc) (tg value : Expr) : BS := match value with
  | .ListComp elt gs scope vp => match tg with
    | .Name y py => match locK C y with
      | true => match ixN? y C.N with
        | some i => ⟨sAsg (lcE r C elt gs scope).run (gNm i)⟩
        | none => xS
      | false => xS
    | _ => ⟨sAsg (lcE r C elt gs scope).run (trG (r.e C) C 4 tg)⟩
  | .DictComp kx vx gs scope vp => match tg with
    | .Name y py => match locK C y with
      | true => match ixN? y C.N with
        | some i => ⟨sAsg (dcE r C kx vx gs scope).run (gNm i)⟩
        | none => xS
      | false => xS
    | _ => ⟨sAsg (dcE r C kx vx gs scope).run (trG (r.e C) C 4 tg)⟩
  | value => match noComp value with
    | true => ⟨sAsg (r.e C value) (trG (r.e C) C 4 tg)⟩
    | false => xS
def parE (r : Tr) (C : Cc) (names : List Str) (tg value : Expr) : BS := match tg, value with
  | .Tuple [.Name x _, .Name y _] _ _, .Tuple [a, b] _ _ => match ixN? x C.N, ixN? y C.N, lkN x C.kinds, lkN y C.kinds with
    | some i, some j, some .local, some .local => match decide (i ≠ j) && decide (names = [x, y]) with
      | true => ⟨sPar i j (aOf (r.e C) [a, b])⟩
      | false => xS
    | _, _, _, _ => xS
  | .Tuple [.Name x _, .Name y _, .Name z _] _ _, .Tuple [a, b, c] _ _ => match ixN? x C.N, ixN? y C.N, ixN? z C.N, lkN x C.kinds, lkN y C.kinds, lkN z C.kinds with
    | some i, some j, some k, some .local, some .local, some .local => match decide (i ≠ j) && decide (i ≠ k) && decide (j ≠ k) && decide (names = [x, y, z]) with
      | true => ⟨sPar3 i j k (aOf (r.e C) [a, b, c])⟩
      | false => xS
    | _, _, _, _, _, _ => xS
  | _, _ => xS
def asgS (r : Tr) (C : Cc) (tgs : List Expr) (value : Expr) : BS := match tgs with
  | [tg] => match isStar tg with
    | false => match swP C [tg] value with
      | some none => asg1 r C tg value
      | some (some names) => parE r C names tg value
      | none => xS
    | true => xS
  | _ => xS
def raiseS (r : Tr) (C : Cc) (e : Option Expr) (cause : Option Expr) : BS := match e, cause with
  | some (.Call (.Name x _) [a] [] _), none => match exNm C x && !isStar a && decide (2 ≤ C.lvl) with
    | true => match C.glob x with
      | .exc _ _ => ⟨sRaise x (r.e C a)⟩
      | _ => xS
    | false => xS
  | _, _ => xS
def stepS (r : Tr) (g : Cc → Stmt → Sv) (C : Cc) (s : Stmt) : BS := match s with
  | .Pass _ => ⟨sSkip⟩
  | .Break _ => ⟨sBrk⟩
  | .Continue _ => ⟨sCont⟩
  | .Expr e _ => match e with
    | .Constant c _ _ => match c with
      | .str _ => ⟨sSkip⟩
      | _ => xS
    | e => match noComp e with
      | true => ⟨sDrop (r.e C e)⟩
      | false => xS
  | .Return v _ => match v with
    | some e => ⟨sRet (r.e C e)⟩
    | none => ⟨sRetN⟩
  | .If c a b _ => ⟨sIf (r.t C c) (bOf r C (g C) a) (bOf r C (g C) b)⟩
  | .While c b e _ => match e with
    | [] => ⟨sWhile whileN (r.t C c) (bOf r C (g C) b)⟩
    | _ :: _ => xS
  | .For tg iter b e _ => match e with
    | [] => match noSet iter with
      | true => ⟨sFor (trI (r.e C) C tg iter) (trG (r.e C) C 4 tg) (bOf r C (g C) b)⟩
      | false => xS
    | _ :: _ => xS
  | .Assign tgs value _ => asgS r C tgs value
  | .AugAssign tg op e _ => match tg with
    | .Name x _ => match locK C x with
      | true => match ixN? x C.N with
        | some i => ⟨sAug i (iopO op) (r.e C e)⟩
        | none => xS
      | false => xS
    | .Subscript q i _ => match plainIx i with
      | true => ⟨sAugS (r.e C q) (r.e C i) opIxR (iopO op) opSetI (r.e C e)⟩
      | false => xS
    | _ => xS
  | .Raise e cause _ => raiseS r C e cause
  | _ => xS
section
variable {C : Cc} {X : Cx} {W : WX} {r : Tr} {pos : Pos}
structure LkOk (X : Cx) (C : Cc) (a : LkM) : Prop where
  ix : X.N[a.i]? = some a.x
  loc : locK C a.x = true
  nm : okNm a.x = true
  all : ∀ l ∈ a.ls, LamG X (C.lvl - 2) l
theorem lamC_of (o : XOk C X W) (h : C.lam = true) : LamC X := by
  obtain ⟨c, e1, e2, e3⟩ := o.cod h
  exact ⟨c, _, e1, o.glob.tb _ e2, e3, fun p hp z => o.glob.tu p hp _ e3 z⟩
theorem lkLam_ok (h : TrOk r) (o : XOk C X W) {e : Expr} {l : LamI} (hl : lkLam r C e = some l) : (∃ p, e = .Lambda noArgs l.body l.scope p) ∧ LamC X ∧ LamG X (C.lvl - 2) l ∧ 2 ≤ C.lvl := by
  unfold lkLam at hl
  split at hl
  · rename_i params body scope p
    split at hl
    · rename_i hb
      cases hl
      unfold lamB at hb
      simp only [Bool.and_eq_true, decide_eq_true_eq] at hb
      obtain ⟨⟨⟨h1, h2⟩, h3⟩, h4⟩ := hb
      have hpar : params = noArgs := by
        unfold noPar at h2
        split at h2
        · rfl
        · cases h2
      subst hpar
      have hsc : LamX.lamSB X.env.scope scope = true := by
        have z : X.env.scope.names = C.kinds := o.kinds
        unfold LamX.lamSB at h3 ⊢
        rw [z]
        exact h3
      have L := LamX.lamS_by hsc
      exact ⟨⟨p, rfl⟩, lamC_of o h1, ⟨L, fun E A outer s2 H2 f c2 hr hgd => h.e (o.inLam L hr hgd) body⟩, h4⟩
    · cases hl
  · cases hl
theorem locK_loc (o : XOk C X W) {x : Str} (h : locK C x = true) : Loc X.env.scope x ∧ (X.fn x = true ∨ X.env.scope.names.lookup x = some .local) := locK_ok o h
theorem vis_loc {sc : Scope} {x : Str} (h : Loc sc x) : Vis sc x := h.elim .inl fun z => .inr (.inl z)
theorem lkStart_ok (h : TrOk r) (o : XOk C X W) {s : Stmt} {a : LkM} (hs : lkStart r C s = some a) : LkOk X C a ∧ ∃ l, a.ls = [l] ∧ PS X s (tLk1 X a.i l) := by
  unfold lkStart at hs
  split at hs
  · rename_i x p1 e p2 p3
    split at hs
    · rename_i l i hl hk hi hn
      cases hs
      obtain ⟨⟨p, rfl⟩, lc, lg, _⟩ := lkLam_ok h o hl
      obtain ⟨l1, l2⟩ := locK_ok o hk
      have hN : X.N[i]? = some x := by rw [o.N]; exact ixN?_ok hi
      exact ⟨⟨hN, hk, hn, by simpa using lg⟩, l, rfl, ps_lk1 (by rw [o.N]; exact o.nd) hN l1 l2 lc lg.L⟩
    · cases hs
  · cases hs
theorem lkApp_ok (h : TrOk r) (o : XOk C X W) {s : Stmt} {a : LkM} {l : LamI} (ok : LkOk X C a) (hs : lkApp r C a s = some l) : LkOk X C ⟨a.x, a.i, a.ls ++ [l]⟩ ∧ a.ls.length < szMax ∧ PS X s (tLk2 X a.i a.ls l) := by
  unfold lkApp at hs
  split at hs
  · rename_i y p1 m p2 e p4 p5
    split at hs
    · rename_i hb
      simp only [Bool.and_eq_true, decide_eq_true_eq] at hb
      obtain ⟨⟨⟨h1, h2⟩, h3⟩, h4⟩ := hb
      have e1 := sq_eq h1
      have e2 := sq_eq h2
      subst e1
      subst e2
      obtain ⟨⟨p, rfl⟩, lc, lg, _⟩ := lkLam_ok h o hs
      obtain ⟨l1, l2⟩ := locK_ok o ok.loc
      obtain ⟨n1, n2⟩ := okNm_of ok.nm
      refine ⟨⟨ok.ix, ok.loc, ok.nm, fun m hm => ?_⟩, h4, ps_lk2 ok.ix (vis_loc l1) n1 n2 lc lg.L h3 (base_of rfl _ _ _)⟩
      rcases List.mem_append.mp hm with hm | hm
      · exact ok.all m hm
      · have e : m = l := by simpa using hm
        rw [e]
        exact lg
    · cases hs
  · cases hs
theorem lkEnd_ok (o : XOk C X W) {s : Stmt} {a : LkM} {j ik : Nat} {subs : List Str} (ok : LkOk X C a) (hs : lkEnd C a s = some (j, ik, subs)) : PS X s (tLk3 X a.i j ik a.ls subs) := by
  unfold lkEnd at hs
  split at hs
  · rename_i y py hx p look lp cp z kc cpos sp look2 tp x2 ip ia scope vp spos
    split at hs
    · rename_i hb
      simp only [Bool.and_eq_true, decide_eq_true_eq] at hb
      obtain ⟨⟨⟨⟨⟨⟨⟨⟨⟨h1, h2⟩, h3⟩, h4⟩, h5⟩, h6⟩, h7⟩, h8⟩, h9⟩, h10⟩ := hb
      have e1 := sq_eq h1
      have e2 := sq_eq h2
      subst e1 e2 h3 h4
      split at hs
      · rename_i subs' j' ik' g1 g2 g3 g4
        split at hs
        · rename_i hc
          cases hs
          have hN : X.N.Nodup := by rw [o.N]; exact o.nd
          have hy : X.N[j]? = some y := by rw [o.N]; exact ixN?_ok g3
          have hk : X.env.kindOf y = lkN y C.kinds := by
            rw [lkN_eq, ← o.kinds]
            rfl
          have hbk : X.env.blockKind = .function := by
            unfold PySem.Env.blockKind
            rw [o.skind]
            rfl
          have sw : ∀ elt gs, swapsWith (.ListComp elt gs scope vp) (some (.Name y py)) spos.line X.env = pure (swLc C y py.line vp.line scope) := fun elt gs => by
            show (pure _ : Sem Bool) = pure _
            congr 1
            unfold swLc
            rw [hk, hbk]
            cases lkN y C.kinds with
            | none => rfl
            | some k => cases k <;> rfl
          rw [h7] at sw
          have hyl : X.env.scope.names.lookup y = some .local := by
            have : X.env.kindOf y = some .local := by
              rw [hk]
              unfold swLc at h7
              simp only [Bool.and_eq_true] at h7
              have := h7.1.1
              split at this
              · assumption
              · cases this
            exact this
          have b := blk_of o h8
          obtain ⟨l1, l2⟩ := locK_ok o ok.loc
          obtain ⟨n1, n2⟩ := okNm_of ok.nm
          obtain ⟨n3, n4⟩ := okNm_of h6
          have room : Room (C.lvl - 2 + 2) X.A := by
            rw [show C.lvl - 2 + 2 = C.lvl by omega]
            exact o.room
          have ob := fun (t : Shared) (K : Hp) (fp : List Addr) => o.blk b.kind t K (cellsFrom (t.heap.objs.size + 1) scope.names (cloFrom X.env.cells scope.names [])) t.heap.objs.size fp
          exact ps_lk3 o.calm hN hy hyl (sw _ _) ok.ix (vis_loc l1) n1 n2 b (by simpa using hc) (by rw [o.N]; exact ixN?_ok g4) (fun t K fp => locK_ok (ob t K fp) h9) n3 n4 (o.glob.heard _ _ g2) (fun t => (ob t (fun _ => none) []).gl g1) (okNm_of h5).1 room o.gd ok.all o.hu1
        · cases hs
      · cases hs
    · cases hs
  · cases hs
theorem bB_ok (h : TrOk r) (o : XOk C X W) {g : Stmt → Sv} (hg : ∀ s, PS X s (tS (gx X) W (g s))) : ∀ b, PSs X b (tS (gx X) W (bB r C g none b).run) ∧ ∀ a, LkOk X C a → PSs X b (tMore X W a.i a.ls (bB r C g (some a) b).run)
  | [] => ⟨pss_n, fun a _ => ⟨fun _ _ _ _ _ _ ⟨_, _, _, _, _, _, _, _, _, _, _, _, _, q⟩ => q.elim⟩⟩
  | s :: b => by
    obtain ⟨i1, i2⟩ := bB_ok h o hg b
    constructor
    · unfold bB
      split
      · rename_i a hs
        obtain ⟨ok, l, e, ps⟩ := lkStart_ok h o hs
        have z := i2 a ok
        rw [e] at z
        exact pss_lk1 ps z
      · exact pss_c (hg s) i1
    · intro a ok
      unfold bB
      split
      · rename_i l hs
        obtain ⟨ok2, hz, ps⟩ := lkApp_ok h o ok hs
        exact pss_lk2 ps hz (i2 _ ok2)
      · split
        · rename_i j ik subs hs
          exact pss_lk3 (lkEnd_ok o ok hs) i1
        · exact ⟨fun _ _ _ _ _ _ ⟨_, _, _, _, _, _, _, _, _, _, _, _, _, q⟩ => q.elim⟩
theorem bOf_ok (h : TrOk r) (o : XOk C X W) {g : Stmt → Sv} (hg : ∀ s, PS X s (tS (gx X) W (g s))) (b : List Stmt) : PSs X b (tS (gx X) W (bOf r C g b)) := (bB_ok h o hg b).1
theorem lcE_ok (h : TrOk r) (o : XOk C X W) (elt : Expr) (gs : List Comprehension) (scope : Scope) : PE X (.ListComp elt gs scope pos) (tE (gx X) W (lcE r C elt gs scope).run) := by
  unfold lcE
  split
  · exact evLc_ok h o elt _ scope
  · exact evLc2_ok h o elt _ _ scope
  · exact pe_bad
theorem dcE_ok (h : TrOk r) (o : XOk C X W) (kx vx : Expr) (gs : List Comprehension) (scope : Scope) : PE X (.DictComp kx vx gs scope pos) (tE (gx X) W (dcE r C kx vx gs scope).run) := by
  unfold dcE
  split
  · exact evDc_ok h o kx vx _ scope
  · exact pe_bad
theorem sBadA {st : Stmt} {ev : Ev D} {gg : Tg} (hb : ev = eBad) : PS X st (tS (gx X) W (sAsg ev gg)) := by
  subst hb
  exact ⟨fun _ _ _ _ _ _ ⟨_, _, _, _, _, q⟩ => q.elim⟩
theorem asgLc (h : TrOk r) (o : XOk C X W) {elt : Expr} {gs : List Comprehension} {scope : Scope} {vp py : Pos} {y : Str} {i : Nat} (hl : locK C y = true) (hi : ixN? y C.N = some i) : PS X (.Assign [.Name y py] (.ListComp elt gs scope vp) pos) (tS (gx X) W (sAsg (lcE r C elt gs scope).run (gNm i))) := by
  have hN : X.N.Nodup := by rw [o.N]; exact o.nd
  have hy : X.N[i]? = some y := by rw [o.N]; exact ixN?_ok hi
  obtain ⟨l1, l2⟩ := locK_ok o hl
  have hk : X.env.kindOf y = lkN y C.kinds := by
    rw [lkN_eq, ← o.kinds]
    rfl
  have hbk : X.env.blockKind = .function := by
    unfold PySem.Env.blockKind
    rw [o.skind]
    rfl
  have sw : swapsWith (.ListComp elt gs scope vp) (some (.Name y py)) pos.line X.env = pure (swLc C y py.line vp.line scope) := by
    show (pure _ : Sem Bool) = pure _
    congr 1
    unfold swLc
    rw [hk, hbk]
    cases lkN y C.kinds with
    | none => rfl
    | some k => cases k <;> rfl
  have plain : swLc C y py.line vp.line scope = false → PS X (.Assign [.Name y py] (.ListComp elt gs scope vp) pos) (tS (gx X) W (sAsg (lcE r C elt gs scope).run (gNm i))) := fun hf =>
    ps_as (ps_asg (lcE_ok h o elt gs scope) (pg_nm (pg_name hN hy l1 l2)) (by rw [hf] at sw; exact sw) rfl rfl)
  cases hc : swLc C y py.line vp.line scope with
  | false => exact plain hc
  | true =>
    rw [hc] at sw
    have hyl : X.env.scope.names.lookup y = some .local := by
      have : X.env.kindOf y = some .local := by
        rw [hk]
        unfold swLc at hc
        simp only [Bool.and_eq_true] at hc
        have := hc.1.1
        split at this
        · assumption
        · cases this
      exact this
    unfold lcE
    split
    · rename_i g
      unfold evLc
      split
      · rename_i hc
        simp only [Bool.and_eq_true, decide_eq_true_eq] at hc
        obtain ⟨⟨hb, ha⟩, hs⟩ := hc
        obtain ⟨tg, iter, ifs, as⟩ := g
        dsimp only at ha hs
        subst ha
        split
        · rename_i pt hp
          split
          · rename_i hw
            have b := blk_of o hb
            exact ps_sl o.calm hN hy hyl sw (trI_ok o (h.e o) tg iter) b (fun s H A cl fp => (patOf_ok (o.blk b.kind s H cl A fp) 3 hp hw).1) (fun s H A cl fp => condOf_ok (h.t (o.blk b.kind s H cl A fp)) ifs) (fun s H A cl fp => h.e (o.blk b.kind s H cl A fp) elt) (set_no hs X.env)
          · exact sBadA rfl
        · exact sBadA rfl
      · exact sBadA rfl
    · rename_i g g1
      unfold evLc2
      split
      · rename_i hc
        simp only [Bool.and_eq_true, decide_eq_true_eq] at hc
        obtain ⟨⟨⟨⟨hb, ha⟩, hs⟩, ha1⟩, hs1⟩ := hc
        obtain ⟨tg, iter, ifs, as⟩ := g
        obtain ⟨tg1, iter1, ifs1, as1⟩ := g1
        dsimp only at ha hs ha1 hs1
        subst ha
        subst ha1
        split
        · rename_i pt pt1 hp hp1
          split
          · rename_i hw
            simp only [Bool.and_eq_true] at hw
            obtain ⟨⟨w1, w2⟩, w3⟩ := hw
            have b := blk_of o hb
            refine ps_sl2 o.calm hN hy hyl sw (trI_ok o (h.e o) tg iter) b (fun i hi => by simpa using List.all_eq_true.mp w3 i hi) (fun s H A cl fp => (patOf_ok (o.blk b.kind s H cl A fp) 3 hp w1).1) (fun s H A cl fp => condOf_ok (h.t (o.blk b.kind s H cl A fp)) ifs)
              (fun s H A cl fp => trI_ok (o.blk b.kind s H cl A fp) (h.e (o.blk b.kind s H cl A fp)) tg1 iter1) (fun s H A cl fp => (patOf_ok (o.blk b.kind s H cl A fp) 3 hp1 w2).1) (fun s H A cl fp => condOf_ok (h.t (o.blk b.kind s H cl A fp)) ifs1) (fun s H A cl fp => h.e (o.blk b.kind s H cl A fp) elt) (set_no hs X.env) (fun env x => set_no hs1 env x)
          · exact sBadA rfl
        · exact sBadA rfl
      · exact sBadA rfl
    · exact sBadA rfl
theorem asgDc (h : TrOk r) (o : XOk C X W) {kx vx : Expr} {gs : List Comprehension} {scope : Scope} {vp py : Pos} {y : Str} {i : Nat} (hl : locK C y = true) (hi : ixN? y C.N = some i) : PS X (.Assign [.Name y py] (.DictComp kx vx gs scope vp) pos) (tS (gx X) W (sAsg (dcE r C kx vx gs scope).run (gNm i))) := by
  have hN : X.N.Nodup := by rw [o.N]; exact o.nd
  have hy : X.N[i]? = some y := by rw [o.N]; exact ixN?_ok hi
  obtain ⟨l1, l2⟩ := locK_ok o hl
  have hk : X.env.kindOf y = lkN y C.kinds := by
    rw [lkN_eq, ← o.kinds]
    rfl
  have hbk : X.env.blockKind = .function := by
    unfold PySem.Env.blockKind
    rw [o.skind]
    rfl
  have sw : swapsWith (.DictComp kx vx gs scope vp) (some (.Name y py)) pos.line X.env = pure (swLc C y py.line vp.line scope) := by
    show (pure _ : Sem Bool) = pure _
    congr 1
    unfold swLc
    rw [hk, hbk]
    cases lkN y C.kinds with
    | none => rfl
    | some k => cases k <;> rfl
  have plain : swLc C y py.line vp.line scope = false → PS X (.Assign [.Name y py] (.DictComp kx vx gs scope vp) pos) (tS (gx X) W (sAsg (dcE r C kx vx gs scope).run (gNm i))) := fun hf =>
    ps_as (ps_asg (dcE_ok h o kx vx gs scope) (pg_nm (pg_name hN hy l1 l2)) (by rw [hf] at sw; exact sw) rfl rfl)
  cases hc : swLc C y py.line vp.line scope with
  | false => exact plain hc
  | true =>
    rw [hc] at sw
    have hyl : X.env.scope.names.lookup y = some .local := by
      have : X.env.kindOf y = some .local := by
        rw [hk]
        unfold swLc at hc
        simp only [Bool.and_eq_true] at hc
        have := hc.1.1
        split at this
        · assumption
        · cases this
      exact this
    unfold dcE
    split
    · rename_i g
      unfold evDc
      split
      · rename_i hc
        simp only [Bool.and_eq_true, decide_eq_true_eq] at hc
        obtain ⟨⟨hb, ha⟩, hs⟩ := hc
        obtain ⟨tg, iter, ifs, as⟩ := g
        dsimp only at ha hs
        subst ha
        split
        · rename_i pt hp
          split
          · rename_i hw
            have b := blk_of o hb
            exact ps_sd o.calm hN hy hyl sw (trI_ok o (h.e o) tg iter) b (fun s H A cl fp => (patOf_ok (o.blk b.kind s H cl A fp) 3 hp hw).1) (fun s H A cl fp => condOf_ok (h.t (o.blk b.kind s H cl A fp)) ifs) (fun s H A cl fp => h.e (o.blk b.kind s H cl A fp) kx) (fun s H A cl fp => h.e (o.blk b.kind s H cl A fp) vx) (set_no hs X.env)
          · exact sBadA rfl
        · exact sBadA rfl
      · exact sBadA rfl
    · exact sBadA rfl
theorem asg1_ok (h : TrOk r) (o : XOk C X W) {tg value : Expr} (hst : isStar tg = false) (hsw : swappedStores [tg] value X.env = pure none) : PS X (.Assign [tg] value pos) (tS (gx X) W (asg1 r C tg value).run) := by
  have h1 : (assignEach [tg] X.env).map (·.2) = [assign tg X.env] := by rw [asg_no hst]; rfl
  have gen : noComp value = true → PS X (.Assign [tg] value pos) (tS (gx X) W (sAsg (r.e C value) (trG (r.e C) C 4 tg))) := fun hn => ps_as (ps_asg (h.e o value) (trG_ok o (h.e o) 4 tg) (swaps_no hn _ _ _) hsw h1)
  cases value with
  | ListComp elt gs scope vp =>
    cases tg with
    | Name y py =>
      unfold asg1
      dsimp only
      split
      · rename_i hl
        split
        · rename_i i hi
          exact asgLc h o hl hi
        · exact ps_bad
      · exact ps_bad
    | _ => exact ps_as (ps_asg (lcE_ok h o elt gs scope) (trG_ok o (h.e o) 4 _) rfl hsw h1)
  | SetComp elt gs scope vp => exact ps_bad
  | DictComp kx vx gs scope vp =>
    cases tg with
    | Name y py =>
      unfold asg1
      dsimp only
      split
      · rename_i hl
        split
        · rename_i i hi
          exact asgDc h o hl hi
        · exact ps_bad
      · exact ps_bad
    | _ => exact ps_as (ps_asg (dcE_ok h o kx vx gs scope) (trG_ok o (h.e o) 4 _) rfl hsw h1)
  | _ => exact gen rfl
theorem parE_ok (h : TrOk r) (o : XOk C X W) {names : List Str} {tg value : Expr} (hsw : swappedStores [tg] value X.env = pure (some names)) : PS X (.Assign [tg] value pos) (tS (gx X) W (parE r C names tg value).run) := by
  have hN : X.N.Nodup := by rw [o.N]; exact o.nd
  have lo : ∀ {x : Str}, lkN x C.kinds = some .local → X.env.scope.names.lookup x = some .local := fun {x} e => by
    rw [o.kinds, ← lkN_eq]
    exact e
  have ix : ∀ {x : Str} {i : Nat}, ixN? x C.N = some i → X.N[i]? = some x := fun {x i} e => by
    rw [o.N]
    exact ixN?_ok e
  unfold parE
  split
  · split
    · rename_i i j hi hj hx hy
      split
      · rename_i hc
        simp only [Bool.and_eq_true, decide_eq_true_eq] at hc
        obtain ⟨c1, c2⟩ := hc
        subst c2
        exact ps_pr (ps_par o.calm hN (ix hi) (ix hj) c1 (lo hx) (lo hy) (aOf_ok (h.e o) _) hsw rfl)
      · exact ps_bad
    · exact ps_bad
  · split
    · rename_i i j k hi hj hk hx hy hz
      split
      · rename_i hc
        simp only [Bool.and_eq_true, decide_eq_true_eq] at hc
        obtain ⟨⟨⟨c1, c2⟩, c3⟩, c4⟩ := hc
        subst c4
        exact ps_pr3 (ps_par3 o.calm hN (ix hi) (ix hj) (ix hk) c1 c2 c3 (lo hx) (lo hy) (lo hz) (aOf_ok (h.e o) _) hsw rfl)
      · exact ps_bad
    · exact ps_bad
  · exact ps_bad
theorem stepS_ok (h : TrOk r) (o : XSt C X W) {g : Cc → Stmt → Sv} (hg : ∀ s, PS X s (tS (gx X) W (g C s))) (s : Stmt) : PS X s (tS (gx X) W (stepS r g C s).run) := by
  have ox := o.toXOk
  cases s with
  | Pass p => exact ps_sk ps_pass
  | Break p => exact ps_bk
  | Continue p => exact ps_ct
  | Expr e p =>
    have gen : noComp e = true → PS X (.Expr e p) (tS (gx X) W (sDrop (r.e C e))) := fun hn => ps_dr (h.e ox e) (swaps_no hn _ _ _)
    cases e with
    | Constant c k p2 =>
      cases c with
      | str x => exact ps_sk ps_doc
      | _ => exact ps_bad
    | ListComp => exact ps_bad
    | SetComp => exact ps_bad
    | DictComp => exact ps_bad
    | _ => exact gen rfl
  | Return v p =>
    cases v with
    | none => exact ps_rn
    | some e => exact ps_rt (h.e ox e)
  | If c a b p => exact ps_i (h.t ox c) (bOf_ok h ox hg a) (bOf_ok h ox hg b)
  | While c b e p =>
    cases e with
    | nil => exact ps_wh o.po (h.t ox c) (bOf_ok h ox hg b)
    | cons x y => exact ps_bad
  | For tg iter b e p =>
    cases e with
    | nil =>
      unfold stepS
      dsimp only
      split
      · rename_i hs
        exact ps_fr o.po ox.calm (trI_ok ox (h.e ox) tg iter) (trG_ok ox (h.e ox) 4 tg) (bOf_ok h ox hg b) (set_no hs X.env)
      · exact ps_bad
    | cons x y => exact ps_bad
  | Assign tgs value p =>
    unfold stepS asgS
    dsimp only
    split
    · split
      · rename_i tg hst
        split
        · rename_i hz
          exact asg1_ok h ox hst (sw_ok ox hz)
        · rename_i names hz
          exact parE_ok h ox (sw_ok ox hz)
        · exact ps_bad
      · exact ps_bad
    · exact ps_bad
  | AugAssign tg op e p =>
    cases tg with
    | Name x p2 =>
      unfold stepS
      dsimp only
      split
      · rename_i hl
        split
        · rename_i i hi
          obtain ⟨l1, l2⟩ := locK_ok ox hl
          exact ps_ag (ps_aug (by rw [ox.N]; exact ox.nd) (by rw [ox.N]; exact ixN?_ok hi) l1 (h.e ox e) (iopO_ok op) l2)
        · exact ps_bad
      · exact ps_bad
    | Subscript q i p2 =>
      unfold stepS
      dsimp only
      split
      · rename_i hi
        exact ps_ags (ps_augS (h.e ox q) (h.e ox i) (get_S ox.hu1) (h.e ox e) (iopO_ok op) (set_S ox.hu1) (aug_sub hi))
      · exact ps_bad
    | _ => exact ps_bad
  | Raise e cause p =>
    unfold stepS raiseS
    dsimp only
    split
    · split
      · rename_i hb
        simp only [Bool.and_eq_true, Bool.not_eq_true', decide_eq_true_eq] at hb
        obtain ⟨⟨h1, h2⟩, h3⟩ := hb
        obtain ⟨g1, g2⟩ := exNm_ok ox h1
        split
        · rename_i subs others hg
          exact ps_rs ox.calm ox.tk (ox.glob.exc _ _ _ hg) (ox.room.mono h3) g1 g2 (h.e ox _) (star_no h2 _ _)
        · exact ps_bad
      · exact ps_bad
    · exact ps_bad
  | _ => exact ps_bad
end
/-- the same, worked out at once -/
def fzAx (i : Nat) (b : BS) : BS := match b with
  | ⟨s⟩ => ⟨fzA i s⟩
def stepF (r : Tr) (g : Cc → Stmt → Sv) (C : Cc) (s : Stmt) : BS := match s with
  | .AugAssign (.Name x _) .. => match ixN? x C.N with
    | some i => fzAx i (stepS r g C s)
    | none => stepS r g C s
  | .For tg iter b [] _ => match noSet iter with
    | true => ⟨sFor (trI (r.e C) C tg iter) (fzG (trG (r.e C) C 4 tg)) (bOf r C (g C) b)⟩
    | false => xS
  | _ => stepS r g C s
theorem stepF_eq (r : Tr) (g : Cc → Stmt → Sv) (C : Cc) (s : Stmt) : (stepF r g C s).run = (stepS r g C s).run := by
  unfold stepF
  split
  · split
    · exact fzA_eq _ _
    · rfl
  · rw [fzG_eq]
    rfl
  · rfl
def bS (r : Tr) : Nat → Cc → Stmt → BS
  | 0 => fun _ _ => xS
  | n + 1 => stepF r fun C s => (bS r n C s).run
def trS (r : Tr) (n : Nat) (C : Cc) (s : Stmt) : Sv := (bS r n C s).run
theorem trS_ok {r : Tr} (h : TrOk r) {C : Cc} {X : Cx} {W : WX} (o : XSt C X W) : ∀ (n : Nat) (s : Stmt), PS X s (tS (gx X) W (trS r n C s))
  | 0, _ => ps_bad
  | n + 1, s => by
    show PS X s (tS (gx X) W (stepF r (fun C s => (bS r n C s).run) C s).run)
    rw [stepF_eq]
    exact stepS_ok h o (trS_ok h o n) s
/-- a def's body -/
def trB (C : Cc) (b : List Stmt) : Sv := bOf (tr 40) C (trS (tr 40) 40 C) b
theorem trB_ok {C : Cc} {X : Cx} {W : WX} (o : XSt C X W) (b : List Stmt) : PSs X b (tS (gx X) W (trB C b)) := bOf_ok (tr_ok 40) o.toXOk (fun s => trS_ok (tr_ok 40) o 40 s) b
end Sh
set_option maxRecDepth 100000
set_option maxHeartbeats 4000000
/-! Sh: a def's own function; what it leaves behind. -/
namespace Sh
open PySem PySem.Spec PyProof.Rows L2

def padE (ds : List D) (n : Nat) : Env := ds.map some ++ List.replicate (n - ds.length) none
/-- a body's run -/
def runB (n : Nat) (sv : Sv) : Fn := fun ds μ => match sv (padE ds n) μ with
  | .ret d μ' => .ok d μ'
  | .next _ μ' => .ok (.p .non) μ'
  | .exc _ c d μ' => .exc c d μ'
  | _ => .bad
def flatC : Cell → Bool
  | .dl _ => false
  | _ => true
/-- values, own rows of the caller: the run has a store of its own, of these rows alone -/
def ownC : Cell → Bool
  | .fl _ => true
  | .fd _ => true
  | .td _ => true
  | _ => false
def isIn (n : Nat) : List Nat → Bool
  | [] => false
  | m :: r => match Nat.beq n m with
    | true => true
    | false => isIn n r
def locA (μ : Store) : List D → List Nat → List Cell → Option (List D × List Nat × List Cell)
  | [], ids, cs => some ([], ids, cs)
  | d :: r, ids, cs => match d with
    | .p x => match locA μ r ids cs with
      | some (ds, z) => some (.p x :: ds, z)
      | none => none
    | .ref n => match μ.get? n with
      | some c => match ownC c && !isIn n ids with
        | true => match locA μ r (ids ++ [n]) (cs ++ [c]) with
          | some (ds, z) => some (.ref ids.length :: ds, z)
          | none => none
        | false => none
      | none => none
    | _ => none
/-- the rows behind the run -/
def backA (μ1 : Store) : Nat → Nat → Option (List Cell)
  | 0, _ => some []
  | k + 1, j => match μ1.get? j with
    | some c => match ownC c with
      | true => match backA μ1 k (j + 1) with
        | some cs => some (c :: cs)
        | none => none
      | false => none
    | none => none
def setAll : Store → List Nat → List Cell → Store
  | μ, n :: r, c :: cs => setAll (μ.set n c) r cs
  | μ, _, _ => μ
mutual
def shD (k : Nat) : D → D
  | .ref n => .ref (Nat.add k n)
  | .mix ds => .mix (shDs k ds)
  | .exc c d => .exc c (shD k d)
  | .p x => .p x
  | .rol ps => .rol ps
def shDs (k : Nat) : List D → List D
  | [] => []
  | d :: r => shD k d :: shDs k r
end
def shC (k : Nat) : Cell → Cell
  | .dl ds => .dl (shDs k ds)
  | c => c
def allC (μ : Store) : Nat → Nat → Option (List Cell)
  | 0, _ => some []
  | n + 1, j => match μ.get? j with
    | some c => match allC μ n (j + 1) with
      | some cs => some (c :: cs)
      | none => none
    | none => none
def moved (k : Nat) (d : D) (μ : Store) (o : Option (List Cell)) (alt : Res D) : Res D := match o with
  | some cs => .ok (shD k d) (μ ++ cs.map (shC k))
  | none => alt
def isoF (f : Fn) : Fn := fun ds μ => match locA μ ds [] [] with
  | none => f ds μ
  | some (ds', ids, cs) => match f ds' (Store.of cs) with
    | .ok d μ' => match backA μ' ids.length 0 with
      | none => f ds μ
      | some cs' => match d with
        | .p x => .ok (.p x) (setAll μ ids cs')
        | .ref m => match Nat.ble ids.length m with
          | true => match μ'.get? m with
            | some c => match flatC c with
              | true => .ok (.ref μ.length) ((setAll μ ids cs') ++ [c])
              | false => match ids with
                | [] => moved μ.length (.ref m) μ (allC μ' μ'.length 0) (f ds μ)
                | _ :: _ => f ds μ
            | none => .bad
          | false => f ds μ
        | _ => f ds μ
    | .exc c d μ' => match d with
      | .p x => match backA μ' ids.length 0 with
        | none => f ds μ
        | some cs' => .exc c (.p x) (setAll μ ids cs')
      | _ => f ds μ
    | .bad => .bad
section
variable {G : Gx} {α : List Addr} {H : Hp} {μ : Store}
theorem StOk.nil (G : Gx) (H : Hp) (t : LamX.Tabs (tabsK G.K) H) : StOk G [] H Store.emp := ⟨rfl, List.nodup_nil, t, fun n c a h => by rw [Store.emp_at] at h; cases h⟩
theorem pures_eq : ∀ {ds : List D} {ps : List P}, pures ds = some ps → ds = ps.map .p
  | [], _, h => by cases h; rfl
  | .p x :: r, ps, h => by
    unfold pures at h
    split at h
    · rename_i xs q
      cases h
      rw [pures_eq q]
      rfl
    · cases h
  | .ref _ :: _, _, h => by cases h
  | .mix _ :: _, _, h => by cases h
  | .exc _ _ :: _, _, h => by cases h
  | .rol _ :: _, _, h => by cases h
theorem Reps.alone {ds : List D} {vs : List V} {ps : List P} (r : Reps G α H ds vs) (h : Sh.pures ds = some ps) : Reps G [] H ds vs := by
  have q := r.pures h
  rw [pures_eq h]
  exact q.toD
/-- a run by itself leaves the others as they were -/
theorem alone_st {α1 : List Addr} {H1 : Hp} {μ1 : Store} (st : StOk G α H μ) (x : Ext [] H α1 H1) (st1 : StOk G α1 H1 μ1) : StOk G α H1 μ := ⟨st.len, st.nd, st1.tabs, fun n c a h1 h2 => by
  have q := st.cel n c a h1 h2
  obtain ⟨o, e, k⟩ := q.kind
  have nt : notTbl o := by
    rintro ps rfl
    cases k
  refine q.mono (fun b vs => (StOk.nil G H st.tabs).sqT x) (fun _ _ e => e) (fun b o e k t => x.keep b o (by simp) e t) x.rol ?_
  rw [e]
  exact x.keep a o (by simp) e nt⟩
theorem alone_ext {α1 : List Addr} {H1 : Hp} (x : Ext [] H α1 H1) : Ext α H α H1 := ⟨⟨List.prefix_refl _, fun b o _ e t => x.keep b o (by simp) e t, fun b ps _ e => x.tbls b ps (by simp) e, fun _ h n => absurd h n, x.rol⟩, x.frzs⟩
theorem CellOk.flat {α' : List Addr} {a : Addr} {c : Cell} (hf : flatC c = true) (h : CellOk G α H a c) : CellOk G α' H a c := by
  cases c with
  | dl ds => cases hf
  | _ => exact h
theorem alone_ref {α1 : List Addr} {H1 : Hp} {a : Addr} (st : StOk G α H μ) (x : Ext [] H α1 H1) (ha : a ∈ α1) : a ∉ α ∧ Ext α H (α ++ [a]) H1 := by
  have e := x.new a ha (by simp)
  exact ⟨out_of st e, (alone_ext x).into e⟩
theorem isIn_mem {n : Nat} : ∀ {l : List Nat}, isIn n l = false → n ∉ l
  | [], _ => by simp
  | m :: r, h => by
    unfold isIn at h
    split at h
    · cases h
    · rename_i e
      intro z
      rcases List.mem_cons.mp z with z | z
      · rw [z, Nat.beq_refl] at e
        cases e
      · exact isIn_mem h z
theorem of_gen : ∀ (l : List Cell) (μ : Store) (j : Nat), (l.foldl Store.push μ).get? j = if j < μ.length then μ.get? j else l[j - μ.length]?
  | [], μ, j => by
    show μ.get? j = _
    split
    · rfl
    · rw [Store.get_ge (by omega)]
      simp
  | c :: r, μ, j => by
    show (r.foldl Store.push (μ.push c)).get? j = _
    rw [of_gen r]
    have hl : (μ.push c).length = μ.length + 1 := Store.push_len μ c
    have ha : (μ.push c).get? j = if j = μ.length then some c else μ.get? j := Store.push_at μ c j
    rw [hl, ha]
    by_cases h1 : j < μ.length
    · rw [if_pos (by omega), if_neg (by omega), if_pos h1]
    · rw [if_neg h1]
      by_cases h2 : j = μ.length
      · rw [if_pos (by omega), if_pos h2, h2]
        simp
      · rw [if_neg (by omega)]
        obtain ⟨k, hk⟩ : ∃ k, j = μ.length + 1 + k := ⟨j - μ.length - 1, by omega⟩
        rw [hk]
        have e1 : μ.length + 1 + k - (μ.length + 1) = k := by omega
        have e2 : μ.length + 1 + k - μ.length = k + 1 := by omega
        rw [e1, e2]
        rfl
theorem of_len : ∀ (l : List Cell) (μ : Store), (l.foldl Store.push μ).length = μ.length + l.length
  | [], _ => rfl
  | c :: r, μ => by
    show (r.foldl Store.push (μ.push c)).length = _
    rw [of_len r]
    have hl : (μ.push c).length = μ.length + 1 := Store.push_len μ c
    rw [hl, List.length_cons]
    omega
theorem of_at (l : List Cell) (j : Nat) : (Store.of l).get? j = l[j]? := by
  unfold Store.of
  rw [of_gen]
  show (if j < 0 then _ else l[j - 0]?) = _
  rw [if_neg (Nat.not_lt_zero _)]
  rfl
theorem setAll_len : ∀ (ids : List Nat) (cs : List Cell) (μ : Store), (setAll μ ids cs).length = μ.length
  | [], _, _ => by unfold setAll; rfl
  | _ :: _, [], _ => by unfold setAll; rfl
  | n :: r, c :: cs, μ => by
    unfold setAll
    rw [setAll_len r cs, Store.set_len]
theorem setAll_at : ∀ {ids : List Nat} {cs : List Cell} {μ : Store} {n : Nat} {c : Cell}, ids.length = cs.length → (∀ i ∈ ids, i < μ.length) → (setAll μ ids cs).get? n = some c → (∃ j : Nat, ids[j]? = some n ∧ cs[j]? = some c) ∨ (n ∉ ids ∧ μ.get? n = some c)
  | [], [], μ, n, c, _, _, h => .inr ⟨by simp, h⟩
  | [], _ :: _, _, _, _, e, _, _ => by cases e
  | _ :: _, [], _, _, _, e, _, _ => by cases e
  | i :: r, c0 :: cs, μ, n, c, e, hi, h => by
    unfold setAll at h
    rcases setAll_at (by simpa using e) (fun x hx => by rw [Store.set_len]; exact hi x (List.mem_cons_of_mem _ hx)) h with ⟨j, h1, h2⟩ | ⟨h1, h2⟩
    · exact .inl ⟨j + 1, by simpa using h1, by simpa using h2⟩
    · rw [Store.set_at _ _ _ _ (hi i List.mem_cons_self)] at h2
      by_cases en : n = i
      · rw [if_pos en] at h2
        cases h2
        exact .inl ⟨0, by simp [en], rfl⟩
      · rw [if_neg en] at h2
        exact .inr ⟨fun z => (List.mem_cons.mp z).elim en h1, h2⟩
theorem backA_at {μ1 : Store} : ∀ {k j : Nat} {cs : List Cell}, backA μ1 k j = some cs → cs.length = k ∧ ∀ i c, cs[i]? = some c → μ1.get? (j + i) = some c ∧ ownC c = true
  | 0, j, cs, h => by
    cases h
    exact ⟨rfl, fun i c z => by simp at z⟩
  | k + 1, j, cs, h => by
    unfold backA at h
    split at h
    · rename_i c hc
      split at h
      · rename_i ho
        split at h
        · rename_i cs' hr
          cases h
          obtain ⟨h1, h2⟩ := backA_at hr
          refine ⟨by simp [h1], fun i d z => ?_⟩
          cases i with
          | zero =>
            simp at z
            rw [← z]
            exact ⟨hc, ho⟩
          | succ i =>
            have := h2 i d (by simpa using z)
            rw [show j + (i + 1) = j + 1 + i by omega]
            exact this
        · cases h
      · cases h
    · cases h
theorem own_flat {c : Cell} (h : ownC c = true) : flatC c = true := by cases c <;> first | rfl | cases h
/-- the arguments with their rows -/
structure Loc (G : Gx) (α : List Addr) (μ : Store) (ids : List Nat) (cs : List Cell) (αL : List Addr) : Prop where
  at_ : Paired (fun n a => α[n]? = some a) ids αL
  cel : Paired (fun n c => μ.get? n = some c ∧ ownC c = true) ids cs
  nd : ids.Nodup
theorem Paired.append1 {β γ : Type} {F : β → γ → Prop} : ∀ {l : List β} {l' : List γ} {b : β} {c : γ}, Paired F l l' → F b c → Paired F (l ++ [b]) (l' ++ [c])
  | _, _, _, _, .nil, h => .cons h .nil
  | _, _, _, _, .cons r t, h => .cons r (Paired.append1 t h)
theorem locA_ok (st : StOk G α H μ) : ∀ {ds : List D} {vs : List V} {ids ids' : List Nat} {cs cs' : List Cell} {αL : List Addr} {ds' : List D}, Reps G α H ds vs → Loc G α μ ids cs αL → locA μ ds ids cs = some (ds', ids', cs') → ∃ αL', Loc G α μ ids' cs' αL' ∧ αL <+: αL' ∧ Reps G αL' H ds' vs
  | [], _, ids, ids', cs, cs', αL, ds', .nil, L, h => by
    cases h
    exact ⟨αL, L, List.prefix_refl _, .nil⟩
  | d :: r, _, ids, ids', cs, cs', αL, ds', .cons rd rr, L, h => by
    unfold locA at h
    cases d with
    | p x =>
      dsimp only at h
      split at h
      · rename_i ds2 z hz
        cases h
        obtain ⟨αL', L', pre, rs⟩ := locA_ok st rr L hz
        refine ⟨αL', L', pre, .cons ?_ rs⟩
        cases rd with
        | p q => exact .p q
      · cases h
    | ref n =>
      dsimp only at h
      split at h
      · rename_i c hc
        split at h
        · rename_i hb
          simp only [Bool.and_eq_true, Bool.not_eq_true'] at hb
          split at h
          · rename_i ds2 z hz
            cases h
            obtain ⟨a, rfl, ha⟩ := rep_ref rd
            have L2 : Loc G α μ (ids ++ [n]) (cs ++ [c]) (αL ++ [a]) := ⟨Paired.append1 L.at_ ha, Paired.append1 L.cel ⟨hc, hb.1⟩, by
              rw [List.nodup_append]
              refine ⟨L.nd, by simp, fun x hx y hy => ?_⟩
              have e : y = n := by simpa using hy
              rw [e]
              rintro rfl
              exact isIn_mem hb.2 hx⟩
            obtain ⟨αL', L', pre, rs⟩ := locA_ok st rr L2 hz
            refine ⟨αL', L', (List.prefix_append _ _).trans pre, .cons (.ref ?_) rs⟩
            refine pre_get pre _ _ ?_
            rw [← Paired.len L.at_]
            exact getLast_app _ _
          · cases h
        · cases h
      · cases h
    | mix ds => cases h
    | exc c d => cases h
    | rol ps => cases h
theorem Paired.getB {β γ : Type} {F : β → γ → Prop} : ∀ {l : List β} {l' : List γ} {i : Nat} {y : γ}, Paired F l l' → l'[i]? = some y → ∃ x, l[i]? = some x ∧ F x y
  | _, _, _, _, .nil, e => by simp at e
  | _, _, 0, _, .cons r _, e => by simp at e; subst e; exact ⟨_, rfl, r⟩
  | _, _, i + 1, _, .cons _ t, e => by
    obtain ⟨x, h1, h2⟩ := Paired.getB (i := i) t (by simpa using e)
    exact ⟨x, by simpa using h1, h2⟩
theorem loc_nd : ∀ {ids : List Nat} {αL : List Addr}, Paired (fun n a => α[n]? = some a) ids αL → ids.Nodup → α.Nodup → αL.Nodup
  | _, _, .nil, _, _ => List.nodup_nil
  | _, _, .cons (a := n) (b := a) h t, nd, ndα => by
    obtain ⟨h1, h2⟩ := List.nodup_cons.mp nd
    refine List.nodup_cons.mpr ⟨fun z => ?_, loc_nd t h2 ndα⟩
    obtain ⟨j, hj⟩ := List.mem_iff_getElem?.mp z
    obtain ⟨m, k1, k2⟩ := Paired.getB t hj
    obtain ⟨p1, e1⟩ := List.getElem?_eq_some_iff.mp h
    obtain ⟨p2, e2⟩ := List.getElem?_eq_some_iff.mp k2
    have : n = m := (List.getElem_inj ndα).mp (e1.trans e2.symm)
    exact h1 (by rw [this]; exact List.mem_of_getElem? k1)
theorem loc_st {ids : List Nat} {cs : List Cell} {αL : List Addr} (st : StOk G α H μ) (L : Loc G α μ ids cs αL) : StOk G αL H (Store.of cs) := by
  have l1 : αL.length = ids.length := Paired.len L.at_
  have l2 : cs.length = ids.length := Paired.len L.cel
  refine ⟨?_, loc_nd L.at_ L.nd st.nd, st.tabs, fun j c a h1 h2 => ?_⟩
  · have z : (Store.of cs).length = 0 + cs.length := of_len cs Store.emp
    rw [z, l1, l2]
    omega
  · rw [of_at] at h1
    obtain ⟨n, k1, k2⟩ := Paired.getB L.at_ h2
    obtain ⟨m, k3, k4, k5⟩ := Paired.getB L.cel h1
    rw [k1] at k3
    cases k3
    exact CellOk.flat (own_flat k5) (st.cel n c a k4 k2)
theorem loc_back {ids : List Nat} {cs cs' : List Cell} {αL α1 : List Addr} {H1 : Hp} {μ1 : Store} (st : StOk G α H μ) (L : Loc G α μ ids cs αL) (x : Ext αL H α1 H1) (st1 : StOk G α1 H1 μ1) (hb : backA μ1 ids.length 0 = some cs') : Ext α H α H1 ∧ StOk G α H1 (setAll μ ids cs') := by
  have stL := loc_st st L
  have sub : ∀ a, a ∈ αL → a ∈ α := fun a z => by
    obtain ⟨j, hj⟩ := List.mem_iff_getElem?.mp z
    obtain ⟨n, _, k2⟩ := Paired.getB L.at_ hj
    exact List.mem_of_getElem? k2
  obtain ⟨b1, b2⟩ := backA_at hb
  refine ⟨⟨⟨List.prefix_refl _, fun b o n e t => x.keep b o (fun z => n (sub b z)) e t, fun b ps n e => x.tbls b ps (fun z => n (sub b z)) e, fun _ h n => absurd h n, x.rol⟩, x.frzs⟩, ?_⟩
  refine ⟨by rw [setAll_len]; exact st.len, st.nd, st1.tabs, fun n c a h1 h2 => ?_⟩
  rcases setAll_at b1.symm (fun i hi => by
    obtain ⟨j, hj⟩ := List.mem_iff_getElem?.mp hi
    obtain ⟨c, _, k, _⟩ := Paired.get L.cel hj
    exact Store.lt_of k) h1 with ⟨j, j1, j2⟩ | ⟨hn, hc⟩
  · obtain ⟨a', k1, k2⟩ := Paired.get L.at_ j1
    have k2 : α[n]? = some a' := k2
    rw [h2] at k2
    cases k2
    obtain ⟨k3, k4⟩ := b2 j c j2
    rw [Nat.zero_add] at k3
    exact CellOk.flat (own_flat k4) (st1.cel j c a k3 (pre_get x.pre j a k1))
  · have q := st.cel n c a hc h2
    have na : a ∉ αL := fun z => by
      obtain ⟨j, hj⟩ := List.mem_iff_getElem?.mp z
      obtain ⟨m, k1, k2⟩ := Paired.getB L.at_ hj
      have k2 : α[m]? = some a := k2
      obtain ⟨p1, e1⟩ := List.getElem?_eq_some_iff.mp h2
      obtain ⟨p2, e2⟩ := List.getElem?_eq_some_iff.mp k2
      have : n = m := (List.getElem_inj st.nd).mp (e1.trans e2.symm)
      exact hn (by rw [this]; exact List.mem_of_getElem? k1)
    obtain ⟨o, e, k⟩ := q.kind
    have nt : notTbl o := by
      rintro ps rfl
      cases k
    refine q.mono (fun b vs => stL.sqT x) (fun _ _ e => e) (fun b o e k t => x.keep b o (stL.out e k) e t) x.rol ?_
    rw [e]
    exact x.keep a o na e nt
mutual
theorem Rep.shift {α1 : List Addr} {H1 : Hp} : ∀ {d : D} {v : V}, Rep G α1 H1 d v → Rep G (α ++ α1) H1 (shD α.length d) v
  | _, _, .p h => .p h
  | _, _, .ref (n := n) h => .ref (by
      show (α ++ α1)[α.length + n]? = _
      rw [List.getElem?_append_right (Nat.le_add_right _ _), Nat.add_sub_cancel_left]
      exact h)
  | _, _, .mix h t => .mix h (Reps.shift t)
  | _, _, .exc h1 h2 h3 h4 => .exc h1 h2 h3 (Rep.shift h4)
  | _, _, .rol h t => .rol h t
theorem Reps.shift {α1 : List Addr} {H1 : Hp} : ∀ {d : List D} {v : List V}, Reps G α1 H1 d v → Reps G (α ++ α1) H1 (shDs α.length d) v
  | _, _, .nil => .nil
  | _, _, .cons h t => .cons (Rep.shift h) (Reps.shift t)
end
theorem CellOk.shift {α1 : List Addr} {H1 : Hp} {a : Addr} {c : Cell} (h : CellOk G α1 H1 a c) : CellOk G (α ++ α1) H1 a (shC α.length c) := by
  cases c with
  | dl ds =>
    obtain ⟨vs, h1, h2⟩ := h
    exact ⟨vs, h1, h2.shift⟩
  | _ => exact h
theorem allC_at {μ1 : Store} : ∀ {k j : Nat} {cs : List Cell}, allC μ1 k j = some cs → cs.length = k ∧ ∀ i c, cs[i]? = some c → μ1.get? (j + i) = some c
  | 0, j, cs, h => by
    cases h
    exact ⟨rfl, fun i c z => by simp at z⟩
  | k + 1, j, cs, h => by
    unfold allC at h
    split at h
    · rename_i c hc
      split at h
      · rename_i cs' hr
        cases h
        obtain ⟨h1, h2⟩ := allC_at hr
        refine ⟨by simp [h1], fun i d z => ?_⟩
        cases i with
        | zero =>
          simp at z
          rw [← z]
          exact hc
        | succ i =>
          have := h2 i d (by simpa using z)
          rw [show j + (i + 1) = j + 1 + i by omega]
          exact this
      · cases h
    · cases h
theorem moved_ok {f : Fn} {n : Nat} {ds ds' : List D} {vs : List V} {d : D} {μL μ' : Store} {Q : VK} {E : XK} (hl : vs.length = n) (st : StOk G α H μ) (r : Reps G α H ds vs) (stL : StOk G [] H μL) (rL : Reps G [] H ds' vs) (hr : f ds' μL = .ok d μ')
    (g : Got G (fun cls d _ H' => E cls d H') [] (Rep G) α H (moved μ.length d μ (allC μ' μ'.length 0) (f ds μ)) Q) : spF G n f vs H Q E := by
  unfold moved at g
  split at g
  · rename_i cs hcs
    refine ⟨hl, [], μL, ds', stL, rL, ?_⟩
    rw [hr]
    intro v α1 H1 x1 st1 q3
    obtain ⟨c1, c2⟩ := allC_at hcs
    have e2 := alone_ext (α := α) x1
    have s2 := alone_st st x1 st1
    have fresh : ∀ a ∈ α1, a ∉ α := fun a ha => st.notin (x1.new a ha (by simp))
    refine g v (α ++ α1) H1 ?_ ?_ (by rw [← st.len]; exact q3.shift)
    · refine ⟨⟨List.prefix_append _ _, e2.keep, e2.tbls, fun b m nb => ?_, e2.rol⟩, e2.frzs⟩
      rcases List.mem_append.mp m with m | m
      · exact absurd m nb
      · exact x1.new b m (by simp)
    · have ln : (μ ++ cs.map (shC μ.length)).length = μ.length + cs.length := by
        have z := of_len (cs.map (shC μ.length)) μ
        rw [List.length_map] at z
        exact z
      refine ⟨?_, ?_, st1.tabs, fun m c a h1 h2 => ?_⟩
      · rw [ln, List.length_append, st.len, c1, st1.len]
      · rw [List.nodup_append]
        exact ⟨st.nd, st1.nd, fun a ha b hb z => fresh b hb (by rw [← z]; exact ha)⟩
      · have hg : (μ ++ cs.map (shC μ.length)).get? m = if m < μ.length then μ.get? m else (cs.map (shC μ.length))[m - μ.length]? := of_gen _ _ _
        rw [hg] at h1
        by_cases hm : m < μ.length
        · rw [if_pos hm] at h1
          rw [List.getElem?_append_left (by rw [st.len]; exact hm)] at h2
          exact (s2.cel m c a h1 h2).mono (fun _ _ q => q) (pre_get (List.prefix_append _ _)) (fun _ _ e _ _ => e) (fun _ _ _ e => e) rfl
        · rw [if_neg hm, List.getElem?_map] at h1
          rw [List.getElem?_append_right (by rw [st.len]; omega), st.len] at h2
          cases hc : cs[m - μ.length]? with
          | none => rw [hc] at h1; cases h1
          | some c0 =>
            rw [hc] at h1
            cases h1
            have k := c2 _ _ hc
            rw [Nat.zero_add] at k
            have z := (st1.cel _ _ a k h2).shift (α := α)
            rw [st.len] at z
            exact z
  · exact ⟨hl, α, μ, ds, st, r, g⟩
theorem iso_ok {f : Fn} {n : Nat} {vs : List V} {Q : VK} {E : XK} (h : spF G n (isoF f) vs H Q E) : spF G n f vs H Q E := by
  obtain ⟨hl, α, μ, ds, st, r, g⟩ := h
  unfold isoF at g
  have same : Got G (fun cls d _ H' => E cls d H') [] (Rep G) α H (f ds μ) Q → spF G n f vs H Q E := fun g => ⟨hl, α, μ, ds, st, r, g⟩
  split at g
  · exact same g
  · rename_i ds' ids cs hloc
    obtain ⟨αL, L, pre, rL⟩ := locA_ok st r (αL := []) ⟨.nil, .nil, List.nodup_nil⟩ hloc
    have stL := loc_st st L
    have lL : αL.length = ids.length := Paired.len L.at_
    cases hr : f ds' (Store.of cs) with
    | bad => rw [hr] at g; exact g.elim
    | exc c d μ' =>
      rw [hr] at g
      dsimp only at g
      split at g
      · split at g
        · exact same g
        · rename_i y cs' hb
          refine ⟨hl, αL, Store.of cs, ds', stL, rL, ?_⟩
          rw [hr]
          intro cls dx v α1 H1 x1 st1 q1 q2 q3
          obtain ⟨b1, b2⟩ := loc_back st L x1 st1 hb
          exact g cls dx v α H1 b1 b2 q1 q2 (by cases q3 with | p q => exact .p q)
      · exact same g
    | ok d μ' =>
      rw [hr] at g
      dsimp only at g
      split at g
      · exact same g
      · rename_i cs' hb
        split at g
        · rename_i y
          refine ⟨hl, αL, Store.of cs, ds', stL, rL, ?_⟩
          rw [hr]
          intro v α1 H1 x1 st1 q3
          obtain ⟨b1, b2⟩ := loc_back st L x1 st1 hb
          exact g v α H1 b1 b2 (by cases q3 with | p q => exact .p q)
        · rename_i m
          split at g
          · rename_i hm
            split at g
            · rename_i c hc
              split at g
              · rename_i hf
                refine ⟨hl, αL, Store.of cs, ds', stL, rL, ?_⟩
                rw [hr]
                intro v α1 H1 x1 st1 q3
                obtain ⟨b1, b2⟩ := loc_back st L x1 st1 hb
                obtain ⟨a, rfl, ha⟩ := rep_ref q3
                have le : ids.length ≤ m := Nat.le_of_ble_eq_true hm
                have na : a ∉ αL := fun z => by
                  obtain ⟨j, hj⟩ := List.mem_iff_getElem?.mp z
                  have hj1 := pre_get x1.pre j a hj
                  obtain ⟨p0, _⟩ := List.getElem?_eq_some_iff.mp hj
                  obtain ⟨p1, e1⟩ := List.getElem?_eq_some_iff.mp hj1
                  obtain ⟨p2, e2⟩ := List.getElem?_eq_some_iff.mp ha
                  have : j = m := (List.getElem_inj st1.nd).mp (e1.trans e2.symm)
                  omega
                have e := x1.new a (List.mem_of_getElem? ha) na
                have out := st.notin e
                exact g (.ref a) (α ++ [a]) H1 (b1.into e) (b2.into out (CellOk.flat hf (st1.cel m c a hc ha))) (.ref (by rw [← st.len]; exact getLast_app _ _))
              · split at g
                · have e0 : αL = [] := List.length_eq_zero_iff.mp lL
                  subst e0
                  exact moved_ok hl st r stL rL hr g
                · exact same g
            · exact g.elim
          · exact same g
        · exact same g
end

/-! ### a def's entry -/
section
variable {P : Program} {w : World} {K : PySem.W.Frag} {mg : Str → Option Value} {base : Heap}
theorem env_start {G : Gx} {α : List Addr} {H : Hp} {N ps : List Str} {ds : List D} {vs : List V} (hN : N.length = n) (r : Reps G α H ds vs) : EnvOk G α H (padE ds n) (L2.start N vs) := by
  subst hN
  unfold padE L2.start
  have hl := r.length
  refine ⟨by simp [hl], fun i d h => ?_⟩
  by_cases hi : i < ds.length
  · rw [List.getElem?_append_left (by simpa using hi), List.getElem?_map] at h
    cases hd : ds[i]? with
    | none => rw [hd] at h; cases h
    | some d' =>
      rw [hd] at h
      cases h
      obtain ⟨v, h1, h2⟩ := r.get hd
      refine ⟨v, ?_, h2⟩
      rw [List.getElem?_append_left (by rw [List.length_map, hl]; exact hi), List.getElem?_map, h1]
      rfl
  · rw [List.getElem?_append_right (by simpa using Nat.le_of_not_lt hi), List.getElem?_replicate] at h
    split at h <;> cases h
/-- what the head tells of a def -/
structure DefI where
  x : Str
  qual : Str
  args : List Arg
  body : List Stmt
  scope : Scope
def plainArgs (a : List Arg) : Arguments := ⟨[], a, none, [], [], none, []⟩
structure DOk (K : PySem.W.Frag) (mg : Str → Option Value) (d : DefI) : Prop where
  ex : ∃ (f : Addr) (fd : FuncData), mg d.x = some (.ref f) ∧ FunD K d.x d.qual (plainArgs d.args) d.body d.scope [] [] f fd
def ceOf (ps : List Str) (n k : Nat) (sv : Sv) : CE := ⟨ps, k + 1, fzF (isoF (runB n sv))⟩
theorem entry_ok {d : DefI} (hd : DOk K mg d) {N ps : List Str} {k n : Nat} {glob : Str → GV} (hps : d.args.map (·.arg) = ps) (S : FnScope N ps d.scope) (hn : N.length = n) (hg : GOk P w K mg base glob) {sv : Sv} (hsv : trB ⟨N, d.scope.names, fun _ => true, k, glob, true⟩ d.body = sv) :
    FOk P w K mg base d.x (ceOf ps n k sv) := by
  unfold ceOf
  rw [fzF_eq]
  obtain ⟨f, fd, hm, F⟩ := hd.ex
  obtain ⟨oc, od, dV, kV, doc, pm, an, cdv, ct, osl, e1, e2, e3, e4, e5⟩ := F.ex
  refine ⟨f, fd, d.args, hm, F.kp, by rw [e1]; rfl, hps, ?_, ?_⟩
  · rw [e1]
    rcases e4 with ⟨_, e4⟩ | ⟨e4, _⟩
    · rw [e4]
    · exact absurd rfl e4
  · refine FnG.imp (sp := spF ⟨K, mg⟩ ps.length (runB n sv)) ?_ fun vs H Q E h => iso_ok h
    rw [e1] at e2 ⊢
    refine fn_G e2 e3 S fun A outer s H vs Q E room gd hsp => ?_
    obtain ⟨hl, α, μ, ds, st, r, g⟩ := hsp
    obtain ⟨c, ec⟩ := He.codeIn_ref e3
    have hmem := He.lookup_mem e2
    have cod : ∃ c, (envOfC d.qual d.scope s.heap.objs.size f cdv).code = .ref c ∧ (c, He.tabOf K c) ∈ codesK K ∧ (He.tabOf K c, (envOfC d.qual d.scope s.heap.objs.size f cdv).qual ++ "<lambda>") ∈ tabsK K := by
      refine ⟨c, ec, List.mem_filterMap.mpr ⟨_, hmem, ?_⟩, List.mem_filterMap.mpr ⟨_, hmem, ?_⟩⟩
      · rw [ec]
      · rw [ec]
        rfl
    let X := cxOf (L2.CX P w) P w K mg base N d.qual d.scope f cdv A outer s H E
    have o : XSt ⟨N, d.scope.names, fun _ => true, k, glob, true⟩ X (fun cls d _ H => E cls d H) :=
      { calm := rfl, N := rfl, nd := S.nd, kinds := rfl, skind := S.kind, fn := rfl, room := room, gd := gd, tk := takes_of rfl rfl rfl rfl, glob := hg, po := passes_of rfl, cod := fun _ => cod }
    have hb := trB_ok o d.body
    rw [hsv] at hb
    refine ⟨_, hb, padE ds n, α, μ, env_start (ps := ps) hn r, st, ?_⟩
    unfold runB at g
    cases hs : sv (padE ds n) μ with
    | ret d' μ' => rw [hs] at g; exact fun v α' H' y a b => g v α' H' y a b
    | next ρ' μ' => rw [hs] at g; exact fun σ' α' H' y a b => g .non α' H' y a (.p .non)
    | exc ρ' c d' μ' => rw [hs] at g; exact fun σ' cls dx v α' H' y a b q1 q2 q3 => g cls dx v α' H' y a q1 q2 q3
    | brk ρ' μ' => rw [hs] at g; exact g.elim
    | cont ρ' μ' => rw [hs] at g; exact g.elim
    | bad => rw [hs] at g; exact g.elim
/-- nothing is known of a run that may go wrong -/
theorem bad_ok {d : DefI} (hd : DOk K mg d) {ps : List Str} {k : Nat} (hps : d.args.map (·.arg) = ps) : FOk P w K mg base d.x ⟨ps, k, fun _ _ => .bad⟩ := by
  obtain ⟨f, fd, hm, F⟩ := hd.ex
  obtain ⟨oc, od, dV, kV, doc, pm, an, cdv, ct, osl, e1, e2, e3, e4, e5⟩ := F.ex
  refine ⟨f, fd, d.args, hm, F.kp, by rw [e1]; rfl, hps, ?_, ⟨fun A outer s H args us vs Q E hr hg e0 hb r hl ⟨_, _, _, _, _, _, q⟩ => q.elim⟩⟩
  rw [e1]
  rcases e4 with ⟨_, e4⟩ | ⟨e4, _⟩
  · rw [e4]
  · exact absurd rfl e4
end
end Sh
set_option maxRecDepth 100000
set_option maxHeartbeats 4000000
/-! Sh: the end of a law: its def at the script. -/
namespace Sh
open PySem PySem.Spec PyProof.Rows L2 LamX

def scO (us : List Value) : Obj := { cls := .type "list", data := .seq us.toArray }
def tblO : Obj := { cls := .none, data := .fields #[] }
/-- what is told of at the start: the tables, the script where it is no thing of the module's own -/
def startH (K : PySem.W.Frag) (la : Addr) (us : List Value) (ns : List Int) : Hp := fun b =>
  if b ∈ (codesK K).map (·.2) then some (.tbl #[]) else if b = la ∧ K.lookup la = none then some (.frz (scO us) (.lst (ns.map V.int))) else none
section
variable {K : PySem.W.Frag} {la : Addr} {us : List Value} {ns : List Int}
theorem startH_tab {b : Addr} (h : b ∈ (codesK K).map (·.2)) : startH K la us ns b = some (.tbl #[]) := if_pos h
theorem startH_some {b : Addr} {u : HO} (h : startH K la us ns b = some u) : (b ∈ (codesK K).map (·.2) ∧ u = .tbl #[]) ∨ (b ∉ (codesK K).map (·.2) ∧ b = la ∧ K.lookup la = none ∧ u = .frz (scO us) (.lst (ns.map V.int))) := by
  unfold startH at h
  split at h
  · rename_i m
    cases h
    exact .inl ⟨m, rfl⟩
  · rename_i m
    split at h
    · rename_i e
      cases h
      exact .inr ⟨m, e.1, e.2, rfl⟩
    · cases h
theorem tabs_codes {p : Addr × Str} (h : p ∈ tabsK K) : p.1 ∈ (codesK K).map (·.2) := by
  obtain ⟨q, hq, e⟩ := List.mem_filterMap.mp h
  split at e
  · rename_i fd hd
    split at e
    · rename_i c hc
      cases e
      refine List.mem_map.mpr ⟨(c, He.tabOf K c), List.mem_filterMap.mpr ⟨q, hq, ?_⟩, rfl⟩
      rw [hd]
      dsimp only
      rw [hc]
    · cases e
  · cases e
end
theorem law_end {P : Program} {w : World} {K : PySem.W.Frag} {mg mbs : Str → Option Value} {fA la : Addr} {x pn : Str} {c : CE} {t0 : Shared} {us : List Value} {ns : List Int}
    (kin : K.In t0.heap) (glb : t0.heap.Ns mainGlobals mg) (bns : t0.heap.Ns builtinsNs mbs) (boot : ∀ y : Str, y ≠ "__name__" → mbs y = bootBuiltins y) (nolim : t0.heap.NoLimit) (nogen : t0.gens = #[])
    (tabE : ∀ p ∈ codesK K, t0.heap.get? p.2 = some tblO) (tabN : ∀ p ∈ codesK K, K.lookup p.2 = none) (cod : ∀ p ∈ codesK K, PySem.W.CodeHd t0.heap p.1 p.2)
    (bmod : ∃ (bm : Addr) (ob : Obj), mg "__builtins__" = some (.ref bm) ∧ bm ≠ builtinsNs ∧ t0.heap.get? bm = some ob ∧ ob.cls = .type "module" ∧ ob.dict = some builtinsNs ∧ ob.data = .plain)
    (scr : t0.heap.get? la = some (scO us)) (isI : IntsAre us ns) (short : ns.length ≤ sizeLine) (room : Room c.lvl callerA) (hx : mg x = some (.ref fA)) (hps : c.ps = [pn])
    (F : ∀ base : Heap, K.In base → base.Ns mainGlobals mg → (∀ p ∈ codesK K, TabB base mg p.1 p.2) → FOk P w K mg base x c) (run : ∃ μ', c.run [.rol (ns.map Sh.P.int)] Store.emp = .ok (.p (.bl true)) μ') :
    codeAny (model P w) callerA (.call (.ref fA) ⟨[.ref la], []⟩) (fun r s' => r = .ok (.ret (.bool true)) ∧ OldK t0.heap s'.heap ∧ s'.os = t0.os ∧ AllBare s'.gens) t0 := by
  have vr : Vals (ns.map V.int) us := vals_ints isI
  have tabO : ∀ b, b ∈ (codesK K).map (·.2) → t0.heap.get? b = some tblO := fun b hb => by
    obtain ⟨p, hp, e⟩ := List.mem_map.mp hb
    rw [← e]
    exact tabE p hp
  have apart : la ∉ (codesK K).map (·.2) := fun z => by
    have q := (tabO la z).symm.trans scr
    cases q
  obtain ⟨M, eM⟩ : ∃ M, startH K la us ns = M := ⟨_, rfl⟩
  have mT : ∀ b, b ∈ (codesK K).map (·.2) → M b = some (.tbl #[]) := fun b hb => by rw [← eM]; exact startH_tab hb
  have mS : ∀ {b u}, M b = some u → (b ∈ (codesK K).map (·.2) ∧ u = .tbl #[]) ∨ (b ∉ (codesK K).map (·.2) ∧ b = la ∧ K.lookup la = none ∧ u = .frz (scO us) (.lst (ns.map V.int))) := fun {b u} h => startH_some (by rw [eM]; exact h)
  have held : HOk P w M t0.heap := fun b u h => by
    rcases mS h with ⟨h1, rfl⟩ | ⟨_, rfl, _, rfl⟩
    · exact tabO b h1
    · exact ⟨scr, by rw [List.length_map]; exact short, us, _, vr, scr⟩
  -- what is neither a row nor a table is not told of
  have free : ∀ {b : Addr} {o : Obj}, t0.heap.get? b = some o → o ≠ tblO → o ≠ scO us → M b = none := fun {b o} e n1 n2 => by
    cases q : M b with
    | none => rfl
    | some u =>
      rcases mS q with ⟨h1, _⟩ | ⟨_, rfl, _, _⟩
      · exact absurd (Option.some.inj (e.symm.trans (tabO b h1))) n1
      · exact absurd (Option.some.inj (e.symm.trans scr)) n2
  have up : ∀ {b : Addr} {m : Str → Option Value}, t0.heap.Ns b m → (hidT t0.heap M).Ns b m := fun {b m} ⟨o, es, ep, e, d, r⟩ => ⟨o, es, ep, hidT_get e (free e (fun z => by rw [z] at d; cases d) fun z => by rw [z] at d; cases d), d, r⟩
  have kinB : K.In (hidT t0.heap M) := fun b o e => hidT_get (kin b o e) (by
    cases q : M b with
    | none => rfl
    | some u =>
      rcases mS q with ⟨h1, _⟩ | ⟨_, rfl, h2, _⟩
      · obtain ⟨p, hp, ep⟩ := List.mem_map.mp h1
        rw [← ep, tabN p hp] at e
        cases e
      · rw [h2] at e
        cases e)
  have tabB : ∀ p ∈ codesK K, TabB (hidT t0.heap M) mg p.1 p.2 := fun p hp => by
    have at_ := tabE p hp
    have nP : mainGlobals ≠ p.2 := fun z => by
      obtain ⟨o, es, ep, e, hd, _⟩ := glb
      rw [z, at_] at e
      cases e
      cases hd
    refine ⟨?_, ?_, nP⟩
    · obtain ⟨o, vs, file, tf, flags, tg, inF, text, tt, e1, r1, r2, r3, rest⟩ := cod p hp
      exact ⟨o, vs, file, tf, flags, tg, inF, text, tt, hidT_get e1 (free e1 (fun z => by rw [z] at r2; cases r2; simp at r3) fun z => by rw [z] at r2; cases r2), r1, r2, r3, rest⟩
    · obtain ⟨bm, ob, b1, b2, b3, b4, b5, b6⟩ := bmod
      refine ⟨bm, ob, b1, b2, fun z => ?_, fun z => ?_, hidT_get b3 (free b3 (fun z => by rw [z] at b6; cases b6) fun z => by rw [z] at b6; cases b6), b4, b5, b6⟩
      · obtain ⟨o, es, ep, e, hd, _⟩ := glb
        rw [z, e] at b3
        cases b3
        rw [hd] at b6
        cases b6
      · rw [z, at_] at b3
        cases b3
        cases b6
  obtain ⟨f, fd, args, h1, h2, h3, h4, h5, h6⟩ := (F _ kinB (up glb) tabB).ex
  obtain rfl : f = fA := by
    rw [hx] at h1
    cases h1
    rfl
  have env0 : Env0 P w K mg (hidT t0.heap M) callerA [] t0 M := ⟨rfl, ⟨kinB, up glb, ⟨mbs, up bns, boot⟩, let ⟨mc, q1, q2⟩ := nolim; ⟨mc, up q1, q2⟩⟩, fun b o e => of_hidT e, Nat.le_of_eq (hidT_size _ _), trivial, fun b hb => absurd (show b ∈ ([] : List Addr) from hb) (by simp), held, .of_eq nogen⟩
  obtain ⟨μ', hrun⟩ := run
  have tabs : Tabs (tabsK K) M := fun p hp => ⟨#[], mT _ (tabs_codes hp), trivial, fun pos cv h => by cases h⟩
  have scrR : RolAt K M la (ns.map V.int) := by
    cases hk : K.lookup la with
    | none => exact .inl ⟨scO us, by rw [← eM]; unfold startH; rw [if_neg apart, if_pos ⟨rfl, hk⟩]⟩
    | some o =>
      have e := kin la o hk
      rw [scr] at e
      cases e
      exact .inr ⟨_, us.toArray, _, hk, rfl, rfl, rfl, by rw [List.size_toArray, isI.length]; exact short, by simpa using vr⟩
  have sp : spF ⟨K, mg⟩ c.ps.length c.run [.ref la] M (fun v _ => v = .bl true) fun _ _ _ => False := by
    refine ⟨by rw [hps]; rfl, [], Store.emp, [.rol (ns.map Sh.P.int)], StOk.nil _ _ tabs, .cons (.rol scrR (ints_rep ns)) .nil, ?_⟩
    rw [hrun]
    intro v α' H' y st r
    exact rep_bl r
  have pat : patOk c.ps [] 1 [0] = true := by
    rw [hps]
    unfold patOk
    simp
  have binds : BindsTo t0 fd ⟨[.ref la], []⟩ (c.ps.zip [Value.ref la]) := by
    have e := bind_pat h3 h4 h5 pat (us := [Value.ref la]) (ws := []) rfl rfl
    exact BindsTo.of_eq e
  refine codeAny_mono (h6.run callerA [] t0 M ⟨[.ref la], []⟩ [.ref la] [.ref la] _ _ room rfl env0 binds (.cons rfl .nil) (by rw [hps]; rfl) sp) fun r s' hq => ?_
  cases r with
  | error e =>
    obtain ⟨_, _, _, _, _, _, _, _, _, _, _, _, no⟩ := (show L2.CX P w [] M t0 (fun _ _ _ => False) e s' from hq)
    exact no.elim
  | ok fl =>
    cases fl with
    | next => exact hq.elim
    | brk => exact hq.elim
    | cont => exact hq.elim
    | ret u =>
      obtain ⟨v, M', os, bare, un, held', rv, q⟩ := hq
      obtain rfl : v = .bl true := q
      obtain rfl : u = Value.bool true := rv
      have grew : ∀ p ∈ codesK K, ∃ more : Array Value, s'.heap.get? p.2 = some { cls := .none, data := .fields more } := fun p hp => by
        obtain ⟨more, z⟩ := un.tbls p.2 #[] (mT _ (List.mem_map.mpr ⟨p, hp, rfl⟩))
        exact ⟨_, held' p.2 _ z⟩
      have same : ∀ b o, b ∉ (codesK K).map (·.2) → t0.heap.get? b = some o → s'.heap.get? b = some o := fun b o nb e => by
        cases z : M b with
        | none => exact un.keep b o e z (fun y => nomatch (show b ∈ ([] : List Addr) from y)) (by simp)
        | some u =>
          rcases mS z with ⟨h1, _⟩ | ⟨_, rfl, _, rfl⟩
          · exact absurd h1 nb
          · have z2 := (held' b _ (un.frzs b _ _ z)).1
            rw [scr] at e
            cases e
            exact z2
      refine ⟨rfl, ⟨fun b o e => ?_, fun b o e => ?_⟩, os, bare⟩
      all_goals
        by_cases hb : b ∈ (codesK K).map (·.2)
        · obtain ⟨p, hp, ep⟩ := List.mem_map.mp hb
          obtain ⟨more, hm⟩ := grew p hp
          subst ep
          first
            | exact ⟨_, hm⟩
            | (rw [tabE p hp] at e
               cases e
               exact .inr (.inl ⟨((cod p hp).tab (tabE p hp)).isCodeTable, rfl, #[], more, rfl, by rw [Array.empty_append]; exact hm⟩))
        · first
            | exact ⟨o, same b o hb e⟩
            | exact .inl (same b o hb e)
end Sh
set_option maxRecDepth 100000
set_option maxHeartbeats 4000000
/-! Sh: what the head tells. -/
namespace Sh
open PySem PySem.Spec PyProof.Rows L2 LamX

def frS (g : Addr → Option Obj) (n : Nat) : PySem.W.Frag := He.frT g (cStatics :: He.asD g n)
def tabsG (g : Addr → Option Obj) (K : PySem.W.Frag) : Bool := (codesK K).all fun p => PySem.W.codeHdIn K p.1 p.2 && match g p.2 with
  | some o => He.emptyTab o
  | none => false
def uniB (l : List (Addr × Str)) : Bool := l.all fun p => l.all fun q => !Nat.beq p.1 q.1 || decide (p.2 = q.2)
structure SaysS {β : Type} (fa : List He.Fa) (fn : List He.DefD) (ex : PySem.W.Frag → Bool) (o2 : PySem.W.Frag → β) (v2 : β) (h : Heap) (K : PySem.W.Frag) : Prop where
  d : He.SaysD fa fn K
  two : o2 K = v2
  more : ex K = true
  hd : ∀ p ∈ codesK K, PySem.W.codeHdIn K p.1 p.2 = true
  out : ∀ p ∈ codesK K, K.lookup p.2 = none
  empty : ∀ p ∈ codesK K, h.get? p.2 = some tblO
  uni : ∀ p ∈ tabsK K, ∀ q ∈ tabsK K, p.1 = q.1 → p.2 = q.2
abbrev AlS (β : Type) : Type := (He.AlD × Bool) × β
def obsS {β : Type} (n : Nat) (fa : List He.Fa) (fn : List He.DefD) (ex : PySem.W.Frag → Bool) (o2 : PySem.W.Frag → β) (g : Addr → Option Obj) : AlS β := ((He.obsD fa fn (frS g n), ex (frS g n) && (tabsG g (frS g n) && uniB (tabsK (frS g n)))), o2 (frS g n))
def valS {β : Type} (fn : List He.DefD) (v2 : β) : AlS β := ((He.valD fn, true), v2)
theorem saysS_of {β : Type} {n : Nat} {fa : List He.Fa} {fn : List He.DefD} {ex : PySem.W.Frag → Bool} {o2 : PySem.W.Frag → β} {v2 : β} {h : Heap} (e : obsS n fa fn ex o2 h.get? = valS fn v2) : SaysS fa fn ex o2 v2 h (frS h.get? n) := by
  have e1 : He.obsD fa fn (frS h.get? n) = He.valD fn := congrArg (fun z : AlS β => z.1.1) e
  have e2 : (ex (frS h.get? n) && (tabsG h.get? (frS h.get? n) && uniB (tabsK (frS h.get? n)))) = true := congrArg (fun z : AlS β => z.1.2) e
  obtain ⟨h1, h2⟩ := He.ba e2
  obtain ⟨h3, h4⟩ := He.ba h2
  have key : ∀ p ∈ codesK (frS h.get? n), PySem.W.codeHdIn (frS h.get? n) p.1 p.2 = true ∧ ∃ o, h.get? p.2 = some o ∧ He.emptyTab o = true := fun p hp => by
    obtain ⟨k1, k2⟩ := He.ba (List.all_eq_true.mp h3 p hp)
    refine ⟨k1, ?_⟩
    cases q : h.get? p.2 with
    | none => rw [q] at k2; cases k2
    | some o => rw [q] at k2; exact ⟨o, rfl, k2⟩
  refine ⟨e1, congrArg (fun z : AlS β => z.2) e, h1, fun p hp => (key p hp).1, fun p hp => ?_, fun p hp => ?_, fun p hp q hq z => ?_⟩
  · obtain ⟨_, o, q, z⟩ := key p hp
    exact He.frT_none q z
  · obtain ⟨_, o, q, z⟩ := key p hp
    rw [q, He.emptyTab_eq z]
    rfl
  · have k := List.all_eq_true.mp (List.all_eq_true.mp h4 p hp) q hq
    rw [z] at k
    have r : Nat.beq q.1 q.1 = true := Nat.beq_refl q.1
    rw [r] at k
    exact of_decide_eq_true k
def hookS {β : Type} (n : Nat) (fa : List He.Fa) (fn : List He.DefD) (ex : PySem.W.Frag → Bool) (o2 : PySem.W.Frag → β) (v2 : β) : PySem.W.Hook where
  α := AlS β
  obs := fun s => obsS n fa fn ex o2 s.heap.get?
  val := fun _ => valS fn v2
  says := fun _ h => ∃ K : PySem.W.Frag, K.In h ∧ SaysS fa fn ex o2 v2 h K
  of := fun _ _ e => ⟨_, He.frT_in, saysS_of e⟩
  keeps := fun _ _ _ ⟨K, hK, c⟩ k => ⟨K, PySem.W.Frag.In.keeps hK k, ⟨c.d, c.two, c.more, c.hd, c.out, fun p hp => k _ _ (c.empty p hp), c.uni⟩⟩
def obS {β : Type} (n : Nat) (fa : List He.Fa) (fn : List He.DefD) (ex : PySem.W.Frag → Bool) (o2 : PySem.W.Frag → β) (s : PySem.W.SharedT) : AlS β := obsS n fa fn ex o2 (HandSHeadRun.getT s)
theorem obS_eq {β : Type} {n : Nat} {fa : List He.Fa} {fn : List He.DefD} {ex : PySem.W.Frag → Bool} {o2 : PySem.W.Frag → β} {v2 : β} (s : PySem.W.SharedT) : obS n fa fn ex o2 s = (hookS n fa fn ex o2 v2).obs s.abs := by
  have e : HandSHeadRun.getT s = s.abs.heap.get? := funext (HandSHeadRun.getT_eq s)
  unfold obS
  rw [e]
  rfl
/-- a law of a def `law(script)`: what is asked at the head's end -/
theorem walk_S {β : Type} {o2 : PySem.W.Frag → β} {v2 : β} {l : PySem.W.OpenLaw} {m n : Nat} {q : Program} {loose : List Str} {XP : (Str → Option Value) → Heap → Prop} {fa : List He.Fa} {fn : List He.DefD} {ex : PySem.W.Frag → Bool} {d : DefRec} {c : CE} {pn : Str}
    (hn : l.most = some n) (hn2 : n ≤ sizeLine) (hdf : d.params.defaults = []) (hr : Room c.lvl callerA) (hps : c.ps = [pn])
    (F : ∀ (w : World) (K : PySem.W.Frag) (mg : Str → Option Value) (h base : Heap), K.In h → h.Ns mainGlobals mg → SaysS fa fn ex o2 v2 h K → K.In base → base.Ns mainGlobals mg → (∀ p ∈ codesK K, TabB base mg p.1 p.2) → FOk l.prog w K mg base d.name c)
    (run : ∀ ns : List Int, ns.length ≤ n → (∀ z ∈ ns, Builtin.Int.intBits z ≤ 1048576) → ∃ μ', c.run [.rol (ns.map Sh.P.int)] Store.emp = .ok (.p (.bl true)) μ') :
    PySem.W.WalkO q loose XP (hookS m fa fn ex o2 v2).says l.row.toRowW d [] (fun f vs => PySem.call f vs) := by
  refine Att.attach_callB hn hdf fun w s₀ s₁ mg mb fA o pm cd doc a vs ns G Y ho hd hcd hmg hobj hints hlen hbits hg => ?_
  obtain ⟨K, KX, c0⟩ := Y
  exact law_end KX G.T.g G.T.b G.T.builtins G.T.nolimit hg c0.empty c0.out (fun p hp => PySem.W.codeHd_of_K KX (c0.hd p hp)) G.T.bmain hobj hints (Nat.le_trans hlen hn2) hr hmg hps
    (fun base hB hG hT => F w K mg s₁.heap base KX G.T.g c0 hB hG hT) (run ns hlen hbits)
end Sh
set_option maxRecDepth 100000
set_option maxHeartbeats 4000000
/-! Sh: errors' classes, told by Bools. -/
namespace Sh
open PySem PySem.Spec PyProof.Rows L2 LamX

/-! ### the first class's __init__ -/
abbrev FnI : Type := Option (Str × FuncBody × Addr × Addr)
def fnI (K : PySem.W.Frag) (f : Addr) : FnI := match K.lookup f with
  | some ⟨_, _, .func fd, _⟩ => some (fd.name, fd.body, fd.globals, fd.builtins)
  | _ => none
def valI (p : Nat → Pos) : FnI := some ("__init__", .stmts (ShX.supBody "self" "value" p), mainGlobals, builtinsNs)
def scB (sc : Scope) : Bool := decide (sc.kind = .function) && !sc.isCoroutine && !sc.isGenerator && decide (sc.names.lookup ("super" : Str) = some .globalImplicit) && decide (sc.names.lookup ("__class__" : Str) = some .free) && decide (sc.names.lookup ("self" : Str) = some .local) && decide (sc.names.lookup ("value" : Str) = some .local) && sc.names.all fun x => !decide (x.2 = .cell)
def fileB (P : Program) (K : PySem.W.Frag) (cda : Addr) : Bool := match K.lookup cda with
  | some ⟨_, _, .fields vs, _⟩ => (match (vs[2]? : Option Value) with
    | some (.str file _) => P.main.file == file
    | _ => false)
  | _ => false
def cellB (K : PySem.W.Frag) (cc D : Addr) : Bool := match K.lookup cc with
  | some ⟨_, _, .cell (some (.ref d)), _⟩ => decide (d = D)
  | _ => false
def supB (P : Program) (K : PySem.W.Frag) (fI D : Addr) (p : Nat → Pos) : Bool := (match K.lookup fI with
  | some ⟨_, _, .func ⟨_, q, ⟨[], [a1, a2], none, [], [], none, []⟩, _, sc, _, [(x, cc)], .none, _, _, _, _, .ref cda, _, _⟩, _⟩ =>
    PySem.W.codeIn K (.ref cda) q && decide (a1.arg = "self") && decide (a2.arg = "value") && scB sc && decide (x = "__class__") && fileB P K cda && cellB K cc D
  | _ => false) && ((p 2).endLine == (p 4).line) && (PySem.W.clsIn K D).isSome && !(P.main.scope.names.lookup ("super" : Str)).isSome && decide (PySem.W.nsIn K cStatics "thirdparty.any" = some none) && decide (PySem.W.typeIn K (.ref fI) = some (.type "function"))
theorem supB_ok {P : Program} {K : PySem.W.Frag} {fI D : Addr} {p : Nat → Pos} (v : fnI K fI = valI p) (h : supB P K fI D p = true) : ShX.SupI P K fI D := by
  unfold supB at h
  simp only [Bool.and_eq_true, Bool.not_eq_true', decide_eq_true_eq] at h
  obtain ⟨⟨⟨⟨⟨h1, h2⟩, h3⟩, h4⟩, h5⟩, h6⟩ := h
  refine ⟨?_, Option.isSome_iff_exists.mp h3, h4, h5, h6⟩
  unfold fnI at v
  split at h1
  · rename_i oc od nm q a1 a2 bd sc gl x cc kV doc pm an cda ct bs osl lk
    rw [lk] at v
    simp only [valI, Option.some.injEq, Prod.mk.injEq] at v
    obtain ⟨rfl, rfl, rfl, rfl⟩ := v
    simp only [Bool.and_eq_true, decide_eq_true_eq] at h1
    obtain ⟨⟨⟨⟨⟨⟨k1, k2⟩, k3⟩, k4⟩, rfl⟩, k6⟩, k7⟩ := h1
    unfold scB at k4
    simp only [Bool.and_eq_true, Bool.not_eq_true', decide_eq_true_eq, List.all_eq_true] at k4
    obtain ⟨⟨⟨⟨⟨⟨⟨s1, s2⟩, s3⟩, s4⟩, s5⟩, s6⟩, s7⟩, s8⟩ := k4
    unfold fileB at k6
    unfold cellB at k7
    refine ⟨oc, od, osl, .none, kV, doc, pm, ct, an, cda, cc, q, a1, a2, sc, p, lk, k1, k2, k3, ⟨s1, s2, s3, s4, s5, s6, s7, fun x hx => by simpa using s8 x hx⟩, h2, ?_, ?_⟩
    · split at k6
      · rename_i ccl cdd vs ccs lk2
        split at k6
        · rename_i file tf hf
          exact ⟨ccl, cdd, vs, ccs, file, tf, lk2, hf, k6⟩
        · cases k6
      · cases k6
    · split at k7
      · rename_i cl cld d csl lk2
        have e : d = D := of_decide_eq_true k7
        subst e
        exact ⟨cl, cld, csl, lk2⟩
      · cases k7
  · cases h1
/-! ### the classes -/
def oexB (K : PySem.W.Frag) (C : Addr) : Bool := (match K.lookup C with
  | some ⟨.type "type", _, .cls ⟨_, _, .ref C' :: bm, _, _, true, _, _, _, _, false⟩, ⟨[_, _, _, _, some (.builtin n), _]⟩⟩ => decide (C' = C) && decide (n = "ValueError.__new__") && PySem.HandSPX.refsVE bm
  | _ => false) && decide (PySem.W.findIn K (.ref C) "__setattr__" = some (some (.builtin "object.__setattr__"))) && decide (PySem.W.subIn K (.ref C) (.type "BaseException") = some true) && decide (PySem.W.typeIn K (.ref C) = some (.type "type")) && PySem.W.keepIn K (.ref C)
theorem oexB_ok {K : PySem.W.Frag} {C : Addr} (h : oexB K C = true) : OexC K C := by
  unfold oexB at h
  simp only [Bool.and_eq_true, decide_eq_true_eq] at h
  obtain ⟨⟨⟨⟨h1, h2⟩, h3⟩, h4⟩, h5⟩ := h
  refine ⟨?_, h2, h3, h4, h5⟩
  split at h1
  · rename_i dd nm bs C' bm N q sn sub ab col k0 k1 k2 k3 n k5 lk
    simp only [Bool.and_eq_true, decide_eq_true_eq] at h1
    obtain ⟨⟨rfl, rfl⟩, k⟩ := h1
    exact ⟨nm, q, N, bs, bm, sn, sub, ab, col, dd, k0, k1, k2, k3, k5, lk, k⟩
  · cases h1
def supCB (K : PySem.W.Frag) (D C : Addr) : Bool := oexB K C && decide (PySem.W.mroIn K C (.ref D) = some true) && decide (PySem.W.ks_superIn K C D "__init__" = some (some (.builtin "ValueError.__init__"))) && decide (PySem.W.subIn K (.ref C) (.type "ValueError") = some true) && decide (PySem.W.findIn K (.ref C) "value" = some none)
theorem supCB_ok {K : PySem.W.Frag} {D C : Addr} (h : supCB K D C = true) : ShX.SupC K D C := by
  unfold supCB at h
  simp only [Bool.and_eq_true, decide_eq_true_eq] at h
  obtain ⟨⟨⟨⟨h1, h2⟩, h3⟩, h4⟩, h5⟩ := h
  exact ⟨oexB_ok h1, h2, h3, h4, h5⟩
def exKB (K : PySem.W.Frag) (C : Addr) : Bool := (PySem.W.clsIn K C).isSome && decide (PySem.W.findIn K (.ref C) "__getattribute__" = some (some (.builtin "BaseException.__getattribute__"))) && decide (PySem.W.findIn K (.ref C) "__getattr__" = some none) && decide (PySem.W.subIn K (.ref C) (.type "BaseException") = some true) && PySem.W.hasDictIn K C &&
  decide (PySem.W.findIn K (.ref C) "__class__" = some (some (.builtin "object.__class__"))) && decide (PySem.W.specialIn K (.builtin "object.__class__") "__get__" = some (some (.builtin "getset_descriptor.__get__"))) && decide (PySem.W.takesIn K (.builtin "object.__class__") = some true) && decide (PySem.W.mroIn K C (.type "object") = some true) && decide (PySem.W.findIn K (.ref C) "value" = some none)
theorem exKB_ok {K : PySem.W.Frag} {C : Addr} (h : exKB K C = true) : ExK K C := by
  unfold exKB at h
  simp only [Bool.and_eq_true, decide_eq_true_eq] at h
  obtain ⟨⟨⟨⟨⟨⟨⟨⟨⟨h1, h2⟩, h3⟩, h4⟩, h5⟩, h6⟩, h7⟩, h8⟩, h9⟩, h10⟩ := h
  exact ⟨h1, h2, h3, h4, h5, h6, h7, h8, h9, h10⟩
def tys : List Ty := [.non, .int, .bl, .str, .tup, .lst, .dct]
/-- x is an error's class, D the first class, subs the classes at or above x, others the other ones -/
def excB (P : Program) (K : PySem.W.Frag) (first x : Str) (p : Nat → Pos) (subs others : List Str) : Bool :=
  supB P K (He.ma K (He.ga K first) "__init__") (He.ga K first) p && supCB K (He.ga K first) (He.ga K x) && decide (PySem.W.findIn K (.ref (He.ga K x)) "__init__" = some (some (.ref (He.ma K (He.ga K first) "__init__")))) && (tys.all fun t => decide (PySem.W.kitOne K (.type t.nm) (.ref (He.ga K x)) = some false)) &&
  (subs.all fun y => exKB K (He.ga K y) && decide (PySem.W.kitOne K (.ref (He.ga K y)) (.ref (He.ga K x)) = some true) && decide (PySem.W.exmOne K (.ref (He.ga K y)) (.ref (He.ga K x)) = some true)) &&
  (others.all fun y => exKB K (He.ga K y) && decide (PySem.W.kitOne K (.ref (He.ga K y)) (.ref (He.ga K x)) = some false) && decide (PySem.W.exmOne K (.ref (He.ga K y)) (.ref (He.ga K x)) = some false))
theorem excB_ok {P : Program} {K : PySem.W.Frag} {mg : Str → Option Value} {first x : Str} {p : Nat → Pos} {subs others : List Str} (v : fnI K (He.ma K (He.ga K first) "__init__") = valI p) (h : excB P K first x p subs others = true) (hs : mg "super" = none) (hg : ∀ y ∈ x :: (subs ++ others), mg y = some (.ref (He.ga K y))) : ExcG P K mg x subs others := by
  unfold excB at h
  simp only [Bool.and_eq_true, decide_eq_true_eq, List.all_eq_true] at h
  obtain ⟨⟨⟨⟨⟨h1, h2⟩, h3⟩, h4⟩, h5⟩, h6⟩ := h
  refine ⟨He.ga K x, He.ga K first, He.ma K (He.ga K first) "__init__", hg x List.mem_cons_self, supB_ok v h1, supCB_ok h2, h3, hs, fun t => h4 t (by cases t <;> simp [tys]), fun y hy => ?_, fun y hy => ?_⟩
  · obtain ⟨⟨k1, k2⟩, k3⟩ := h5 y hy
    exact ⟨_, hg y (List.mem_cons_of_mem _ (List.mem_append_left _ hy)), exKB_ok k1, k2, k3⟩
  · obtain ⟨⟨k1, k2⟩, k3⟩ := h6 y hy
    exact ⟨_, hg y (List.mem_cons_of_mem _ (List.mem_append_right _ hy)), exKB_ok k1, k2, k3⟩
end Sh
set_option maxRecDepth 100000
set_option maxHeartbeats 4000000
/-! Sh: from the head's facts to what the defs do. -/
namespace Sh
open PySem PySem.Spec PyProof.Rows L2 LamX

def diP (P : Program) (i : Nat) : DefI := match P.main.body.getD i (.Pass ⟨0, 0, 0, 0⟩) with
  | .FunctionDef name args body _ _ _ scope _ _ _ => ⟨name, name, args.args, body, scope⟩
  | _ => ⟨"", "", [], [], ⟨.function, [], false, false, []⟩⟩
def ddP (P : Program) (i : Nat) : He.DefD := ⟨((diP P i).x, none), (diP P i).x, (diP P i).qual, plainArgs (diP P i).args, (diP P i).body, (diP P i).scope, [], []⟩
def gL (l : List (Str × GV)) (x : Str) : GV := match lkN x l with
  | some g => g
  | none => .no
def ap (a b : List (Str × GV)) : List (Str × GV) := a ++ b
def GvOk (P : Program) (w : World) (K : PySem.W.Frag) (mg : Str → Option Value) (base : Heap) (x : Str) : GV → Prop
  | .fn c => FOk P w K mg base x c ∧ c.ps.Nodup
  | .con p => ∃ u v, mg x = some u ∧ RelV v u ∧ ∀ H, RepP K H p v
  | .free => mg x = none
  | .exc a b => ExcG P K mg x a b
  | .heard a => HeardG K mg x a
  | .no => True
section
variable {P : Program} {w : World} {K : PySem.W.Frag} {mg : Str → Option Value} {base h : Heap} {fa : List He.Fa} {fn : List He.DefD}
theorem gok_of {l : List (Str × GV)} (tb : ∀ p ∈ codesK K, TabB base mg p.1 p.2) (tu : ∀ p ∈ tabsK K, ∀ q ∈ tabsK K, p.1 = q.1 → p.2 = q.2) (hl : ∀ p ∈ l, GvOk P w K mg base p.1 p.2) : GOk P w K mg base (gL l) := by
  have key : ∀ x g, gL l x = g → g ≠ .no → GvOk P w K mg base x g := fun x g e n => by
    unfold gL at e
    split at e
    · rename_i g' q
      subst e
      exact hl _ (lkN_mem q)
    · exact absurd e.symm n
  exact ⟨fun x c e => key x _ e (by intro z; cases z), fun x p e => key x _ e (by intro z; cases z), fun x e => key x _ e (by intro z; cases z), fun x a b e => key x _ e (by intro z; cases z), fun x a e => key x _ e (by intro z; cases z), tb, tu⟩
theorem ap_all {Q : Str × GV → Prop} {a b : List (Str × GV)} (h1 : ∀ p ∈ a, Q p) (h2 : ∀ p ∈ b, Q p) : ∀ p ∈ ap a b, Q p := fun p hp => (List.mem_append.mp hp).elim (h1 p) (h2 p)
theorem dok_of (X : K.In h) (G : h.Ns mainGlobals mg) (c : He.SaysD fa fn K) {i : Nat} (h1 : He.Fa.glo (diP P i).x ∈ fa) (h2 : ddP P i ∈ fn) : DOk K mg (diP P i) := by
  obtain ⟨fd, F⟩ := c.defs h2
  exact ⟨_, fd, He.glo_ok X G (c.facts h1), F⟩
def fnScopeB (N ps : List Str) (sc : Scope) : Bool := decide (sc.kind = .function) && !sc.isCoroutine && !sc.isGenerator && decide N.Nodup && decide (N.take ps.length = ps) && (ps.all fun x => decide (sc.names.lookup x = some .local) || decide (sc.names.lookup x = some .cell)) && sc.names.all fun y => !decide (y.2 = .free)
theorem fnScopeB_ok {N ps : List Str} {sc : Scope} (h : fnScopeB N ps sc = true) : FnScope N ps sc := by
  unfold fnScopeB at h
  simp only [Bool.and_eq_true, Bool.or_eq_true, Bool.not_eq_true', decide_eq_true_eq, decide_eq_false_iff_not, List.all_eq_true] at h
  obtain ⟨⟨⟨⟨⟨⟨h1, h2⟩, h3⟩, h4⟩, h5⟩, h6⟩, h7⟩ := h
  exact ⟨h1, h2, h3, h4, h5, h6, h7⟩
/-- what is to be checked of a def's text -/
def defB (P : Program) (i : Nat) (x : Str) (N ps : List Str) : Bool := decide ((diP P i).x = x) && decide ((diP P i).args.map (·.arg) = ps) && fnScopeB N ps (diP P i).scope
theorem fok_of {i : Nat} {x : Str} {N ps : List Str} {n k : Nat} {glob : Str → GV} (hd : DOk K mg (diP P i)) (hb : defB P i x N ps = true) (hn : N.length = n) (hg : GOk P w K mg base glob) : FOk P w K mg base x (ceOf ps n k (trB ⟨N, (diP P i).scope.names, fun _ => true, k, glob, true⟩ (diP P i).body)) := by
  unfold defB at hb
  simp only [Bool.and_eq_true, decide_eq_true_eq] at hb
  obtain ⟨⟨h1, h2⟩, h3⟩ := hb
  subst h1
  exact entry_ok hd h2 (fnScopeB_ok h3) hn hg rfl
theorem fok_bad {i : Nat} {x : Str} {N ps : List Str} {k : Nat} (hd : DOk K mg (diP P i)) (hb : defB P i x N ps = true) : FOk P w K mg base x ⟨ps, k, fun _ _ => .bad⟩ := by
  unfold defB at hb
  simp only [Bool.and_eq_true, decide_eq_true_eq] at hb
  obtain ⟨⟨h1, h2⟩, h3⟩ := hb
  subst h1
  exact bad_ok hd h2
/-- the def that hears -/
def heardB (sc : Scope) : Bool := fnScopeB NH ["call"] sc && decide (sc.names.lookup ("call" : Str) = some .local) && decide (sc.names.lookup ("caught" : Str) = some .local) && decide (sc.names.lookup ("gave" : Str) = some .local) && decide (sc.names.lookup ("error" : Str) = some .local) && decide (sc.names.lookup ("StepError" : Str) = some .globalImplicit)
theorem heard_of {i : Nat} {x : Str} {ar : Arg} {q : Nat → Pos} {n : Nat → Nat} {subs : List Str} (hd : DOk K mg (diP P i)) (hx : (diP P i).x = x) (hq : (diP P i).qual = x) (ha : (diP P i).args = [ar]) (hc : ar.arg = "call") (hb : (diP P i).body = heardBody q n) (hs : heardB (diP P i).scope = true)
    (hg : ∀ y ∈ ("StepError" : Str) :: subs, mg y = some (.ref (He.ga K y))) (he : ∀ y ∈ subs, PySem.W.exmOne K (.ref (He.ga K y)) (.ref (He.ga K "StepError")) = some true) : HeardG K mg x subs := by
  obtain ⟨f, fd, hm, F⟩ := hd.ex
  unfold heardB at hs
  simp only [Bool.and_eq_true, decide_eq_true_eq] at hs
  obtain ⟨⟨⟨⟨⟨h1, h2⟩, h3⟩, h4⟩, h5⟩, h6⟩ := hs
  rw [hx] at hm
  rw [hx, hq, ha, hb] at F
  exact ⟨f, fd, ar, _, q, n, He.ga K "StepError", hm, F, hc, fnScopeB_ok h1, h2, h3, h4, h5, h6, hg _ List.mem_cons_self, fun y hy => ⟨_, hg y (List.mem_cons_of_mem _ hy), he y hy⟩⟩
end
end Sh
set_option maxRecDepth 100000
set_option maxHeartbeats 4000000
/-! Sh: runs over values that are not known, told step by step; the laws' draws. -/
namespace Sh
open PySem PySem.Spec PyProof.Rows L2

abbrev Is {β : Type} (ev : Ev β) (ρ : Env) (μ : Store) (x : β) (μ' : Store) : Prop := ev ρ μ = .ok x μ'
section
variable {β : Type} {ρ ρ1 : Env} {μ μ1 μ2 μ3 μ4 : Store} {d e z x y : D} {ds es : List D} {a b : Ev D} {r k : Ev (List D)} {c c' : Ev Bool} {s t : Sv} {i : Nat} {q q' : Bool}
theorem is_E (h : Is a ρ μ d μ1) : Is (fzE a) ρ μ d μ1 := (congrFun (congrFun (fzE_eq a) ρ) μ).trans h
theorem is_H (h : Is a ρ μ d μ1) : Is (fzH a) ρ μ d μ1 := (congrFun (congrFun (fzH_eq a) ρ) μ).trans h
theorem is_C {p : P} : Is (eC p) ρ μ (.p p) μ := rfl
theorem is_V (h : nth ρ i = some (some d)) : Is (eV i) ρ μ d μ := by
  unfold Is eV
  rw [h]
theorem is_1 {op : Op1} (ha : Is a ρ μ d μ1) (ho : op d μ1 = some (z, μ2)) : Is (e1 op a) ρ μ z μ2 := by
  unfold Is e1
  rw [ha]
  show Res.ofO (op d μ1) = _
  rw [ho]
  rfl
theorem is_2 {op : Op2} (ha : Is a ρ μ d μ1) (hb : Is b ρ μ1 e μ2) (ho : op d e μ2 = some (z, μ3)) : Is (e2 op a b) ρ μ z μ3 := by
  unfold Is e2
  rw [ha]
  show ((b ρ μ1).bind fun e μ2 => Res.ofO (op d e μ2)) = _
  rw [hb]
  show Res.ofO (op d e μ2) = _
  rw [ho]
  rfl
theorem is_nil : Is aNil ρ μ [] μ := rfl
theorem is_cons (ha : Is a ρ μ d μ1) (hr : Is r ρ μ1 ds μ2) : Is (aCons a r) ρ μ (d :: ds) μ2 := by
  unfold Is aCons
  rw [ha]
  show ((r ρ μ1).bind fun ds μ2 => .ok (d :: ds) μ2) = _
  rw [hr]
  rfl
theorem is_N {op : OpN} (ha : Is r ρ μ ds μ1) (ho : op ds μ1 = some (z, μ2)) : Is (eN op r) ρ μ z μ2 := by
  unfold Is eN
  rw [ha]
  show Res.ofO (op ds μ1) = _
  rw [ho]
  rfl
theorem is_M {t : MTy} {op : OpM} (ha : Is a ρ μ d μ1) (ht : isMT t d μ1 = true) (hr : Is r ρ μ1 ds μ2) (ho : op d ds μ2 = some (z, μ3)) : Is (eM t op a r) ρ μ z μ3 := by
  unfold Is eM
  rw [ha]
  show (match isMT t d μ1 with
    | true => _
    | false => _) = _
  rw [ht]
  show ((r ρ μ1).bind fun ds μ2 => Res.ofO (op d ds μ2)) = _
  rw [hr]
  show Res.ofO (op d ds μ2) = _
  rw [ho]
  rfl
theorem is_Test (ha : Is a ρ μ (.p (.bl q)) μ1) : Is (eTest a) ρ μ q μ1 := by
  unfold Is eTest
  rw [ha]
  rfl
theorem is_Tru (ha : Is a ρ μ d μ1) (h : truD μ1 d = some q) : Is (eTru a) ρ μ q μ1 := by
  unfold Is eTru
  rw [ha]
  show truO d μ1 = _
  unfold truO
  rw [h]
theorem is_Not (h : Is c ρ μ q μ1) : Is (bNot c) ρ μ (!q) μ1 := by
  unfold Is bNot
  rw [h]
  rfl
theorem is_OrT (h : Is c ρ μ true μ1) : Is (bOr c c') ρ μ true μ1 := by
  unfold Is bOr
  rw [h]
  rfl
theorem is_OrF (h : Is c ρ μ false μ1) (h' : Is c' ρ μ1 q μ2) : Is (bOr c c') ρ μ q μ2 := by
  unfold Is bOr
  rw [h]
  exact h'
theorem is_AndF (h : Is c ρ μ false μ1) : Is (bAnd c c') ρ μ false μ1 := by
  unfold Is bAnd
  rw [h]
  rfl
theorem is_AndT (h : Is c ρ μ true μ1) (h' : Is c' ρ μ1 q μ2) : Is (bAnd c c') ρ μ q μ2 := by
  unfold Is bAnd
  rw [h]
  exact h'
theorem is_IfT (h : Is c ρ μ true μ1) (ha : Is a ρ μ1 d μ2) : Is (eIf c a b) ρ μ d μ2 := by
  unfold Is eIf
  rw [h]
  exact ha
theorem is_IfF (h : Is c ρ μ false μ1) (ha : Is b ρ μ1 d μ2) : Is (eIf c a b) ρ μ d μ2 := by
  unfold Is eIf
  rw [h]
  exact ha
theorem is_eAndT (ha : Is a ρ μ d μ1) (h : truD μ1 d = some true) (hb : Is b ρ μ1 e μ2) : Is (eAnd a b) ρ μ e μ2 := by
  unfold Is eAnd
  rw [ha]
  show ((truO d μ1).bind _) = _
  unfold truO
  rw [h]
  exact hb
theorem is_eAndF (ha : Is a ρ μ d μ1) (h : truD μ1 d = some false) : Is (eAnd a b) ρ μ d μ1 := by
  unfold Is eAnd
  rw [ha]
  show ((truO d μ1).bind _) = _
  unfold truO
  rw [h]
  rfl
theorem is_P {f : Fn} {n : Nat} {w : Res D} (ha : Is r ρ μ ds μ1) (hl : ds.length = n) (hf : f ds μ1 = w) : eCallP f n r ρ μ = w := by
  unfold eCallP
  rw [ha]
  show (if ds.length = n then f ds μ1 else .bad) = _
  rw [if_pos hl]
  exact hf
theorem is_K {f : Fn} {n m : Nat} {idx : List Nat} {w : Res D} (ha : Is r ρ μ ds μ1) (hk : Is k ρ μ1 es μ2) (hl : ds.length = n) (hm : es.length = m) (hf : f (permL idx (ds ++ es)) μ2 = w) : eCallK f n m idx r k ρ μ = w := by
  unfold eCallK
  rw [ha]
  show ((k ρ μ1).bind fun es μ2 => if ds.length = n then if es.length = m then f (permL idx (ds ++ es)) μ2 else .bad else .bad) = _
  rw [hk]
  show (if ds.length = n then if es.length = m then f (permL idx (ds ++ es)) μ2 else .bad else .bad) = _
  rw [if_pos hl, if_pos hm]
  exact hf
theorem is_HR {w : Res D} (h : a ρ μ = w) : fzH a ρ μ = w := (congrFun (congrFun (fzH_eq a) ρ) μ).trans h
theorem is_ER {w : Res D} (h : a ρ μ = w) : fzE a ρ μ = w := (congrFun (congrFun (fzE_eq a) ρ) μ).trans h
/-! statements -/
theorem seq_n (h : s ρ μ = .next ρ1 μ1) : sSeq s t ρ μ = t ρ1 μ1 := by
  unfold sSeq
  rw [h]
  rfl
theorem seq_r (h : s ρ μ = .ret d μ1) : sSeq s t ρ μ = .ret d μ1 := by
  unfold sSeq
  rw [h]
  rfl
theorem seq_x {n : Str} (h : s ρ μ = .exc ρ1 n d μ1) : sSeq s t ρ μ = .exc ρ1 n d μ1 := by
  unfold sSeq
  rw [h]
  rfl
theorem if_t (h : Is c ρ μ true μ1) : sIf c s t ρ μ = s ρ μ1 := by
  unfold sIf
  rw [h]
  rfl
theorem if_f (h : Is c ρ μ false μ1) : sIf c s t ρ μ = t ρ μ1 := by
  unfold sIf
  rw [h]
  rfl
theorem asg_g {g : Tg} (h : Is a ρ μ d μ1) : sAsg a g ρ μ = g d ρ μ1 := by
  unfold sAsg
  rw [h]
  rfl
theorem asg_n (h : Is a ρ μ d μ1) : sAsg a (gNm i) ρ μ = .next (put (some d) ρ i) μ1 := (asg_g h).trans (gNm_eq _ _ _ _)
theorem asg_s {o j : Ev D} {op : OpSet} (h : Is a ρ μ d μ1) (ho : Is o ρ μ1 x μ2) (hi : Is j ρ μ2 y μ3) (hs : op x y d μ3 = some μ4) : sAsg a (gSb o j op) ρ μ = .next ρ μ4 := by
  refine (asg_g h).trans ?_
  unfold gSb
  rw [ho]
  show sOf (j ρ μ2) ρ _ = _
  rw [hi]
  show (match op x y d μ3 with
    | some μ3 => SRes.next ρ μ3
    | none => .bad) = _
  rw [hs]
theorem drop_n (h : Is a ρ μ d μ1) : sDrop a ρ μ = .next ρ μ1 := by
  unfold sDrop
  rw [h]
  rfl
theorem drop_x {n : Str} (h : a ρ μ = .exc n d μ1) : sDrop a ρ μ = .exc ρ n d μ1 := by
  unfold sDrop
  rw [h]
  rfl
theorem ret_r (h : Is a ρ μ d μ1) : sRet a ρ μ = .ret d μ1 := by
  unfold sRet
  rw [h]
  rfl
theorem raise_x {n : Str} (h : Is a ρ μ d μ1) : sRaise n a ρ μ = .exc ρ n d μ1 := by
  unfold sRaise
  rw [h]
  rfl
theorem runB_r {n : Nat} {sv : Sv} (h : sv (padE ds n) μ = .ret d μ1) : runB n sv ds μ = .ok d μ1 := by
  unfold runB
  rw [h]
theorem runB_x {n : Nat} {sv : Sv} {x : Str} (h : sv (padE ds n) μ = .exc ρ1 x d μ1) : runB n sv ds μ = .exc x d μ1 := by
  unfold runB
  rw [h]
theorem runB_n {n : Nat} {sv : Sv} (h : sv (padE ds n) μ = .next ρ1 μ1) : runB n sv ds μ = .ok (.p .non) μ1 := by
  unfold runB
  rw [h]
end

/-! ### ints with bounds -/
theorem sm_le {k n B : Nat} (h : n ≤ B) (hb : sm k B = true) : sm k n = true := Nat.ble_eq_true_of_le (Nat.le_trans (Nat.succ_le_succ h) (Nat.le_of_ble_eq_true hb))
structure EI (ev : Ev D) (ρ : Env) (μ : Store) (i : Int) (B : Nat) : Prop where
  run : Is ev ρ μ (.p (.int i)) μ
  le : i.natAbs ≤ B
section
variable {ρ : Env} {μ : Store} {a b : Ev D} {i j : Int} {A B : Nat} {n : Nat}
theorem EI.c {i : Int} (h : decide (i.natAbs ≤ B) = true) : EI (eC (.int i)) ρ μ i B := ⟨rfl, of_decide_eq_true h⟩
theorem EI.v (h : nth ρ n = some (some (.p (.int i)))) (hb : i.natAbs ≤ B) : EI (eV n) ρ μ i B := ⟨is_V h, hb⟩
theorem EI.add (ha : EI a ρ μ i A) (hb : EI b ρ μ j B) : EI (fzE (e2 opAdd a b)) ρ μ (i + j) (A + B) := ⟨is_E (is_2 ha.run hb.run rfl), Nat.le_trans (Int.natAbs_add_le i j) (Nat.add_le_add ha.le hb.le)⟩
theorem EI.sub (ha : EI a ρ μ i A) (hb : EI b ρ μ j B) : EI (fzE (e2 opSub a b)) ρ μ (i - j) (A + B) := ⟨is_E (is_2 ha.run hb.run rfl), Nat.le_trans (Int.natAbs_sub_le i j) (Nat.add_le_add ha.le hb.le)⟩
theorem mulA_int (h1 : sm 400000 i.natAbs = true) (h2 : sm 400000 j.natAbs = true) : opMulA (.p (.int i)) (.p (.int j)) μ = some (.p (.int (i * j)), μ) := by
  have e : opMulA (.p (.int i)) (.p (.int j)) μ = if sm 400000 i.natAbs = true ∧ sm 400000 j.natAbs = true then some (.p (.int (i * j)), μ) else none := by
    unfold opMulA
    dsimp only
    unfold opMul
    dsimp only
  exact e.trans (if_pos ⟨h1, h2⟩)
theorem EI.mul (ha : EI a ρ μ i A) (hb : EI b ρ μ j B) (h1 : sm 400000 A = true) (h2 : sm 400000 B = true) : EI (fzE (e2 opMulA a b)) ρ μ (i * j) (A * B) :=
  ⟨is_E (is_2 ha.run hb.run (mulA_int (sm_le ha.le h1) (sm_le hb.le h2))), by rw [Int.natAbs_mul]; exact Nat.mul_le_mul ha.le hb.le⟩
theorem fmod_pos (i : Int) (h : 0 < j) : 0 ≤ i.fmod j ∧ i.fmod j < j := by
  rw [Int.fmod_eq_emod_of_nonneg i (Int.le_of_lt h)]
  exact ⟨Int.emod_nonneg i (by omega), Int.emod_lt_of_pos i h⟩
theorem EI.mod (ha : Is a ρ μ (.p (.int i)) μ) (hb : EI b ρ μ j B) (h : 0 < j) : EI (fzE (e2 opMod a b)) ρ μ (i.fmod j) B :=
  ⟨is_E (is_2 ha hb.run (by
    unfold opMod
    dsimp only
    rw [if_neg (by omega)])), by
    have h1 := fmod_pos i h
    have := hb.le
    omega⟩
theorem EI.div (ha : EI a ρ μ i A) (hb : EI b ρ μ j B) (h : 0 < j) (hs : sm 9000 B = true) : EI (fzE (e2 opDiv a b)) ρ μ (i.fdiv j) A :=
  ⟨is_E (is_2 ha.run hb.run (by
    unfold opDiv
    dsimp only
    rw [if_neg (by omega), if_pos (sm_le hb.le hs)])), by
    rw [Int.fdiv_eq_ediv_of_nonneg i (Int.le_of_lt h)]
    exact Nat.le_trans (Int.natAbs_ediv_le_natAbs i j) ha.le⟩
theorem EI.int (ha : EI a ρ μ i A) : EI (fzE (eN opInt (aCons a aNil))) ρ μ i A := ⟨is_E (is_N (is_cons ha.run is_nil) rfl), ha.le⟩
theorem EI.pow {k : Nat} (ha : EI a ρ μ i A) (h : sm 4000 A = true) (hk : k ≤ 20000) : EI (fzE (e2 opPow a (eC (.int (Int.ofNat k))))) ρ μ (i ^ k) (A ^ k) :=
  ⟨is_E (is_2 ha.run is_C (by
    unfold opPow
    dsimp only
    rw [if_neg (by exact Int.not_lt.mpr (Int.natCast_nonneg k)), if_pos ⟨sm_le ha.le h, hk⟩]
    rfl)), by rw [Int.natAbs_pow]; exact Nat.pow_le_pow_left ha.le k⟩
theorem EI.bd (ha : EI a ρ μ i A) (h : Nat.ble A B = true) : EI a ρ μ i B := ⟨ha.run, Nat.le_trans ha.le (Nat.le_of_ble_eq_true h)⟩
end

/-! ### stores of one cell -/
def st1 (c : Cell) : Store := ⟨.nd (some c) .nil .nil, 1⟩
theorem of_one (c : Cell) : Store.of [c] = st1 c := by
  show Store.push Store.emp c = _
  rw [Store.push_eq]
  rfl
theorem set_st1 (c c' : Cell) : (st1 c).set 0 c' = st1 c' := by
  rw [Store.set_eq]
  rfl
/-- a run that changes one row of the caller's alone -/
theorem iso1 {f : Fn} {μ μ1 : Store} {n : Nat} {c0 c1 : Cell} {xs : List P} {x : P} (hc : μ.get? n = some c0) (h0 : ownC c0 = true) (h1 : ownC c1 = true) (h : f (.ref 0 :: xs.map .p) (st1 c0) = .ok (.p x) μ1) (h2 : μ1.get? 0 = some c1) : isoF f (.ref n :: xs.map .p) μ = .ok (.p x) (μ.set n c1) := by
  have key : ∀ (xs : List P) (ids : List Nat) (cs : List Cell), locA μ (xs.map .p) ids cs = some (xs.map .p, ids, cs) := by
    intro xs
    induction xs with
    | nil => intro ids cs; rfl
    | cons y ys ih =>
      intro ids cs
      show (match locA μ (ys.map .p) ids cs with
        | some (ds, z) => some (D.p y :: ds, z)
        | none => none) = _
      rw [ih]
      rfl
  have e : locA μ (.ref n :: xs.map .p) [] [] = some (.ref 0 :: xs.map .p, [n], [c0]) := by
    unfold locA
    dsimp only
    rw [hc]
    dsimp only
    rw [h0]
    show (match locA μ (xs.map .p) [n] [c0] with
      | some (ds, z) => some (D.ref 0 :: ds, z)
      | none => none) = _
    rw [key]
  unfold isoF
  rw [e]
  dsimp only
  rw [of_one, h]
  dsimp only
  have b : backA μ1 [n].length 0 = some [c1] := by
    show (match μ1.get? 0 with
      | some c => match ownC c with
        | true => match backA μ1 0 1 with
          | some cs => some (c :: cs)
          | none => none
        | false => none
      | none => none) = _
    rw [h2]
    dsimp only
    rw [h1]
    rfl
  rw [b]
  rfl

/-! ### draws -/
def xPot : Sv := (sSeq (sAsg (fzE (eIf (eTest (e2 opLt (eV 1) (fzE (eN opLen (aCons (eV 0) aNil))))) (fzH (e2 opIx (eV 0) (eV 1))) (fzE (e2 opAdd (fzE (e2 opAdd (fzE (e2 opMod (fzE (eN opInt (aCons (fzE (eN opSum (aCons (fzE (eSl (eV 0) none (some (eC (.int (1)))))) aNil))) aNil))) (eC (.int (1000381))))) (fzE (e2 opMulA (eC (.int (5077))) (eV 1))))) (eC (.int (3121))))))) (gNm 2)) (sSeq (sAsg (fzE (e2 opMulA (fzE (e2 opMod (fzE (eN opInt (aCons (fzE (eN opAbs (aCons (eV 2) aNil))) aNil))) (fzE (e2 opPow (fzE (e2 opPow (eC (.int (10))) (eC (.int (60))))) (eC (.int (5))))))) (fzE (eN opInt (aCons (fzH (e2 opGe (fzE (eN opAbs (aCons (eV 2) aNil))) (fzE (e2 opPow (eC (.int (10))) (eC (.int (18))))))) aNil))))) (gNm 3)) (sSeq (sAsg (fzE (e2 opMod (fzE (eN opInt (aCons (eV 2) aNil))) (eC (.int (2305843009213693921))))) (gNm 4)) (sSeq (sRet (fzH (eN opLst (aCons (eV 3) (aCons (fzE (e2 opMod (fzE (eN opInt (aCons (fzE (e2 opAdd (fzE (e2 opAdd (fzE (e2 opMulA (eV 4) (eC (.int (70207))))) (fzE (e2 opMulA (fzE (e2 opMulA (eC (.int (13099))) (eV 1))) (eV 1))))) (eC (.int (2957))))) aNil))) (eC (.int (2305843009213693921))))) (aCons (eC (.int (0))) aNil)))))) sSkip))))
def xTake : Sv := (sSeq (sIf (eTest (e2 opGt (fzH (e2 opIx (eV 0) (eC (.int (0))))) (eC (.int (0))))) (sSeq (sAsg (fzE (e2 opMod (fzE (eN opInt (aCons (fzH (e2 opIx (eV 0) (eC (.int (0))))) aNil))) (eV 1))) (gNm 4)) (sSeq (sAsg (fzE (e2 opDiv (fzH (e2 opIx (eV 0) (eC (.int (0))))) (eV 1))) (gSb (eV 0) (eC (.int (0))) opSetI)) (sSeq (sRet (eV 4)) sSkip))) sSkip) (sSeq (sAsg (fzE (e2 opAdd (fzH (e2 opIx (eV 0) (eC (.int (2))))) (eC (.int (1))))) (gSb (eV 0) (eC (.int (2))) opSetI)) (sSeq (sAsg (fzH (e2 opIx (fzH (eN opLst (aCons (eC (.int (2147483647))) (aCons (eC (.int (2147483629))) (aCons (eC (.int (2147483587))) (aCons (eC (.int (2147483579))) (aCons (eC (.int (2147483563))) aNil))))))) (fzE (e2 opMod (fzE (eN opInt (aCons (fzH (e2 opIx (eV 0) (eC (.int (2))))) aNil))) (eC (.int (5))))))) (gNm 2)) (sSeq (sAsg (fzE (e2 opMod (fzE (eN opInt (aCons (fzE (e2 opPow (fzE (eN opInt (aCons (fzE (e2 opAdd (fzE (e2 opAdd (fzH (e2 opIx (eV 0) (eC (.int (1))))) (fzE (e2 opMulA (fzE (e2 opMulA (eC (.int (90007))) (fzH (e2 opIx (eV 0) (eC (.int (2))))))) (fzH (e2 opIx (eV 0) (eC (.int (2))))))))) (eC (.int (3011))))) aNil))) (eC (.int (3))))) aNil))) (eV 2))) (gNm 3)) (sSeq (sAsg (fzE (e2 opMod (fzE (eN opInt (aCons (fzE (e2 opMulA (eV 3) (fzE (e2 opAdd (fzE (e2 opMod (fzE (eN opInt (aCons (eV 3) aNil))) (eC (.int (13729))))) (fzE (e2 opMulA (eC (.int (433))) (fzH (e2 opIx (eV 0) (eC (.int (2))))))))))) aNil))) (eC (.int (2305843009213693907))))) (gNm 3)) (sSeq (sRet (fzE (e2 opMod (fzE (eN opInt (aCons (fzE (e2 opDiv (eV 3) (eC (.int (239))))) aNil))) (eV 1)))) sSkip))))))
def xCells : Sv := (sSeq (sRet (fzE (eRg1 true (fzE (eN opMax (aCons (eC (.int (1))) (aCons (fzE (eN opMin (aCons (eV 1) (aCons (fzE (eN opLen (aCons (eV 0) aNil))) aNil)))) aNil))))))) sSkip)
/-- a pot: digits of the cell's own, a mixed number, how many were mixed -/
def pot (a m c : Int) : Cell := .fl [.int a, .int m, .int c]
def primes : Cell := .fl [.int 2147483647, .int 2147483629, .int 2147483587, .int 2147483579, .int 2147483563]
def st2 (c c' : Cell) : Store := ⟨.nd (some c) (.nd (some c') .nil .nil) .nil, 2⟩
theorem set_st2 (c c' x : Cell) : (st2 c x).set 0 c' = st2 c' x := by
  rw [Store.set_eq]
  rfl
theorem setI_pot {μ μ' : Store} {a m c v : Int} (h : μ.get? 0 = some (pot a m c)) : (μ.set 0 (pot v m c) = μ' → opSetI (.ref 0) (.p (.int 0)) (.p (.int v)) μ = some μ') ∧ (μ.set 0 (pot a m v) = μ' → opSetI (.ref 0) (.p (.int 2)) (.p (.int v)) μ = some μ') := by
  constructor
  all_goals
    rintro rfl
    unfold opSetI
    dsimp only
    rw [h]
    rfl
theorem prime_ok {μ : Store} (h : rdL μ 1 = some (([.int 2147483647, .int 2147483629, .int 2147483587, .int 2147483579, .int 2147483563] : List P).map .p)) (i : Int) (h0 : 0 ≤ i) (h5 : i < 5) : ∃ p : Int, 0 < p ∧ p.natAbs ≤ 4294967296 ∧ opIx (.ref 1) (.p (.int i)) μ = some (.p (.int p), μ) := by
  have e : i = 0 ∨ i = 1 ∨ i = 2 ∨ i = 3 ∨ i = 4 := by omega
  rcases e with rfl | rfl | rfl | rfl | rfl
  · exact ⟨2147483647, by decide, by decide, by unfold opIx; dsimp only; rw [h]; rfl⟩
  · exact ⟨2147483629, by decide, by decide, by unfold opIx; dsimp only; rw [h]; rfl⟩
  · exact ⟨2147483587, by decide, by decide, by unfold opIx; dsimp only; rw [h]; rfl⟩
  · exact ⟨2147483579, by decide, by decide, by unfold opIx; dsimp only; rw [h]; rfl⟩
  · exact ⟨2147483563, by decide, by decide, by unfold opIx; dsimp only; rw [h]; rfl⟩
theorem gt0 {μ : Store} (i : Int) : opGt (.p (.int i)) (.p (.int 0)) μ = some (.p (.bl (decide (i > 0))), μ) := rfl
theorem gt0t {μ : Store} {i : Int} (h : i > 0) : opGt (.p (.int i)) (.p (.int 0)) μ = some (.p (.bl true), μ) := by rw [gt0, decide_eq_true h]
theorem gt0f {μ : Store} {i : Int} (h : ¬ i > 0) : opGt (.p (.int i)) (.p (.int 0)) μ = some (.p (.bl false), μ) := by rw [gt0, decide_eq_false h]
theorem take_body {a m c k : Int} {N : Nat} (ha : 0 ≤ a) (hm : m.natAbs ≤ 2 ^ 61) (hc : c.natAbs ≤ N) (hN : N < 2 ^ 60) (hk : 0 < k) (hk2 : k.natAbs ≤ 2 ^ 60) :
    ∃ (d a' c' : Int) (μ' : Store), 0 ≤ d ∧ d < k ∧ 0 ≤ a' ∧ c'.natAbs ≤ N + 1 ∧ μ'.get? 0 = some (pot a' m c') ∧ xTake [some (.ref 0), some (.p (.int k)), none, none, none] (st1 (pot a m c)) = .ret (.p (.int d)) μ' := by
  by_cases h : a > 0
  · have q := fmod_pos a hk
    refine ⟨a.fmod k, a.fdiv k, c, st1 (pot (a.fdiv k) m c), q.1, q.2, ?_, by omega, rfl, ?_⟩
    · rw [Int.fdiv_eq_ediv_of_nonneg a (Int.le_of_lt hk)]
      exact Int.ediv_nonneg ha (Int.le_of_lt hk)
    · have p0 : ∀ ρ : Env, nth ρ 0 = some (some (.ref 0)) → Is (fzH (e2 opIx (eV 0) (eC (.int (0))))) ρ (st1 (pot a m c)) (.p (.int a)) (st1 (pot a m c)) := fun ρ hr => is_H (is_2 (is_V hr) is_C rfl)
      unfold xTake
      refine seq_r ((if_t (is_Test (is_2 (p0 _ rfl) is_C (gt0t h)))).trans ?_)
      · refine (seq_n (asg_n (EI.mod (EI.int ⟨p0 _ rfl, Nat.le_refl _⟩).run (EI.v (n := 1) rfl hk2) hk).run)).trans ?_
        exact (seq_n (asg_s (EI.div ⟨p0 _ rfl, Nat.le_refl _⟩ (EI.v (n := 1) rfl hk2) hk (by decide +kernel)).run (is_V rfl) is_C ((setI_pot (μ := st1 (pot a m c)) rfl).1 (set_st1 _ _)))).trans (seq_r (ret_r (is_V rfl)))
  · have hc1 : (c + 1).natAbs ≤ N + 1 := by omega
    have b1 : N + 1 ≤ 2 ^ 60 := hN
    obtain ⟨p, hp0, hp1, hp2⟩ := prime_ok (μ := st2 (pot a m (c + 1)) primes) rfl ((c + 1).fmod 5) (fmod_pos _ (by decide)).1 (fmod_pos _ (by decide)).2
    have hc2 : (c + 1).natAbs ≤ 2 ^ 60 := Nat.le_trans hc1 b1
    have r0 : ∀ ρ : Env, nth ρ 0 = some (some (.ref 0)) → Is (fzH (e2 opIx (eV 0) (eC (.int (0))))) ρ (st1 (pot a m c)) (.p (.int a)) (st1 (pot a m c)) := fun ρ hr => is_H (is_2 (is_V hr) is_C rfl)
    have r2 : ∀ ρ : Env, nth ρ 0 = some (some (.ref 0)) → Is (fzH (e2 opIx (eV 0) (eC (.int (2))))) ρ (st1 (pot a m c)) (.p (.int c)) (st1 (pot a m c)) := fun ρ hr => is_H (is_2 (is_V hr) is_C rfl)
    have s1 : ∀ ρ : Env, nth ρ 0 = some (some (.ref 0)) → EI (fzH (e2 opIx (eV 0) (eC (.int (1))))) ρ (st2 (pot a m (c + 1)) primes) m (2 ^ 61) := fun ρ hr => ⟨is_H (is_2 (is_V hr) is_C rfl), hm⟩
    have s2 : ∀ ρ : Env, nth ρ 0 = some (some (.ref 0)) → EI (fzH (e2 opIx (eV 0) (eC (.int (2))))) ρ (st2 (pot a m (c + 1)) primes) (c + 1) (2 ^ 60) := fun ρ hr => ⟨is_H (is_2 (is_V hr) is_C rfl), hc2⟩
    have s3 : ∀ ρ : Env, nth ρ 0 = some (some (.ref 0)) → EI (fzH (e2 opIx (eV 0) (eC (.int (2))))) ρ (st1 (pot a m (c + 1))) (c + 1) (2 ^ 60) := fun ρ hr => ⟨is_H (is_2 (is_V hr) is_C rfl), hc2⟩
    unfold xTake
    have p5 : (0 : Int) < 5 := by decide
    have e1 : EI (fzE (e2 opAdd (fzE (e2 opAdd (fzH (e2 opIx (eV 0) (eC (.int (1))))) (fzE (e2 opMulA (fzE (e2 opMulA (eC (.int (90007))) (fzH (e2 opIx (eV 0) (eC (.int (2))))))) (fzH (e2 opIx (eV 0) (eC (.int (2))))))))) (eC (.int (3011))))) [some (.ref 0), some (.p (.int k)), some (.p (.int p)), none, none] (st2 (pot a m (c + 1)) primes) (m + 90007 * (c + 1) * (c + 1) + 3011) (2 ^ 200) :=
      (EI.add (EI.add (s1 _ rfl) (EI.mul (EI.mul (EI.c (B := 90007) (by decide)) (s2 _ rfl) (by decide +kernel) (by decide +kernel)) (s2 _ rfl) (by decide +kernel) (by decide +kernel))) (EI.c (B := 3011) (by decide))).bd (by decide +kernel)
    have e2 := EI.mod (EI.int (EI.pow (k := 3) (EI.int e1) (by decide +kernel) (by decide))).run (EI.v (n := 2) rfl hp1) hp0
    have f1 := fmod_pos ((m + 90007 * (c + 1) * (c + 1) + 3011) ^ 3) hp0
    generalize hM : ((m + 90007 * (c + 1) * (c + 1) + 3011) ^ 3).fmod p = M1 at e2 f1
    have e3 := EI.mod (j := 2305843009213693907) (EI.int (EI.mul (EI.v (n := 3) (i := M1) (ρ := [some (.ref 0), some (.p (.int k)), some (.p (.int p)), some (.p (.int M1)), none]) (μ := st2 (pot a m (c + 1)) primes) rfl e2.le)
      (EI.add (EI.mod (j := 13729) (EI.int (EI.v (n := 3) rfl e2.le)).run (EI.c (B := 13729) (by decide)) (by decide)) (EI.mul (EI.c (i := 433) (B := 433) (by decide)) (s2 _ rfl) (by decide +kernel) (by decide +kernel))) (by decide +kernel) (by decide +kernel))).run (EI.c (B := 2305843009213693907) (by decide)) (by decide)
    generalize hM2 : (M1 * (M1.fmod 13729 + 433 * (c + 1))).fmod 2305843009213693907 = M2 at e3
    have e4 := EI.mod (EI.int (EI.div (j := 239) (EI.v (n := 3) (i := M2) (ρ := [some (.ref 0), some (.p (.int k)), some (.p (.int p)), some (.p (.int M2)), none]) (μ := st2 (pot a m (c + 1)) primes) rfl e3.le) (EI.c (B := 239) (by decide)) (by decide) (by decide +kernel))).run (EI.v (n := 1) (i := k) rfl hk2) hk
    have f4 := fmod_pos (M2.fdiv 239) hk
    refine ⟨(M2.fdiv 239).fmod k, a, c + 1, st2 (pot a m (c + 1)) primes, f4.1, f4.2, ha, hc1, rfl, ?_⟩
    refine (seq_n ((if_f (is_Test (is_2 (r0 _ rfl) is_C (gt0f h)))).trans rfl)).trans ?_
    refine (seq_n (asg_s (is_E (is_2 (r2 _ rfl) is_C rfl)) (is_V rfl) is_C ((setI_pot (μ := st1 (pot a m c)) rfl).2 (set_st1 _ _)))).trans ?_
    refine (seq_n (asg_n (is_H (is_2 (is_H (is_N (is_cons is_C (is_cons is_C (is_cons is_C (is_cons is_C (is_cons is_C is_nil))))) (show _ = some (D.ref 1, st2 (pot a m (c + 1)) primes) from rfl))) (EI.mod (EI.int (s2 _ rfl)).run (EI.c (B := 5) (by decide)) p5).run hp2)))).trans ?_
    exact (seq_n (asg_n e2.run)).trans ((seq_n (asg_n e3.run)).trans (seq_r (ret_r e4.run)))
/-- what is kept of a store -/
def Keep (μ μ' : Store) : Prop := ∀ n c, μ.get? n = some c → μ'.get? n = some c
theorem Keep.refl (μ : Store) : Keep μ μ := fun _ _ h => h
theorem Keep.trans {μ μ1 μ2 : Store} (a : Keep μ μ1) (b : Keep μ1 μ2) : Keep μ μ2 := fun n c h => b n c (a n c h)
theorem Keep.push (μ : Store) (c : Cell) : Keep μ (μ ++ [c]) := fun n d h => by
  rw [Store.push_at, if_neg (by have := Store.lt_of h; omega)]
  exact h
theorem push_new (μ : Store) (c : Cell) : (μ ++ [c]).get? μ.length = some c := by rw [Store.push_at, if_pos rfl]
theorem intsOf_map : ∀ l : List Int, intsOf ((l.map P.int).map D.p) = some l
  | [] => rfl
  | x :: r => by
    show (match intsOf ((r.map P.int).map D.p) with
      | some is => some (x :: is)
      | none => none) = _
    rw [intsOf_map r]
theorem cut1 (ns : List Int) : ∃ l : List Int, cutL (ns.map P.int) none (some 1) = l.map P.int := by
  unfold cutL
  exact ⟨(ns.drop (HT.sIx (ns.map P.int).length 0 none)).take (HT.sIx (ns.map P.int).length (ns.map P.int).length (some 1) - HT.sIx (ns.map P.int).length 0 none), by rw [List.map_take, List.map_drop]⟩
theorem ltI {μ : Store} (i j : Int) : opLt (.p (.int i)) (.p (.int j)) μ = some (.p (.bl (decide (i < j))), μ) := rfl
theorem ltIt {μ : Store} {i j : Int} (h : i < j) : opLt (.p (.int i)) (.p (.int j)) μ = some (.p (.bl true), μ) := by rw [ltI, decide_eq_true h]
theorem ltIf {μ : Store} {i j : Int} (h : ¬ i < j) : opLt (.p (.int i)) (.p (.int j)) μ = some (.p (.bl false), μ) := by rw [ltI, decide_eq_false h]
theorem pot_cell (ns : List Int) (j : Nat) (μ : Store) (hj : j ≤ 100) : ∃ (cell : Int) (μ1 : Store), Keep μ μ1 ∧ ∀ (r2 r3 r4 : Option D), Is (fzE (eIf (eTest (e2 opLt (eV 1) (fzE (eN opLen (aCons (eV 0) aNil))))) (fzH (e2 opIx (eV 0) (eV 1))) (fzE (e2 opAdd (fzE (e2 opAdd (fzE (e2 opMod (fzE (eN opInt (aCons (fzE (eN opSum (aCons (fzE (eSl (eV 0) none (some (eC (.int (1)))))) aNil))) aNil))) (eC (.int (1000381))))) (fzE (e2 opMulA (eC (.int (5077))) (eV 1))))) (eC (.int (3121)))))))
    [some (.rol (ns.map P.int)), some (.p (.int (Int.ofNat j))), r2, r3, r4] μ (.p (.int cell)) μ1 := by
  have hlen : ∀ ρ : Env, nth ρ 0 = some (some (.rol (ns.map P.int))) → Is (fzE (eN opLen (aCons (eV 0) aNil))) ρ μ (.p (.int ((ns.map P.int).length : Int))) μ := fun ρ hr => is_E (is_N (is_cons (is_V hr) is_nil) rfl)
  by_cases h : (Int.ofNat j) < ((ns.map P.int).length : Int)
  · have h' : j < ns.length := by
      rw [List.length_map] at h
      exact Int.ofNat_lt.mp h
    refine ⟨ns[j], μ, Keep.refl μ, fun r2 r3 r4 => is_E (is_IfT (is_Test (is_2 (is_V rfl) (hlen _ rfl) (ltIt h))) (is_H (is_2 (is_V rfl) (is_V rfl) ?_)))⟩
    unfold opIx
    dsimp only
    have e : ixN (ns.map P.int).length (Int.ofNat j) = some j := by
      unfold ixN
      rw [if_pos (show (0 : Int) ≤ Int.ofNat j from Int.natCast_nonneg j), if_pos h]
      rfl
    rw [e]
    dsimp only
    rw [nth_eq, List.getElem?_map, List.getElem?_eq_getElem h']
    rfl
  · obtain ⟨l, hl⟩ := cut1 ns
    refine ⟨l.sum.fmod 1000381 + 5077 * Int.ofNat j + 3121, μ ++ [Cell.fl (l.map P.int)], Keep.push _ _, fun r2 r3 r4 => is_E (is_IfF (is_Test (is_2 (is_V rfl) (hlen _ rfl) (ltIf h))) ?_)⟩
    have es : Is (fzE (eSl (eV 0) none (some (eC (.int (1)))))) [some (.rol (ns.map P.int)), some (.p (.int (Int.ofNat j))), r2, r3, r4] μ (.ref μ.length) (μ ++ [Cell.fl (l.map P.int)]) := by
      refine is_E ?_
      show Res.ofO (some (D.ref μ.length, μ ++ [Cell.fl (cutL (ns.map P.int) none (some 1))])) = _
      rw [hl]
      rfl
    have w2 : Is (fzE (eN opSum (aCons (fzE (eSl (eV 0) none (some (eC (.int (1)))))) aNil))) [some (.rol (ns.map P.int)), some (.p (.int (Int.ofNat j))), r2, r3, r4] μ (.p (.int l.sum)) (μ ++ [Cell.fl (l.map P.int)]) := by
      refine is_E (is_N (is_cons es is_nil) ?_)
      unfold opSum rdL
      dsimp only
      rw [push_new]
      dsimp only
      rw [intsOf_map]
    have e3 : Is (fzE (eN opInt (aCons (fzE (eN opSum (aCons (fzE (eSl (eV 0) none (some (eC (.int (1)))))) aNil))) aNil))) [some (.rol (ns.map P.int)), some (.p (.int (Int.ofNat j))), r2, r3, r4] μ (.p (.int l.sum)) (μ ++ [Cell.fl (l.map P.int)]) := is_E (is_N (is_cons w2 is_nil) rfl)
    have e4 : Is (fzE (e2 opMod (fzE (eN opInt (aCons (fzE (eN opSum (aCons (fzE (eSl (eV 0) none (some (eC (.int (1)))))) aNil))) aNil))) (eC (.int (1000381))))) [some (.rol (ns.map P.int)), some (.p (.int (Int.ofNat j))), r2, r3, r4] μ (.p (.int (l.sum.fmod 1000381))) (μ ++ [Cell.fl (l.map P.int)]) := is_E (is_2 e3 is_C rfl)
    have e5 : EI (fzE (e2 opMulA (eC (.int (5077))) (eV 1))) [some (.rol (ns.map P.int)), some (.p (.int (Int.ofNat j))), r2, r3, r4] (μ ++ [Cell.fl (l.map P.int)]) (5077 * Int.ofNat j) (5077 * 100) := EI.mul (EI.c (B := 5077) (by decide)) (EI.v (n := 1) rfl hj) (by decide +kernel) (by decide +kernel)
    exact is_E (is_2 (is_E (is_2 e4 e5.run rfl)) is_C rfl)
theorem pot_body (ns : List Int) (j : Nat) (μ : Store) (hj : j ≤ 100) : ∃ (a m : Int) (L : Nat) (μ' : Store), 0 ≤ a ∧ m.natAbs ≤ 2 ^ 61 ∧ Keep μ μ' ∧ μ'.get? L = some (pot a m 0) ∧ μ.length ≤ L ∧ xPot [some (.rol (ns.map P.int)), some (.p (.int (Int.ofNat j))), none, none, none] μ = .ret (.ref L) μ' := by
  obtain ⟨cell, μ1, kp, hc⟩ := pot_cell ns j μ hj
  have habs : 0 ≤ (if cell < 0 then -cell else cell) := by split <;> omega
  have hge : ∀ (μ : Store) (i j : Int), opGe (.p (.int i)) (.p (.int j)) μ = some (.p (.bl (!decide (i < j))), μ) := fun _ _ _ => rfl
  have t18 : ∀ (ρ : Env), EI (fzE (e2 opPow (eC (.int (10))) (eC (.int (18))))) ρ μ1 (10 ^ 18) (10 ^ 18) := fun ρ => EI.pow (k := 18) (EI.c (B := 10) (by decide)) (by decide +kernel) (by decide)
  have t60 : ∀ (ρ : Env), EI (fzE (e2 opPow (fzE (e2 opPow (eC (.int (10))) (eC (.int (60))))) (eC (.int (5))))) ρ μ1 ((10 ^ 60) ^ 5) ((10 ^ 60) ^ 5) := fun ρ => EI.pow (k := 5) (EI.pow (k := 60) (EI.c (B := 10) (by decide)) (by decide +kernel) (by decide)) (by decide +kernel) (by decide)
  have eabs : ∀ ρ : Env, nth ρ 2 = some (some (.p (.int cell))) → Is (fzE (eN opAbs (aCons (eV 2) aNil))) ρ μ1 (.p (.int (if cell < 0 then -cell else cell))) μ1 := fun ρ h => is_E (is_N (is_cons (is_V h) is_nil) rfl)
  have eint : ∀ ρ : Env, nth ρ 2 = some (some (.p (.int cell))) → Is (fzE (eN opInt (aCons (fzE (eN opAbs (aCons (eV 2) aNil))) aNil))) ρ μ1 (.p (.int (if cell < 0 then -cell else cell))) μ1 := fun ρ h => is_E (is_N (is_cons (eabs ρ h) is_nil) rfl)
  generalize hA : (if cell < 0 then -cell else cell) = A at habs eabs eint
  have ten : (0 : Int) < (10 ^ 60) ^ 5 := by decide +kernel
  have fA := fmod_pos A ten
  have w1 : ∀ ρ : Env, nth ρ 2 = some (some (.p (.int cell))) → EI (fzE (e2 opMod (fzE (eN opInt (aCons (fzE (eN opAbs (aCons (eV 2) aNil))) aNil))) (fzE (e2 opPow (fzE (e2 opPow (eC (.int (10))) (eC (.int (60))))) (eC (.int (5))))))) ρ μ1 (A.fmod ((10 ^ 60) ^ 5)) ((10 ^ 60) ^ 5) := fun ρ h => EI.mod (eint ρ h) (t60 ρ) ten
  have w2 : ∀ ρ : Env, nth ρ 2 = some (some (.p (.int cell))) → EI (fzE (eN opInt (aCons (fzH (e2 opGe (fzE (eN opAbs (aCons (eV 2) aNil))) (fzE (e2 opPow (eC (.int (10))) (eC (.int (18))))))) aNil))) ρ μ1 (if (!decide (A < 10 ^ 18)) then 1 else 0) 1 := fun ρ h =>
    ⟨is_E (is_N (is_cons (is_H (is_2 (eabs ρ h) (t18 ρ).run (hge _ _ _))) is_nil) rfl), by split <;> decide⟩
  have e3 := fun ρ h => EI.mul (w1 ρ h) (w2 ρ h) (by decide +kernel) (by decide +kernel)
  have pos3 : 0 ≤ A.fmod ((10 ^ 60) ^ 5) * (if (!decide (A < 10 ^ 18)) then 1 else 0) := Int.mul_nonneg fA.1 (by split <;> decide)
  generalize A.fmod ((10 ^ 60) ^ 5) * (if (!decide (A < 10 ^ 18)) then 1 else 0) = own at e3 pos3
  have e4 : ∀ ρ : Env, nth ρ 2 = some (some (.p (.int cell))) → EI (fzE (e2 opMod (fzE (eN opInt (aCons (eV 2) aNil))) (eC (.int (2305843009213693921))))) ρ μ1 (cell.fmod 2305843009213693921) 2305843009213693921 := fun ρ h => EI.mod (is_E (is_N (is_cons (is_V h) is_nil) rfl)) (EI.c (B := 2305843009213693921) (by decide)) (by decide)
  have f4 := fmod_pos cell (show (0 : Int) < 2305843009213693921 by decide)
  have b4 : (cell.fmod 2305843009213693921).natAbs ≤ 2305843009213693921 := by omega
  generalize cell.fmod 2305843009213693921 = small at e4 f4 b4
  have e5 : EI (fzE (e2 opMod (fzE (eN opInt (aCons (fzE (e2 opAdd (fzE (e2 opAdd (fzE (e2 opMulA (eV 4) (eC (.int (70207))))) (fzE (e2 opMulA (fzE (e2 opMulA (eC (.int (13099))) (eV 1))) (eV 1))))) (eC (.int (2957))))) aNil))) (eC (.int (2305843009213693921))))) [some (.rol (ns.map P.int)), some (.p (.int (Int.ofNat j))), some (.p (.int cell)), some (.p (.int own)), some (.p (.int small))] μ1 ((small * 70207 + 13099 * Int.ofNat j * Int.ofNat j + 2957).fmod 2305843009213693921) 2305843009213693921 :=
    EI.mod (EI.int (EI.add (EI.add (EI.mul (EI.v (n := 4) rfl b4) (EI.c (B := 70207) (by decide)) (by decide +kernel) (by decide +kernel)) (EI.mul (EI.mul (EI.c (B := 13099) (by decide)) (EI.v (n := 1) rfl hj) (by decide +kernel) (by decide +kernel)) (EI.v (n := 1) rfl hj) (by decide +kernel) (by decide +kernel))) (EI.c (B := 2957) (by decide)))).run (EI.c (B := 2305843009213693921) (by decide)) (by decide)
  have f5 := fmod_pos (small * 70207 + 13099 * Int.ofNat j * Int.ofNat j + 2957) (show (0 : Int) < 2305843009213693921 by decide)
  generalize (small * 70207 + 13099 * Int.ofNat j * Int.ofNat j + 2957).fmod 2305843009213693921 = m at e5 f5
  have le : μ.length ≤ μ1.length := by
    rcases Nat.eq_zero_or_pos μ.length with q | q
    · omega
    · obtain ⟨c, hc⟩ := Store.at_lt (μ := μ) (i := μ.length - 1) (by omega)
      have := Store.lt_of (kp _ _ hc)
      omega
  refine ⟨own, m, μ1.length, μ1 ++ [pot own m 0], pos3, by omega, kp.trans (Keep.push _ _), push_new _ _, le, ?_⟩
  unfold xPot
  refine (seq_n (asg_n (hc _ _ _))).trans ((seq_n (asg_n (e3 _ rfl).run)).trans ((seq_n (asg_n (e4 _ rfl).run)).trans (seq_r (ret_r (is_H (is_N (is_cons (is_V rfl) (is_cons e5.run (is_cons is_C is_nil))) rfl))))))
end Sh
set_option maxRecDepth 100000
set_option maxHeartbeats 4000000
/-! Sh: a law that asks its cells one by one. -/
namespace Sh
open PySem PySem.Spec PyProof.Rows L2

theorem rdL_fl {μ : Store} {n : Nat} {ps : List P} (h : μ.get? n = some (.fl ps)) : rdL μ n = some (ps.map .p) := by
  unfold rdL
  rw [h]
theorem loop_all {el : Ev D} {ρ : Env} {n0 v : Nat} {ds : List D} {I : Store → Prop} (hI : ∀ μ, I μ → rdL μ n0 = some ds) (hs : ∀ (j : Nat) (x : D), ds[j]? = some x → ∀ μ : Store, I μ → ∃ μ', el (put (some x) ρ v) μ = .ok (.p (.bl true)) μ' ∧ I μ') :
    ∀ (k i : Nat) (μ : Store) (acc : List D), i + k = ds.length → I μ → ∃ μ', loopC (.nm v) bYes el ρ (k + 1) (.lst n0 i) μ acc = some (List.replicate k (.p (.bl true)) ++ acc, μ') ∧ I μ'
  | 0, i, μ, acc, hi, hc => by
    refine ⟨μ, ?_, hc⟩
    unfold loopC IterD.step
    dsimp only
    rw [hI _ hc]
    dsimp only
    rw [nth_eq, List.getElem?_eq_none (by omega)]
    rfl
  | k + 1, i, μ, acc, hi, hc => by
    have hl : i < ds.length := by omega
    obtain ⟨μ1, h1, h2⟩ := hs i ds[i] (List.getElem?_eq_getElem hl) μ hc
    obtain ⟨μ2, h3, h4⟩ := loop_all hI hs k (i + 1) μ1 (.p (.bl true) :: acc) (by omega) h2
    refine ⟨μ2, ?_, h4⟩
    unfold loopC IterD.step
    dsimp only
    rw [hI _ hc]
    dsimp only
    rw [nth_eq, List.getElem?_eq_getElem hl]
    show (match el (put (some ds[i]) ρ v) μ with
      | .ok y μ2 => loopC (.nm v) bYes el ρ (k + 1) (.lst n0 (i + 1)) μ2 (y :: acc)
      | _ => none) = _
    rw [h1]
    show loopC (.nm v) bYes el ρ (k + 1) (.lst n0 (i + 1)) μ1 (D.p (.bl true) :: acc) = _
    rw [h3, List.replicate_succ']
    simp
/-- all of what a row of trues tells -/
theorem all_true (k : Nat) (μ : Store) : opAll [.ref μ.length] (μ ++ [mkL (List.replicate k (D.p (.bl true)) ++ []).reverse]) = some (.p (.bl true), μ ++ [mkL (List.replicate k (D.p (.bl true)) ++ []).reverse]) := by
  have hr : ∀ k : Nat, pures (List.replicate k (D.p (.bl true))) = some (List.replicate k (P.bl true)) := by
    intro k
    induction k with
    | zero => rfl
    | succ k ih =>
      rw [List.replicate_succ, List.replicate_succ]
      show (match pures (List.replicate k (D.p (.bl true))) with
        | some xs => some (P.bl true :: xs)
        | none => none) = _
      rw [ih]
  have hb : ∀ k : Nat, blsOf ((List.replicate k (P.bl true)).map D.p) = some (List.replicate k true) := by
    intro k
    induction k with
    | zero => rfl
    | succ k ih =>
      rw [List.replicate_succ, List.replicate_succ]
      show (match blsOf ((List.replicate k (P.bl true)).map D.p) with
        | some is => some (true :: is)
        | none => none) = _
      rw [ih]
  have hk : mkL (List.replicate k (D.p (.bl true)) ++ []).reverse = .fl (List.replicate k (.bl true)) := by
    rw [List.append_nil, List.reverse_replicate]
    unfold mkL
    rw [hr]
  rw [hk]
  unfold opAll rdL
  dsimp only
  rw [push_new]
  dsimp only
  rw [hb]
  simp
/-- [.. for v in row], each true -/
theorem lc_all {el : Ev D} {it : Ev Src} {ρ : Env} {n0 v : Nat} {ds : List D} {I : Store → Prop} {μ μ1 : Store} (h : it ρ μ = .ok (.lst n0 0, none) μ1) (hI : ∀ μ, I μ → rdL μ n0 = some ds) (h1 : I μ1) (hz : ds.length ≤ szMax) (hs : ∀ (j : Nat) (x : D), ds[j]? = some x → ∀ μ : Store, I μ → ∃ μ', el (put (some x) (put none ρ v) v) μ = .ok (.p (.bl true)) μ' ∧ I μ') :
    ∃ μ2, I μ2 ∧ Is (eLc it (.nm v) bYes el [v]) ρ μ (.ref μ2.length) (μ2 ++ [mkL (List.replicate ds.length (D.p (.bl true)) ++ []).reverse]) := by
  obtain ⟨μ2, h4, h5⟩ := loop_all (ρ := put none ρ v) hI hs ds.length 0 μ1 [] (by omega) h1
  refine ⟨μ2, h5, ?_⟩
  unfold Is eLc
  rw [h]
  show (match some μ1 with
    | some μ2 => endC none (loopC (.nm v) bYes el (wipeE ρ [v]) ((IterD.lst n0 0).cnt μ2) (.lst n0 0) μ2 [])
    | none => .bad) = _
  dsimp only
  have hcnt : (IterD.lst n0 0).cnt μ1 = ds.length + 1 := by
    show lenC _ _ = _
    have e := hI _ h1
    unfold rdL at e
    unfold lenC
    split at e
    · rename_i ps hp
      rw [hp]
      cases e
      simp
    · rename_i ps hp
      rw [hp]
      cases e
      rfl
    · cases e
  rw [hcnt]
  have hw : wipeE ρ [v] = put none ρ v := rfl
  rw [hw, h4]
  show (if (List.replicate ds.length (D.p (.bl true)) ++ []).length ≤ szMax then _ else _) = _
  rw [if_pos (by simpa using hz)]
def potC : CE := ceOf [("script" : Str), ("place" : Str)] 5 3 xPot
theorem fz_run {f : Fn} {ds : List D} {μ : Store} {w : Res D} (h : f ds μ = w) : fzF f ds μ = w := (congrFun (congrFun (fzF_eq f) ds) μ).trans h
theorem iso_rol {f : Fn} {ps : List P} {ds : List D} {μ : Store} : isoF f (.rol ps :: ds) μ = f (.rol ps :: ds) μ := rfl
theorem cells_ok (ns : List Int) (μ : Store) : ∃ ps : List P, (∀ (j : Nat) (x : P), ps[j]? = some x → ∃ k : Nat, k ≤ 100 ∧ x = .int (Int.ofNat k)) ∧ ps.length ≤ 3 ∧ fzF (isoF (runB 2 xCells)) [.rol (ns.map P.int), .p (.int 3)] μ = .ok (.ref μ.length) (μ ++ [Cell.fl ps]) := by
  have e0 : ∀ v : Int, (if (ns.map P.int).length < (3 : Int) then ((ns.map P.int).length : Int) else 3) = v → Is (fzE (eN opMax (aCons (eC (.int (1))) (aCons (fzE (eN opMin (aCons (eV 1) (aCons (fzE (eN opLen (aCons (eV 0) aNil))) aNil)))) aNil)))) [some (.rol (ns.map P.int)), some (.p (.int 3))] μ (.p (.int (if v > 1 then v else 1))) μ := by
    rintro v rfl
    exact is_E (is_N (is_cons is_C (is_cons (is_E (is_N (is_cons (is_V rfl) (is_cons (is_E (is_N (is_cons (is_V rfl) is_nil) rfl)) is_nil)) rfl)) is_nil)) rfl)
  have fin : ∀ (v : Int) (ps : List P), Is (fzE (eN opMax (aCons (eC (.int (1))) (aCons (fzE (eN opMin (aCons (eV 1) (aCons (fzE (eN opLen (aCons (eV 0) aNil))) aNil)))) aNil)))) [some (.rol (ns.map P.int)), some (.p (.int 3))] μ (.p (.int v)) μ → rgV2 true 0 v μ = some (.ref μ.length, μ ++ [Cell.fl ps]) →
      fzF (isoF (runB 2 xCells)) [.rol (ns.map P.int), .p (.int 3)] μ = .ok (.ref μ.length) (μ ++ [Cell.fl ps]) := fun v ps h hr => by
    refine fz_run (iso_rol.trans (runB_r ?_))
    unfold xCells
    refine seq_r (ret_r (is_E ?_))
    unfold Is eRg1
    show ((fzE (eN opMax (aCons (eC (.int (1))) (aCons (fzE (eN opMin (aCons (eV 1) (aCons (fzE (eN opLen (aCons (eV 0) aNil))) aNil)))) aNil)))) [some (.rol (ns.map P.int)), some (.p (.int 3))] μ).bind _ = _
    rw [h]
    show Res.ofO (rgV2 true 0 v μ) = _
    rw [hr]
    rfl
  have n0 : ∀ (j : Nat) (x : P), ([.int 0] : List P)[j]? = some x → ∃ k : Nat, k ≤ 100 ∧ x = .int (Int.ofNat k) := fun j x h => by
    match j, h with
    | 0, h => exact ⟨0, by decide, by cases h; rfl⟩
  have n1 : ∀ (j : Nat) (x : P), ([.int 0, .int 1] : List P)[j]? = some x → ∃ k : Nat, k ≤ 100 ∧ x = .int (Int.ofNat k) := fun j x h => by
    match j, h with
    | 0, h => exact ⟨0, by decide, by cases h; rfl⟩
    | 1, h => exact ⟨1, by decide, by cases h; rfl⟩
  have n2 : ∀ (j : Nat) (x : P), ([.int 0, .int 1, .int 2] : List P)[j]? = some x → ∃ k : Nat, k ≤ 100 ∧ x = .int (Int.ofNat k) := fun j x h => by
    match j, h with
    | 0, h => exact ⟨0, by decide, by cases h; rfl⟩
    | 1, h => exact ⟨1, by decide, by cases h; rfl⟩
    | 2, h => exact ⟨2, by decide, by cases h; rfl⟩
  have hl : (ns.map P.int).length = ns.length := List.length_map _
  rcases Nat.lt_or_ge ns.length 2 with q | q
  · have a := e0 ns.length (by rw [hl, if_pos (by omega)])
    rw [if_neg (by omega)] at a
    exact ⟨[.int 0], n0, by decide, fin 1 _ a rfl⟩
  · rcases Nat.lt_or_ge ns.length 3 with q2 | q2
    · have a := e0 2 (by rw [hl, if_pos (by omega)]; omega)
      exact ⟨[.int 0, .int 1], n1, by decide, fin 2 _ a rfl⟩
    · have a := e0 3 (by rw [hl, if_neg (by omega)])
      exact ⟨[.int 0, .int 1, .int 2], n2, by decide, fin 3 _ a rfl⟩
/-- what is asked of a law's own part -/
def RightOk (f : Fn) : Prop := ∀ (μ : Store) (L : Nat) (a m : Int), μ.get? L = some (pot a m 0) → 0 ≤ a → m.natAbs ≤ 2 ^ 61 → ∃ μ', f [.ref L] μ = .ok (.p (.bl true)) μ' ∧ ∀ n c, n ≠ L → μ.get? n = some c → μ'.get? n = some c
def xLaw (fc fp fr : Fn) : Sv := (sSeq (sRet (fzE (eN opAll (aCons (fzE (eLc (itAny (fzH (eCallP fc 2 (aCons (eV 0) (aCons (eC (.int (3))) aNil))))) (.nm 1) bYes (fzH (eCallP fr 1 (aCons (fzH (eCallP fp 2 (aCons (eV 0) (aCons (eV 1) aNil)))) aNil))) [1])) aNil)))) sSkip)
theorem law_run {fr : Fn} (hr : RightOk fr) (ns : List Int) : ∃ μ', fzF (isoF (runB 2 (xLaw (fzF (isoF (runB 2 xCells))) (fzF (isoF (runB 5 xPot))) fr))) [.rol (ns.map P.int)] Store.emp = .ok (.p (.bl true)) μ' := by
  obtain ⟨ps, h1, h2, h3⟩ := cells_ok ns Store.emp
  have hcell : (Store.emp ++ [Cell.fl ps]).get? Store.emp.length = some (.fl ps) := push_new _ _
  have it : itAny (fzH (eCallP (fzF (isoF (runB 2 xCells))) 2 (aCons (eV 0) (aCons (eC (.int (3))) aNil)))) [some (.rol (ns.map P.int)), none] Store.emp = .ok (.lst Store.emp.length 0, none) (Store.emp ++ [Cell.fl ps]) := by
    have e : fzH (eCallP (fzF (isoF (runB 2 xCells))) 2 (aCons (eV 0) (aCons (eC (.int (3))) aNil))) [some (.rol (ns.map P.int)), none] Store.emp = .ok (.ref Store.emp.length) (Store.emp ++ [Cell.fl ps]) := is_HR (is_P (is_cons (is_V rfl) (is_cons is_C is_nil)) rfl h3)
    unfold itAny
    rw [e]
    show srcO (itOf (.ref Store.emp.length) (Store.emp ++ [Cell.fl ps])) _ = _
    unfold itOf
    dsimp only
    rw [hcell]
    rfl
  obtain ⟨μ2, _, h4⟩ := lc_all (v := 1) (el := fzH (eCallP fr 1 (aCons (fzH (eCallP (fzF (isoF (runB 5 xPot))) 2 (aCons (eV 0) (aCons (eV 1) aNil)))) aNil))) (I := fun μ => μ.get? Store.emp.length = some (.fl ps)) (ds := ps.map .p) it (fun μ h => rdL_fl h) hcell (by rw [List.length_map]; unfold szMax; omega) (by
    intro j x hx μ hm
    rw [List.getElem?_map] at hx
    obtain ⟨y, hy, rfl⟩ := Option.map_eq_some_iff.mp hx
    obtain ⟨k, hk, rfl⟩ := h1 j y hy
    obtain ⟨a, m, L, μ1, ha, hmm, kp, hL, hle, hp⟩ := pot_body ns k μ hk
    obtain ⟨μ2, g1, g2⟩ := hr μ1 L a m hL ha hmm
    refine ⟨μ2, is_HR (is_P (is_cons (is_HR (is_P (is_cons (is_V rfl) (is_cons (is_V rfl) is_nil)) rfl (fz_run (iso_rol.trans (runB_r hp))))) is_nil) rfl g1), g2 _ _ ?_ (kp _ _ hm)⟩
    have := Store.lt_of hm
    omega)
  exact ⟨_, fz_run (iso_rol.trans (runB_r (seq_r (ret_r (is_E (is_N (is_cons (is_E h4) is_nil) (all_true _ _)))))))⟩
end Sh
set_option maxRecDepth 100000
set_option maxHeartbeats 4000000
/-! Sh: values of defs kept in tables. -/
namespace Sh
open PySem PySem.Spec PyProof.Rows L2

mutual
def pq : P → P → Bool
  | .non, .non => true
  | .bl a, .bl b => match a, b with
    | true, true => true
    | false, false => true
    | _, _ => false
  | .int i, .int j => decide (i = j)
  | .str s, .str t => lb s t
  | .tup xs, .tup ys => pqs xs ys
  | _, _ => false
def pqs : List P → List P → Bool
  | [], [] => true
  | x :: xs, y :: ys => match pq x y with
    | true => pqs xs ys
    | false => false
  | _, _ => false
end
mutual
theorem pq_eq : ∀ {x y : P}, pq x y = true → x = y
  | .non, .non, _ => rfl
  | .bl true, .bl true, _ => rfl
  | .bl false, .bl false, _ => rfl
  | .int i, .int j, h => by
    unfold pq at h
    rw [of_decide_eq_true h]
  | .str s, .str t, h => by
    unfold pq at h
    rw [lb_eq h]
  | .tup xs, .tup ys, h => by
    unfold pq at h
    rw [pqs_eq h]
  | .bl true, .bl false, h => by cases h
  | .bl false, .bl true, h => by cases h
  | .non, .bl _, h => by cases h
  | .non, .int _, h => by cases h
  | .non, .str _, h => by cases h
  | .non, .tup _, h => by cases h
  | .bl _, .non, h => by cases h
  | .bl _, .int _, h => by cases h
  | .bl _, .str _, h => by cases h
  | .bl _, .tup _, h => by cases h
  | .int _, .non, h => by cases h
  | .int _, .bl _, h => by cases h
  | .int _, .str _, h => by cases h
  | .int _, .tup _, h => by cases h
  | .str _, .non, h => by cases h
  | .str _, .bl _, h => by cases h
  | .str _, .int _, h => by cases h
  | .str _, .tup _, h => by cases h
  | .tup _, .non, h => by cases h
  | .tup _, .bl _, h => by cases h
  | .tup _, .int _, h => by cases h
  | .tup _, .str _, h => by cases h
theorem pqs_eq : ∀ {x y : List P}, pqs x y = true → x = y
  | [], [], _ => rfl
  | x :: xs, y :: ys, h => by
    unfold pqs at h
    split at h
    · rename_i e
      rw [pq_eq e, pqs_eq h]
    · cases h
  | [], _ :: _, h => by cases h
  | _ :: _, [], h => by cases h
end
/-- what a def gives by itself it gives beside any store -/
def Alone (f : Fn) : Prop := ∀ (ps : List P) (y : P) (μ1 μ : Store), f (ps.map .p) Store.emp = .ok (.p y) μ1 → f (ps.map .p) μ = .ok (.p y) μ
theorem loc_ps {μ : Store} : ∀ (xs : List P) (ids : List Nat) (cs : List Cell), locA μ (xs.map .p) ids cs = some (xs.map .p, ids, cs)
  | [], ids, cs => rfl
  | y :: ys, ids, cs => by
    show (match locA μ (ys.map .p) ids cs with
      | some (ds, z) => some (D.p y :: ds, z)
      | none => none) = _
    rw [loc_ps ys]
    rfl
theorem iso_ok1 {f : Fn} {ps : List P} {y : P} {μ μ1 : Store} (h : f (ps.map .p) Store.emp = .ok (.p y) μ1) : isoF f (ps.map .p) μ = .ok (.p y) μ := by
  unfold isoF
  rw [loc_ps]
  dsimp only
  have e : Store.of [] = Store.emp := rfl
  rw [e, h]
  rfl
theorem iso_exc1 {f : Fn} {ps : List P} {y : P} {c : Str} {μ μ1 : Store} (h : f (ps.map .p) Store.emp = .exc c (.p y) μ1) : isoF f (ps.map .p) μ = .exc c (.p y) μ := by
  unfold isoF
  rw [loc_ps]
  dsimp only
  have e : Store.of [] = Store.emp := rfl
  rw [e, h]
  rfl
theorem alone_iso (f : Fn) : Alone (fzF (isoF f)) := fun ps y μ1 μ h => by
  rw [fzF_eq] at h ⊢
  cases hf : f (ps.map .p) Store.emp with
  | ok d μ2 =>
    cases d with
    | p x =>
      rw [iso_ok1 hf] at h
      cases h
      exact iso_ok1 hf
    | ref m =>
      exfalso
      unfold isoF at h
      rw [loc_ps] at h
      dsimp only at h
      have e : Store.of [] = Store.emp := rfl
      rw [e, hf] at h
      dsimp only at h
      have eb : backA μ2 ([] : List Nat).length 0 = some [] := rfl
      rw [eb] at h
      dsimp only at h
      split at h
      · split at h
        · split at h
          · cases h
          · unfold moved at h
            split at h
            · cases h
            · cases h
        · cases h
      · cases h
    | mix q => exfalso; unfold isoF at h; rw [loc_ps] at h; dsimp only at h; have e : Store.of [] = Store.emp := rfl; rw [e, hf] at h; dsimp only at h; have eb : backA μ2 ([] : List Nat).length 0 = some [] := rfl; rw [eb] at h; dsimp only at h; cases h
    | exc n q => exfalso; unfold isoF at h; rw [loc_ps] at h; dsimp only at h; have e : Store.of [] = Store.emp := rfl; rw [e, hf] at h; dsimp only at h; have eb : backA μ2 ([] : List Nat).length 0 = some [] := rfl; rw [eb] at h; dsimp only at h; cases h
    | rol q => exfalso; unfold isoF at h; rw [loc_ps] at h; dsimp only at h; have e : Store.of [] = Store.emp := rfl; rw [e, hf] at h; dsimp only at h; have eb : backA μ2 ([] : List Nat).length 0 = some [] := rfl; rw [eb] at h; dsimp only at h; cases h
  | exc c d μ2 =>
    exfalso
    unfold isoF at h
    rw [loc_ps] at h
    dsimp only at h
    have e : Store.of [] = Store.emp := rfl
    rw [e, hf] at h
    dsimp only at h
    split at h
    · have eb : backA μ2 ([] : List Nat).length 0 = some [] := rfl
      rw [eb] at h
      cases h
    · cases h
  | bad =>
    exfalso
    unfold isoF at h
    rw [loc_ps] at h
    dsimp only at h
    have e : Store.of [] = Store.emp := rfl
    rw [e, hf] at h
    cases h
def lkT (ps : List P) : List (List P × P) → Option P
  | [] => none
  | e :: r => match pqs ps e.1 with
    | true => some e.2
    | false => lkT ps r
def tabF (tb : List (List P × P)) (f : Fn) : Fn := fun ds μ => match pures ds with
  | some ps => match lkT ps tb with
    | some y => .ok (.p y) μ
    | none => f ds μ
  | none => f ds μ
def tabC (tb : List (List P × P)) (c : CE) : CE := ⟨c.ps, c.lvl, tabF tb c.run⟩
def isT (y : P) : Res D → Bool
  | .ok (.p x) _ => pq x y
  | _ => false
def chkT (f : Fn) : List (List P × P) → Bool
  | [] => true
  | e :: r => match isT e.2 (f (e.1.map .p) Store.emp) with
    | true => chkT f r
    | false => false
def tApp (a b : List (List P × P)) : List (List P × P) := a ++ b
theorem chkT_app {f : Fn} : ∀ {a b : List (List P × P)}, chkT f a = true → chkT f b = true → chkT f (tApp a b) = true
  | [], b, _, h => h
  | e :: r, b, h, h2 => by
    unfold chkT at h
    show (match isT e.2 (f (e.1.map .p) Store.emp) with
      | true => chkT f (tApp r b)
      | false => false) = true
    split at h
    · exact chkT_app h h2
    · cases h
theorem chkT_at {f : Fn} : ∀ {tb : List (List P × P)} {ps : List P} {y : P}, chkT f tb = true → lkT ps tb = some y → ∃ μ1, f (ps.map .p) Store.emp = .ok (.p y) μ1
  | [], _, _, _, h => by cases h
  | e :: r, ps, y, h, h2 => by
    unfold chkT at h
    unfold lkT at h2
    split at h
    · rename_i q
      split at h2
      · rename_i q2
        cases h2
        rw [pqs_eq q2]
        unfold isT at q
        split at q
        · rename_i x μ1 hx
          rw [hx, pq_eq q]
          exact ⟨_, rfl⟩
        · cases q
      · exact chkT_at h h2
    · cases h
theorem tabC_eq {c : CE} {tb : List (List P × P)} {f : Fn} (hf : c.run = fzF (isoF f)) (h : chkT c.run tb = true) : tabC tb c = c := by
  have e : tabF tb c.run = c.run := by
    funext ds μ
    unfold tabF
    split
    · rename_i ps hp
      split
      · rename_i y hy
        obtain ⟨μ1, q⟩ := chkT_at h hy
        have ed := pures_eq hp
        subst ed
        have al : Alone c.run := by rw [hf]; exact alone_iso f
        exact (al _ _ _ μ q).symm
      · rfl
    · rfl
  unfold tabC
  rw [e]
end Sh
namespace Sh
open PySem PySem.Spec PyProof.Rows L2
/-! ### rows of statements -/
def seqs : List Sv → Sv → Sv
  | [], e => e
  | s :: r, e => sSeq s (seqs r e)
theorem sThen_seq {r : SRes} {s e : Sv} : sThen r (sSeq s e) = sThen (sThen r s) e := by
  cases r <;> rfl
theorem seqs_app : ∀ (l : List Sv) (e : Sv) (ρ : Env) (μ : Store), seqs l e ρ μ = sThen (seqs l sSkip ρ μ) e
  | [], e, ρ, μ => rfl
  | s :: r, e, ρ, μ => by
    show sThen (s ρ μ) (seqs r e) = sThen (sThen (s ρ μ) (seqs r sSkip)) e
    cases s ρ μ with
    | next ρ1 μ1 => exact seqs_app r e ρ1 μ1
    | _ => rfl
def xOf (ft : Fn) : Sv := (sSeq (sRet (fzH (e2 opIx (eV 1) (fzH (eCallP ft 2 (aCons (eV 0) (aCons (fzE (eN opLen (aCons (eV 1) aNil))) aNil))))))) sSkip)
/-- a draw -/
theorem take_fn {μ : Store} {n : Nat} {a m c k : Int} {N : Nat} (hμ : μ.get? n = some (pot a m c)) (ha : 0 ≤ a) (hm : m.natAbs ≤ 2 ^ 61) (hc : c.natAbs ≤ N) (hN : N < 2 ^ 60) (hk : 0 < k) (hk2 : k.natAbs ≤ 2 ^ 60) :
    ∃ d a' c' : Int, 0 ≤ d ∧ d < k ∧ 0 ≤ a' ∧ c'.natAbs ≤ N + 1 ∧ fzF (isoF (runB 5 xTake)) [.ref n, .p (.int k)] μ = .ok (.p (.int d)) (μ.set n (pot a' m c')) := by
  obtain ⟨d, a', c', μ', h1, h2, h3, h4, h5, h6⟩ := take_body ha hm hc hN hk hk2
  exact ⟨d, a', c', h1, h2, h3, h4, fz_run (iso1 (xs := [.int k]) hμ rfl rfl (runB_r h6) h5)⟩
theorem get_set {μ : Store} {n m : Nat} {c : Cell} (h : n < μ.length) : (μ.set n c).get? m = if m = n then some c else μ.get? m := Store.set_at μ n c m h
/-- a draw out of a row that bears rows -/
theorem of_dl {μ : Store} {n L : Nat} {a m c : Int} {N : Nat} {ds : List D} (hμ : μ.get? n = some (pot a m c)) (ha : 0 ≤ a) (hm : m.natAbs ≤ 2 ^ 61) (hc : c.natAbs ≤ N) (hN : N < 2 ^ 60) (hL : μ.get? L = some (.dl ds)) (hd : 0 < ds.length) (hd2 : ds.length ≤ 2 ^ 60) :
    ∃ (j : Nat) (d : D) (a' c' : Int), ds[j]? = some d ∧ 0 ≤ a' ∧ c'.natAbs ≤ N + 1 ∧ fzF (isoF (runB 2 (xOf (fzF (isoF (runB 5 xTake)))))) [.ref n, .ref L] μ = .ok d (μ.set n (pot a' m c')) := by
  have hn := Store.lt_of hμ
  obtain ⟨d, a', c', h1, h2, h3, h4, h5⟩ := take_fn (k := (ds.length : Int)) hμ ha hm hc hN (by omega) (by omega)
  have hj : d.toNat < ds.length := by omega
  have ne : L ≠ n := fun z => by
    rw [z, hμ] at hL
    cases hL
  have hloc : locA μ [.ref n, .ref L] [] [] = none := by
    unfold locA
    dsimp only
    rw [hμ]
    show (match locA μ [.ref L] [n] [pot a m c] with
      | some (ds, z) => some (D.ref 0 :: ds, z)
      | none => none) = _
    unfold locA
    dsimp only
    rw [hL]
    rfl
  refine ⟨d.toNat, ds[d.toNat], a', c', List.getElem?_eq_getElem hj, h3, h4, fz_run ?_⟩
  unfold isoF
  rw [hloc]
  dsimp only
  refine runB_r ?_
  unfold xOf
  have e1 : Is (fzE (eN opLen (aCons (eV 1) aNil))) [some (.ref n), some (.ref L)] μ (.p (.int ds.length)) μ := by
    refine is_E (is_N (is_cons (is_V rfl) is_nil) ?_)
    unfold opLen
    dsimp only
    unfold rdL
    rw [hL]
  refine seq_r (ret_r (is_H (is_2 (is_V rfl) (is_HR (is_P (is_cons (is_V rfl) (is_cons e1 is_nil)) rfl h5)) ?_)))
  have hr : rdL (μ.set n (pot a' m c')) L = some ds := by
    unfold rdL
    rw [get_set hn, if_neg ne, hL]
  have hi : ixN ds.length d = some d.toNat := by
    unfold ixN
    rw [if_pos h1, if_pos h2]
  unfold opIx
  dsimp only
  rw [hr]
  dsimp only
  rw [hi]
  dsimp only
  rw [nth_eq, List.getElem?_eq_getElem hj]
end Sh
set_option maxRecDepth 100000
set_option maxHeartbeats 4000000
/-! Sh: the module's constants. -/
namespace Sh
open PySem PySem.Spec PyProof.Rows L2

mutual
def repB (K : PySem.W.Frag) : P → Value → Bool
  | .non, .none => true
  | .bl b, .bool c => decide (b = c)
  | .int i, .int j _ => decide (i = j)
  | .str s, .str t _ => lb s t.cps.toList
  | .tup ps, .ref a => match K.lookup a with
    | some ⟨.type c, _, .seq its _, _⟩ => decide (c = "tuple") && (decide (its.size ≤ sizeLine) && repsB K ps its.toList)
    | _ => false
  | _, _ => false
def repsB (K : PySem.W.Frag) : List P → List Value → Bool
  | [], [] => true
  | p :: ps, u :: us => repB K p u && repsB K ps us
  | _, _ => false
end
mutual
theorem repB_ok {K : PySem.W.Frag} : ∀ {p : P} {u : Value}, repB K p u = true → ∃ v, RelV v u ∧ ∀ H, RepP K H p v
  | .non, u, h => by
    cases u with
    | none => exact ⟨.non, rfl, fun _ => .non⟩
    | _ => cases h
  | .bl b, u, h => by
    cases u with
    | bool c =>
      have e : b = c := of_decide_eq_true h
      subst e
      exact ⟨.bl b, rfl, fun _ => .bl b⟩
    | _ => cases h
  | .int i, u, h => by
    cases u with
    | int j t =>
      have e : i = j := of_decide_eq_true h
      subst e
      exact ⟨.int i, ⟨t, rfl⟩, fun _ => .int i⟩
    | _ => cases h
  | .str s, u, h => by
    cases u with
    | str x t =>
      have e : s = x.cps.toList := lb_eq h
      subst e
      exact ⟨.str x, ⟨t, rfl⟩, fun H => str_rep x H⟩
    | _ => cases h
  | .tup ps, u, h => by
    cases u with
    | ref a =>
      unfold repB at h
      split at h
      · rename_i c od its n osl q
        simp only [Bool.and_eq_true, decide_eq_true_eq] at h
        obtain ⟨h1, h2, h3⟩ := h
        obtain ⟨vs, r1, r2⟩ := repsB_ok h3
        exact ⟨.ref a, rfl, fun H => .tup (.inr ⟨_, its, n, q, congrArg Value.type h1, rfl, h2, r1⟩) (r2 H)⟩
      · cases h
    | _ => cases h
theorem repsB_ok {K : PySem.W.Frag} : ∀ {ps : List P} {us : List Value}, repsB K ps us = true → ∃ vs, Vals vs us ∧ ∀ H, RepPs K H ps vs
  | [], [], _ => ⟨[], .nil, fun _ => .nil⟩
  | p :: ps, u :: us, h => by
    unfold repsB at h
    obtain ⟨h1, h2⟩ := Bool.and_eq_true_iff.mp h
    obtain ⟨v, a1, a2⟩ := repB_ok h1
    obtain ⟨vs, b1, b2⟩ := repsB_ok h2
    exact ⟨v :: vs, .cons a1 b1, fun H => .cons (a2 H) (b2 H)⟩
  | [], _ :: _, h => by cases h
  | _ :: _, [], h => by cases h
end
/-- the module's name x stands for p -/
def conB (K : PySem.W.Frag) (x : Str) (p : P) : Bool := match PySem.W.nsIn K mainGlobals x with
  | some (some u) => repB K p u
  | _ => false
theorem conB_ok {K : PySem.W.Frag} {h : Heap} {mg : Str → Option Value} (X : K.In h) (G : h.Ns mainGlobals mg) {x : Str} {p : P} (c : conB K x p = true) : ∃ u v, mg x = some u ∧ RelV v u ∧ ∀ H, RepP K H p v := by
  unfold conB at c
  split at c
  · rename_i u e
    obtain ⟨v, h1, h2⟩ := repB_ok c
    exact ⟨u, v, PySem.W.mg_of X G e, h1, h2⟩
  · cases c
end Sh
set_option maxRecDepth 100000
set_option maxHeartbeats 4000000
/-! Sh: fractions: what the program's own small defs tell, at once. -/
namespace Sh
open PySem PySem.Spec PyProof.Rows L2

/-! ### values told at once -/
def sumF (fast : List D → Option P) (f : Fn) : Fn := fun ds μ => match fast ds with
  | some y => seqP y fun y => .ok (.p y) μ
  | none => f ds μ
def sumC (fast : List D → Option P) (c : CE) : CE := ⟨c.ps, c.lvl, sumF fast c.run⟩
def Tells (f : Fn) (fast : List D → Option P) : Prop := ∀ ds y μ, fast ds = some y → f ds μ = .ok (.p y) μ
theorem sumC_eq {c : CE} {fast : List D → Option P} (h : Tells c.run fast) : sumC fast c = c := by
  have e : sumF fast c.run = c.run := by
    funext ds μ
    unfold sumF
    split
    · rename_i y hy
      rw [seqP_eq]
      exact (h ds y μ hy).symm
    · rfl
  unfold sumC
  rw [e]
theorem tells_iso {f : Fn} {ps : List P} {y : P} {μ μ1 : Store} (h : f (ps.map .p) Store.emp = .ok (.p y) μ1) : fzF (isoF f) (ps.map .p) μ = .ok (.p y) μ := fz_run (iso_ok1 h)

/-! ### the greatest divisor -/
def gcdI (a b : Int) : Int := Int.ofNat (Nat.gcd a.natAbs b.natAbs)
def xDivisor : Sv := (sSeq (sPar 0 1 (aCons (fzE (eN opAbs (aCons (eV 0) aNil))) (aCons (fzE (eN opAbs (aCons (eV 1) aNil))) aNil))) (sSeq (sWhile whileN (eTest (e2 opNeA (eV 1) (eC (.int (0))))) (sSeq (sPar 0 1 (aCons (eV 1) (aCons (fzE (e2 opMod (eV 0) (eV 1))) aNil))) sSkip)) (sSeq (sRet (eV 0)) sSkip)))
theorem eqI {μ : Store} (i j : Int) : opEqA (.p (.int i)) (.p (.int j)) μ = some (.p (.bl (i == j)), μ) := rfl
theorem neI {μ : Store} (i j : Int) : opNeA (.p (.int i)) (.p (.int j)) μ = some (.p (.bl (!(i == j))), μ) := rfl
theorem absI (a : Int) : (if a < 0 then -a else a) = Int.ofNat a.natAbs := by
  show (if a < 0 then -a else a) = (a.natAbs : Int)
  split <;> omega
theorem par_n {ρ : Env} {μ μ1 : Store} {i j : Nat} {a : Ev (List D)} {x y : D} (h : Is a ρ μ [x, y] μ1) : sPar i j a ρ μ = .next (put (some y) (put (some x) ρ i) j) μ1 := by
  unfold sPar
  rw [h]
  rfl
theorem div_loop : ∀ (k n x y : Nat) (μ : Store), y < 2 ^ k → 2 * k + 2 ≤ n →
    loopW (eTest (e2 opNeA (eV 1) (eC (.int (0))))) (sSeq (sPar 0 1 (aCons (eV 1) (aCons (fzE (e2 opMod (eV 0) (eV 1))) aNil))) sSkip) n [some (.p (.int (Int.ofNat x))), some (.p (.int (Int.ofNat y)))] μ = .next [some (.p (.int (Int.ofNat (Nat.gcd x y)))), some (.p (.int 0))] μ := by
  have stop : ∀ (n x : Nat) (μ : Store), loopW (eTest (e2 opNeA (eV 1) (eC (.int (0))))) (sSeq (sPar 0 1 (aCons (eV 1) (aCons (fzE (e2 opMod (eV 0) (eV 1))) aNil))) sSkip) (n + 1) [some (.p (.int (Int.ofNat x))), some (.p (.int (Int.ofNat 0)))] μ = .next [some (.p (.int (Int.ofNat (Nat.gcd x 0)))), some (.p (.int 0))] μ := fun n x μ => by
    rw [Nat.gcd_zero_right]
    rfl
  have go : ∀ (n x y : Nat) (μ : Store), y ≠ 0 → loopW (eTest (e2 opNeA (eV 1) (eC (.int (0))))) (sSeq (sPar 0 1 (aCons (eV 1) (aCons (fzE (e2 opMod (eV 0) (eV 1))) aNil))) sSkip) (n + 1) [some (.p (.int (Int.ofNat x))), some (.p (.int (Int.ofNat y)))] μ = loopW (eTest (e2 opNeA (eV 1) (eC (.int (0))))) (sSeq (sPar 0 1 (aCons (eV 1) (aCons (fzE (e2 opMod (eV 0) (eV 1))) aNil))) sSkip) n [some (.p (.int (Int.ofNat y))), some (.p (.int (Int.ofNat (x % y))))] μ := fun n x y μ hy => by
    have e0 : (Int.ofNat y == 0) = false := by
      rw [beq_eq_false_iff_ne]
      intro z
      exact hy (by have : (y : Int) = 0 := z; omega)
    have ec : Is (eTest (e2 opNeA (eV 1) (eC (.int (0))))) [some (.p (.int (Int.ofNat x))), some (.p (.int (Int.ofNat y)))] μ true μ := is_Test (is_2 (is_V rfl) is_C (by rw [neI, e0]; rfl))
    have em : opMod (.p (.int (Int.ofNat x))) (.p (.int (Int.ofNat y))) μ = some (.p (.int (Int.ofNat (x % y))), μ) := by
      unfold opMod
      dsimp only
      have em2 : (Int.ofNat x).fmod (Int.ofNat y) = Int.ofNat (x % y) := (Int.fmod_eq_emod_of_nonneg (x : Int) (Int.natCast_nonneg y)).trans rfl
      rw [if_neg (by intro z; exact hy (by have : (y : Int) = 0 := z; omega)), em2]
    have eb : sSeq (sPar 0 1 (aCons (eV 1) (aCons (fzE (e2 opMod (eV 0) (eV 1))) aNil))) sSkip [some (.p (.int (Int.ofNat x))), some (.p (.int (Int.ofNat y)))] μ = .next [some (.p (.int (Int.ofNat y))), some (.p (.int (Int.ofNat (x % y))))] μ :=
      (seq_n (par_n (is_cons (is_V rfl) (is_cons (is_E (is_2 (is_V rfl) (is_V rfl) em)) is_nil)))).trans rfl
    show sOf (eTest (e2 opNeA (eV 1) (eC (.int (0)))) _ μ) _ _ = _
    rw [ec]
    show (match sSeq (sPar 0 1 (aCons (eV 1) (aCons (fzE (e2 opMod (eV 0) (eV 1))) aNil))) sSkip _ μ with
      | .next ρ2 μ2 => loopW _ _ n ρ2 μ2
      | .cont ρ2 μ2 => loopW _ _ n ρ2 μ2
      | .brk ρ2 μ2 => .next ρ2 μ2
      | r => r) = _
    rw [eb]
  intro k
  induction k with
  | zero =>
    intro n x y μ h1 h2
    have : y = 0 := by omega
    subst this
    obtain ⟨m, rfl⟩ : ∃ m, n = m + 1 := ⟨n - 1, by omega⟩
    exact stop m x μ
  | succ k ih =>
    intro n x y μ h1 h2
    obtain ⟨m, rfl⟩ : ∃ m, n = m + 2 := ⟨n - 2, by omega⟩
    by_cases hy : y = 0
    · subst hy
      exact stop (m + 1) x μ
    · rw [go (m + 1) x y μ hy]
      have g1 : Nat.gcd x y = Nat.gcd y (x % y) := by rw [Nat.gcd_comm x y, Nat.gcd_rec y x, Nat.gcd_comm]
      by_cases hr : x % y = 0
      · rw [hr] at g1 ⊢
        rw [g1]
        exact stop m y μ
      · rw [go m y (x % y) μ hr]
        have g2 : Nat.gcd y (x % y) = Nat.gcd (x % y) (y % (x % y)) := by rw [Nat.gcd_comm y (x % y), Nat.gcd_rec (x % y) y, Nat.gcd_comm]
        rw [g1, g2]
        refine ih m (x % y) (y % (x % y)) μ ?_ (by omega)
        have a1 := Nat.mod_lt x (Nat.pos_of_ne_zero hy)
        have a2 := Nat.mod_lt y (Nat.pos_of_ne_zero hr)
        have a3 : y % (x % y) + (x % y) ≤ y := by
          have d := Nat.div_add_mod y (x % y)
          have q : 1 ≤ y / (x % y) := Nat.div_pos (Nat.le_of_lt a1) (Nat.pos_of_ne_zero hr)
          have mm : (x % y) * 1 ≤ (x % y) * (y / (x % y)) := Nat.mul_le_mul_left _ q
          omega
        rw [Nat.pow_succ] at h1
        omega
theorem sm_lt {k n : Nat} (h : sm k n = true) : n < 2 ^ k := Nat.le_of_ble_eq_true h
def DivOk (f : Fn) : Prop := ∀ (a b : Int) (μ : Store), sm 8000 b.natAbs = true → f [.p (.int a), .p (.int b)] μ = .ok (.p (.int (gcdI a b))) μ
theorem div_ok : DivOk (fzF (isoF (runB 2 xDivisor))) := fun a b μ h => by
  refine tells_iso (ps := [.int a, .int b]) (μ1 := Store.emp) (runB_r ?_)
  unfold xDivisor
  have e1 : Is (aCons (fzE (eN opAbs (aCons (eV 0) aNil))) (aCons (fzE (eN opAbs (aCons (eV 1) aNil))) aNil)) [some (.p (.int a)), some (.p (.int b))] Store.emp [.p (.int (Int.ofNat a.natAbs)), .p (.int (Int.ofNat b.natAbs))] Store.emp := by
    have ab : ∀ z : Int, opAbs [.p (.int z)] Store.emp = some (.p (.int (Int.ofNat z.natAbs)), Store.emp) := fun z => by
      rw [← absI]
      rfl
    exact is_cons (is_E (is_N (is_cons (is_V rfl) is_nil) (ab a))) (is_cons (is_E (is_N (is_cons (is_V rfl) is_nil) (ab b))) is_nil)
  refine (seq_n (par_n e1)).trans ?_
  exact (seq_n (div_loop 8000 whileN a.natAbs b.natAbs Store.emp (sm_lt h) (by unfold whileN; omega))).trans (seq_r (ret_r (is_V rfl)))
def fDiv : List D → Option P
  | [.p (.int a), .p (.int b)] => match sm 8000 b.natAbs with
    | true => some (.int (Int.ofNat (Nat.gcd a.natAbs b.natAbs)))
    | false => none
  | _ => none
theorem div_tells {f : Fn} (h : DivOk f) : Tells f fDiv := fun ds y μ e => by
  unfold fDiv at e
  split at e
  · split at e
    · rename_i hs
      cases e
      exact h _ _ _ hs
    · cases e
  · cases e

/-! ### lowest terms -/
def sgG (t b : Int) : Int := if b < 0 then -gcdI t b else gcdI t b
def mkFr (t b : Int) : P := .tup [.int (t.fdiv (sgG t b)), .int (b.fdiv (sgG t b))]
def xFraction (fd : Fn) : Sv := (sSeq (sAsg (fzH (eCallP fd 2 (aCons (eV 0) (aCons (eV 1) aNil)))) (gNm 2)) (sSeq (sIf (eTest (e2 opLt (eV 1) (eC (.int (0))))) (sSeq (sAsg (fzE (e1 opNeg (eV 2))) (gNm 2)) sSkip) sSkip) (sSeq (sRet (fzH (eN opTup (aCons (fzE (e2 opDiv (eV 0) (eV 2))) (aCons (fzE (e2 opDiv (eV 1) (eV 2))) aNil))))) sSkip)))
def FracOk (f : Fn) : Prop := ∀ (t b : Int) (μ : Store), b ≠ 0 → sm 8000 b.natAbs = true → f [.p (.int t), .p (.int b)] μ = .ok (.p (mkFr t b)) μ
theorem gcdI_le {t b : Int} (h : b ≠ 0) : (gcdI t b).natAbs ≤ b.natAbs ∧ gcdI t b ≠ 0 := by
  have p : 0 < b.natAbs := Int.natAbs_pos.mpr h
  have q : Nat.gcd t.natAbs b.natAbs ≤ b.natAbs := Nat.gcd_le_right _ p
  have r : 0 < Nat.gcd t.natAbs b.natAbs := Nat.gcd_pos_of_pos_right _ p
  refine ⟨q, ?_⟩
  show ((Nat.gcd t.natAbs b.natAbs : Nat) : Int) ≠ 0
  omega
theorem sgG_le {t b : Int} (h : b ≠ 0) : (sgG t b).natAbs ≤ b.natAbs ∧ sgG t b ≠ 0 := by
  obtain ⟨h1, h2⟩ := gcdI_le (t := t) h
  unfold sgG
  split
  · rw [Int.natAbs_neg]
    exact ⟨h1, by omega⟩
  · exact ⟨h1, h2⟩
theorem sm_up {j k n : Nat} (h : sm j n = true) (hk : j ≤ k) : sm k n = true := Nat.ble_eq_true_of_le (Nat.le_trans (sm_lt h) (Nat.pow_le_pow_right (by decide) hk))
theorem divO {μ : Store} {i j : Int} (h : j ≠ 0) (hs : sm 9000 j.natAbs = true) : opDiv (.p (.int i)) (.p (.int j)) μ = some (.p (.int (i.fdiv j)), μ) := by
  unfold opDiv
  dsimp only
  rw [if_neg h, if_pos hs]
theorem frac_ok {fd : Fn} (hd : DivOk fd) : FracOk (fzF (isoF (runB 3 (xFraction fd)))) := fun t b μ h hs => by
  obtain ⟨g1, g2⟩ := sgG_le (t := t) h
  have g3 : sm 9000 (sgG t b).natAbs = true := sm_up (j := 8000) (Nat.ble_eq_true_of_le (Nat.le_trans (Nat.succ_le_succ g1) (Nat.le_of_ble_eq_true hs))) (by decide)
  refine tells_iso (ps := [.int t, .int b]) (μ1 := Store.emp) (runB_r ?_)
  unfold xFraction
  refine (seq_n (asg_n (is_HR (is_P (is_cons (is_V rfl) (is_cons (is_V rfl) is_nil)) rfl (hd t b Store.emp hs))))).trans ?_
  have mid : (sIf (eTest (e2 opLt (eV 1) (eC (.int (0))))) (sSeq (sAsg (fzE (e1 opNeg (eV 2))) (gNm 2)) sSkip) sSkip) [some (.p (.int t)), some (.p (.int b)), some (.p (.int (gcdI t b)))] Store.emp = .next [some (.p (.int t)), some (.p (.int b)), some (.p (.int (sgG t b)))] Store.emp := by
    unfold sgG
    by_cases q : b < 0
    · rw [if_pos q]
      exact (if_t (is_Test (is_2 (is_V rfl) is_C (ltIt q)))).trans ((seq_n (asg_n (is_E (is_1 (is_V rfl) rfl)))).trans rfl)
    · rw [if_neg q]
      exact (if_f (is_Test (is_2 (is_V rfl) is_C (ltIf q)))).trans rfl
  refine (seq_n mid).trans (seq_r (ret_r (is_H (is_N (is_cons (is_E (is_2 (is_V rfl) (is_V rfl) (divO g2 g3))) (is_cons (is_E (is_2 (is_V rfl) (is_V rfl) (divO g2 g3))) is_nil)) rfl))))
def fracV (t b : Int) : Option P := match decide (b = 0) with
  | true => none
  | false => match sm 8000 b.natAbs with
    | true => some (mkFr t b)
    | false => none
theorem fracV_ok {f : Fn} (h : FracOk f) {t b : Int} {y : P} {μ : Store} (e : fracV t b = some y) : f [.p (.int t), .p (.int b)] μ = .ok (.p y) μ := by
  unfold fracV at e
  split at e
  · cases e
  · rename_i hb
    split at e
    · rename_i hs
      cases e
      exact h t b μ (of_decide_eq_false hb) hs
    · cases e
def fFrac : List D → Option P
  | [.p (.int a), .p (.int b)] => fracV a b
  | _ => none
theorem frac_tells {f : Fn} (h : FracOk f) : Tells f fFrac := fun ds y μ e => by
  unfold fFrac at e
  split at e
  · exact fracV_ok h e
  · cases e

/-! ### two fractions -/
abbrev fr (a b : Int) : P := .tup [.int a, .int b]
def smA (a b c d : Int) : Bool := sm 200000 a.natAbs && (sm 200000 b.natAbs && (sm 200000 c.natAbs && sm 200000 d.natAbs))
theorem smA_ok {a b c d : Int} (h : smA a b c d = true) : sm 400000 a.natAbs = true ∧ sm 400000 b.natAbs = true ∧ sm 400000 c.natAbs = true ∧ sm 400000 d.natAbs = true := by
  unfold smA at h
  simp only [Bool.and_eq_true] at h
  obtain ⟨h1, h2, h3, h4⟩ := h
  exact ⟨sm_up h1 (by decide), sm_up h2 (by decide), sm_up h3 (by decide), sm_up h4 (by decide)⟩
def f2 (g : Int → Int → Int → Int → Option P) : List D → Option P
  | [.p (.tup [.int a, .int b]), .p (.tup [.int c, .int d])] => match smA a b c d with
    | true => g a b c d
    | false => none
  | _ => none
theorem f2_at {g : Int → Int → Int → Int → Option P} {a b c d : Int} (h : smA a b c d = true) : f2 g [.p (.tup [.int a, .int b]), .p (.tup [.int c, .int d])] = g a b c d := by
  unfold f2
  split
  · rename_i q
    cases q
    split
    · rfl
    · rename_i q2
      rw [h] at q2
      cases q2
  · rename_i q
    exact absurd rfl (q _ _ _ _)
theorem f2_ok {g : Int → Int → Int → Int → Option P} {f : Fn} (h : ∀ a b c d y μ, smA a b c d = true → g a b c d = some y → f [.p (fr a b), .p (fr c d)] μ = .ok (.p y) μ) : Tells f (f2 g) := fun ds y μ e => by
  unfold f2 at e
  split at e
  · split at e
    · rename_i hs
      exact h _ _ _ _ _ _ hs e
    · cases e
  · cases e
theorem ixT0 {μ : Store} (a b : P) : opIx (.p (.tup [a, b])) (.p (.int 0)) μ = some (.p a, μ) := rfl
theorem ixT1 {μ : Store} (a b : P) : opIx (.p (.tup [a, b])) (.p (.int 1)) μ = some (.p b, μ) := rfl
section
variable {a b c d : Int} {ρ : Env} {μ : Store} {i j : Nat}
theorem ix0 {x y : P} (h : nth ρ i = some (some (.p (.tup [x, y])))) : Is (fzH (e2 opIx (eV i) (eC (.int (0))))) ρ μ (.p x) μ := is_H (is_2 (is_V h) is_C (ixT0 _ _))
theorem ix1 {x y : P} (h : nth ρ i = some (some (.p (.tup [x, y])))) : Is (fzH (e2 opIx (eV i) (eC (.int (1))))) ρ μ (.p y) μ := is_H (is_2 (is_V h) is_C (ixT1 _ _))
theorem is_mul {ea eb : Ev D} (ha : Is ea ρ μ (.p (.int a)) μ) (hb : Is eb ρ μ (.p (.int b)) μ) (h1 : sm 400000 a.natAbs = true) (h2 : sm 400000 b.natAbs = true) : Is (fzE (e2 opMulA ea eb)) ρ μ (.p (.int (a * b))) μ := is_E (is_2 ha hb (mulA_int h1 h2))
theorem is_add {ea eb : Ev D} (ha : Is ea ρ μ (.p (.int a)) μ) (hb : Is eb ρ μ (.p (.int b)) μ) : Is (fzE (e2 opAdd ea eb)) ρ μ (.p (.int (a + b))) μ := is_E (is_2 ha hb rfl)
end
def xPlus (ff : Fn) : Sv := (sSeq (sIf (eTest (e2 opEqA (fzH (e2 opIx (eV 0) (eC (.int (1))))) (fzH (e2 opIx (eV 1) (eC (.int (1))))))) (sSeq (sRet (fzH (eCallP ff 2 (aCons (fzE (e2 opAdd (fzH (e2 opIx (eV 0) (eC (.int (0))))) (fzH (e2 opIx (eV 1) (eC (.int (0))))))) (aCons (fzH (e2 opIx (eV 0) (eC (.int (1))))) aNil))))) sSkip) sSkip) (sSeq (sRet (fzH (eCallP ff 2 (aCons (fzE (e2 opAdd (fzE (e2 opMulA (fzH (e2 opIx (eV 0) (eC (.int (0))))) (fzH (e2 opIx (eV 1) (eC (.int (1))))))) (fzE (e2 opMulA (fzH (e2 opIx (eV 1) (eC (.int (0))))) (fzH (e2 opIx (eV 0) (eC (.int (1))))))))) (aCons (fzE (e2 opMulA (fzH (e2 opIx (eV 0) (eC (.int (1))))) (fzH (e2 opIx (eV 1) (eC (.int (1))))))) aNil))))) sSkip))
def vPlus (a b c d : Int) : Option P := match b == d with
  | true => fracV (a + c) b
  | false => fracV (a * d + c * b) (b * d)
theorem plus_ok {ff : Fn} (hf : FracOk ff) : Tells (fzF (isoF (runB 2 (xPlus ff)))) (f2 vPlus) := f2_ok fun a b c d y μ hs e => by
  obtain ⟨h1, h2, h3, h4⟩ := smA_ok hs
  refine tells_iso (ps := [fr a b, fr c d]) (μ1 := Store.emp) (runB_r ?_)
  unfold xPlus
  unfold vPlus at e
  split at e
  · rename_i q
    refine seq_r ((if_t (is_Test (is_2 (ix1 rfl) (ix1 rfl) (by rw [eqI, q])))).trans (seq_r (ret_r (is_HR (is_P (is_cons (is_add (ix0 rfl) (ix0 rfl)) (is_cons (ix1 rfl) is_nil)) rfl (fracV_ok hf e))))))
  · rename_i q
    refine (seq_n ((if_f (is_Test (is_2 (ix1 rfl) (ix1 rfl) (by rw [eqI, q])))).trans rfl)).trans (seq_r (ret_r (is_HR (is_P (is_cons (is_add (is_mul (ix0 rfl) (ix1 rfl) h1 h4) (is_mul (ix0 rfl) (ix1 rfl) h3 h2)) (is_cons (is_mul (ix1 rfl) (ix1 rfl) h2 h4) is_nil)) rfl (fracV_ok hf e)))))
def xTimes (ff : Fn) : Sv := (sSeq (sRet (fzH (eCallP ff 2 (aCons (fzE (e2 opMulA (fzH (e2 opIx (eV 0) (eC (.int (0))))) (fzH (e2 opIx (eV 1) (eC (.int (0))))))) (aCons (fzE (e2 opMulA (fzH (e2 opIx (eV 0) (eC (.int (1))))) (fzH (e2 opIx (eV 1) (eC (.int (1))))))) aNil))))) sSkip)
def vTimes (a b c d : Int) : Option P := fracV (a * c) (b * d)
theorem times_ok {ff : Fn} (hf : FracOk ff) : Tells (fzF (isoF (runB 2 (xTimes ff)))) (f2 vTimes) := f2_ok fun a b c d y μ hs e => by
  obtain ⟨h1, h2, h3, h4⟩ := smA_ok hs
  refine tells_iso (ps := [fr a b, fr c d]) (μ1 := Store.emp) (runB_r ?_)
  unfold xTimes
  exact seq_r (ret_r (is_HR (is_P (is_cons (is_mul (ix0 rfl) (ix0 rfl) h1 h3) (is_cons (is_mul (ix1 rfl) (ix1 rfl) h2 h4) is_nil)) rfl (fracV_ok hf e))))
def xOver (ff : Fn) : Sv := (sSeq (sRet (fzH (eCallP ff 2 (aCons (fzE (e2 opMulA (fzH (e2 opIx (eV 0) (eC (.int (0))))) (fzH (e2 opIx (eV 1) (eC (.int (1))))))) (aCons (fzE (e2 opMulA (fzH (e2 opIx (eV 0) (eC (.int (1))))) (fzH (e2 opIx (eV 1) (eC (.int (0))))))) aNil))))) sSkip)
def vOver (a b c d : Int) : Option P := fracV (a * d) (b * c)
theorem over_ok {ff : Fn} (hf : FracOk ff) : Tells (fzF (isoF (runB 2 (xOver ff)))) (f2 vOver) := f2_ok fun a b c d y μ hs e => by
  obtain ⟨h1, h2, h3, h4⟩ := smA_ok hs
  refine tells_iso (ps := [fr a b, fr c d]) (μ1 := Store.emp) (runB_r ?_)
  unfold xOver
  exact seq_r (ret_r (is_HR (is_P (is_cons (is_mul (ix0 rfl) (ix1 rfl) h1 h4) (is_cons (is_mul (ix1 rfl) (ix0 rfl) h2 h3) is_nil)) rfl (fracV_ok hf e))))
def xLess : Sv := (sSeq (sRet (fzH (e2 opLt (fzE (e2 opMulA (fzH (e2 opIx (eV 0) (eC (.int (0))))) (fzH (e2 opIx (eV 1) (eC (.int (1))))))) (fzE (e2 opMulA (fzH (e2 opIx (eV 1) (eC (.int (0))))) (fzH (e2 opIx (eV 0) (eC (.int (1)))))))))) sSkip)
def vLess (a b c d : Int) : Option P := some (.bl (decide (a * d < c * b)))
theorem less_ok : Tells (fzF (isoF (runB 2 xLess))) (f2 vLess) := f2_ok fun a b c d y μ hs e => by
  obtain ⟨h1, h2, h3, h4⟩ := smA_ok hs
  cases e
  refine tells_iso (ps := [fr a b, fr c d]) (μ1 := Store.emp) (runB_r ?_)
  unfold xLess
  exact seq_r (ret_r (is_H (is_2 (is_mul (ix0 rfl) (ix1 rfl) h1 h4) (is_mul (ix0 rfl) (ix1 rfl) h3 h2) (ltI _ _))))
/-! ### one fraction -/
def xOpposite : Sv := (sSeq (sRet (fzH (eN opTup (aCons (fzE (e1 opNeg (fzH (e2 opIx (eV 0) (eC (.int (0))))))) (aCons (fzH (e2 opIx (eV 0) (eC (.int (1))))) aNil))))) sSkip)
def f1 (g : Int → Int → Option P) : List D → Option P
  | [.p (.tup [.int a, .int b])] => g a b
  | _ => none
theorem f1_ok {g : Int → Int → Option P} {f : Fn} (h : ∀ a b y μ, g a b = some y → f [.p (fr a b)] μ = .ok (.p y) μ) : Tells f (f1 g) := fun ds y μ e => by
  unfold f1 at e
  split at e
  · exact h _ _ _ _ e
  · cases e
def vOpposite (a b : Int) : Option P := some (fr (-a) b)
theorem opposite_ok : Tells (fzF (isoF (runB 1 xOpposite))) (f1 vOpposite) := f1_ok fun a b y μ e => by
  cases e
  refine tells_iso (ps := [fr a b]) (μ1 := Store.emp) (runB_r ?_)
  unfold xOpposite
  exact seq_r (ret_r (is_H (is_N (is_cons (is_E (is_1 (ix0 rfl) rfl)) (is_cons (ix1 rfl) is_nil)) rfl)))
def xMinus (fp fo : Fn) : Sv := (sSeq (sRet (fzH (eCallP fp 2 (aCons (eV 0) (aCons (fzH (eCallP fo 1 (aCons (eV 1) aNil))) aNil))))) sSkip)
def vMinus (a b c d : Int) : Option P := vPlus a b (-c) d
theorem minus_ok {fp fo : Fn} (hp : Tells fp (f2 vPlus)) (ho : Tells fo (f1 vOpposite)) : Tells (fzF (isoF (runB 2 (xMinus fp fo)))) (f2 vMinus) := f2_ok fun a b c d y μ hs e => by
  refine tells_iso (ps := [fr a b, fr c d]) (μ1 := Store.emp) (runB_r ?_)
  unfold xMinus
  have hs2 : smA a b (-c) d = true := by
    unfold smA at hs ⊢
    rw [Int.natAbs_neg]
    exact hs
  exact seq_r (ret_r (is_HR (is_P (is_cons (is_V rfl) (is_cons (is_HR (is_P (is_cons (is_V rfl) is_nil) rfl (ho [.p (fr c d)] _ _ rfl))) is_nil)) rfl (hp _ _ _ (by
    exact (f2_at hs2).trans e)))))
def xSign : Sv := (sSeq (sRet (fzE (e2 opSub (fzE (eN opInt (aCons (fzH (e2 opGt (fzH (e2 opIx (eV 0) (eC (.int (0))))) (eC (.int (0))))) aNil))) (fzE (eN opInt (aCons (fzH (e2 opLt (fzH (e2 opIx (eV 0) (eC (.int (0))))) (eC (.int (0))))) aNil)))))) sSkip)
def vSign (a b : Int) : Option P := some (.int ((if (decide (0 < a)) then 1 else 0) - (if (decide (a < 0)) then 1 else 0)))
theorem sign_ok : Tells (fzF (isoF (runB 1 xSign))) (f1 vSign) := f1_ok fun a b y μ e => by
  cases e
  refine tells_iso (ps := [fr a b]) (μ1 := Store.emp) (runB_r ?_)
  unfold xSign
  exact seq_r (ret_r (is_E (is_2 (is_E (is_N (is_cons (is_H (is_2 (ix0 rfl) is_C rfl)) is_nil) rfl)) (is_E (is_N (is_cons (is_H (is_2 (ix0 rfl) is_C rfl)) is_nil) rfl)) rfl)))
/-! ### judges -/
theorem is_ChainT {a b c : Ev D} {op op' : Op2} {d e f z : D} {ρ : Env} {μ μ1 μ2 μ3 μ4 μ5 : Store} (ha : Is a ρ μ d μ1) (hb : Is b ρ μ1 e μ2) (ho : op d e μ2 = some (.p (.bl true), μ3)) (hc : Is c ρ μ3 f μ4) (ho' : op' e f μ4 = some (z, μ5)) : Is (eChain op op' a b c) ρ μ z μ5 := by
  unfold Is eChain
  rw [ha]
  show ((b ρ μ1).bind _) = _
  rw [hb]
  show ((Res.ofO (op d e μ2)).bind _) = _
  rw [ho]
  show ((c ρ μ3).bind _) = _
  rw [hc]
  show Res.ofO (op' e f μ4) = _
  rw [ho']
  rfl
theorem is_ChainF {a b c : Ev D} {op op' : Op2} {d e : D} {ρ : Env} {μ μ1 μ2 μ3 : Store} (ha : Is a ρ μ d μ1) (hb : Is b ρ μ1 e μ2) (ho : op d e μ2 = some (.p (.bl false), μ3)) : Is (eChain op op' a b c) ρ μ (.p (.bl false)) μ3 := by
  unfold Is eChain
  rw [ha]
  show ((b ρ μ1).bind _) = _
  rw [hb]
  show ((Res.ofO (op d e μ2)).bind _) = _
  rw [ho]
  rfl
theorem loopC_go {pt : Pat} {c : Ev Bool} {el : Ev D} {ρ ρ1 : Env} {n : Nat} {it it' : IterD} {μ μ1 μ2 : Store} {acc : List D} {d y : D} (hs : it.step μ = some (some (d, it'))) (hb : bindP pt d ρ = some ρ1) (hc : c ρ1 μ = .ok true μ1) (he : el ρ1 μ1 = .ok y μ2) : loopC pt c el ρ (n + 1) it μ acc = loopC pt c el ρ n it' μ2 (y :: acc) := by
  rw [loopC]
  rw [hs]
  dsimp only
  rw [hb]
  dsimp only
  rw [hc]
  dsimp only
  rw [he]
theorem loopC_end {pt : Pat} {c : Ev Bool} {el : Ev D} {ρ : Env} {n : Nat} {it : IterD} {μ : Store} {acc : List D} (hs : it.step μ = some none) : loopC pt c el ρ (n + 1) it μ acc = some (acc, μ) := by
  rw [loopC]
  rw [hs]
theorem is_Lc {it : Ev Src} {pt : Pat} {c : Ev Bool} {el : Ev D} {vs : List Nat} {ρ : Env} {μ μ1 μ2 : Store} {z : IterD} {acc : List D} (h : it ρ μ = .ok (z, none) μ1) (hl : loopC pt c el (wipeE ρ vs) (z.cnt μ1) z μ1 [] = some (acc, μ2)) (hz : acc.length ≤ szMax) : Is (eLc it pt c el vs) ρ μ (.ref μ2.length) (μ2 ++ [mkL acc.reverse]) := by
  unfold Is eLc
  rw [h]
  show endC none (loopC pt c el (wipeE ρ vs) (z.cnt μ1) z μ1 []) = _
  rw [hl]
  show (if acc.length ≤ szMax then _ else _) = _
  rw [if_pos hz]
def xIsInt : Sv := (sSeq (sRet (fzH (eAnd (fzE (eIsi (eV 0) .int)) (eAnd (fzE (eNot (fzE (eIsi (eV 0) .bl)))) (fzH (eChain opLe opLe (eV 1) (eV 0) (eV 2))))))) sSkip)
def fIsInt : List D → Option P
  | [.p (.int a), .p (.int l), .p (.int m)] => some (.bl (!decide (a < l) && !decide (m < a)))
  | _ => none
theorem isInt_ok : Tells (fzF (isoF (runB 3 xIsInt))) fIsInt := fun ds y μ e => by
  unfold fIsInt at e
  split at e
  · rename_i a l m
    cases e
    refine tells_iso (ps := [.int a, .int l, .int m]) (μ1 := Store.emp) (runB_r ?_)
    unfold xIsInt
    have le : ∀ i j : Int, opLe (.p (.int i)) (.p (.int j)) Store.emp = some (.p (.bl (!decide (j < i))), Store.emp) := fun _ _ => rfl
    have ch : Is (eChain opLe opLe (eV 1) (eV 0) (eV 2)) [some (.p (.int a)), some (.p (.int l)), some (.p (.int m))] Store.emp (.p (.bl (!decide (a < l) && !decide (m < a)))) Store.emp := by
      cases h : !decide (a < l) with
      | true => exact is_ChainT (is_V rfl) (is_V rfl) (by rw [le, h]) (is_V rfl) (by rw [le, Bool.true_and])
      | false => exact is_ChainF (is_V rfl) (is_V rfl) (by rw [le, h])
    exact seq_r (ret_r (is_H (is_eAndT (is_E (show Is (eIsi (eV 0) .int) _ _ (.p (.bl true)) Store.emp from rfl)) rfl (is_eAndT (is_E (show Is (eNot (fzE (eIsi (eV 0) .bl))) _ _ (.p (.bl true)) Store.emp from rfl)) rfl (is_H ch)))))
  · cases e
def xIsExact (fd : Fn) : Sv := (sSeq (sIf (bOr (bNot (eTru (fzE (eIsi (eV 0) .tup)))) (eTest (e2 opNeA (fzE (eN opLen (aCons (eV 0) aNil))) (eC (.int (2)))))) (sSeq (sRet (eC (.bl false))) sSkip) sSkip) (sSeq (sIf (bNot (eTru (fzE (eN opAll (aCons (fzE (eLc (itAny (eV 0)) (.nm 1) bYes (fzH (eAnd (fzE (eIsi (eV 1) .int)) (fzE (eNot (fzE (eIsi (eV 1) .bl)))))) [1])) aNil))))) (sSeq (sRet (eC (.bl false))) sSkip) sSkip) (sSeq (sRet (fzH (eAnd (fzH (e2 opGt (fzH (e2 opIx (eV 0) (eC (.int (1))))) (eC (.int (0))))) (fzH (e2 opEqA (fzH (eCallP fd 2 (aCons (fzH (e2 opIx (eV 0) (eC (.int (0))))) (aCons (fzH (e2 opIx (eV 0) (eC (.int (1))))) aNil)))) (eC (.int (1)))))))) sSkip)))
def vIsExact (a b : Int) : Option P := match decide (0 < b) with
  | true => match sm 8000 b.natAbs with
    | true => some (.bl (Nat.gcd a.natAbs b.natAbs == 1))
    | false => none
  | false => some (.bl false)
theorem isExact_ok {fd : Fn} (hd : DivOk fd) : Tells (fzF (isoF (runB 2 (xIsExact fd)))) (f1 vIsExact) := f1_ok fun a b y μ e => by
  let μ1 : Store := Store.emp ++ [Cell.fl [.bl true, .bl true]]
  refine tells_iso (ps := [fr a b]) (μ1 := μ1) (runB_r ?_)
  unfold xIsExact
  have s1 : Is (bOr (bNot (eTru (fzE (eIsi (eV 0) .tup)))) (eTest (e2 opNeA (fzE (eN opLen (aCons (eV 0) aNil))) (eC (.int (2)))))) [some (.p (fr a b)), none] Store.emp false Store.emp := rfl
  have s2 : Is (bNot (eTru (fzE (eN opAll (aCons (fzE (eLc (itAny (eV 0)) (.nm 1) bYes (fzH (eAnd (fzE (eIsi (eV 1) .int)) (fzE (eNot (fzE (eIsi (eV 1) .bl)))))) [1])) aNil))))) [some (.p (fr a b)), none] Store.emp false μ1 := by
    refine is_Not (q := true) (is_Tru (is_E (is_N (is_cons (is_E (?_ : Is _ _ _ (.ref 0) μ1)) is_nil) rfl)) rfl)
    have el : ∀ z : Int, Is (fzH (eAnd (fzE (eIsi (eV 1) .int)) (fzE (eNot (fzE (eIsi (eV 1) .bl)))))) [some (.p (fr a b)), some (.p (.int z))] Store.emp (.p (.bl true)) Store.emp := fun z => is_H (is_eAndT (is_E (show Is (eIsi (eV 1) .int) _ _ (.p (.bl true)) Store.emp from rfl)) rfl (is_E (show Is (eNot (fzE (eIsi (eV 1) .bl))) _ _ (.p (.bl true)) Store.emp from rfl)))
    have l1 : loopC (.nm 1) bYes (fzH (eAnd (fzE (eIsi (eV 1) .int)) (fzE (eNot (fzE (eIsi (eV 1) .bl)))))) [some (.p (fr a b)), none] 3 (.fix [.p (.int a), .p (.int b)]) Store.emp [] = some ([.p (.bl true), .p (.bl true)], Store.emp) := by
      exact (loopC_go (ρ1 := [some (.p (fr a b)), some (.p (.int a))]) rfl rfl rfl (el a)).trans ((loopC_go (ρ1 := [some (.p (fr a b)), some (.p (.int b))]) rfl rfl rfl (el b)).trans (loopC_end rfl))
    exact is_Lc (it := itAny (eV 0)) (vs := [1]) (ρ := [some (.p (fr a b)), none]) (μ := Store.emp) (z := .fix [.p (.int a), .p (.int b)]) (μ1 := Store.emp) (μ2 := Store.emp) (acc := [.p (.bl true), .p (.bl true)]) rfl l1 (by show 2 ≤ 16777216; decide)
  refine (seq_n ((if_f s1).trans rfl)).trans ((seq_n ((if_f s2).trans rfl)).trans (seq_r (ret_r (is_H ?_))))
  unfold vIsExact at e
  have gt : opGt (.p (.int b)) (.p (.int 0)) μ1 = some (.p (.bl (decide (0 < b))), μ1) := rfl
  split at e
  · rename_i q
    split at e
    · rename_i hs
      cases e
      refine is_eAndT (is_H (is_2 (ix1 rfl) is_C gt)) (by rw [q]; rfl) (is_H (is_2 (is_HR (is_P (is_cons (ix0 rfl) (is_cons (ix1 rfl) is_nil)) rfl (hd a b μ1 hs))) is_C ?_))
      rw [eqI]
      have : (gcdI a b == 1) = (Nat.gcd a.natAbs b.natAbs == 1) := by
        cases h : (Nat.gcd a.natAbs b.natAbs == 1) with
        | true =>
          have := eq_of_beq h
          show ((Nat.gcd a.natAbs b.natAbs : Int) == 1) = true
          rw [this]
          rfl
        | false =>
          rw [beq_eq_false_iff_ne] at h ⊢
          intro z
          have z' : ((Nat.gcd a.natAbs b.natAbs : Nat) : Int) = 1 := z
          exact h (by omega)
      rw [this]
    · cases e
  · rename_i q
    cases e
    rw [q] at gt
    exact is_eAndF (is_H (is_2 (ix1 rfl) is_C gt)) rfl
def xIsFraction (fx fi : Fn) : Sv := (sSeq (sRet (fzH (eAnd (fzH (eCallP fx 1 (aCons (eV 0) aNil))) (eAnd (fzH (eCallP fi 3 (aCons (fzH (e2 opIx (eV 0) (eC (.int (0))))) (aCons (fzE (e1 opNeg (eC (.int (1000000000000))))) (aCons (eC (.int (1000000000000))) aNil))))) (fzH (e2 opLe (fzH (e2 opIx (eV 0) (eC (.int (1))))) (eC (.int (1000000000000))))))))) sSkip)
def vIsFraction (a b : Int) : Option P := match vIsExact a b with
  | some (.bl true) => some (.bl ((!decide (a < -1000000000000) && !decide (1000000000000 < a)) && !decide (1000000000000 < b)))
  | some (.bl false) => some (.bl false)
  | _ => none
theorem isFraction_ok {fx fi : Fn} (hx : Tells fx (f1 vIsExact)) (hi : Tells fi fIsInt) : Tells (fzF (isoF (runB 1 (xIsFraction fx fi)))) (f1 vIsFraction) := f1_ok fun a b y μ e => by
  refine tells_iso (ps := [fr a b]) (μ1 := Store.emp) (runB_r ?_)
  unfold xIsFraction
  unfold vIsFraction at e
  have le : ∀ i j : Int, opLe (.p (.int i)) (.p (.int j)) Store.emp = some (.p (.bl (!decide (j < i))), Store.emp) := fun _ _ => rfl
  split at e
  · rename_i q
    cases e
    have i1 : Is (fzH (eCallP fi 3 (aCons (fzH (e2 opIx (eV 0) (eC (.int (0))))) (aCons (fzE (e1 opNeg (eC (.int (1000000000000))))) (aCons (eC (.int (1000000000000))) aNil))))) [some (.p (fr a b))] Store.emp (.p (.bl (!decide (a < -1000000000000) && !decide (1000000000000 < a)))) Store.emp :=
      is_HR (is_P (is_cons (ix0 rfl) (is_cons (is_E (is_1 is_C rfl)) (is_cons is_C is_nil))) rfl (hi _ _ _ rfl))
    refine seq_r (ret_r (is_H (is_eAndT (is_HR (is_P (is_cons (is_V rfl) is_nil) rfl (hx [.p (fr a b)] _ _ q))) rfl ?_)))
    cases h : (!decide (a < -1000000000000) && !decide (1000000000000 < a)) with
    | true =>
      rw [h] at i1
      rw [Bool.true_and]
      exact is_eAndT i1 rfl (is_H (is_2 (ix1 rfl) is_C (le _ _)))
    | false =>
      rw [h] at i1
      rw [Bool.false_and]
      exact is_eAndF i1 rfl
  · rename_i q
    cases e
    exact seq_r (ret_r (is_H (is_eAndF (is_HR (is_P (is_cons (is_V rfl) is_nil) rfl (hx [.p (fr a b)] _ _ q))) rfl)))
  · cases e
end Sh
set_option maxRecDepth 100000
set_option maxHeartbeats 4000000
/-! Sh: fractions: what lowest terms are; the laws' own fractions. -/
namespace Sh
open PySem PySem.Spec PyProof.Rows L2

/-! ### lowest terms -/
theorem gcdI_dvd (t b : Int) : gcdI t b ∣ t ∧ gcdI t b ∣ b := by
  constructor
  · exact Int.natAbs_dvd_natAbs.mp (Nat.gcd_dvd_left t.natAbs b.natAbs)
  · exact Int.natAbs_dvd_natAbs.mp (Nat.gcd_dvd_right t.natAbs b.natAbs)
/-- n, d are t, b in lowest terms -/
structure Low (t b n d : Int) : Prop where
  pos : 0 < d
  co : Nat.gcd n.natAbs d.natAbs = 1
  eq : n * b = t * d
  ln : n.natAbs ≤ t.natAbs
  ld : d.natAbs ≤ b.natAbs
theorem low_of {t b : Int} (hb : b ≠ 0) : ∃ n d, mkFr t b = fr n d ∧ Low t b n d := by
  obtain ⟨h1, h2⟩ := gcdI_dvd t b
  obtain ⟨g1, g2⟩ := sgG_le (t := t) hb
  have hs : sgG t b ∣ t ∧ sgG t b ∣ b := by
    unfold sgG
    split
    · exact ⟨Int.neg_dvd.mpr h1, Int.neg_dvd.mpr h2⟩
    · exact ⟨h1, h2⟩
  obtain ⟨⟨n, hn⟩, ⟨d, hd⟩⟩ := hs
  have e1 : t.fdiv (sgG t b) = n := by
    conv => lhs; arg 1; rw [hn]
    exact Int.mul_fdiv_cancel_left n g2
  have e2 : b.fdiv (sgG t b) = d := by
    conv => lhs; arg 1; rw [hd]
    exact Int.mul_fdiv_cancel_left d g2
  refine ⟨n, d, by unfold mkFr; rw [e1, e2], ?_⟩
  have gpos : 0 < Nat.gcd t.natAbs b.natAbs := Nat.gcd_pos_of_pos_right _ (Int.natAbs_pos.mpr hb)
  have hsg : (sgG t b).natAbs = Nat.gcd t.natAbs b.natAbs := by
    unfold sgG
    split
    · rw [Int.natAbs_neg]; rfl
    · rfl
  have sp : 1 ≤ (sgG t b).natAbs := by rw [hsg]; exact gpos
  have at_ : t.natAbs = (sgG t b).natAbs * n.natAbs := by rw [← Int.natAbs_mul, ← hn]
  have ab_ : b.natAbs = (sgG t b).natAbs * d.natAbs := by rw [← Int.natAbs_mul, ← hd]
  refine ⟨?_, ?_, ?_, ?_, ?_⟩
  · have dn : d ≠ 0 := by
      rintro rfl
      rw [Int.mul_zero] at hd
      exact hb hd
    rcases Int.lt_or_gt_of_ne dn with q | q
    · exfalso
      have gi : (0 : Int) < gcdI t b := by
        show (0 : Int) < ((Nat.gcd t.natAbs b.natAbs : Nat) : Int)
        omega
      unfold sgG at hd
      split at hd
      · rename_i hneg
        have := Int.mul_pos_of_neg_of_neg (a := -gcdI t b) (b := d) (by omega) q
        omega
      · rename_i hneg
        have := Int.mul_neg_of_pos_of_neg gi q
        omega
    · exact q
  · have z := Nat.gcd_mul_left (sgG t b).natAbs n.natAbs d.natAbs
    rw [← at_, ← ab_, hsg] at z
    exact Nat.eq_of_mul_eq_mul_left gpos (z.symm.trans (Nat.mul_one _).symm)
  · conv => lhs; arg 2; rw [hd]
    conv => rhs; arg 1; rw [hn]
    rw [Int.mul_comm (sgG t b) d, ← Int.mul_assoc, Int.mul_comm (n * d), ← Int.mul_assoc]
  · rw [at_]
    exact Nat.le_mul_of_pos_left _ sp
  · rw [ab_]
    exact Nat.le_mul_of_pos_left _ sp
theorem low_uniq {t b t' b' n d n' d' : Int} (hb : b ≠ 0) (hb' : b' ≠ 0) (h : Low t b n d) (h' : Low t' b' n' d') (e : t * b' = t' * b) : n = n' ∧ d = d' := by
  have x : n * d' = n' * d := by
    have h1 := h.eq
    have h2 := h'.eq
    have : (b * b') * (n * d') = (b * b') * (n' * d) := by
      calc (b * b') * (n * d') = (n * b) * (b' * d') := by
            rw [Int.mul_comm n b, Int.mul_assoc, Int.mul_assoc, Int.mul_left_comm b' n d']
        _ = (t * d) * (b' * d') := by rw [h1]
        _ = (t * b') * (d * d') := by
            rw [Int.mul_assoc, Int.mul_assoc, Int.mul_left_comm d b' d']
        _ = (t' * b) * (d * d') := by rw [e]
        _ = (t' * d') * (b * d) := by
            rw [Int.mul_assoc, Int.mul_assoc, Int.mul_comm d d', Int.mul_left_comm b d' d]
        _ = (n' * b') * (b * d) := by rw [h2]
        _ = (b * b') * (n' * d) := by
            rw [Int.mul_comm n' b', Int.mul_assoc, Int.mul_comm b b', Int.mul_assoc, Int.mul_left_comm n' b d]
    exact Int.eq_of_mul_eq_mul_left (Int.mul_ne_zero hb hb') this
  have xn : n.natAbs * d'.natAbs = n'.natAbs * d.natAbs := by rw [← Int.natAbs_mul, ← Int.natAbs_mul, x]
  have d1 : d.natAbs ∣ d'.natAbs := by
    have : d.natAbs ∣ n.natAbs * d'.natAbs := by rw [xn]; exact Nat.dvd_mul_left _ _
    exact Nat.Coprime.dvd_of_dvd_mul_left (Nat.Coprime.symm h.co) this
  have d2 : d'.natAbs ∣ d.natAbs := by
    have : d'.natAbs ∣ n'.natAbs * d.natAbs := by rw [← xn]; exact Nat.dvd_mul_left _ _
    exact Nat.Coprime.dvd_of_dvd_mul_left (Nat.Coprime.symm h'.co) this
  have dd := Nat.dvd_antisymm d1 d2
  have p1 := h.pos
  have p2 := h'.pos
  have ed : d = d' := by omega
  subst ed
  exact ⟨Int.eq_of_mul_eq_mul_right (by omega) x, rfl⟩
theorem mkFr_eq {t b t' b' : Int} (hb : b ≠ 0) (hb' : b' ≠ 0) (e : t * b' = t' * b) : mkFr t b = mkFr t' b' := by
  obtain ⟨n, d, h1, h2⟩ := low_of (t := t) hb
  obtain ⟨n', d', h3, h4⟩ := low_of (t := t') hb'
  obtain ⟨e1, e2⟩ := low_uniq hb hb' h2 h4 e
  rw [h1, h3, e1, e2]
/-! ### the laws' own lowest terms -/
theorem div_loopG {i j : Nat} {mk : D → D → Env} (hi : ∀ x y, nth (mk x y) i = some (some x)) (hj : ∀ x y, nth (mk x y) j = some (some y)) (hp : ∀ x y x' y', put (some y') (put (some x') (mk x y) i) j = mk x' y') : ∀ (k n x y : Nat) (μ : Store), y < 2 ^ k → 2 * k + 2 ≤ n →
    loopW (eTest (e2 opNeA (eV j) (eC (.int (0))))) (sSeq (sPar i j (aCons (eV j) (aCons (fzE (e2 opMod (eV i) (eV j))) aNil))) sSkip) n (mk (.p (.int (Int.ofNat x))) (.p (.int (Int.ofNat y)))) μ = .next (mk (.p (.int (Int.ofNat (Nat.gcd x y)))) (.p (.int 0))) μ := by
  have stop : ∀ (n x : Nat) (μ : Store), loopW (eTest (e2 opNeA (eV j) (eC (.int (0))))) (sSeq (sPar i j (aCons (eV j) (aCons (fzE (e2 opMod (eV i) (eV j))) aNil))) sSkip) (n + 1) (mk (.p (.int (Int.ofNat x))) (.p (.int (Int.ofNat 0)))) μ = .next (mk (.p (.int (Int.ofNat (Nat.gcd x 0)))) (.p (.int 0))) μ := fun n x μ => by
    rw [Nat.gcd_zero_right]
    have ec : Is (eTest (e2 opNeA (eV j) (eC (.int (0))))) (mk (.p (.int (Int.ofNat x))) (.p (.int (Int.ofNat 0)))) μ false μ := is_Test (is_2 (is_V (hj _ _)) is_C rfl)
    show sOf (eTest (e2 opNeA (eV j) (eC (.int (0)))) _ μ) _ _ = _
    rw [ec]
    rfl
  have go : ∀ (n x y : Nat) (μ : Store), y ≠ 0 → loopW (eTest (e2 opNeA (eV j) (eC (.int (0))))) (sSeq (sPar i j (aCons (eV j) (aCons (fzE (e2 opMod (eV i) (eV j))) aNil))) sSkip) (n + 1) (mk (.p (.int (Int.ofNat x))) (.p (.int (Int.ofNat y)))) μ = loopW (eTest (e2 opNeA (eV j) (eC (.int (0))))) (sSeq (sPar i j (aCons (eV j) (aCons (fzE (e2 opMod (eV i) (eV j))) aNil))) sSkip) n (mk (.p (.int (Int.ofNat y))) (.p (.int (Int.ofNat (x % y))))) μ := fun n x y μ hy => by
    have e0 : (Int.ofNat y == 0) = false := by
      rw [beq_eq_false_iff_ne]
      intro z
      exact hy (by have : (y : Int) = 0 := z; omega)
    have ec : Is (eTest (e2 opNeA (eV j) (eC (.int (0))))) (mk (.p (.int (Int.ofNat x))) (.p (.int (Int.ofNat y)))) μ true μ := is_Test (is_2 (is_V (hj _ _)) is_C (by rw [neI, e0]; rfl))
    have em : opMod (.p (.int (Int.ofNat x))) (.p (.int (Int.ofNat y))) μ = some (.p (.int (Int.ofNat (x % y))), μ) := by
      unfold opMod
      dsimp only
      have em2 : (Int.ofNat x).fmod (Int.ofNat y) = Int.ofNat (x % y) := (Int.fmod_eq_emod_of_nonneg (x : Int) (Int.natCast_nonneg y)).trans rfl
      rw [if_neg (by intro z; exact hy (by have : (y : Int) = 0 := z; omega)), em2]
    have eb : sSeq (sPar i j (aCons (eV j) (aCons (fzE (e2 opMod (eV i) (eV j))) aNil))) sSkip (mk (.p (.int (Int.ofNat x))) (.p (.int (Int.ofNat y)))) μ = .next (mk (.p (.int (Int.ofNat y))) (.p (.int (Int.ofNat (x % y))))) μ :=
      (seq_n (par_n (is_cons (is_V (hj _ _)) (is_cons (is_E (is_2 (is_V (hi _ _)) (is_V (hj _ _)) em)) is_nil)))).trans (by rw [hp]; rfl)
    show sOf (eTest (e2 opNeA (eV j) (eC (.int (0)))) _ μ) _ _ = _
    rw [ec]
    show (match sSeq (sPar i j (aCons (eV j) (aCons (fzE (e2 opMod (eV i) (eV j))) aNil))) sSkip _ μ with
      | .next ρ2 μ2 => loopW _ _ n ρ2 μ2
      | .cont ρ2 μ2 => loopW _ _ n ρ2 μ2
      | .brk ρ2 μ2 => .next ρ2 μ2
      | r => r) = _
    rw [eb]
  intro k
  induction k with
  | zero =>
    intro n x y μ h1 h2
    have : y = 0 := by omega
    subst this
    obtain ⟨m, rfl⟩ : ∃ m, n = m + 1 := ⟨n - 1, by omega⟩
    exact stop m x μ
  | succ k ih =>
    intro n x y μ h1 h2
    obtain ⟨m, rfl⟩ : ∃ m, n = m + 2 := ⟨n - 2, by omega⟩
    by_cases hy : y = 0
    · subst hy
      exact stop (m + 1) x μ
    · rw [go (m + 1) x y μ hy]
      have g1 : Nat.gcd x y = Nat.gcd y (x % y) := by rw [Nat.gcd_comm x y, Nat.gcd_rec y x, Nat.gcd_comm]
      by_cases hr : x % y = 0
      · rw [hr] at g1 ⊢
        rw [g1]
        exact stop m y μ
      · rw [go m y (x % y) μ hr]
        have g2 : Nat.gcd y (x % y) = Nat.gcd (x % y) (y % (x % y)) := by rw [Nat.gcd_comm y (x % y), Nat.gcd_rec (x % y) y, Nat.gcd_comm]
        rw [g1, g2]
        refine ih m (x % y) (y % (x % y)) μ ?_ (by omega)
        have a1 := Nat.mod_lt x (Nat.pos_of_ne_zero hy)
        have a2 := Nat.mod_lt y (Nat.pos_of_ne_zero hr)
        have a3 : y % (x % y) + (x % y) ≤ y := by
          have d := Nat.div_add_mod y (x % y)
          have q : 1 ≤ y / (x % y) := Nat.div_pos (Nat.le_of_lt a1) (Nat.pos_of_ne_zero hr)
          have mm : (x % y) * 1 ≤ (x % y) * (y / (x % y)) := Nat.mul_le_mul_left _ q
          omega
        rw [Nat.pow_succ] at h1
        omega
def xLawFrac : Sv := (sSeq (sPar 3 4 (aCons (fzE (eN opAbs (aCons (eV 0) aNil))) (aCons (fzE (eN opAbs (aCons (eV 1) aNil))) aNil))) (sSeq (sWhile whileN (eTest (e2 opNeA (eV 4) (eC (.int (0))))) (sSeq (sPar 3 4 (aCons (eV 4) (aCons (fzE (e2 opMod (eV 3) (eV 4))) aNil))) sSkip)) (sSeq (sAsg (fzE (eIf (eTest (e2 opLt (eV 1) (eC (.int (0))))) (fzE (e1 opNeg (eC (.int (1))))) (eC (.int (1))))) (gNm 2)) (sSeq (sRet (fzH (eN opTup (aCons (fzE (e2 opDiv (fzE (e2 opMulA (eV 2) (eV 0))) (eV 3))) (aCons (fzE (e2 opDiv (fzE (e2 opMulA (eV 2) (eV 1))) (eV 3))) aNil))))) sSkip))))
def LFracOk (f : Fn) : Prop := ∀ (t b : Int) (μ : Store), b ≠ 0 → sm 8000 b.natAbs = true → sm 300000 t.natAbs = true → f [.p (.int t), .p (.int b)] μ = .ok (.p (mkFr t b)) μ
theorem lfrac_ok : LFracOk (fzF (isoF (runB 5 xLawFrac))) := fun t b μ hb hs ht => by
  obtain ⟨g1, g2⟩ := gcdI_le (t := t) hb
  have g3 : sm 9000 (gcdI t b).natAbs = true := sm_up (j := 8000) (Nat.ble_eq_true_of_le (Nat.le_trans (Nat.succ_le_succ g1) (Nat.le_of_ble_eq_true hs))) (by decide)
  have t4 : sm 400000 t.natAbs = true := sm_up ht (by decide)
  have b4 : sm 400000 b.natAbs = true := sm_up hs (by decide)
  have ab : ∀ (z : Int), opAbs [.p (.int z)] Store.emp = some (.p (.int (Int.ofNat z.natAbs)), Store.emp) := fun z => by
    rw [← absI]
    rfl
  refine tells_iso (ps := [.int t, .int b]) (μ1 := Store.emp) (runB_r ?_)
  unfold xLawFrac
  refine (seq_n (par_n (is_cons (is_E (is_N (is_cons (is_V rfl) is_nil) (ab t))) (is_cons (is_E (is_N (is_cons (is_V rfl) is_nil) (ab b))) is_nil)))).trans ?_
  have lp := div_loopG (i := 3) (j := 4) (mk := fun x y => [some (.p (.int t)), some (.p (.int b)), none, some x, some y]) (fun _ _ => rfl) (fun _ _ => rfl) (fun _ _ _ _ => rfl) 8000 whileN t.natAbs b.natAbs Store.emp (sm_lt hs) (by unfold whileN; omega)
  refine (seq_n lp).trans ?_
  have gd := gcdI_dvd t b
  obtain ⟨⟨t', ht'⟩, ⟨b', hb'⟩⟩ := gd
  have fin : ∀ s : Int, s.natAbs ≤ 1 → fr ((s * t).fdiv (gcdI t b)) ((s * b).fdiv (gcdI t b)) = mkFr t b → Is (fzE (eIf (eTest (e2 opLt (eV 1) (eC (.int (0))))) (fzE (e1 opNeg (eC (.int (1))))) (eC (.int (1))))) [some (.p (.int t)), some (.p (.int b)), none, some (.p (.int (gcdI t b))), some (.p (.int 0))] Store.emp (.p (.int s)) Store.emp →
      (sSeq (sAsg (fzE (eIf (eTest (e2 opLt (eV 1) (eC (.int (0))))) (fzE (e1 opNeg (eC (.int (1))))) (eC (.int (1))))) (gNm 2)) (sSeq (sRet (fzH (eN opTup (aCons (fzE (e2 opDiv (fzE (e2 opMulA (eV 2) (eV 0))) (eV 3))) (aCons (fzE (e2 opDiv (fzE (e2 opMulA (eV 2) (eV 1))) (eV 3))) aNil))))) sSkip)) [some (.p (.int t)), some (.p (.int b)), none, some (.p (.int (gcdI t b))), some (.p (.int 0))] Store.emp = .ret (.p (mkFr t b)) Store.emp := fun s hs1 hv hi => by
    have s4 : sm 400000 s.natAbs = true := sm_le hs1 (by decide +kernel)
    rw [← hv]
    exact (seq_n (asg_n hi)).trans (seq_r (ret_r (is_H (is_N (is_cons (is_E (is_2 (is_mul (is_V rfl) (is_V rfl) s4 t4) (is_V rfl) (divO g2 g3))) (is_cons (is_E (is_2 (is_mul (is_V rfl) (is_V rfl) s4 b4) (is_V rfl) (divO g2 g3))) is_nil)) rfl))))
  by_cases q : b < 0
  · refine fin (-1) (by decide) ?_ (is_E (is_IfT (is_Test (is_2 (is_V rfl) is_C (ltIt q))) (is_E (is_1 is_C rfl))))
    unfold mkFr sgG
    rw [if_pos q]
    have k : ∀ z z' : Int, z = gcdI t b * z' → (-1 * z).fdiv (gcdI t b) = z.fdiv (-gcdI t b) := fun z z' hz => by
      have l1 : -1 * z = gcdI t b * (-z') := by rw [hz, Int.mul_neg, Int.neg_mul, Int.one_mul]
      have l2 : z = -gcdI t b * (-z') := by rw [Int.neg_mul_neg]; exact hz
      rw [l1, Int.mul_fdiv_cancel_left _ g2]
      conv => rhs; arg 1; rw [l2]
      rw [Int.mul_fdiv_cancel_left _ (by omega)]
    rw [k t t' ht', k b b' hb']
  · refine fin 1 (by decide) ?_ (is_E (is_IfF (is_Test (is_2 (is_V rfl) is_C (ltIf q))) is_C))
    unfold mkFr sgG
    rw [if_neg q, Int.one_mul, Int.one_mul]
def lfracV (t b : Int) : Option P := match decide (b = 0) with
  | true => none
  | false => match sm 8000 b.natAbs && sm 300000 t.natAbs with
    | true => some (mkFr t b)
    | false => none
theorem lfracV_ok {f : Fn} (h : LFracOk f) {t b : Int} {y : P} {μ : Store} (e : lfracV t b = some y) : f [.p (.int t), .p (.int b)] μ = .ok (.p y) μ := by
  unfold lfracV at e
  split at e
  · cases e
  · rename_i hb
    split at e
    · rename_i hs
      cases e
      obtain ⟨h1, h2⟩ := Bool.and_eq_true_iff.mp hs
      exact h t b μ (of_decide_eq_false hb) h1 h2
    · cases e
def fLawFrac : List D → Option P
  | [.p (.int a), .p (.int b)] => lfracV a b
  | _ => none
theorem lfrac_tells {f : Fn} (h : LFracOk f) : Tells f fLawFrac := fun ds y μ e => by
  unfold fLawFrac at e
  split at e
  · exact lfracV_ok h e
  · cases e
/-- a fraction made of two, by the laws' own lowest terms -/
def xLPlus (ff : Fn) : Sv := (sSeq (sRet (fzH (eCallP ff 2 (aCons (fzE (e2 opAdd (fzE (e2 opMulA (fzH (e2 opIx (eV 0) (eC (.int (0))))) (fzH (e2 opIx (eV 1) (eC (.int (1))))))) (fzE (e2 opMulA (fzH (e2 opIx (eV 1) (eC (.int (0))))) (fzH (e2 opIx (eV 0) (eC (.int (1))))))))) (aCons (fzE (e2 opMulA (fzH (e2 opIx (eV 0) (eC (.int (1))))) (fzH (e2 opIx (eV 1) (eC (.int (1))))))) aNil))))) sSkip)
def vLPlus (a b c d : Int) : Option P := lfracV (a * d + c * b) (b * d)
theorem lplus_ok {ff : Fn} (hf : LFracOk ff) : Tells (fzF (isoF (runB 2 (xLPlus ff)))) (f2 vLPlus) := f2_ok fun a b c d y μ hs e => by
  obtain ⟨h1, h2, h3, h4⟩ := smA_ok hs
  refine tells_iso (ps := [fr a b, fr c d]) (μ1 := Store.emp) (runB_r ?_)
  unfold xLPlus
  exact seq_r (ret_r (is_HR (is_P (is_cons (is_add (is_mul (ix0 rfl) (ix1 rfl) h1 h4) (is_mul (ix0 rfl) (ix1 rfl) h3 h2)) (is_cons (is_mul (ix1 rfl) (ix1 rfl) h2 h4) is_nil)) rfl (lfracV_ok hf e))))
def vLTimes (a b c d : Int) : Option P := lfracV (a * c) (b * d)
theorem ltimes_ok {ff : Fn} (hf : LFracOk ff) : Tells (fzF (isoF (runB 2 (xTimes ff)))) (f2 vLTimes) := f2_ok fun a b c d y μ hs e => by
  obtain ⟨h1, h2, h3, h4⟩ := smA_ok hs
  refine tells_iso (ps := [fr a b, fr c d]) (μ1 := Store.emp) (runB_r ?_)
  unfold xTimes
  exact seq_r (ret_r (is_HR (is_P (is_cons (is_mul (ix0 rfl) (ix0 rfl) h1 h3) (is_cons (is_mul (ix1 rfl) (ix1 rfl) h2 h4) is_nil)) rfl (lfracV_ok hf e))))
def vLOver (a b c d : Int) : Option P := lfracV (a * d) (b * c)
theorem lover_ok {ff : Fn} (hf : LFracOk ff) : Tells (fzF (isoF (runB 2 (xOver ff)))) (f2 vLOver) := f2_ok fun a b c d y μ hs e => by
  obtain ⟨h1, h2, h3, h4⟩ := smA_ok hs
  refine tells_iso (ps := [fr a b, fr c d]) (μ1 := Store.emp) (runB_r ?_)
  unfold xOver
  exact seq_r (ret_r (is_HR (is_P (is_cons (is_mul (ix0 rfl) (ix1 rfl) h1 h4) (is_cons (is_mul (ix1 rfl) (ix0 rfl) h2 h3) is_nil)) rfl (lfracV_ok hf e))))
end Sh
set_option maxRecDepth 100000
set_option maxHeartbeats 4000000
/-! Sh: loops over rows that are not known. -/
namespace Sh
open PySem PySem.Spec PyProof.Rows L2

theorem loopF_go {g : Tg} {body orelse : Sv} {n : Nat} {it it' : IterD} {ρ ρ1 ρ2 : Env} {μ μ1 μ2 : Store} {d : D} (hs : it.step μ = some (some (d, it'))) (hg : g d ρ μ = .next ρ1 μ1) (hb : body ρ1 μ1 = .next ρ2 μ2) : loopF g body orelse (n + 1) it ρ μ = loopF g body orelse n it' ρ2 μ2 := by
  rw [loopF]
  rw [hs]
  dsimp only
  rw [hg]
  show (match body ρ1 μ1 with
    | .next ρ2 μ2 => loopF g body orelse n it' ρ2 μ2
    | .cont ρ2 μ2 => loopF g body orelse n it' ρ2 μ2
    | .brk ρ2 μ2 => .next ρ2 μ2
    | r => r) = _
  rw [hb]
theorem loopF_end {g : Tg} {body orelse : Sv} {n : Nat} {it : IterD} {ρ : Env} {μ : Store} (hs : it.step μ = some none) : loopF g body orelse (n + 1) it ρ μ = orelse ρ μ := by
  rw [loopF]
  rw [hs]
theorem for_fix {it : Ev Src} {g : Tg} {body : Sv} {ρ : Env} {μ μ1 : Store} {ds : List D} {I : Nat → Env → Store → Prop} (h : it ρ μ = .ok (.fix ds, none) μ1) (h0 : I 0 ρ μ1)
    (hs : ∀ i d ρ μ, ds[i]? = some d → I i ρ μ → ∃ ρ1 μ1 ρ2 μ2, g d ρ μ = .next ρ1 μ1 ∧ body ρ1 μ1 = .next ρ2 μ2 ∧ I (i + 1) ρ2 μ2) : ∃ ρ2 μ2, sFor it g body ρ μ = .next ρ2 μ2 ∧ I ds.length ρ2 μ2 := by
  have key : ∀ (k i : Nat) (ρ : Env) (μ : Store), i + k = ds.length → I i ρ μ → ∃ ρ2 μ2, loopF g body sSkip (k + 1) (.fix (ds.drop i)) ρ μ = .next ρ2 μ2 ∧ I ds.length ρ2 μ2 := by
    intro k
    induction k with
    | zero =>
      intro i ρ μ hi hI
      have e : ds.drop i = [] := List.drop_eq_nil_iff.mpr (by omega)
      have : i = ds.length := by omega
      subst this
      exact ⟨ρ, μ, (loopF_end (by rw [e]; rfl)).trans rfl, hI⟩
    | succ k ih =>
      intro i ρ μ hi hI
      have hl : i < ds.length := by omega
      have e : ds.drop i = ds[i] :: ds.drop (i + 1) := List.drop_eq_getElem_cons hl
      obtain ⟨ρ1, μ1, ρ2, μ2, a, b, c⟩ := hs i ds[i] ρ μ (List.getElem?_eq_getElem hl) hI
      obtain ⟨ρ3, μ3, x, y⟩ := ih (i + 1) ρ2 μ2 (by omega) c
      exact ⟨ρ3, μ3, (loopF_go (it' := .fix (ds.drop (i + 1))) (by rw [e]; rfl) a b).trans x, y⟩
  obtain ⟨ρ2, μ2, a, b⟩ := key ds.length 0 ρ μ1 (by omega) h0
  refine ⟨ρ2, μ2, ?_, b⟩
  unfold sFor
  rw [h]
  show ulR none (loopF g body sSkip (ds.length + 1) (.fix ds) ρ μ1) = _
  rw [List.drop_zero] at a
  rw [a]
  rfl
theorem lc_fix {it : Ev Src} {el : Ev D} {v : Nat} {ρ : Env} {μ μ1 : Store} {ds : List D} {J : Nat → List D → Store → Prop} (h : it ρ μ = .ok (.fix ds, none) μ1) (h0 : J 0 [] μ1) (hz : ds.length ≤ szMax)
    (hs : ∀ i d acc μ, ds[i]? = some d → J i acc μ → ∃ y μ', el (put (some d) (put none ρ v) v) μ = .ok y μ' ∧ J (i + 1) (y :: acc) μ') : ∃ acc μ2, J ds.length acc μ2 ∧ acc.length = ds.length ∧ Is (eLc it (.nm v) bYes el [v]) ρ μ (.ref μ2.length) (μ2 ++ [mkL acc.reverse]) := by
  have key : ∀ (k i : Nat) (acc : List D) (μ : Store), i + k = ds.length → acc.length = i → J i acc μ → ∃ acc2 μ2, loopC (.nm v) bYes el (put none ρ v) (k + 1) (.fix (ds.drop i)) μ acc = some (acc2, μ2) ∧ J ds.length acc2 μ2 ∧ acc2.length = ds.length := by
    intro k
    induction k with
    | zero =>
      intro i acc μ hi ha hJ
      have e : ds.drop i = [] := List.drop_eq_nil_iff.mpr (by omega)
      have : i = ds.length := by omega
      subst this
      exact ⟨acc, μ, loopC_end (by rw [e]; rfl), hJ, ha⟩
    | succ k ih =>
      intro i acc μ hi ha hJ
      have hl : i < ds.length := by omega
      have e : ds.drop i = ds[i] :: ds.drop (i + 1) := List.drop_eq_getElem_cons hl
      obtain ⟨y, μ1, a, b⟩ := hs i ds[i] acc μ (List.getElem?_eq_getElem hl) hJ
      obtain ⟨acc2, μ2, x, z, l⟩ := ih (i + 1) (y :: acc) μ1 (by omega) (by simp [ha]) b
      exact ⟨acc2, μ2, (loopC_go (it' := .fix (ds.drop (i + 1))) (by rw [e]; rfl) rfl rfl a).trans x, z, l⟩
  obtain ⟨acc, μ2, a, b, c⟩ := key ds.length 0 [] μ1 (by omega) rfl h0
  refine ⟨acc, μ2, b, c, is_Lc (z := .fix ds) (μ1 := μ1) h ?_ (by omega)⟩
  rw [List.drop_zero] at a
  exact a
/-- a row's values put together one by one -/
def xFold (e0 : Ev D) (fp : Fn) : Sv := (sSeq (sAsg e0 (gNm 1)) (sSeq (sFor (itAny (eV 0)) (fzG (gNm 2)) (sSeq (sAsg (fzH (eCallP fp 2 (aCons (eV 1) (aCons (eV 2) aNil)))) (gNm 1)) sSkip)) (sSeq (sRet (eV 1)) sSkip)))
theorem fzG_at (g : Tg) (d : D) (ρ : Env) (μ : Store) : fzG g d ρ μ = g d ρ μ := by rw [fzG_eq]
theorem fold_ok {fp : Fn} {e0 : Ev D} {y0 : P} {st : P → P → P} {B : Nat → P → Prop} {ps : List P} (he : ∀ ρ μ, Is e0 ρ μ (.p y0) μ) (h0 : B 0 y0) (hs : ∀ i x f μ, ps[i]? = some x → B i f → fp [.p f, .p x] μ = .ok (.p (st f x)) μ ∧ B (i + 1) (st f x)) (μ : Store) :
    fzF (isoF (runB 3 (xFold e0 fp))) [.p (.tup ps)] μ = .ok (.p (ps.foldl st y0)) μ ∧ B ps.length (ps.foldl st y0) := by
  obtain ⟨ρ2, μ2, a, f, z, e1, e2, e3, e4⟩ := for_fix (it := itAny (eV 0)) (g := fzG (gNm 2)) (body := sSeq (sAsg (fzH (eCallP fp 2 (aCons (eV 1) (aCons (eV 2) aNil)))) (gNm 1)) sSkip) (ρ := [some (.p (.tup ps)), some (.p y0), none]) (μ := Store.emp) (μ1 := Store.emp) (ds := ps.map .p)
    (I := fun i ρ μ => ∃ f z, ρ = [some (.p (.tup ps)), some (.p f), z] ∧ μ = Store.emp ∧ f = (ps.take i).foldl st y0 ∧ B i f) rfl ⟨y0, none, rfl, rfl, rfl, h0⟩ (by
      rintro i d ρ μ hd ⟨f, z, rfl, rfl, hf, hB⟩
      rw [List.getElem?_map] at hd
      obtain ⟨x, hx, rfl⟩ := Option.map_eq_some_iff.mp hd
      obtain ⟨q1, q2⟩ := hs i x f Store.emp hx hB
      refine ⟨_, Store.emp, _, Store.emp, by rw [fzG_at, gNm_eq], (seq_n (asg_n (is_HR (is_P (is_cons (is_V rfl) (is_cons (is_V rfl) is_nil)) rfl q1)))).trans rfl, st f x, some (.p x), rfl, rfl, ?_, q2⟩
      rw [List.take_add_one, hx, List.foldl_append, ← hf]
      rfl)
  rw [List.length_map] at e3 e4
  rw [List.take_length] at e3
  subst e1 e2 e3
  refine ⟨tells_iso (ps := [.tup ps]) (μ1 := Store.emp) (runB_r ?_), e4⟩
  unfold xFold
  exact (seq_n (asg_n (he _ _))).trans ((seq_n a).trans (seq_r (ret_r (is_V rfl))))
/-! ### fractions that are shown -/
theorem digs_len : ∀ (k f n : Nat) (acc : List Nat), n < 10 ^ k → 0 < k → (digsN f n acc).length ≤ acc.length + k
  | 0, _, _, _, _, h => absurd h (Nat.lt_irrefl 0)
  | k + 1, 0, n, acc, _, _ => by
    show acc.length ≤ _
    omega
  | k + 1, f + 1, n, acc, hn, _ => by
    unfold digsN
    split
    · simp
    · rename_i q hq
      have hk : 0 < k := by
        rcases Nat.eq_zero_or_pos k with z | z
        · subst z
          have : n / 10 = 0 := Nat.div_eq_of_lt (by simpa using hn)
          omega
        · exact z
      have hq2 : q + 1 < 10 ^ k := by
        have z : n / 10 < 10 ^ k := by
          refine Nat.div_lt_of_lt_mul ?_
          rw [Nat.pow_succ] at hn
          omega
        omega
      have := digs_len k f (q + 1) ((48 + n % 10) :: acc) hq2 hk
      simp at this
      omega
theorem shwI_len {i : Int} {k : Nat} (h : i.natAbs < 10 ^ k) (hk : 0 < k) : (shwI i).length ≤ k + 1 := by
  cases i with
  | ofNat n =>
    have := digs_len k (n + 1) n [] h hk
    show (digsN (n + 1) n []).length ≤ _
    simp at this
    omega
  | negSucc n =>
    have := digs_len k (n + 2) (n + 1) [] h hk
    show (45 :: digsN (n + 2) (n + 1) []).length ≤ _
    simp at this ⊢
    omega
def okRp (y : PyData) : Bool := decide (okY y = true ∧ y.depth ≤ 40 ∧ (shwY y).length ≤ szMax)
theorem rp_p {x : P} (h : okRp x.py = true) (μ : Store) : opRepr [.p x] μ = some (.p (.str (shwY x.py)), μ) := by
  have e : rpD μ (.p x) = some x.py := rfl
  unfold opRepr
  dsimp only
  rw [e]
  dsimp only
  rw [if_pos (of_decide_eq_true h)]
theorem rp_fr {n d : Int} (hn : n.natAbs < 10 ^ 100) (hd : d.natAbs < 10 ^ 100) (μ : Store) : opRepr [.p (fr n d)] μ = some (.p (.str (shwY (fr n d).py)), μ) := by
  refine rp_p ?_ μ
  refine decide_eq_true ⟨?_, ?_, ?_⟩
  · have s1 : sm 1920 n.natAbs = true := sm_le (Nat.le_of_lt hn) (by decide +kernel)
    have s2 : sm 1920 d.natAbs = true := sm_le (Nat.le_of_lt hd) (by decide +kernel)
    show (sm 1920 n.natAbs && (sm 1920 d.natAbs && true)) = true
    rw [s1, s2]
    rfl
  · show 1 ≤ 40
    decide
  · have l1 := shwI_len hn (by decide)
    have l2 := shwI_len hd (by decide)
    have e : shwY (fr n d).py = 40 :: ((shwI n ++ 44 :: 32 :: shwI d) ++ [41]) := rfl
    rw [e]
    simp
    unfold szMax
    omega
theorem ne_same {μ : Store} (t : List Nat) : opNeA (.p (.str t)) (.p (.str t)) μ = some (.p (.bl false), μ) := by
  show opNe (.p (.str t)) (.p (.str t)) μ = _
  unfold opNe eqD
  show (match (if true then some (decide (t = t)) else none) with
    | some b => some (D.p (.bl (!b)), μ)
    | none => none) = _
  rw [decide_eq_true rfl]
  rfl
theorem eq_same {μ : Store} (t : List Nat) : opEqA (.p (.str t)) (.p (.str t)) μ = some (.p (.bl true), μ) := by
  show opEq (.p (.str t)) (.p (.str t)) μ = _
  unfold opEq eqD
  show (match (if true then some (decide (t = t)) else none) with
    | some b => some (D.p (.bl b), μ)
    | none => none) = _
  rw [decide_eq_true rfl]
  rfl
end Sh
set_option maxRecDepth 100000
set_option maxHeartbeats 4000000
/-! Sh: draws out of rows. -/
namespace Sh
open PySem PySem.Spec PyProof.Rows L2

/-- a pot at n after so many draws -/
def PotAt (μ : Store) (n : Nat) (m : Int) (N : Nat) : Prop := ∃ a c : Int, μ.get? n = some (pot a m c) ∧ 0 ≤ a ∧ c.natAbs ≤ N
theorem PotAt.mono {μ : Store} {n : Nat} {m : Int} {N M : Nat} (h : PotAt μ n m N) (le : N ≤ M) : PotAt μ n m M := by
  obtain ⟨a, c, h1, h2, h3⟩ := h
  exact ⟨a, c, h1, h2, Nat.le_trans h3 le⟩
/-- all but the cell at n is kept -/
def KeepBut (n : Nat) (μ μ' : Store) : Prop := ∀ k c, k ≠ n → μ.get? k = some c → μ'.get? k = some c
theorem KeepBut.refl (n : Nat) (μ : Store) : KeepBut n μ μ := fun _ _ _ h => h
theorem KeepBut.trans {n : Nat} {μ μ1 μ2 : Store} (a : KeepBut n μ μ1) (b : KeepBut n μ1 μ2) : KeepBut n μ μ2 := fun k c hk h => b k c hk (a k c hk h)
theorem KeepBut.set {μ : Store} {n : Nat} {c : Cell} (h : n < μ.length) : KeepBut n μ (μ.set n c) := fun k d hk e => by
  rw [get_set h, if_neg hk]
  exact e
theorem KeepBut.push {n : Nat} (μ : Store) (c : Cell) : KeepBut n μ (μ ++ [c]) := fun k d _ e => Keep.push μ c k d e
theorem Keep.but {n : Nat} {μ μ' : Store} (h : Keep μ μ') : KeepBut n μ μ' := fun k c _ e => h k c e
theorem setSame {μ : Store} {n : Nat} {c : Cell} (h : μ.get? n = some c) : Keep μ (μ.set n c) := fun k d e => by
  rw [get_set (Store.lt_of h)]
  by_cases hk : k = n
  · rw [if_pos hk]
    subst hk
    rw [h] at e
    exact e
  · rw [if_neg hk]
    exact e
theorem of_two (c d : Cell) : Store.of [c, d] = st2 c d := by
  show Store.push (Store.push Store.emp c) d = _
  rw [Store.push_eq, Store.push_eq]
  rfl
/-- the body of a draw out of a row -/
theorem of_body {ft : Fn} {μ μ1 : Store} {n L : Nat} {ds : List D} {d : Int} (hr : rdL μ L = some ds) (h5 : ft [.ref n, .p (.int (ds.length : Int))] μ = .ok (.p (.int d)) μ1) (hr1 : rdL μ1 L = some ds) (h1 : 0 ≤ d) (h2 : d < ds.length) : xOf ft [some (.ref n), some (.ref L)] μ = .ret (ds[d.toNat]'(by omega)) μ1 := by
  unfold xOf
  have e1 : Is (fzE (eN opLen (aCons (eV 1) aNil))) [some (.ref n), some (.ref L)] μ (.p (.int ds.length)) μ := by
    refine is_E (is_N (is_cons (is_V rfl) is_nil) ?_)
    unfold opLen
    dsimp only
    rw [hr]
  refine seq_r (ret_r (is_H (is_2 (is_V rfl) (is_HR (is_P (is_cons (is_V rfl) (is_cons e1 is_nil)) rfl h5)) ?_)))
  have hi : ixN ds.length d = some d.toNat := by
    unfold ixN
    rw [if_pos h1, if_pos h2]
  unfold opIx
  dsimp only
  rw [hr1]
  dsimp only
  rw [hi]
  dsimp only
  rw [nth_eq, List.getElem?_eq_getElem (by omega)]
/-- a draw out of a row of data -/
theorem of_fl {μ : Store} {n L : Nat} {m : Int} {N : Nat} {ps : List P} (hμ : PotAt μ n m N) (hm : m.natAbs ≤ 2 ^ 61) (hN : N < 2 ^ 60) (hL : μ.get? L = some (.fl ps)) (hd : 0 < ps.length) (hd2 : ps.length ≤ 2 ^ 60) (ne : L ≠ n) :
    ∃ (x : P) (μ' : Store), x ∈ ps ∧ PotAt μ' n m (N + 1) ∧ KeepBut n μ μ' ∧ fzF (isoF (runB 2 (xOf (fzF (isoF (runB 5 xTake)))))) [.ref n, .ref L] μ = .ok (.p x) μ' := by
  obtain ⟨a, c, hn, ha, hc⟩ := hμ
  obtain ⟨d, a', c', h1, h2, h3, h4, h5⟩ := take_fn (μ := st2 (pot a m c) (.fl ps)) (n := 0) (k := (ps.length : Int)) rfl ha hm hc hN (by omega) (by omega)
  rw [set_st2] at h5
  have hj : d.toNat < ps.length := by omega
  have hloc : locA μ [.ref n, .ref L] [] [] = some ([.ref 0, .ref 1], [n, L], [pot a m c, .fl ps]) := by
    have o1 : (ownC (pot a m c) && !isIn n []) = true := rfl
    have o2 : (ownC (Cell.fl ps) && !isIn L ([] ++ [n])) = true := by
      have hb : Nat.beq L n = false := by
        cases q : Nat.beq L n with
        | false => rfl
        | true => exact absurd (Nat.eq_of_beq_eq_true q) ne
      have hi : isIn L ([] ++ [n]) = false := by
        show isIn L [n] = false
        unfold isIn
        rw [hb]
        rfl
      rw [hi]
      rfl
    unfold locA
    dsimp only
    rw [hn]
    dsimp only
    rw [o1]
    dsimp only
    unfold locA
    dsimp only
    rw [hL]
    dsimp only
    rw [o2]
    rfl
  have body := of_body (ft := fzF (isoF (runB 5 xTake))) (n := 0) (L := 1) (μ := st2 (pot a m c) (.fl ps)) (ds := ps.map .p) (d := d) rfl (by rw [List.length_map]; exact h5) rfl h1 (by rw [List.length_map]; exact h2)
  rw [List.getElem_map] at body
  have bk : backA (st2 (pot a' m c') (.fl ps)) [n, L].length 0 = some [pot a' m c', .fl ps] := rfl
  have lS : (μ.set n (pot a' m c')).get? L = some (.fl ps) := by
    rw [get_set (Store.lt_of hn), if_neg ne]
    exact hL
  refine ⟨ps[d.toNat], (μ.set n (pot a' m c')).set L (.fl ps), List.getElem_mem hj, ⟨a', c', setSame lS _ _ (by rw [get_set (Store.lt_of hn), if_pos rfl]), h3, h4⟩, (KeepBut.set (Store.lt_of hn)).trans (setSame lS).but, fz_run ?_⟩
  unfold isoF
  rw [hloc]
  dsimp only
  rw [of_two, runB_r body]
  dsimp only
  rw [bk]
  rfl
/-- a draw out of a row that bears rows -/
theorem of_dl2 {μ : Store} {n L : Nat} {m : Int} {N : Nat} {ds : List D} (hμ : PotAt μ n m N) (hm : m.natAbs ≤ 2 ^ 61) (hN : N < 2 ^ 60) (hL : μ.get? L = some (.dl ds)) (hd : 0 < ds.length) (hd2 : ds.length ≤ 2 ^ 60) :
    ∃ (d : D) (μ' : Store), d ∈ ds ∧ PotAt μ' n m (N + 1) ∧ KeepBut n μ μ' ∧ fzF (isoF (runB 2 (xOf (fzF (isoF (runB 5 xTake)))))) [.ref n, .ref L] μ = .ok d μ' := by
  obtain ⟨a, c, hn, ha, hc⟩ := hμ
  obtain ⟨j, d, a', c', h1, h2, h3, h4⟩ := of_dl hn ha hm hc hN hL hd hd2
  exact ⟨d, _, List.mem_of_getElem? h1, ⟨a', c', by rw [get_set (Store.lt_of hn), if_pos rfl], h2, h3⟩, KeepBut.set (Store.lt_of hn), h4⟩
theorem take_p {μ : Store} {n : Nat} {m k : Int} {N : Nat} (hμ : PotAt μ n m N) (hm : m.natAbs ≤ 2 ^ 61) (hN : N < 2 ^ 60) (hk : 0 < k) (hk2 : k.natAbs ≤ 2 ^ 60) :
    ∃ (d : Int) (μ' : Store), 0 ≤ d ∧ d < k ∧ PotAt μ' n m (N + 1) ∧ KeepBut n μ μ' ∧ fzF (isoF (runB 5 xTake)) [.ref n, .p (.int k)] μ = .ok (.p (.int d)) μ' := by
  obtain ⟨a, c, hn, ha, hc⟩ := hμ
  obtain ⟨d, a', c', h1, h2, h3, h4, h5⟩ := take_fn hn ha hm hc hN hk hk2
  exact ⟨d, _, h1, h2, ⟨a', c', by rw [get_set (Store.lt_of hn), if_pos rfl], h3, h4⟩, KeepBut.set (Store.lt_of hn), h5⟩
/-- a def of the pot alone: what it gives beside other cells -/
theorem iso_pot {f : Fn} {μ μ1 : Store} {n : Nat} {m : Int} {N : Nat} {d : D} {a c : Int} (hc : μ.get? n = some (pot a m c)) (h : f [.ref 0] (st1 (pot a m c)) = .ok d μ1) (hp : PotAt μ1 0 m N) (hd : (∃ x, d = .p x) ∨ ∃ k cl, d = .ref k ∧ 1 ≤ k ∧ μ1.get? k = some cl ∧ flatC cl = true) :
    ∃ (e : D) (μ' : Store), fzF (isoF f) [.ref n] μ = .ok e μ' ∧ PotAt μ' n m N ∧ KeepBut n μ μ' ∧ ((∃ x, d = .p x ∧ e = .p x) ∨ ∃ k cl, d = .ref k ∧ μ1.get? k = some cl ∧ ∃ L, e = .ref L ∧ L ≠ n ∧ μ'.get? L = some cl) := by
  obtain ⟨a1, c1, h1, h2, h3⟩ := hp
  have hl := Store.lt_of hc
  have e : locA μ [.ref n] [] [] = some ([.ref 0], [n], [pot a m c]) := by
    unfold locA
    dsimp only
    rw [hc]
    rfl
  have b : backA μ1 [n].length 0 = some [pot a1 m c1] := by
    show (match μ1.get? 0 with
      | some c => match ownC c with
        | true => match backA μ1 0 1 with
          | some cs => some (c :: cs)
          | none => none
        | false => none
      | none => none) = _
    rw [h1]
    rfl
  rcases hd with ⟨x, rfl⟩ | ⟨k, cl, rfl, hk, hcl, hf⟩
  · refine ⟨.p x, μ.set n (pot a1 m c1), fz_run ?_, ⟨a1, c1, by rw [get_set hl, if_pos rfl], h2, h3⟩, KeepBut.set hl, .inl ⟨x, rfl, rfl⟩⟩
    unfold isoF
    rw [e]
    dsimp only
    rw [of_one, h]
    dsimp only
    rw [b]
    rfl
  · refine ⟨.ref μ.length, (μ.set n (pot a1 m c1)) ++ [cl], fz_run ?_, ⟨a1, c1, Keep.push _ _ _ _ (by rw [get_set hl, if_pos rfl]), h2, h3⟩, (KeepBut.set hl).trans (KeepBut.push _ _), .inr ⟨k, cl, rfl, hcl, μ.length, rfl, by omega, ?_⟩⟩
    · unfold isoF
      rw [e]
      dsimp only
      rw [of_one, h]
      dsimp only
      rw [b]
      dsimp only
      have q : Nat.ble [n].length k = true := Nat.ble_eq_true_of_le hk
      rw [q]
      dsimp only
      rw [hcl]
      dsimp only
      rw [hf]
      rfl
    · have := push_new (μ.set n (pot a1 m c1)) cl
      rw [Store.set_len] at this
      exact this
end Sh
set_option maxRecDepth 1000000
set_option maxHeartbeats 0
namespace Lw
open PySem PySem.Spec PyProof.Rows L2 Sh
abbrev PW : Program := PySem.Challenge.pw_treesofsteps_k21_whole_fractions
def blv : List (Str × GV) := [(("len" : Str), .free), (("abs" : Str), .free), (("max" : Str), .free), (("min" : Str), .free), (("int" : Str), .free), (("bool" : Str), .free), (("sum" : Str), .free), (("all" : Str), .free), (("any" : Str), .free), (("list" : Str), .free), (("tuple" : Str), .free), (("dict" : Str), .free), (("str" : Str), .free), (("isinstance" : Str), .free), (("range" : Str), .free), (("enumerate" : Str), .free), (("zip" : Str), .free), (("sorted" : Str), .free), (("repr" : Str), .free), (("set" : Str), .free), (("reversed" : Str), .free), (("type" : Str), .free), (("super" : Str), .free)]
def xl : List (Str × GV) := ap [(("StepError" : Str), .exc [("StepError" : Str), ("BadFraction" : Str), ("BadRow" : Str), ("BadInt" : Str)] []), (("BadFraction" : Str), .exc [("BadFraction" : Str)] [("StepError" : Str), ("BadRow" : Str), ("BadInt" : Str)]), (("BadRow" : Str), .exc [("BadRow" : Str)] [("StepError" : Str), ("BadFraction" : Str), ("BadInt" : Str)]), (("BadInt" : Str), .exc [("BadInt" : Str)] [("StepError" : Str), ("BadFraction" : Str), ("BadRow" : Str)]), (("_law_heard" : Str), .heard [("StepError" : Str), ("BadFraction" : Str), ("BadRow" : Str), ("BadInt" : Str)])] blv
def hcons : List (Str × P) := [(("NOUGHT" : Str), (.tup [(.int (0)), (.int (1))])), (("ONE" : Str), (.tup [(.int (1)), (.int (1))])), (("MOST" : Str), (.int (1000000000000))), (("MOST_LONG" : Str), (.int (60)))]
def cl : List (Str × GV) := ap (hcons.map fun q => (q.1, .con q.2)) xl
def s__law_cells : Sv := trB ⟨[("script" : Str), ("most" : Str)], (diP PW 36).scope.names, fun _ => true, 3, gL (ap [] cl), true⟩ (diP PW 36).body
def c__law_cells : CE := ceOf [("script" : Str), ("most" : Str)] 2 3 s__law_cells
def s__law_pot : Sv := trB ⟨[("script" : Str), ("place" : Str), ("cell" : Str), ("own" : Str), ("small" : Str)], (diP PW 33).scope.names, fun _ => true, 3, gL (ap [] cl), true⟩ (diP PW 33).body
def c__law_pot : CE := ceOf [("script" : Str), ("place" : Str)] 5 3 s__law_pot
def s__law_frac : Sv := trB ⟨[("top" : Str), ("bottom" : Str), ("sign" : Str), ("one" : Str), ("other" : Str)], (diP PW 40).scope.names, fun _ => true, 3, gL (ap [] cl), true⟩ (diP PW 40).body
def b__law_frac : CE := ceOf [("top" : Str), ("bottom" : Str)] 5 3 s__law_frac
theorem q__law_frac : s__law_frac = xLawFrac := by kernel_rfl
theorem w__law_frac : LFracOk b__law_frac.run := by
  have e : b__law_frac.run = fzF (isoF (runB 5 s__law_frac)) := rfl
  rw [e, q__law_frac]
  exact lfrac_ok
def c__law_frac : CE := sumC fLawFrac b__law_frac
theorem e__law_frac : c__law_frac = b__law_frac := sumC_eq (lfrac_tells w__law_frac)
theorem ok__law_frac : LFracOk c__law_frac.run := by rw [e__law_frac]; exact w__law_frac
def s__law_take : Sv := trB ⟨[("pot" : Str), ("upto" : Str), ("prime" : Str), ("mixture" : Str), ("digit" : Str)], (diP PW 34).scope.names, fun _ => true, 3, gL (ap [] cl), true⟩ (diP PW 34).body
def c__law_take : CE := ceOf [("pot" : Str), ("upto" : Str)] 5 3 s__law_take
def s__law_drawn : Sv := trB ⟨[("pot" : Str)], (diP PW 46).scope.names, fun _ => true, 4, gL (ap [(("_law_frac" : Str), .fn c__law_frac), (("_law_take" : Str), .fn c__law_take)] cl), true⟩ (diP PW 46).body
def c__law_drawn : CE := ceOf [("pot" : Str)] 1 4 s__law_drawn
def s__law_over : Sv := trB ⟨[("one" : Str), ("other" : Str)], (diP PW 43).scope.names, fun _ => true, 4, gL (ap [(("_law_frac" : Str), .fn c__law_frac)] cl), true⟩ (diP PW 43).body
def b__law_over : CE := ceOf [("one" : Str), ("other" : Str)] 2 4 s__law_over
theorem q__law_over : s__law_over = xOver c__law_frac.run := by kernel_rfl
theorem w__law_over : Tells b__law_over.run (f2 vLOver) := by
  have e : b__law_over.run = fzF (isoF (runB 2 s__law_over)) := rfl
  rw [e, q__law_over]
  exact lover_ok ok__law_frac
def c__law_over : CE := sumC (f2 vLOver) b__law_over
theorem e__law_over : c__law_over = b__law_over := sumC_eq (w__law_over)
theorem ok__law_over : Tells c__law_over.run (f2 vLOver) := by rw [e__law_over]; exact w__law_over
def s__law_times : Sv := trB ⟨[("one" : Str), ("other" : Str)], (diP PW 42).scope.names, fun _ => true, 4, gL (ap [(("_law_frac" : Str), .fn c__law_frac)] cl), true⟩ (diP PW 42).body
def b__law_times : CE := ceOf [("one" : Str), ("other" : Str)] 2 4 s__law_times
theorem q__law_times : s__law_times = xTimes c__law_frac.run := by kernel_rfl
theorem w__law_times : Tells b__law_times.run (f2 vLTimes) := by
  have e : b__law_times.run = fzF (isoF (runB 2 s__law_times)) := rfl
  rw [e, q__law_times]
  exact ltimes_ok ok__law_frac
def c__law_times : CE := sumC (f2 vLTimes) b__law_times
theorem e__law_times : c__law_times = b__law_times := sumC_eq (w__law_times)
theorem ok__law_times : Tells c__law_times.run (f2 vLTimes) := by rw [e__law_times]; exact w__law_times
def s__law_product : Sv := trB ⟨[("some" : Str), ("found" : Str), ("one" : Str)], (diP PW 45).scope.names, fun _ => true, 5, gL (ap [(("_law_times" : Str), .fn c__law_times)] cl), true⟩ (diP PW 45).body
def c__law_product : CE := ceOf [("some" : Str)] 3 5 s__law_product
def s__law_plus : Sv := trB ⟨[("one" : Str), ("other" : Str)], (diP PW 41).scope.names, fun _ => true, 4, gL (ap [(("_law_frac" : Str), .fn c__law_frac)] cl), true⟩ (diP PW 41).body
def b__law_plus : CE := ceOf [("one" : Str), ("other" : Str)] 2 4 s__law_plus
theorem q__law_plus : s__law_plus = xLPlus c__law_frac.run := by kernel_rfl
theorem w__law_plus : Tells b__law_plus.run (f2 vLPlus) := by
  have e : b__law_plus.run = fzF (isoF (runB 2 s__law_plus)) := rfl
  rw [e, q__law_plus]
  exact lplus_ok ok__law_frac
def c__law_plus : CE := sumC (f2 vLPlus) b__law_plus
theorem e__law_plus : c__law_plus = b__law_plus := sumC_eq (w__law_plus)
theorem ok__law_plus : Tells c__law_plus.run (f2 vLPlus) := by rw [e__law_plus]; exact w__law_plus
def s__law_sum : Sv := trB ⟨[("some" : Str), ("found" : Str), ("one" : Str)], (diP PW 44).scope.names, fun _ => true, 5, gL (ap [(("_law_plus" : Str), .fn c__law_plus)] cl), true⟩ (diP PW 44).body
def c__law_sum : CE := ceOf [("some" : Str)] 3 5 s__law_sum
def s_told_divisor : Sv := trB ⟨[("one" : Str), ("other" : Str)], (diP PW 12).scope.names, fun _ => true, 3, gL (ap [] cl), true⟩ (diP PW 12).body
def b_told_divisor : CE := ceOf [("one" : Str), ("other" : Str)] 2 3 s_told_divisor
theorem q_told_divisor : s_told_divisor = xDivisor := by kernel_rfl
theorem w_told_divisor : DivOk b_told_divisor.run := by
  have e : b_told_divisor.run = fzF (isoF (runB 2 s_told_divisor)) := rfl
  rw [e, q_told_divisor]
  exact div_ok
def c_told_divisor : CE := sumC fDiv b_told_divisor
theorem e_told_divisor : c_told_divisor = b_told_divisor := sumC_eq (div_tells w_told_divisor)
theorem ok_told_divisor : DivOk c_told_divisor.run := by rw [e_told_divisor]; exact w_told_divisor
def s_is_exact : Sv := trB ⟨[("value" : Str), ("part" : Str)], (diP PW 14).scope.names, fun _ => true, 4, gL (ap [(("told_divisor" : Str), .fn c_told_divisor)] cl), true⟩ (diP PW 14).body
def b_is_exact : CE := ceOf [("value" : Str)] 2 4 s_is_exact
theorem q_is_exact : s_is_exact = xIsExact c_told_divisor.run := by kernel_rfl
theorem w_is_exact : Tells b_is_exact.run (f1 vIsExact) := by
  have e : b_is_exact.run = fzF (isoF (runB 2 s_is_exact)) := rfl
  rw [e, q_is_exact]
  exact isExact_ok ok_told_divisor
def c_is_exact : CE := sumC (f1 vIsExact) b_is_exact
theorem e_is_exact : c_is_exact = b_is_exact := sumC_eq (w_is_exact)
theorem ok_is_exact : Tells c_is_exact.run (f1 vIsExact) := by rw [e_is_exact]; exact w_is_exact
def s_is_int : Sv := trB ⟨[("value" : Str), ("least" : Str), ("most" : Str)], (diP PW 6).scope.names, fun _ => true, 3, gL (ap [] cl), true⟩ (diP PW 6).body
def b_is_int : CE := ceOf [("value" : Str), ("least" : Str), ("most" : Str)] 3 3 s_is_int
theorem q_is_int : s_is_int = xIsInt := by kernel_rfl
theorem w_is_int : Tells b_is_int.run fIsInt := by
  have e : b_is_int.run = fzF (isoF (runB 3 s_is_int)) := rfl
  rw [e, q_is_int]
  exact isInt_ok
def c_is_int : CE := sumC fIsInt b_is_int
theorem e_is_int : c_is_int = b_is_int := sumC_eq (w_is_int)
theorem ok_is_int : Tells c_is_int.run fIsInt := by rw [e_is_int]; exact w_is_int
def s_is_fraction : Sv := trB ⟨[("value" : Str)], (diP PW 15).scope.names, fun _ => true, 5, gL (ap [(("is_exact" : Str), .fn c_is_exact), (("is_int" : Str), .fn c_is_int)] cl), true⟩ (diP PW 15).body
def b_is_fraction : CE := ceOf [("value" : Str)] 1 5 s_is_fraction
theorem q_is_fraction : s_is_fraction = xIsFraction c_is_exact.run c_is_int.run := by kernel_rfl
theorem w_is_fraction : Tells b_is_fraction.run (f1 vIsFraction) := by
  have e : b_is_fraction.run = fzF (isoF (runB 1 s_is_fraction)) := rfl
  rw [e, q_is_fraction]
  exact isFraction_ok ok_is_exact ok_is_int
def c_is_fraction : CE := sumC (f1 vIsFraction) b_is_fraction
theorem e_is_fraction : c_is_fraction = b_is_fraction := sumC_eq (w_is_fraction)
theorem ok_is_fraction : Tells c_is_fraction.run (f1 vIsFraction) := by rw [e_is_fraction]; exact w_is_fraction
def s_look_at_fraction : Sv := trB ⟨[("value" : Str)], (diP PW 16).scope.names, fun _ => true, 6, gL (ap [(("is_fraction" : Str), .fn c_is_fraction)] cl), true⟩ (diP PW 16).body
def c_look_at_fraction : CE := ceOf [("value" : Str)] 1 6 s_look_at_fraction
def s_opposite : Sv := trB ⟨[("one" : Str)], (diP PW 18).scope.names, fun _ => true, 3, gL (ap [] cl), true⟩ (diP PW 18).body
def b_opposite : CE := ceOf [("one" : Str)] 1 3 s_opposite
theorem q_opposite : s_opposite = xOpposite := by kernel_rfl
theorem w_opposite : Tells b_opposite.run (f1 vOpposite) := by
  have e : b_opposite.run = fzF (isoF (runB 1 s_opposite)) := rfl
  rw [e, q_opposite]
  exact opposite_ok
def c_opposite : CE := sumC (f1 vOpposite) b_opposite
theorem e_opposite : c_opposite = b_opposite := sumC_eq (w_opposite)
theorem ok_opposite : Tells c_opposite.run (f1 vOpposite) := by rw [e_opposite]; exact w_opposite
def s_told_fraction : Sv := trB ⟨[("top" : Str), ("bottom" : Str), ("shared" : Str)], (diP PW 13).scope.names, fun _ => true, 4, gL (ap [(("told_divisor" : Str), .fn c_told_divisor)] cl), true⟩ (diP PW 13).body
def b_told_fraction : CE := ceOf [("top" : Str), ("bottom" : Str)] 3 4 s_told_fraction
theorem q_told_fraction : s_told_fraction = xFraction c_told_divisor.run := by kernel_rfl
theorem w_told_fraction : FracOk b_told_fraction.run := by
  have e : b_told_fraction.run = fzF (isoF (runB 3 s_told_fraction)) := rfl
  rw [e, q_told_fraction]
  exact frac_ok ok_told_divisor
def c_told_fraction : CE := sumC fFrac b_told_fraction
theorem e_told_fraction : c_told_fraction = b_told_fraction := sumC_eq (frac_tells w_told_fraction)
theorem ok_told_fraction : FracOk c_told_fraction.run := by rw [e_told_fraction]; exact w_told_fraction
def s_plus : Sv := trB ⟨[("one" : Str), ("other" : Str)], (diP PW 17).scope.names, fun _ => true, 5, gL (ap [(("told_fraction" : Str), .fn c_told_fraction)] cl), true⟩ (diP PW 17).body
def b_plus : CE := ceOf [("one" : Str), ("other" : Str)] 2 5 s_plus
theorem q_plus : s_plus = xPlus c_told_fraction.run := by kernel_rfl
theorem w_plus : Tells b_plus.run (f2 vPlus) := by
  have e : b_plus.run = fzF (isoF (runB 2 s_plus)) := rfl
  rw [e, q_plus]
  exact plus_ok ok_told_fraction
def c_plus : CE := sumC (f2 vPlus) b_plus
theorem e_plus : c_plus = b_plus := sumC_eq (w_plus)
theorem ok_plus : Tells c_plus.run (f2 vPlus) := by rw [e_plus]; exact w_plus
def s_minus : Sv := trB ⟨[("one" : Str), ("other" : Str)], (diP PW 19).scope.names, fun _ => true, 6, gL (ap [(("opposite" : Str), .fn c_opposite), (("plus" : Str), .fn c_plus)] cl), true⟩ (diP PW 19).body
def b_minus : CE := ceOf [("one" : Str), ("other" : Str)] 2 6 s_minus
theorem q_minus : s_minus = xMinus c_plus.run c_opposite.run := by kernel_rfl
theorem w_minus : Tells b_minus.run (f2 vMinus) := by
  have e : b_minus.run = fzF (isoF (runB 2 s_minus)) := rfl
  rw [e, q_minus]
  exact minus_ok ok_plus ok_opposite
def c_minus : CE := sumC (f2 vMinus) b_minus
theorem e_minus : c_minus = b_minus := sumC_eq (w_minus)
theorem ok_minus : Tells c_minus.run (f2 vMinus) := by rw [e_minus]; exact w_minus
def s_told_sign : Sv := trB ⟨[("one" : Str)], (diP PW 22).scope.names, fun _ => true, 3, gL (ap [] cl), true⟩ (diP PW 22).body
def b_told_sign : CE := ceOf [("one" : Str)] 1 3 s_told_sign
theorem q_told_sign : s_told_sign = xSign := by kernel_rfl
theorem w_told_sign : Tells b_told_sign.run (f1 vSign) := by
  have e : b_told_sign.run = fzF (isoF (runB 1 s_told_sign)) := rfl
  rw [e, q_told_sign]
  exact sign_ok
def c_told_sign : CE := sumC (f1 vSign) b_told_sign
theorem e_told_sign : c_told_sign = b_told_sign := sumC_eq (w_told_sign)
theorem ok_told_sign : Tells c_told_sign.run (f1 vSign) := by rw [e_told_sign]; exact w_told_sign
def s_compared : Sv := trB ⟨[("one" : Str), ("other" : Str)], (diP PW 30).scope.names, fun _ => true, 7, gL (ap [(("look_at_fraction" : Str), .fn c_look_at_fraction), (("minus" : Str), .fn c_minus), (("told_sign" : Str), .fn c_told_sign)] cl), true⟩ (diP PW 30).body
def c_compared : CE := ceOf [("one" : Str), ("other" : Str)] 2 7 s_compared
def s_is_row : Sv := trB ⟨[("value" : Str), ("most" : Str), ("one" : Str)], (diP PW 25).scope.names, fun _ => true, 6, gL (ap [(("is_fraction" : Str), .fn c_is_fraction)] cl), true⟩ (diP PW 25).body
def c_is_row : CE := ceOf [("value" : Str), ("most" : Str)] 3 6 s_is_row
def s_look_at_row : Sv := trB ⟨[("value" : Str)], (diP PW 26).scope.names, fun _ => true, 7, gL (ap [(("is_row" : Str), .fn c_is_row)] cl), true⟩ (diP PW 26).body
def c_look_at_row : CE := ceOf [("value" : Str)] 1 7 s_look_at_row
def s_times : Sv := trB ⟨[("one" : Str), ("other" : Str)], (diP PW 20).scope.names, fun _ => true, 5, gL (ap [(("told_fraction" : Str), .fn c_told_fraction)] cl), true⟩ (diP PW 20).body
def b_times : CE := ceOf [("one" : Str), ("other" : Str)] 2 5 s_times
theorem q_times : s_times = xTimes c_told_fraction.run := by kernel_rfl
theorem w_times : Tells b_times.run (f2 vTimes) := by
  have e : b_times.run = fzF (isoF (runB 2 s_times)) := rfl
  rw [e, q_times]
  exact times_ok ok_told_fraction
def c_times : CE := sumC (f2 vTimes) b_times
theorem e_times : c_times = b_times := sumC_eq (w_times)
theorem ok_times : Tells c_times.run (f2 vTimes) := by rw [e_times]; exact w_times
def s_multiplied : Sv := trB ⟨[("some" : Str), ("found" : Str), ("one" : Str)], (diP PW 24).scope.names, fun _ => true, 6, gL (ap [(("times" : Str), .fn c_times)] cl), true⟩ (diP PW 24).body
def c_multiplied : CE := ceOf [("some" : Str)] 3 6 s_multiplied
def s_product_of : Sv := trB ⟨[("row" : Str)], (diP PW 28).scope.names, fun _ => true, 8, gL (ap [(("look_at_row" : Str), .fn c_look_at_row), (("multiplied" : Str), .fn c_multiplied)] cl), true⟩ (diP PW 28).body
def c_product_of : CE := ceOf [("row" : Str)] 1 8 s_product_of
def s_over : Sv := trB ⟨[("one" : Str), ("other" : Str)], (diP PW 21).scope.names, fun _ => true, 5, gL (ap [(("told_fraction" : Str), .fn c_told_fraction)] cl), true⟩ (diP PW 21).body
def b_over : CE := ceOf [("one" : Str), ("other" : Str)] 2 5 s_over
theorem q_over : s_over = xOver c_told_fraction.run := by kernel_rfl
theorem w_over : Tells b_over.run (f2 vOver) := by
  have e : b_over.run = fzF (isoF (runB 2 s_over)) := rfl
  rw [e, q_over]
  exact over_ok ok_told_fraction
def c_over : CE := sumC (f2 vOver) b_over
theorem e_over : c_over = b_over := sumC_eq (w_over)
theorem ok_over : Tells c_over.run (f2 vOver) := by rw [e_over]; exact w_over
def s_quotient_of : Sv := trB ⟨[("one" : Str), ("other" : Str)], (diP PW 29).scope.names, fun _ => true, 7, gL (ap [(("look_at_fraction" : Str), .fn c_look_at_fraction), (("over" : Str), .fn c_over)] cl), true⟩ (diP PW 29).body
def c_quotient_of : CE := ceOf [("one" : Str), ("other" : Str)] 2 7 s_quotient_of
def s_added : Sv := trB ⟨[("some" : Str), ("found" : Str), ("one" : Str)], (diP PW 23).scope.names, fun _ => true, 6, gL (ap [(("plus" : Str), .fn c_plus)] cl), true⟩ (diP PW 23).body
def c_added : CE := ceOf [("some" : Str)] 3 6 s_added
def s_sum_of : Sv := trB ⟨[("row" : Str)], (diP PW 27).scope.names, fun _ => true, 8, gL (ap [(("added" : Str), .fn c_added), (("look_at_row" : Str), .fn c_look_at_row)] cl), true⟩ (diP PW 27).body
def c_sum_of : CE := ceOf [("row" : Str)] 1 8 s_sum_of
def s__law_are_rows_right : Sv := trB ⟨[("pot" : Str), ("row" : Str), ("left" : Str), ("one" : Str), ("other" : Str), ("caught" : Str), ("told" : Str), ("at" : Str)], (diP PW 50).scope.names, fun _ => true, 11, gL (ap [(("_law_drawn" : Str), .fn c__law_drawn), (("_law_over" : Str), .fn c__law_over), (("_law_product" : Str), .fn c__law_product), (("_law_sum" : Str), .fn c__law_sum), (("_law_take" : Str), .fn c__law_take), (("compared" : Str), .fn c_compared), (("product_of" : Str), .fn c_product_of), (("quotient_of" : Str), .fn c_quotient_of), (("sum_of" : Str), .fn c_sum_of)] cl), true⟩ (diP PW 50).body
def c__law_are_rows_right : CE := ceOf [("pot" : Str)] 8 11 s__law_are_rows_right
def s__law_is_bool : Sv := trB ⟨[("told" : Str), ("due" : Str)], (diP PW 39).scope.names, fun _ => true, 3, gL (ap [] cl), true⟩ (diP PW 39).body
def c__law_is_bool : CE := ceOf [("told" : Str), ("due" : Str)] 2 3 s__law_is_bool
def s__law_is_lowest : Sv := trB ⟨[("value" : Str), ("most" : Str), ("part" : Str)], (diP PW 47).scope.names, fun _ => true, 4, gL (ap [(("_law_frac" : Str), .fn c__law_frac)] cl), true⟩ (diP PW 47).body
def c__law_is_lowest : CE := ceOf [("value" : Str), ("most" : Str)] 3 4 s__law_is_lowest
def s__law_is_value_right : Sv := trB ⟨[("value" : Str), ("fine" : Str), ("caught" : Str), ("miss" : Str)], (diP PW 49).scope.names, fun _ => true, 11, gL (ap [(("_law_is_bool" : Str), .fn c__law_is_bool), (("_law_is_lowest" : Str), .fn c__law_is_lowest), (("compared" : Str), .fn c_compared), (("is_exact" : Str), .fn c_is_exact), (("is_fraction" : Str), .fn c_is_fraction), (("quotient_of" : Str), .fn c_quotient_of), (("sum_of" : Str), .fn c_sum_of)] cl), true⟩ (diP PW 49).body
def c__law_is_value_right : CE := ceOf [("value" : Str)] 4 11 s__law_is_value_right
def s__law_of : Sv := trB ⟨[("pot" : Str), ("some" : Str)], (diP PW 35).scope.names, fun _ => true, 4, gL (ap [(("_law_take" : Str), .fn c__law_take)] cl), true⟩ (diP PW 35).body
def c__law_of : CE := ceOf [("pot" : Str), ("some" : Str)] 2 4 s__law_of
def s__law_odd : Sv := trB ⟨[("pot" : Str), ("some" : Str)], (diP PW 38).scope.names, fun _ => true, 5, gL (ap [(("_law_of" : Str), .fn c__law_of)] cl), true⟩ (diP PW 38).body
def c__law_odd : CE := ceOf [("pot" : Str)] 2 5 s__law_odd
def s__law_wild : Sv := trB ⟨[("pot" : Str), ("great" : Str), ("values" : Str), ("top" : Str), ("bottom" : Str)], (diP PW 48).scope.names, fun _ => true, 6, gL (ap [(("_law_odd" : Str), .fn c__law_odd), (("_law_of" : Str), .fn c__law_of), (("_law_take" : Str), .fn c__law_take)] cl), true⟩ (diP PW 48).body
def c__law_wild : CE := ceOf [("pot" : Str)] 5 6 s__law_wild
def s_fraction_of : Sv := trB ⟨[("top" : Str), ("bottom" : Str), ("part" : Str)], (diP PW 31).scope.names, fun _ => true, 5, gL (ap [(("is_int" : Str), .fn c_is_int), (("told_fraction" : Str), .fn c_told_fraction)] cl), true⟩ (diP PW 31).body
def c_fraction_of : CE := ceOf [("top" : Str), ("bottom" : Str)] 3 5 s_fraction_of
def s__law_right : Sv := trB ⟨[("pot" : Str), ("lap" : Str), ("great" : Str), ("caught" : Str), ("odd" : Str), ("top" : Str), ("bottom" : Str), ("told" : Str), ("miss" : Str)], (diP PW 51).scope.names, fun _ => true, 14, gL (ap [(("_law_are_rows_right" : Str), .fn c__law_are_rows_right), (("_law_frac" : Str), .fn c__law_frac), (("_law_is_value_right" : Str), .fn c__law_is_value_right), (("_law_of" : Str), .fn c__law_of), (("_law_take" : Str), .fn c__law_take), (("_law_wild" : Str), .fn c__law_wild), (("fraction_of" : Str), .fn c_fraction_of), (("is_fraction" : Str), .fn c_is_fraction), (("product_of" : Str), .fn c_product_of), (("sum_of" : Str), .fn c_sum_of)] cl), true⟩ (diP PW 51).body
def c__law_right : CE := ceOf [("pot" : Str)] 9 14 s__law_right
def s_law : Sv := trB ⟨[("script" : Str), ("place" : Str)], (diP PW 52).scope.names, fun _ => true, 15, gL (ap [(("_law_cells" : Str), .fn c__law_cells), (("_law_pot" : Str), .fn c__law_pot), (("_law_right" : Str), .fn c__law_right)] cl), true⟩ (diP PW 52).body
def c_law : CE := ceOf [("script" : Str)] 2 15 s_law
end Lw
set_option maxRecDepth 1000000
set_option maxHeartbeats 0
namespace Lw
open PySem PySem.Spec PyProof.Rows L2 Sh
/- _law_cells : 0 script 1 most -/
def x__law_cells : Sv := (sSeq (sRet (fzE (eRg1 true (fzE (eN opMax (aCons (eC (.int (1))) (aCons (fzE (eN opMin (aCons (eV 1) (aCons (fzE (eN opLen (aCons (eV 0) aNil))) aNil)))) aNil))))))) sSkip)
theorem x__law_cells_eq : s__law_cells = x__law_cells := by kernel_rfl
/- _law_pot : 0 script 1 place 2 cell 3 own 4 small -/
def x__law_pot : Sv := (sSeq (sAsg (fzE (eIf (eTest (e2 opLt (eV 1) (fzE (eN opLen (aCons (eV 0) aNil))))) (fzH (e2 opIx (eV 0) (eV 1))) (fzE (e2 opAdd (fzE (e2 opAdd (fzE (e2 opMod (fzE (eN opInt (aCons (fzE (eN opSum (aCons (fzE (eSl (eV 0) none (some (eC (.int (1)))))) aNil))) aNil))) (eC (.int (1000381))))) (fzE (e2 opMulA (eC (.int (5077))) (eV 1))))) (eC (.int (3121))))))) (gNm 2)) (sSeq (sAsg (fzE (e2 opMulA (fzE (e2 opMod (fzE (eN opInt (aCons (fzE (eN opAbs (aCons (eV 2) aNil))) aNil))) (fzE (e2 opPow (fzE (e2 opPow (eC (.int (10))) (eC (.int (60))))) (eC (.int (5))))))) (fzE (eN opInt (aCons (fzH (e2 opGe (fzE (eN opAbs (aCons (eV 2) aNil))) (fzE (e2 opPow (eC (.int (10))) (eC (.int (18))))))) aNil))))) (gNm 3)) (sSeq (sAsg (fzE (e2 opMod (fzE (eN opInt (aCons (eV 2) aNil))) (eC (.int (2305843009213693921))))) (gNm 4)) (sSeq (sRet (fzH (eN opLst (aCons (eV 3) (aCons (fzE (e2 opMod (fzE (eN opInt (aCons (fzE (e2 opAdd (fzE (e2 opAdd (fzE (e2 opMulA (eV 4) (eC (.int (70207))))) (fzE (e2 opMulA (fzE (e2 opMulA (eC (.int (13099))) (eV 1))) (eV 1))))) (eC (.int (2957))))) aNil))) (eC (.int (2305843009213693921))))) (aCons (eC (.int (0))) aNil)))))) sSkip))))
theorem x__law_pot_eq : s__law_pot = x__law_pot := by kernel_rfl
/- _law_frac : 0 top 1 bottom 2 sign 3 one 4 other -/
def x__law_frac : Sv := (sSeq (sPar 3 4 (aCons (fzE (eN opAbs (aCons (eV 0) aNil))) (aCons (fzE (eN opAbs (aCons (eV 1) aNil))) aNil))) (sSeq (sWhile whileN (eTest (e2 opNeA (eV 4) (eC (.int (0))))) (sSeq (sPar 3 4 (aCons (eV 4) (aCons (fzE (e2 opMod (eV 3) (eV 4))) aNil))) sSkip)) (sSeq (sAsg (fzE (eIf (eTest (e2 opLt (eV 1) (eC (.int (0))))) (fzE (e1 opNeg (eC (.int (1))))) (eC (.int (1))))) (gNm 2)) (sSeq (sRet (fzH (eN opTup (aCons (fzE (e2 opDiv (fzE (e2 opMulA (eV 2) (eV 0))) (eV 3))) (aCons (fzE (e2 opDiv (fzE (e2 opMulA (eV 2) (eV 1))) (eV 3))) aNil))))) sSkip))))
theorem x__law_frac_eq : s__law_frac = x__law_frac := by kernel_rfl
/- _law_take : 0 pot 1 upto 2 prime 3 mixture 4 digit -/
def x__law_take : Sv := (sSeq (sIf (eTest (e2 opGt (fzH (e2 opIx (eV 0) (eC (.int (0))))) (eC (.int (0))))) (sSeq (sAsg (fzE (e2 opMod (fzE (eN opInt (aCons (fzH (e2 opIx (eV 0) (eC (.int (0))))) aNil))) (eV 1))) (gNm 4)) (sSeq (sAsg (fzE (e2 opDiv (fzH (e2 opIx (eV 0) (eC (.int (0))))) (eV 1))) (gSb (eV 0) (eC (.int (0))) opSetI)) (sSeq (sRet (eV 4)) sSkip))) sSkip) (sSeq (sAsg (fzE (e2 opAdd (fzH (e2 opIx (eV 0) (eC (.int (2))))) (eC (.int (1))))) (gSb (eV 0) (eC (.int (2))) opSetI)) (sSeq (sAsg (fzH (e2 opIx (fzH (eN opLst (aCons (eC (.int (2147483647))) (aCons (eC (.int (2147483629))) (aCons (eC (.int (2147483587))) (aCons (eC (.int (2147483579))) (aCons (eC (.int (2147483563))) aNil))))))) (fzE (e2 opMod (fzE (eN opInt (aCons (fzH (e2 opIx (eV 0) (eC (.int (2))))) aNil))) (eC (.int (5))))))) (gNm 2)) (sSeq (sAsg (fzE (e2 opMod (fzE (eN opInt (aCons (fzE (e2 opPow (fzE (eN opInt (aCons (fzE (e2 opAdd (fzE (e2 opAdd (fzH (e2 opIx (eV 0) (eC (.int (1))))) (fzE (e2 opMulA (fzE (e2 opMulA (eC (.int (90007))) (fzH (e2 opIx (eV 0) (eC (.int (2))))))) (fzH (e2 opIx (eV 0) (eC (.int (2))))))))) (eC (.int (3011))))) aNil))) (eC (.int (3))))) aNil))) (eV 2))) (gNm 3)) (sSeq (sAsg (fzE (e2 opMod (fzE (eN opInt (aCons (fzE (e2 opMulA (eV 3) (fzE (e2 opAdd (fzE (e2 opMod (fzE (eN opInt (aCons (eV 3) aNil))) (eC (.int (13729))))) (fzE (e2 opMulA (eC (.int (433))) (fzH (e2 opIx (eV 0) (eC (.int (2))))))))))) aNil))) (eC (.int (2305843009213693907))))) (gNm 3)) (sSeq (sRet (fzE (e2 opMod (fzE (eN opInt (aCons (fzE (e2 opDiv (eV 3) (eC (.int (239))))) aNil))) (eV 1)))) sSkip))))))
theorem x__law_take_eq : s__law_take = x__law_take := by kernel_rfl
/- _law_drawn : 0 pot -/
def x__law_drawn : Sv := (sSeq (sRet (fzH (eCallP c__law_frac.run 2 (aCons (fzE (e2 opSub (fzE (eN opInt (aCons (fzH (eCallP c__law_take.run 2 (aCons (eV 0) (aCons (eC (.int (9))) aNil)))) aNil))) (eC (.int (4))))) (aCons (fzE (eN opInt (aCons (fzE (e2 opAdd (eC (.int (1))) (fzH (eCallP c__law_take.run 2 (aCons (eV 0) (aCons (eC (.int (4))) aNil)))))) aNil))) aNil))))) sSkip)
theorem x__law_drawn_eq : s__law_drawn = x__law_drawn := by kernel_rfl
/- _law_over : 0 one 1 other -/
def x__law_over : Sv := (sSeq (sRet (fzH (eCallP c__law_frac.run 2 (aCons (fzE (e2 opMulA (fzH (e2 opIx (eV 0) (eC (.int (0))))) (fzH (e2 opIx (eV 1) (eC (.int (1))))))) (aCons (fzE (e2 opMulA (fzH (e2 opIx (eV 0) (eC (.int (1))))) (fzH (e2 opIx (eV 1) (eC (.int (0))))))) aNil))))) sSkip)
theorem x__law_over_eq : s__law_over = x__law_over := by kernel_rfl
/- _law_times : 0 one 1 other -/
def x__law_times : Sv := (sSeq (sRet (fzH (eCallP c__law_frac.run 2 (aCons (fzE (e2 opMulA (fzH (e2 opIx (eV 0) (eC (.int (0))))) (fzH (e2 opIx (eV 1) (eC (.int (0))))))) (aCons (fzE (e2 opMulA (fzH (e2 opIx (eV 0) (eC (.int (1))))) (fzH (e2 opIx (eV 1) (eC (.int (1))))))) aNil))))) sSkip)
theorem x__law_times_eq : s__law_times = x__law_times := by kernel_rfl
/- _law_product : 0 some 1 found 2 one -/
def x__law_product : Sv := (sSeq (sAsg (fzH (eN opTup (aCons (eC (.int (1))) (aCons (eC (.int (1))) aNil)))) (gNm 1)) (sSeq (sFor (itAny (eV 0)) (fzG (gNm 2)) (sSeq (sAsg (fzH (eCallP c__law_times.run 2 (aCons (eV 1) (aCons (eV 2) aNil)))) (gNm 1)) sSkip)) (sSeq (sRet (eV 1)) sSkip)))
theorem x__law_product_eq : s__law_product = x__law_product := by kernel_rfl
/- _law_plus : 0 one 1 other -/
def x__law_plus : Sv := (sSeq (sRet (fzH (eCallP c__law_frac.run 2 (aCons (fzE (e2 opAdd (fzE (e2 opMulA (fzH (e2 opIx (eV 0) (eC (.int (0))))) (fzH (e2 opIx (eV 1) (eC (.int (1))))))) (fzE (e2 opMulA (fzH (e2 opIx (eV 1) (eC (.int (0))))) (fzH (e2 opIx (eV 0) (eC (.int (1))))))))) (aCons (fzE (e2 opMulA (fzH (e2 opIx (eV 0) (eC (.int (1))))) (fzH (e2 opIx (eV 1) (eC (.int (1))))))) aNil))))) sSkip)
theorem x__law_plus_eq : s__law_plus = x__law_plus := by kernel_rfl
/- _law_sum : 0 some 1 found 2 one -/
def x__law_sum : Sv := (sSeq (sAsg (fzH (eN opTup (aCons (eC (.int (0))) (aCons (eC (.int (1))) aNil)))) (gNm 1)) (sSeq (sFor (itAny (eV 0)) (fzG (gNm 2)) (sSeq (sAsg (fzH (eCallP c__law_plus.run 2 (aCons (eV 1) (aCons (eV 2) aNil)))) (gNm 1)) sSkip)) (sSeq (sRet (eV 1)) sSkip)))
theorem x__law_sum_eq : s__law_sum = x__law_sum := by kernel_rfl
/- told_divisor : 0 one 1 other -/
def x_told_divisor : Sv := (sSeq (sPar 0 1 (aCons (fzE (eN opAbs (aCons (eV 0) aNil))) (aCons (fzE (eN opAbs (aCons (eV 1) aNil))) aNil))) (sSeq (sWhile whileN (eTest (e2 opNeA (eV 1) (eC (.int (0))))) (sSeq (sPar 0 1 (aCons (eV 1) (aCons (fzE (e2 opMod (eV 0) (eV 1))) aNil))) sSkip)) (sSeq (sRet (eV 0)) sSkip)))
theorem x_told_divisor_eq : s_told_divisor = x_told_divisor := by kernel_rfl
/- is_exact : 0 value 1 part -/
def x_is_exact : Sv := (sSeq (sIf (bOr (bNot (eTru (fzE (eIsi (eV 0) .tup)))) (eTest (e2 opNeA (fzE (eN opLen (aCons (eV 0) aNil))) (eC (.int (2)))))) (sSeq (sRet (eC (.bl false))) sSkip) sSkip) (sSeq (sIf (bNot (eTru (fzE (eN opAll (aCons (fzE (eLc (itAny (eV 0)) (.nm 1) bYes (fzH (eAnd (fzE (eIsi (eV 1) .int)) (fzE (eNot (fzE (eIsi (eV 1) .bl)))))) [1])) aNil))))) (sSeq (sRet (eC (.bl false))) sSkip) sSkip) (sSeq (sRet (fzH (eAnd (fzH (e2 opGt (fzH (e2 opIx (eV 0) (eC (.int (1))))) (eC (.int (0))))) (fzH (e2 opEqA (fzH (eCallP c_told_divisor.run 2 (aCons (fzH (e2 opIx (eV 0) (eC (.int (0))))) (aCons (fzH (e2 opIx (eV 0) (eC (.int (1))))) aNil)))) (eC (.int (1)))))))) sSkip)))
theorem x_is_exact_eq : s_is_exact = x_is_exact := by kernel_rfl
/- is_int : 0 value 1 least 2 most -/
def x_is_int : Sv := (sSeq (sRet (fzH (eAnd (fzE (eIsi (eV 0) .int)) (eAnd (fzE (eNot (fzE (eIsi (eV 0) .bl)))) (fzH (eChain opLe opLe (eV 1) (eV 0) (eV 2))))))) sSkip)
theorem x_is_int_eq : s_is_int = x_is_int := by kernel_rfl
/- is_fraction : 0 value -/
def x_is_fraction : Sv := (sSeq (sRet (fzH (eAnd (fzH (eCallP c_is_exact.run 1 (aCons (eV 0) aNil))) (eAnd (fzH (eCallP c_is_int.run 3 (aCons (fzH (e2 opIx (eV 0) (eC (.int (0))))) (aCons (fzE (e1 opNeg (eC (.int (1000000000000))))) (aCons (eC (.int (1000000000000))) aNil))))) (fzH (e2 opLe (fzH (e2 opIx (eV 0) (eC (.int (1))))) (eC (.int (1000000000000))))))))) sSkip)
theorem x_is_fraction_eq : s_is_fraction = x_is_fraction := by kernel_rfl
/- look_at_fraction : 0 value -/
def x_look_at_fraction : Sv := (sSeq (sIf (bNot (eTru (fzH (eCallP c_is_fraction.run 1 (aCons (eV 0) aNil))))) (sSeq (sRaise ("BadFraction" : Str) (eV 0)) sSkip) sSkip) sSkip)
theorem x_look_at_fraction_eq : s_look_at_fraction = x_look_at_fraction := by kernel_rfl
/- opposite : 0 one -/
def x_opposite : Sv := (sSeq (sRet (fzH (eN opTup (aCons (fzE (e1 opNeg (fzH (e2 opIx (eV 0) (eC (.int (0))))))) (aCons (fzH (e2 opIx (eV 0) (eC (.int (1))))) aNil))))) sSkip)
theorem x_opposite_eq : s_opposite = x_opposite := by kernel_rfl
/- told_fraction : 0 top 1 bottom 2 shared -/
def x_told_fraction : Sv := (sSeq (sAsg (fzH (eCallP c_told_divisor.run 2 (aCons (eV 0) (aCons (eV 1) aNil)))) (gNm 2)) (sSeq (sIf (eTest (e2 opLt (eV 1) (eC (.int (0))))) (sSeq (sAsg (fzE (e1 opNeg (eV 2))) (gNm 2)) sSkip) sSkip) (sSeq (sRet (fzH (eN opTup (aCons (fzE (e2 opDiv (eV 0) (eV 2))) (aCons (fzE (e2 opDiv (eV 1) (eV 2))) aNil))))) sSkip)))
theorem x_told_fraction_eq : s_told_fraction = x_told_fraction := by kernel_rfl
/- plus : 0 one 1 other -/
def x_plus : Sv := (sSeq (sIf (eTest (e2 opEqA (fzH (e2 opIx (eV 0) (eC (.int (1))))) (fzH (e2 opIx (eV 1) (eC (.int (1))))))) (sSeq (sRet (fzH (eCallP c_told_fraction.run 2 (aCons (fzE (e2 opAdd (fzH (e2 opIx (eV 0) (eC (.int (0))))) (fzH (e2 opIx (eV 1) (eC (.int (0))))))) (aCons (fzH (e2 opIx (eV 0) (eC (.int (1))))) aNil))))) sSkip) sSkip) (sSeq (sRet (fzH (eCallP c_told_fraction.run 2 (aCons (fzE (e2 opAdd (fzE (e2 opMulA (fzH (e2 opIx (eV 0) (eC (.int (0))))) (fzH (e2 opIx (eV 1) (eC (.int (1))))))) (fzE (e2 opMulA (fzH (e2 opIx (eV 1) (eC (.int (0))))) (fzH (e2 opIx (eV 0) (eC (.int (1))))))))) (aCons (fzE (e2 opMulA (fzH (e2 opIx (eV 0) (eC (.int (1))))) (fzH (e2 opIx (eV 1) (eC (.int (1))))))) aNil))))) sSkip))
theorem x_plus_eq : s_plus = x_plus := by kernel_rfl
/- minus : 0 one 1 other -/
def x_minus : Sv := (sSeq (sRet (fzH (eCallP c_plus.run 2 (aCons (eV 0) (aCons (fzH (eCallP c_opposite.run 1 (aCons (eV 1) aNil))) aNil))))) sSkip)
theorem x_minus_eq : s_minus = x_minus := by kernel_rfl
/- told_sign : 0 one -/
def x_told_sign : Sv := (sSeq (sRet (fzE (e2 opSub (fzE (eN opInt (aCons (fzH (e2 opGt (fzH (e2 opIx (eV 0) (eC (.int (0))))) (eC (.int (0))))) aNil))) (fzE (eN opInt (aCons (fzH (e2 opLt (fzH (e2 opIx (eV 0) (eC (.int (0))))) (eC (.int (0))))) aNil)))))) sSkip)
theorem x_told_sign_eq : s_told_sign = x_told_sign := by kernel_rfl
/- compared : 0 one 1 other -/
def x_compared : Sv := (sSeq (sDrop (fzH (eCallP c_look_at_fraction.run 1 (aCons (eV 0) aNil)))) (sSeq (sDrop (fzH (eCallP c_look_at_fraction.run 1 (aCons (eV 1) aNil)))) (sSeq (sRet (fzH (eCallP c_told_sign.run 1 (aCons (fzH (eCallP c_minus.run 2 (aCons (eV 0) (aCons (eV 1) aNil)))) aNil)))) sSkip)))
theorem x_compared_eq : s_compared = x_compared := by kernel_rfl
/- is_row : 0 value 1 most 2 one -/
def x_is_row : Sv := (sSeq (sRet (fzH (eAnd (fzE (eIsi (eV 0) .tup)) (eAnd (fzH (e2 opLe (fzE (eN opLen (aCons (eV 0) aNil))) (eV 1))) (fzE (eN opAll (aCons (fzE (eLc (itAny (eV 0)) (.nm 2) bYes (fzH (eCallP c_is_fraction.run 1 (aCons (eV 2) aNil))) [2])) aNil))))))) sSkip)
theorem x_is_row_eq : s_is_row = x_is_row := by kernel_rfl
/- look_at_row : 0 value -/
def x_look_at_row : Sv := (sSeq (sIf (bNot (eTru (fzH (eCallP c_is_row.run 2 (aCons (eV 0) (aCons (eC (.int (60))) aNil)))))) (sSeq (sRaise ("BadRow" : Str) (eV 0)) sSkip) sSkip) sSkip)
theorem x_look_at_row_eq : s_look_at_row = x_look_at_row := by kernel_rfl
/- times : 0 one 1 other -/
def x_times : Sv := (sSeq (sRet (fzH (eCallP c_told_fraction.run 2 (aCons (fzE (e2 opMulA (fzH (e2 opIx (eV 0) (eC (.int (0))))) (fzH (e2 opIx (eV 1) (eC (.int (0))))))) (aCons (fzE (e2 opMulA (fzH (e2 opIx (eV 0) (eC (.int (1))))) (fzH (e2 opIx (eV 1) (eC (.int (1))))))) aNil))))) sSkip)
theorem x_times_eq : s_times = x_times := by kernel_rfl
/- multiplied : 0 some 1 found 2 one -/
def x_multiplied : Sv := (sSeq (sAsg (eC (.tup [(.int (1)), (.int (1))])) (gNm 1)) (sSeq (sFor (itAny (eV 0)) (fzG (gNm 2)) (sSeq (sAsg (fzH (eCallP c_times.run 2 (aCons (eV 1) (aCons (eV 2) aNil)))) (gNm 1)) sSkip)) (sSeq (sRet (eV 1)) sSkip)))
theorem x_multiplied_eq : s_multiplied = x_multiplied := by kernel_rfl
/- product_of : 0 row -/
def x_product_of : Sv := (sSeq (sDrop (fzH (eCallP c_look_at_row.run 1 (aCons (eV 0) aNil)))) (sSeq (sRet (fzH (eCallP c_multiplied.run 1 (aCons (eV 0) aNil)))) sSkip))
theorem x_product_of_eq : s_product_of = x_product_of := by kernel_rfl
/- over : 0 one 1 other -/
def x_over : Sv := (sSeq (sRet (fzH (eCallP c_told_fraction.run 2 (aCons (fzE (e2 opMulA (fzH (e2 opIx (eV 0) (eC (.int (0))))) (fzH (e2 opIx (eV 1) (eC (.int (1))))))) (aCons (fzE (e2 opMulA (fzH (e2 opIx (eV 0) (eC (.int (1))))) (fzH (e2 opIx (eV 1) (eC (.int (0))))))) aNil))))) sSkip)
theorem x_over_eq : s_over = x_over := by kernel_rfl
/- quotient_of : 0 one 1 other -/
def x_quotient_of : Sv := (sSeq (sDrop (fzH (eCallP c_look_at_fraction.run 1 (aCons (eV 0) aNil)))) (sSeq (sDrop (fzH (eCallP c_look_at_fraction.run 1 (aCons (eV 1) aNil)))) (sSeq (sIf (eTest (e2 opEqA (eV 1) (eC (.tup [(.int (0)), (.int (1))])))) (sSeq (sRaise ("BadFraction" : Str) (eV 1)) sSkip) sSkip) (sSeq (sRet (fzH (eCallP c_over.run 2 (aCons (eV 0) (aCons (eV 1) aNil))))) sSkip))))
theorem x_quotient_of_eq : s_quotient_of = x_quotient_of := by kernel_rfl
/- added : 0 some 1 found 2 one -/
def x_added : Sv := (sSeq (sAsg (eC (.tup [(.int (0)), (.int (1))])) (gNm 1)) (sSeq (sFor (itAny (eV 0)) (fzG (gNm 2)) (sSeq (sAsg (fzH (eCallP c_plus.run 2 (aCons (eV 1) (aCons (eV 2) aNil)))) (gNm 1)) sSkip)) (sSeq (sRet (eV 1)) sSkip)))
theorem x_added_eq : s_added = x_added := by kernel_rfl
/- sum_of : 0 row -/
def x_sum_of : Sv := (sSeq (sDrop (fzH (eCallP c_look_at_row.run 1 (aCons (eV 0) aNil)))) (sSeq (sRet (fzH (eCallP c_added.run 1 (aCons (eV 0) aNil)))) sSkip))
theorem x_sum_of_eq : s_sum_of = x_sum_of := by kernel_rfl
/- _law_are_rows_right : 0 pot 1 row 2 left 3 one 4 other 5 caught 6 told 7 at -/
def x__law_are_rows_right : Sv := (sSeq (sAsg (fzE (eN opTuple (aCons (fzE (eLc (itR range1 (aCons (fzH (eCallP c__law_take.run 2 (aCons (eV 0) (aCons (eC (.int (8))) aNil)))) aNil)) (.nm 7) bYes (fzH (eCallP c__law_drawn.run 1 (aCons (eV 0) aNil))) [7])) aNil))) (gNm 1)) (sSeq (sIf (bOr (eTest (e2 opNeA (fzE (eN opRepr (aCons (fzH (eCallK c_sum_of.run 0 1 [0] aNil (aCons (eV 1) aNil))) aNil))) (fzE (eN opRepr (aCons (fzH (eCallP c__law_sum.run 1 (aCons (eV 1) aNil))) aNil))))) (eTest (e2 opNeA (fzE (eN opRepr (aCons (fzH (eCallK c_product_of.run 0 1 [0] aNil (aCons (eV 1) aNil))) aNil))) (fzE (eN opRepr (aCons (fzH (eCallP c__law_product.run 1 (aCons (eV 1) aNil))) aNil)))))) (sSeq (sRet (eC (.bl false))) sSkip) sSkip) (sSeq (sAsg (fzH (eN opTup (aCons (fzH (eCallP c__law_drawn.run 1 (aCons (eV 0) aNil))) (aCons (fzH (eCallP c__law_drawn.run 1 (aCons (eV 0) aNil))) aNil)))) (gTp 2 (gCn (gNm 3) (gCn (gNm 4) gNo)))) (sSeq (sAsg (fzE (e2 opSub (fzE (e2 opMulA (fzH (e2 opIx (eV 3) (eC (.int (0))))) (fzH (e2 opIx (eV 4) (eC (.int (1))))))) (fzE (e2 opMulA (fzH (e2 opIx (eV 4) (eC (.int (0))))) (fzH (e2 opIx (eV 3) (eC (.int (1))))))))) (gNm 2)) (sSeq (sIf (eTest (e2 opNeA (fzE (eN opRepr (aCons (fzH (eCallK c_compared.run 1 1 [0, 1] (aCons (eV 3) aNil) (aCons (eV 4) aNil))) aNil))) (fzE (eN opRepr (aCons (fzE (e2 opSub (fzH (e2 opGt (eV 2) (eC (.int (0))))) (fzH (e2 opLt (eV 2) (eC (.int (0))))))) aNil))))) (sSeq (sRet (eC (.bl false))) sSkip) sSkip) (sSeq (sAsg (fzE (eHeard [("StepError" : Str), ("BadFraction" : Str), ("BadRow" : Str), ("BadInt" : Str)] (fzH (eCallK c_quotient_of.run 1 1 [0, 1] (aCons (eV 3) aNil) (aCons (eV 4) aNil))))) (gTp 2 (gCn (gNm 5) (gCn (gNm 6) gNo)))) (sSeq (sIf (eTest (e2 opEqA (eV 4) (fzH (eN opTup (aCons (eC (.int (0))) (aCons (eC (.int (1))) aNil)))))) (sSeq (sRet (fzH (eAnd (fzE (eIsX (eV 5) [("BadFraction" : Str)] [("StepError" : Str), ("BadRow" : Str), ("BadInt" : Str)])) (fzH (e2 opEqA (fzH (eVal [("StepError" : Str), ("BadFraction" : Str), ("BadRow" : Str), ("BadInt" : Str)] (eV 5))) (eV 4)))))) sSkip) sSkip) (sSeq (sRet (fzH (e2 opEqA (fzE (eN opRepr (aCons (eV 6) aNil))) (fzE (eN opRepr (aCons (fzH (eCallP c__law_over.run 2 (aCons (eV 3) (aCons (eV 4) aNil)))) aNil)))))) sSkip))))))))
theorem x__law_are_rows_right_eq : s__law_are_rows_right = x__law_are_rows_right := by kernel_rfl
/- _law_is_bool : 0 told 1 due -/
def x__law_is_bool : Sv := (sSeq (sRet (fzH (eAnd (fzE (eIsi (eV 0) .bl)) (fzH (e2 opEqA (eV 0) (eV 1)))))) sSkip)
theorem x__law_is_bool_eq : s__law_is_bool = x__law_is_bool := by kernel_rfl
/- _law_is_lowest : 0 value 1 most 2 part -/
def x__law_is_lowest : Sv := (sSeq (sIf (bOr (bNot (eTru (fzE (eIsi (eV 0) .tup)))) (bOr (eTest (e2 opNeA (fzE (eN opLen (aCons (eV 0) aNil))) (eC (.int (2))))) (bNot (eTru (fzE (eN opAll (aCons (fzE (eLc (itAny (eV 0)) (.nm 2) bYes (fzE (eIsi (eV 2) .int)) [2])) aNil))))))) (sSeq (sRet (eC (.bl false))) sSkip) sSkip) (sSeq (sIf (bOr (eTru (fzE (eN opAny (aCons (fzE (eLc (itAny (eV 0)) (.nm 2) bYes (fzE (eIsi (eV 2) .bl)) [2])) aNil)))) (eTest (e2 opLt (fzH (e2 opIx (eV 0) (eC (.int (1))))) (eC (.int (1)))))) (sSeq (sRet (eC (.bl false))) sSkip) sSkip) (sSeq (sRet (fzH (eAnd (fzH (e2 opEqA (fzH (eCallP c__law_frac.run 2 (aCons (fzH (e2 opIx (eV 0) (eC (.int (0))))) (aCons (fzH (e2 opIx (eV 0) (eC (.int (1))))) aNil)))) (eV 0))) (fzH (e2 opLe (fzE (eN opMax (aCons (fzE (eN opAbs (aCons (fzH (e2 opIx (eV 0) (eC (.int (0))))) aNil))) (aCons (fzH (e2 opIx (eV 0) (eC (.int (1))))) aNil)))) (eV 1)))))) sSkip)))
theorem x__law_is_lowest_eq : s__law_is_lowest = x__law_is_lowest := by kernel_rfl
/- _law_is_value_right : 0 value 1 fine 2 caught 3 miss -/
def x__law_is_value_right : Sv := (sSeq (sIf (bNot (eTru (fzH (eCallP c__law_is_bool.run 2 (aCons (fzH (eCallK c_is_exact.run 0 1 [0] aNil (aCons (eV 0) aNil))) (aCons (fzH (eCallP c__law_is_lowest.run 2 (aCons (eV 0) (aCons (fzE (e2 opMulA (fzE (e2 opPow (eC (.int (10))) (eC (.int (45))))) (fzE (e2 opPow (eC (.int (10))) (eC (.int (45))))))) aNil)))) aNil)))))) (sSeq (sRet (eC (.bl false))) sSkip) sSkip) (sSeq (sAsg (fzH (eCallP c__law_is_lowest.run 2 (aCons (eV 0) (aCons (fzE (e2 opPow (eC (.int (10))) (eC (.int (12))))) aNil)))) (gNm 1)) (sSeq (sIf (bNot (eTru (fzH (eCallP c__law_is_bool.run 2 (aCons (fzH (eCallK c_is_fraction.run 0 1 [0] aNil (aCons (eV 0) aNil))) (aCons (eV 1) aNil)))))) (sSeq (sRet (eC (.bl false))) sSkip) sSkip) (sSeq (sAsg (fzH (eN opLst (aCons (fzH (e2 opIx (fzE (eHeard [("StepError" : Str), ("BadFraction" : Str), ("BadRow" : Str), ("BadInt" : Str)] (fzH (eCallP c_quotient_of.run 2 (aCons (eV 0) (aCons (eC .non) aNil)))))) (eC (.int (0))))) aNil))) (gNm 2)) (sSeq (sDrop (fzE (eM .lst opAppend (eV 2) (aCons (fzH (e2 opIx (fzE (eHeard [("StepError" : Str), ("BadFraction" : Str), ("BadRow" : Str), ("BadInt" : Str)] (fzH (eCallP c_compared.run 2 (aCons (fzH (eN opTup (aCons (eC (.int (1))) (aCons (eC (.int (2))) aNil)))) (aCons (eV 0) aNil)))))) (eC (.int (0))))) aNil)))) (sSeq (sIf (bOr (bNot (eTru (fzE (eIsX (fzH (e2 opIx (eV 2) (eC (.int (0))))) [("BadFraction" : Str)] [("StepError" : Str), ("BadRow" : Str), ("BadInt" : Str)])))) (eTest (e2 opNeA (eV 1) (fzH (e2 opIs (fzH (e2 opIx (eV 2) (eC (.int (1))))) (eC .non)))))) (sSeq (sRet (eC (.bl false))) sSkip) sSkip) (sSeq (sIf (bAnd (bNot (eTru (eV 1))) (bNot (eTru (fzE (eIsX (fzH (e2 opIx (eV 2) (eC (.int (1))))) [("BadFraction" : Str)] [("StepError" : Str), ("BadRow" : Str), ("BadInt" : Str)]))))) (sSeq (sRet (eC (.bl false))) sSkip) sSkip) (sSeq (sIf (bAnd (bNot (eTru (eV 1))) (eTest (e2 opNeA (fzE (eLc (itAny (eV 2)) (.nm 3) bYes (fzE (eN opRepr (aCons (fzH (eVal [("StepError" : Str), ("BadFraction" : Str), ("BadRow" : Str), ("BadInt" : Str)] (eV 3))) aNil))) [3])) (fzE (e2 opMulA (fzH (eN opLst (aCons (fzE (eN opRepr (aCons (eV 0) aNil))) aNil))) (eC (.int (2)))))))) (sSeq (sRet (eC (.bl false))) sSkip) sSkip) (sSeq (sAsg (fzH (e2 opIx (fzE (eHeard [("StepError" : Str), ("BadFraction" : Str), ("BadRow" : Str), ("BadInt" : Str)] (fzH (eCallP c_sum_of.run 1 (aCons (fzH (eN opTup (aCons (eV 0) (aCons (fzH (eN opTup (aCons (eC (.int (1))) (aCons (eC (.int (2))) aNil)))) aNil)))) aNil))))) (eC (.int (0))))) (gNm 2)) (sSeq (sRet (fzH (eAnd (fzH (e2 opEqA (fzH (e2 opIs (eV 2) (eC .non))) (eV 1))) (fzH (eOr (eV 1) (fzE (eIsX (eV 2) [("BadRow" : Str)] [("StepError" : Str), ("BadFraction" : Str), ("BadInt" : Str)]))))))) sSkip))))))))))
theorem x__law_is_value_right_eq : s__law_is_value_right = x__law_is_value_right := by kernel_rfl
/- _law_of : 0 pot 1 some -/
def x__law_of : Sv := (sSeq (sRet (fzH (e2 opIx (eV 1) (fzH (eCallP c__law_take.run 2 (aCons (eV 0) (aCons (fzE (eN opLen (aCons (eV 1) aNil))) aNil))))))) sSkip)
theorem x__law_of_eq : s__law_of = x__law_of := by kernel_rfl
/- _law_odd : 0 pot 1 some -/
def x__law_odd : Sv := (sSeq (sAsg (fzH (eN opLst (aCons (eC .non) (aCons (eC (.bl true)) (aCons (eC (.bl false)) (aCons (eC (.int (0))) (aCons (eC (.int (1))) (aCons (fzE (e1 opNeg (eC (.int (1))))) (aCons (eC (.int (2))) (aCons (eC (.int (33))) (aCons (fzE (e2 opPow (eC (.int (10))) (eC (.int (20))))) (aCons (eC (.str [])) (aCons (eC (.str [97])) (aCons (eC (.str [45])) (aCons (fzH (eN opTup aNil)) (aCons (fzH (eN opLst aNil)) (aCons (fzE eDict0) (aCons (fzH (eN opTup (aCons (eC (.int (0))) aNil))) (aCons (fzH (eN opTup (aCons (fzH (eN opTup aNil)) aNil))) (aCons (fzH (eN opLst (aCons (eC (.int (1))) aNil))) (aCons (fzH (eN opTup (aCons (fzH (eN opTup (aCons (eC (.str [97])) (aCons (eC (.str [97])) aNil)))) aNil))) aNil))))))))))))))))))))) (gNm 1)) (sSeq (sAsg (fzE (e2 opAdd (eV 1) (fzH (eN opLst (aCons (fzH (eN opTup (aCons (eC (.int (0))) (aCons (eC (.int (1))) aNil)))) (aCons (fzH (eN opTup (aCons (eC .non) aNil))) (aCons (fzE (eDisp [((eC (.str [97])), (eC (.int (1))))])) (aCons (fzH (eN opTup (aCons (fzH (eN opTup (aCons (eC (.int (0))) (aCons (eC (.int (1))) aNil)))) (aCons (fzH (eN opTup (aCons (eC (.int (1))) (aCons (eC (.int (2))) aNil)))) aNil)))) (aCons (fzH (eN opTup (aCons (eC (.int (2))) (aCons (eC (.int (1))) (aCons (eC (.int (0))) aNil))))) (aCons (fzH (eN opTup (aCons (fzH (eN opTup (aCons (eC (.bl true)) aNil))) aNil))) (aCons (fzH (eN opTup (aCons (eC (.str [110, 111, 110, 101])) (aCons (eC (.int (3))) aNil)))) (aCons (fzH (eN opTup (aCons (eC (.str [111, 110, 101, 115])) aNil))) aNil)))))))))))) (gNm 1)) (sSeq (sRet (fzH (eCallP c__law_of.run 2 (aCons (eV 0) (aCons (eV 1) aNil))))) sSkip)))
theorem x__law_odd_eq : s__law_odd = x__law_odd := by kernel_rfl
/- _law_wild : 0 pot 1 great 2 values 3 top 4 bottom -/
def x__law_wild : Sv := (sSeq (sAsg (fzH (eCallP c__law_of.run 2 (aCons (eV 0) (aCons (fzH (eN opLst (aCons (fzE (e2 opPow (eC (.int (10))) (eC (.int (12))))) (aCons (fzE (e2 opAdd (fzE (e2 opPow (eC (.int (10))) (eC (.int (12))))) (eC (.int (1))))) (aCons (fzE (e2 opPow (eC (.int (10))) (eC (.int (30))))) (aCons (fzE (e2 opSub (fzE (e2 opPow (eC (.int (10))) (eC (.int (12))))) (eC (.int (1))))) aNil)))))) aNil)))) (gNm 1)) (sSeq (sPar 3 4 (aCons (fzE (e2 opSub (fzE (eN opInt (aCons (fzH (eCallP c__law_take.run 2 (aCons (eV 0) (aCons (eC (.int (41))) aNil)))) aNil))) (eC (.int (20))))) (aCons (fzE (e2 opSub (fzE (eN opInt (aCons (fzH (eCallP c__law_take.run 2 (aCons (eV 0) (aCons (eC (.int (12))) aNil)))) aNil))) (eC (.int (1))))) aNil))) (sSeq (sAsg (fzH (eN opLst (aCons (fzH (eN opTup (aCons (eV 3) (aCons (eV 4) aNil)))) (aCons (fzH (eN opTup (aCons (eV 1) (aCons (eC (.int (1))) aNil)))) (aCons (fzH (eN opTup (aCons (eC (.int (1))) (aCons (eV 1) aNil)))) (aCons (fzH (eN opTup (aCons (fzE (e1 opNeg (eV 1))) (aCons (eC (.int (7))) aNil)))) (aCons (fzH (eN opTup (aCons (eV 3) (aCons (eV 4) (aCons (eC (.int (1))) aNil))))) (aCons (fzH (eN opLst (aCons (eV 3) (aCons (eC (.int (1))) aNil)))) (aCons (fzH (eN opTup (aCons (eV 3) (aCons (eC (.bl true)) aNil)))) aNil))))))))) (gNm 2)) (sSeq (sAsg (fzE (e2 opAdd (eV 2) (fzH (eN opLst (aCons (fzH (eN opTup (aCons (fzE (e2 opAdd (eV 3) (eC (.int (0))))) (aCons (eC (.int (1))) aNil)))) (aCons (eV 3) aNil)))))) (gNm 2)) (sSeq (sRet (fzH (eCallP c__law_of.run 2 (aCons (eV 0) (aCons (fzE (e2 opAdd (eV 2) (fzH (eN opLst (aCons (fzH (eCallP c__law_odd.run 1 (aCons (eV 0) aNil))) (aCons (fzH (eN opTup (aCons (eV 3) (aCons (eV 4) aNil)))) (aCons (fzH (eN opTup (aCons (eV 3) (aCons (eV 4) aNil)))) aNil))))))) aNil))))) sSkip)))))
theorem x__law_wild_eq : s__law_wild = x__law_wild := by kernel_rfl
/- fraction_of : 0 top 1 bottom 2 part -/
def x_fraction_of : Sv := (sSeq (sFor (itAny (fzH (eN opTup (aCons (eV 0) (aCons (eV 1) aNil))))) (fzG (gNm 2)) (sSeq (sIf (bNot (eTru (fzH (eCallP c_is_int.run 3 (aCons (eV 2) (aCons (fzE (e1 opNeg (eC (.int (1000000000000))))) (aCons (eC (.int (1000000000000))) aNil))))))) (sSeq (sRaise ("BadInt" : Str) (eV 2)) sSkip) sSkip) sSkip)) (sSeq (sIf (eTest (e2 opEqA (eV 1) (eC (.int (0))))) (sSeq (sRaise ("BadInt" : Str) (eV 1)) sSkip) sSkip) (sSeq (sRet (fzH (eCallP c_told_fraction.run 2 (aCons (eV 0) (aCons (eV 1) aNil))))) sSkip)))
theorem x_fraction_of_eq : s_fraction_of = x_fraction_of := by kernel_rfl
/- _law_right : 0 pot 1 lap 2 great 3 caught 4 odd 5 top 6 bottom 7 told 8 miss -/
def x__law_right : Sv := (sSeq (sFor (itR range1 (aCons (eC (.int (40))) aNil)) (fzG (gNm 1)) (sSeq (sIf (bOr (bNot (eTru (fzH (eCallP c__law_is_value_right.run 1 (aCons (fzH (eCallP c__law_wild.run 1 (aCons (eV 0) aNil))) aNil))))) (bNot (eTru (fzH (eCallP c__law_are_rows_right.run 1 (aCons (eV 0) aNil)))))) (sSeq (sRet (eC (.bl false))) sSkip) sSkip) (sSeq (sAsg (fzH (eN opTup (aCons (fzE (e2 opSub (fzE (eN opInt (aCons (fzH (eCallP c__law_take.run 2 (aCons (eV 0) (aCons (eC (.int (2001))) aNil)))) aNil))) (eC (.int (1000))))) (aCons (fzE (e2 opSub (fzE (eN opInt (aCons (fzH (eCallP c__law_take.run 2 (aCons (eV 0) (aCons (eC (.int (201))) aNil)))) aNil))) (eC (.int (100))))) aNil)))) (gTp 2 (gCn (gNm 5) (gCn (gNm 6) gNo)))) (sSeq (sAsg (fzE (eHeard [("StepError" : Str), ("BadFraction" : Str), ("BadRow" : Str), ("BadInt" : Str)] (fzH (eCallK c_fraction_of.run 1 1 [0, 1] (aCons (eV 5) aNil) (aCons (eV 6) aNil))))) (gTp 2 (gCn (gNm 3) (gCn (gNm 7) gNo)))) (sSeq (sIf (bAnd (eTest (e2 opEqA (eV 6) (eC (.int (0))))) (bOr (bNot (eTru (fzE (eIsX (eV 3) [("BadInt" : Str)] [("StepError" : Str), ("BadFraction" : Str), ("BadRow" : Str)])))) (eTest (e2 opNeA (fzH (eVal [("StepError" : Str), ("BadFraction" : Str), ("BadRow" : Str), ("BadInt" : Str)] (eV 3))) (eC (.int (0))))))) (sSeq (sRet (eC (.bl false))) sSkip) sSkip) (sSeq (sIf (bAnd (eTest (e2 opNeA (eV 6) (eC (.int (0))))) (eTest (e2 opNeA (fzE (eN opRepr (aCons (eV 7) aNil))) (fzE (eN opRepr (aCons (fzH (eCallP c__law_frac.run 2 (aCons (eV 5) (aCons (eV 6) aNil)))) aNil)))))) (sSeq (sRet (eC (.bl false))) sSkip) sSkip) sSkip)))))) (sSeq (sAsg (fzE (e2 opPow (eC (.int (10))) (eC (.int (12))))) (gNm 2)) (sSeq (sIf (bOr (eTest (e2 opNeA (fzH (eCallP c_fraction_of.run 2 (aCons (eV 2) (aCons (fzE (e1 opNeg (eV 2))) aNil)))) (fzH (eN opTup (aCons (fzE (e1 opNeg (eC (.int (1))))) (aCons (eC (.int (1))) aNil)))))) (bOr (eTest (e2 opIsNot (fzH (eCallP c_is_fraction.run 1 (aCons (fzH (eN opTup (aCons (eV 2) (aCons (fzE (e2 opSub (eV 2) (eC (.int (1))))) aNil)))) aNil))) (eC (.bl true)))) (eTest (e2 opNeA (fzH (eCallP c_sum_of.run 1 (aCons (fzH (eN opTup aNil)) aNil))) (fzH (eN opTup (aCons (eC (.int (0))) (aCons (eC (.int (1))) aNil)))))))) (sSeq (sRet (eC (.bl false))) sSkip) sSkip) (sSeq (sIf (bOr (eTest (e2 opNeA (fzH (eCallK c_product_of.run 0 1 [0] aNil (aCons (fzH (eN opTup aNil)) aNil))) (fzH (eN opTup (aCons (eC (.int (1))) (aCons (eC (.int (1))) aNil)))))) (eTest (e2 opNeA (fzH (eCallP c_sum_of.run 1 (aCons (fzE (e2 opMulA (fzH (eN opTup (aCons (fzH (eN opTup (aCons (eC (.int (1))) (aCons (eC (.int (2))) aNil)))) aNil))) (eC (.int (60))))) aNil))) (fzH (eN opTup (aCons (eC (.int (30))) (aCons (eC (.int (1))) aNil))))))) (sSeq (sRet (eC (.bl false))) sSkip) sSkip) (sSeq (sAsg (fzH (eN opLst (aCons (fzH (e2 opIx (fzE (eHeard [("StepError" : Str), ("BadFraction" : Str), ("BadRow" : Str), ("BadInt" : Str)] (fzH (eCallP c_sum_of.run 1 (aCons (fzE (e2 opMulA (fzH (eN opTup (aCons (fzH (eN opTup (aCons (eC (.int (1))) (aCons (eC (.int (2))) aNil)))) aNil))) (eC (.int (61))))) aNil))))) (eC (.int (0))))) aNil))) (gNm 3)) (sSeq (sDrop (fzE (eM .lst opAppend (eV 3) (aCons (fzH (e2 opIx (fzE (eHeard [("StepError" : Str), ("BadFraction" : Str), ("BadRow" : Str), ("BadInt" : Str)] (fzH (eCallP c_product_of.run 1 (aCons (fzH (eN opLst (aCons (fzH (eN opTup (aCons (eC (.int (1))) (aCons (eC (.int (2))) aNil)))) aNil))) aNil))))) (eC (.int (0))))) aNil)))) (sSeq (sIf (bNot (eTru (fzE (eN opAll (aCons (fzE (eLc (itAny (eV 3)) (.nm 8) bYes (fzE (eIsX (eV 8) [("BadRow" : Str)] [("StepError" : Str), ("BadFraction" : Str), ("BadInt" : Str)])) [8])) aNil))))) (sSeq (sRet (eC (.bl false))) sSkip) sSkip) (sSeq (sAsg (fzH (eCallP c__law_of.run 2 (aCons (eV 0) (aCons (fzH (eN opLst (aCons (eC .non) (aCons (fzE (e2 opAdd (eV 2) (eC (.int (1))))) (aCons (eC (.bl true)) (aCons (eC (.str [49])) (aCons (fzE (e2 opSub (fzE (e1 opNeg (eV 2))) (eC (.int (1))))) aNil))))))) aNil)))) (gNm 4)) (sSeq (sAsg (fzH (eN opLst (aCons (fzH (e2 opIx (fzE (eHeard [("StepError" : Str), ("BadFraction" : Str), ("BadRow" : Str), ("BadInt" : Str)] (fzH (eCallP c_fraction_of.run 2 (aCons (eV 4) (aCons (eC .non) aNil)))))) (eC (.int (0))))) aNil))) (gNm 3)) (sSeq (sDrop (fzE (eM .lst opAppend (eV 3) (aCons (fzH (e2 opIx (fzE (eHeard [("StepError" : Str), ("BadFraction" : Str), ("BadRow" : Str), ("BadInt" : Str)] (fzH (eCallP c_fraction_of.run 2 (aCons (eC (.int (1))) (aCons (eV 4) aNil)))))) (eC (.int (0))))) aNil)))) (sSeq (sRet (fzE (eN opAll (aCons (fzE (eLc (itAny (eV 3)) (.nm 8) bYes (fzH (eAnd (fzE (eIsX (eV 8) [("BadInt" : Str)] [("StepError" : Str), ("BadFraction" : Str), ("BadRow" : Str)])) (fzH (e2 opEqA (fzE (eN opRepr (aCons (fzH (eVal [("StepError" : Str), ("BadFraction" : Str), ("BadRow" : Str), ("BadInt" : Str)] (eV 8))) aNil))) (fzE (eN opRepr (aCons (eV 4) aNil))))))) [8])) aNil)))) sSkip)))))))))))
theorem x__law_right_eq : s__law_right = x__law_right := by kernel_rfl
/- law : 0 script 1 place -/
def x_law : Sv := (sSeq (sRet (fzE (eN opAll (aCons (fzE (eLc (itAny (fzH (eCallP c__law_cells.run 2 (aCons (eV 0) (aCons (eC (.int (3))) aNil))))) (.nm 1) bYes (fzH (eCallP c__law_right.run 1 (aCons (fzH (eCallP c__law_pot.run 2 (aCons (eV 0) (aCons (eV 1) aNil)))) aNil))) [1])) aNil)))) sSkip)
theorem x_law_eq : s_law = x_law := by kernel_rfl
end Lw
set_option maxRecDepth 100000
set_option maxHeartbeats 4000000
namespace Lw
open PySem PySem.Spec PyProof.Rows L2 Sh
/-! ### small fractions -/
def Sm (x : P) : Prop := ∃ t b : Int, x = mkFr t b ∧ -4 ≤ t ∧ t ≤ 4 ∧ 1 ≤ b ∧ b ≤ 4
theorem sm_low {x : P} (h : Sm x) : ∃ n d : Int, x = fr n d ∧ 0 < d ∧ d ≤ 4 ∧ n.natAbs ≤ 4 ∧ Nat.gcd n.natAbs d.natAbs = 1 := by
  obtain ⟨t, b, rfl, h1, h2, h3, h4⟩ := h
  obtain ⟨n, d, e, l⟩ := low_of (t := t) (b := b) (by omega)
  have p := l.pos
  have a1 := l.ln
  have a2 := l.ld
  exact ⟨n, d, e, p, by omega, by omega, l.co⟩
theorem isFr_ok {n d : Int} (h1 : 0 < d) (h2 : d ≤ 1000000) (h3 : n.natAbs ≤ 1000000) (h4 : Nat.gcd n.natAbs d.natAbs = 1) (μ : Store) : c_is_fraction.run [.p (fr n d)] μ = .ok (.p (.bl true)) μ := by
  refine ok_is_fraction [.p (fr n d)] _ μ ?_
  show vIsFraction n d = _
  have s1 : sm 8000 d.natAbs = true := sm_le (B := 1000000) (by omega) (by decide +kernel)
  have e : vIsExact n d = some (.bl true) := by
    unfold vIsExact
    rw [decide_eq_true h1]
    dsimp only
    rw [s1]
    dsimp only
    rw [h4]
    rfl
  unfold vIsFraction
  rw [e]
  dsimp only
  rw [decide_eq_false (by omega : ¬ n < -1000000000000), decide_eq_false (by omega : ¬ (1000000000000 : Int) < n), decide_eq_false (by omega : ¬ (1000000000000 : Int) < d)]
  rfl
theorem look_ok {n d : Int} (h1 : 0 < d) (h2 : d ≤ 1000000) (h3 : n.natAbs ≤ 1000000) (h4 : Nat.gcd n.natAbs d.natAbs = 1) (μ : Store) : c_look_at_fraction.run [.p (fr n d)] μ = .ok (.p .non) μ := by
  refine tells_iso (ps := [fr n d]) (μ1 := Store.emp) (runB_n (ρ1 := [some (.p (fr n d))]) ?_)
  rw [x_look_at_fraction_eq]
  unfold x_look_at_fraction
  exact (seq_n ((if_f (is_Not (q := true) (is_Tru (is_HR (is_P (is_cons (is_V rfl) is_nil) rfl (isFr_ok h1 h2 h3 h4 _))) rfl))).trans rfl)).trans rfl
/-! ### rows of small fractions -/
theorem isRow_ok {ps : List P} (hp : ∀ x ∈ ps, Sm x) (hl : ps.length ≤ 60) (μ : Store) : c_is_row.run [.p (.tup ps), .p (.int 60)] μ = .ok (.p (.bl true)) μ := by
  have lc := lc_fix (it := itAny (eV 0)) (el := fzH (eCallP c_is_fraction.run 1 (aCons (eV 2) aNil))) (v := 2) (ρ := [some (.p (.tup ps)), some (.p (.int 60)), none]) (μ := Store.emp) (μ1 := Store.emp) (ds := ps.map .p) (J := fun i acc μ => μ = Store.emp ∧ acc = List.replicate i (.p (.bl true))) rfl ⟨rfl, rfl⟩ (by rw [List.length_map]; unfold szMax; omega) (by
    rintro i d acc μ hd ⟨rfl, rfl⟩
    rw [List.getElem?_map] at hd
    obtain ⟨x, hx, rfl⟩ := Option.map_eq_some_iff.mp hd
    obtain ⟨n, d, rfl, a1, a2, a3, a4⟩ := sm_low (hp x (List.mem_of_getElem? hx))
    exact ⟨.p (.bl true), Store.emp, is_HR (is_P (is_cons (is_V rfl) is_nil) rfl (isFr_ok a1 (by omega) (by omega) a4 _)), rfl, rfl⟩)
  obtain ⟨acc, μ2, ⟨rfl, rfl⟩, _, h⟩ := lc
  have l1 : ((ps.length : Int) ≤ 60) := by omega
  refine tells_iso (ps := [.tup ps, .int 60]) (μ1 := Store.emp ++ [mkL (List.replicate (List.map D.p ps).length (D.p (P.bl true))).reverse]) (runB_r ?_)
  rw [x_is_row_eq]
  unfold x_is_row
  have le : opLe (.p (.int (ps.length : Int))) (.p (.int 60)) Store.emp = some (.p (.bl true), Store.emp) := by
    show some (D.p (.bl (!decide ((60 : Int) < (ps.length : Int)))), Store.emp) = _
    rw [decide_eq_false (by omega)]
    rfl
  have all := all_true (ps.map D.p).length Store.emp
  rw [List.append_nil] at all
  exact seq_r (ret_r (is_H (is_eAndT (is_E (show Is (eIsi (eV 0) .tup) _ _ (.p (.bl true)) Store.emp from rfl)) rfl (is_eAndT (is_H (is_2 (is_E (is_N (is_cons (is_V rfl) is_nil) (show opLen [.p (.tup ps)] Store.emp = some (.p (.int ps.length), Store.emp) from rfl))) (is_V rfl) le)) rfl (is_E (is_N (is_cons (is_E h) is_nil) all))))))
theorem lookRow_ok {ps : List P} (hp : ∀ x ∈ ps, Sm x) (hl : ps.length ≤ 60) (μ : Store) : c_look_at_row.run [.p (.tup ps)] μ = .ok (.p .non) μ := by
  refine tells_iso (ps := [.tup ps]) (μ1 := Store.emp) (runB_n (ρ1 := [some (.p (.tup ps))]) ?_)
  rw [x_look_at_row_eq]
  unfold x_look_at_row
  exact (seq_n ((if_f (is_Not (q := true) (is_Tru (is_HR (is_P (is_cons (is_V rfl) (is_cons is_C is_nil)) rfl (isRow_ok hp hl _))) rfl))).trans rfl)).trans rfl
/-! ### sums, products -/
def Bd (k : Nat) (y : P) : Prop := ∃ n d : Int, y = fr n d ∧ 0 < d ∧ d.natAbs ≤ 4 ^ k ∧ n.natAbs ≤ 8 ^ (k + 1)
def addP : P → P → P
  | .tup [.int n, .int d], .tup [.int a, .int b] => mkFr (n * b + a * d) (d * b)
  | x, _ => x
def mulP : P → P → P
  | .tup [.int n, .int d], .tup [.int a, .int b] => mkFr (n * a) (d * b)
  | x, _ => x
theorem smA_of {a b c d : Int} {B : Nat} (h1 : a.natAbs ≤ B) (h2 : b.natAbs ≤ B) (h3 : c.natAbs ≤ B) (h4 : d.natAbs ≤ B) (hB : sm 200000 B = true) : smA a b c d = true := by
  unfold smA
  rw [sm_le h1 hB, sm_le h2 hB, sm_le h3 hB, sm_le h4 hB]
  rfl
theorem pow_le8 {k : Nat} (h : k ≤ 7) : 4 ^ k ≤ 16384 ∧ 8 ^ (k + 1) ≤ 16777216 := by
  constructor
  · exact Nat.le_trans (Nat.pow_le_pow_right (by decide) h) (by decide)
  · exact Nat.le_trans (Nat.pow_le_pow_right (by decide) (show k + 1 ≤ 8 by omega)) (by decide)
theorem fracV_at {t b : Int} (hb : b ≠ 0) (h : b.natAbs ≤ 2 ^ 100) : fracV t b = some (mkFr t b) := by
  unfold fracV
  rw [decide_eq_false hb]
  dsimp only
  rw [sm_le h (by decide +kernel)]
theorem lfracV_at {t b : Int} (hb : b ≠ 0) (h : b.natAbs ≤ 2 ^ 100) (ht : t.natAbs ≤ 2 ^ 100) : lfracV t b = some (mkFr t b) := by
  unfold lfracV
  rw [decide_eq_false hb]
  dsimp only
  rw [sm_le h (by decide +kernel), sm_le ht (by decide +kernel)]
  rfl
theorem add_step {k : Nat} (hk : k ≤ 6) {f x : P} (hf : Bd k f) (hx : Sm x) : (∀ μ, c_plus.run [.p f, .p x] μ = .ok (.p (addP f x)) μ ∧ c__law_plus.run [.p f, .p x] μ = .ok (.p (addP f x)) μ) ∧ Bd (k + 1) (addP f x) := by
  obtain ⟨n, d, rfl, d0, d1, n1⟩ := hf
  obtain ⟨a, b, rfl, b0, b1, a1, _⟩ := sm_low hx
  obtain ⟨p1, p2⟩ := pow_le8 (k := k) (by omega)
  have hsm : smA n d a b = true := smA_of (B := 16777216) (by omega) (by omega) (by omega) (by omega) (by decide +kernel)
  have db : d * b ≠ 0 := Int.mul_ne_zero (by omega) (by omega)
  have m1 : (d * b).natAbs ≤ 4 ^ (k + 1) := by
    rw [Int.natAbs_mul, Nat.pow_succ]
    exact Nat.mul_le_mul d1 (by omega)
  have m2 : (n * b + a * d).natAbs ≤ 8 ^ (k + 2) := by
    refine Nat.le_trans (Int.natAbs_add_le _ _) ?_
    rw [Int.natAbs_mul, Int.natAbs_mul]
    have q1 : n.natAbs * b.natAbs ≤ 8 ^ (k + 1) * 4 := Nat.mul_le_mul n1 (by omega)
    have q2 : a.natAbs * d.natAbs ≤ 4 * 4 ^ k := Nat.mul_le_mul (by omega) d1
    have q3 : 4 ^ k ≤ 8 ^ k := Nat.pow_le_pow_left (by decide) k
    have q4 : 8 ^ (k + 1) = 8 ^ k * 8 := Nat.pow_succ 8 k
    have q5 : 8 ^ (k + 2) = 8 ^ (k + 1) * 8 := Nat.pow_succ 8 (k + 1)
    omega
  obtain ⟨p3, p4⟩ := pow_le8 (k := k + 1) (by omega)
  have m2' : (n * b + a * d).natAbs ≤ 16777216 * 8 := by
    have q5 : 8 ^ (k + 2) = 8 ^ (k + 1) * 8 := Nat.pow_succ 8 (k + 1)
    omega
  have e : addP (fr n d) (fr a b) = mkFr (n * b + a * d) (d * b) := rfl
  refine ⟨fun μ => ⟨?_, ?_⟩, ?_⟩
  · refine ok_plus [.p (fr n d), .p (fr a b)] _ μ ?_
    rw [f2_at hsm, e]
    unfold vPlus
    split
    · rename_i q
      have ed : d = b := by simpa using q
      subst ed
      have dz : d ≠ 0 := by omega
      have db2 : d.natAbs ≤ 2 ^ 100 := Nat.le_trans d1 (Nat.le_trans p1 (by decide +kernel))
      refine (fracV_at dz db2).trans (congrArg some (mkFr_eq dz db ?_))
      rw [Int.add_mul, ← Int.mul_assoc, ← Int.mul_assoc, Int.add_mul]
    · exact fracV_at db (Nat.le_trans m1 (Nat.le_trans p3 (by decide +kernel)))
  · refine ok__law_plus [.p (fr n d), .p (fr a b)] _ μ ?_
    rw [f2_at hsm, e]
    exact lfracV_at db (Nat.le_trans m1 (Nat.le_trans p3 (by decide +kernel))) (Nat.le_trans m2' (by decide +kernel))
  · rw [e]
    obtain ⟨n', d', e2, l⟩ := low_of (t := n * b + a * d) db
    exact ⟨n', d', e2, l.pos, Nat.le_trans l.ld m1, Nat.le_trans l.ln m2⟩
theorem mul_step {k : Nat} (hk : k ≤ 6) {f x : P} (hf : Bd k f) (hx : Sm x) : (∀ μ, c_times.run [.p f, .p x] μ = .ok (.p (mulP f x)) μ ∧ c__law_times.run [.p f, .p x] μ = .ok (.p (mulP f x)) μ) ∧ Bd (k + 1) (mulP f x) := by
  obtain ⟨n, d, rfl, d0, d1, n1⟩ := hf
  obtain ⟨a, b, rfl, b0, b1, a1, _⟩ := sm_low hx
  obtain ⟨p1, p2⟩ := pow_le8 (k := k) (by omega)
  have hsm : smA n d a b = true := smA_of (B := 16777216) (by omega) (by omega) (by omega) (by omega) (by decide +kernel)
  have db : d * b ≠ 0 := Int.mul_ne_zero (by omega) (by omega)
  have m1 : (d * b).natAbs ≤ 4 ^ (k + 1) := by
    rw [Int.natAbs_mul, Nat.pow_succ]
    exact Nat.mul_le_mul d1 (by omega)
  have m2 : (n * a).natAbs ≤ 8 ^ (k + 2) := by
    rw [Int.natAbs_mul]
    have q1 : n.natAbs * a.natAbs ≤ 8 ^ (k + 1) * 4 := Nat.mul_le_mul n1 (by omega)
    have q5 : 8 ^ (k + 2) = 8 ^ (k + 1) * 8 := Nat.pow_succ 8 (k + 1)
    omega
  obtain ⟨p3, p4⟩ := pow_le8 (k := k + 1) (by omega)
  have m2' : (n * a).natAbs ≤ 16777216 * 8 := by
    have q5 : 8 ^ (k + 2) = 8 ^ (k + 1) * 8 := Nat.pow_succ 8 (k + 1)
    omega
  have e : mulP (fr n d) (fr a b) = mkFr (n * a) (d * b) := rfl
  refine ⟨fun μ => ⟨?_, ?_⟩, ?_⟩
  · refine ok_times [.p (fr n d), .p (fr a b)] _ μ ?_
    rw [f2_at hsm, e]
    exact fracV_at db (Nat.le_trans m1 (Nat.le_trans p3 (by decide +kernel)))
  · refine ok__law_times [.p (fr n d), .p (fr a b)] _ μ ?_
    rw [f2_at hsm, e]
    exact lfracV_at db (Nat.le_trans m1 (Nat.le_trans p3 (by decide +kernel))) (Nat.le_trans m2' (by decide +kernel))
  · rw [e]
    obtain ⟨n', d', e2, l⟩ := low_of (t := n * a) db
    exact ⟨n', d', e2, l.pos, Nat.le_trans l.ld m1, Nat.le_trans l.ln m2⟩
def sumP (ps : List P) : P := ps.foldl addP (fr 0 1)
def prodP (ps : List P) : P := ps.foldl mulP (fr 1 1)
theorem bd0 : Bd 0 (fr 0 1) ∧ Bd 0 (fr 1 1) := ⟨⟨0, 1, rfl, by decide, by decide, by decide⟩, ⟨1, 1, rfl, by decide, by decide, by decide⟩⟩
section
variable {ps : List P} (hp : ∀ x ∈ ps, Sm x) (hl : ps.length ≤ 7)
include hp hl
theorem lt_of_get {i : Nat} {x : P} (h : ps[i]? = some x) : i ≤ 6 ∧ Sm x := by
  obtain ⟨h1, h2⟩ := List.getElem?_eq_some_iff.mp h
  exact ⟨by omega, hp x (List.mem_of_getElem? h)⟩
theorem added_ok (μ : Store) : c_added.run [.p (.tup ps)] μ = .ok (.p (sumP ps)) μ ∧ Bd ps.length (sumP ps) := by
  have e : c_added.run = fzF (isoF (runB 3 s_added)) := rfl
  rw [e, x_added_eq]
  exact fold_ok (e0 := eC (.tup [(.int (0)), (.int (1))])) (B := Bd) (fun _ _ => rfl) bd0.1 (fun i x f μ hx hf => by
    obtain ⟨a, b⟩ := lt_of_get hp hl hx
    obtain ⟨c, d⟩ := add_step a hf b
    exact ⟨(c μ).1, d⟩) μ
theorem lsum_ok (μ : Store) : c__law_sum.run [.p (.tup ps)] μ = .ok (.p (sumP ps)) μ := by
  have e : c__law_sum.run = fzF (isoF (runB 3 s__law_sum)) := rfl
  rw [e, x__law_sum_eq]
  exact (fold_ok (e0 := fzH (eN opTup (aCons (eC (.int (0))) (aCons (eC (.int (1))) aNil)))) (B := Bd) (fun _ _ => is_H (is_N (is_cons is_C (is_cons is_C is_nil)) rfl)) bd0.1 (fun i x f μ hx hf => by
    obtain ⟨a, b⟩ := lt_of_get hp hl hx
    obtain ⟨c, d⟩ := add_step a hf b
    exact ⟨(c μ).2, d⟩) μ).1
theorem multiplied_ok (μ : Store) : c_multiplied.run [.p (.tup ps)] μ = .ok (.p (prodP ps)) μ ∧ Bd ps.length (prodP ps) := by
  have e : c_multiplied.run = fzF (isoF (runB 3 s_multiplied)) := rfl
  rw [e, x_multiplied_eq]
  exact fold_ok (e0 := eC (.tup [(.int (1)), (.int (1))])) (B := Bd) (fun _ _ => rfl) bd0.2 (fun i x f μ hx hf => by
    obtain ⟨a, b⟩ := lt_of_get hp hl hx
    obtain ⟨c, d⟩ := mul_step a hf b
    exact ⟨(c μ).1, d⟩) μ
theorem lprod_ok (μ : Store) : c__law_product.run [.p (.tup ps)] μ = .ok (.p (prodP ps)) μ := by
  have e : c__law_product.run = fzF (isoF (runB 3 s__law_product)) := rfl
  rw [e, x__law_product_eq]
  exact (fold_ok (e0 := fzH (eN opTup (aCons (eC (.int (1))) (aCons (eC (.int (1))) aNil)))) (B := Bd) (fun _ _ => is_H (is_N (is_cons is_C (is_cons is_C is_nil)) rfl)) bd0.2 (fun i x f μ hx hf => by
    obtain ⟨a, b⟩ := lt_of_get hp hl hx
    obtain ⟨c, d⟩ := mul_step a hf b
    exact ⟨(c μ).2, d⟩) μ).1
theorem sumOf_ok (μ : Store) : c_sum_of.run [.p (.tup ps)] μ = .ok (.p (sumP ps)) μ := by
  refine tells_iso (ps := [.tup ps]) (μ1 := Store.emp) (runB_r ?_)
  rw [x_sum_of_eq]
  unfold x_sum_of
  exact (seq_n (drop_n (is_HR (is_P (is_cons (is_V rfl) is_nil) rfl (lookRow_ok hp (by omega) _))))).trans (seq_r (ret_r (is_HR (is_P (is_cons (is_V rfl) is_nil) rfl (added_ok hp hl _).1))))
theorem prodOf_ok (μ : Store) : c_product_of.run [.p (.tup ps)] μ = .ok (.p (prodP ps)) μ := by
  refine tells_iso (ps := [.tup ps]) (μ1 := Store.emp) (runB_r ?_)
  rw [x_product_of_eq]
  unfold x_product_of
  exact (seq_n (drop_n (is_HR (is_P (is_cons (is_V rfl) is_nil) rfl (lookRow_ok hp (by omega) _))))).trans (seq_r (ret_r (is_HR (is_P (is_cons (is_V rfl) is_nil) rfl (multiplied_ok hp hl _).1))))
end
theorem bd_rp {k : Nat} {y : P} (h : Bd k y) (hk : k ≤ 7) : ∃ t, ∀ μ, opRepr [.p y] μ = some (.p (.str t), μ) := by
  obtain ⟨n, d, rfl, _, d1, n1⟩ := h
  obtain ⟨p1, p2⟩ := pow_le8 hk
  exact ⟨_, fun μ => rp_fr (Nat.lt_of_le_of_lt (Nat.le_trans n1 p2) (by decide +kernel)) (Nat.lt_of_le_of_lt (Nat.le_trans d1 p1) (by decide +kernel)) μ⟩
/-! ### draws -/
theorem run_take : c__law_take.run = fzF (isoF (runB 5 xTake)) := by
  have e : s__law_take = xTake := by kernel_rfl
  rw [← e]
  rfl
theorem take_c {μ : Store} {n : Nat} {a m c k : Int} {N : Nat} (hμ : μ.get? n = some (pot a m c)) (ha : 0 ≤ a) (hm : m.natAbs ≤ 2 ^ 61) (hc : c.natAbs ≤ N) (hN : N < 2 ^ 60) (hk : 0 < k) (hk2 : k.natAbs ≤ 2 ^ 60) :
    ∃ d a' c' : Int, 0 ≤ d ∧ d < k ∧ 0 ≤ a' ∧ c'.natAbs ≤ N + 1 ∧ c__law_take.run [.ref n, .p (.int k)] μ = .ok (.p (.int d)) (μ.set n (pot a' m c')) := by
  rw [run_take]
  exact take_fn hμ ha hm hc hN hk hk2
theorem drawn_ok {μ : Store} {n : Nat} {a m c : Int} {N : Nat} (hμ : μ.get? n = some (pot a m c)) (ha : 0 ≤ a) (hm : m.natAbs ≤ 2 ^ 61) (hc : c.natAbs ≤ N) (hN : N + 2 < 2 ^ 60) :
    ∃ (x : P) (a' c' : Int), Sm x ∧ 0 ≤ a' ∧ c'.natAbs ≤ N + 2 ∧ c__law_drawn.run [.ref n] μ = .ok (.p x) (μ.set n (pot a' m c')) := by
  obtain ⟨d1, a1, c1, p1, p2, p3, p4, p5⟩ := take_c (μ := st1 (pot a m c)) (n := 0) (k := 9) rfl ha hm hc (by omega) (by decide) (by decide)
  rw [set_st1] at p5
  obtain ⟨d2, a2, c2, q1, q2, q3, q4, q5⟩ := take_c (μ := st1 (pot a1 m c1)) (n := 0) (k := 4) rfl p3 hm p4 (by omega) (by decide) (by decide)
  rw [set_st1] at q5
  refine ⟨mkFr (d1 - 4) (1 + d2), a2, c2, ⟨d1 - 4, 1 + d2, rfl, by omega, by omega, by omega, by omega⟩, q3, by omega, ?_⟩
  refine fz_run (iso1 (xs := []) (μ1 := st1 (pot a2 m c2)) hμ rfl rfl (runB_r ?_) rfl)
  rw [x__law_drawn_eq]
  unfold x__law_drawn
  have e1 : Is (fzE (eN opInt (aCons (fzH (eCallP c__law_take.run 2 (aCons (eV 0) (aCons (eC (.int (9))) aNil)))) aNil))) (padE [.ref 0] 1) (st1 (pot a m c)) (.p (.int d1)) (st1 (pot a1 m c1)) := is_E (is_N (is_cons (is_HR (is_P (is_cons (is_V rfl) (is_cons is_C is_nil)) rfl p5)) is_nil) rfl)
  have e2 : Is (fzH (eCallP c__law_take.run 2 (aCons (eV 0) (aCons (eC (.int (4))) aNil)))) (padE [.ref 0] 1) (st1 (pot a1 m c1)) (.p (.int d2)) (st1 (pot a2 m c2)) := is_HR (is_P (is_cons (is_V rfl) (is_cons is_C is_nil)) rfl q5)
  have hs : sm 8000 (1 + d2).natAbs = true := sm_le (B := 4) (by omega) (by decide +kernel)
  have ht : sm 300000 (d1 - 4).natAbs = true := sm_le (B := 10) (by omega) (by decide +kernel)
  exact seq_r (ret_r (is_HR (is_P (is_cons (is_E (is_2 e1 is_C rfl)) (is_cons (is_E (is_N (is_cons (is_E (is_2 is_C e2 rfl)) is_nil) rfl)) is_nil)) rfl (ok__law_frac (d1 - 4) (1 + d2) _ (by omega) hs ht))))
end Lw
set_option maxRecDepth 1000000
set_option maxHeartbeats 0
namespace Lw
open PySem PySem.Spec PyProof.Rows L2 Sh
def xRowsTail : Sv := (sSeq (sAsg (fzE (e2 opSub (fzE (e2 opMulA (fzH (e2 opIx (eV 3) (eC (.int (0))))) (fzH (e2 opIx (eV 4) (eC (.int (1))))))) (fzE (e2 opMulA (fzH (e2 opIx (eV 4) (eC (.int (0))))) (fzH (e2 opIx (eV 3) (eC (.int (1))))))))) (gNm 2)) (sSeq (sIf (eTest (e2 opNeA (fzE (eN opRepr (aCons (fzH (eCallK c_compared.run 1 1 [0, 1] (aCons (eV 3) aNil) (aCons (eV 4) aNil))) aNil))) (fzE (eN opRepr (aCons (fzE (e2 opSub (fzH (e2 opGt (eV 2) (eC (.int (0))))) (fzH (e2 opLt (eV 2) (eC (.int (0))))))) aNil))))) (sSeq (sRet (eC (.bl false))) sSkip) sSkip) (sSeq (sAsg (fzE (eHeard [("StepError" : Str), ("BadFraction" : Str), ("BadRow" : Str), ("BadInt" : Str)] (fzH (eCallK c_quotient_of.run 1 1 [0, 1] (aCons (eV 3) aNil) (aCons (eV 4) aNil))))) (gTp 2 (gCn (gNm 5) (gCn (gNm 6) gNo)))) (sSeq (sIf (eTest (e2 opEqA (eV 4) (fzH (eN opTup (aCons (eC (.int (0))) (aCons (eC (.int (1))) aNil)))))) (sSeq (sRet (fzH (eAnd (fzE (eIsX (eV 5) [("BadFraction" : Str)] [("StepError" : Str), ("BadRow" : Str), ("BadInt" : Str)])) (fzH (e2 opEqA (fzH (eVal [("StepError" : Str), ("BadFraction" : Str), ("BadRow" : Str), ("BadInt" : Str)] (eV 5))) (eV 4)))))) sSkip) sSkip) (sSeq (sRet (fzH (e2 opEqA (fzE (eN opRepr (aCons (eV 6) aNil))) (fzE (eN opRepr (aCons (fzH (eCallP c__law_over.run 2 (aCons (eV 3) (aCons (eV 4) aNil)))) aNil)))))) sSkip)))))
def tl (x y : P) (r1 r7 : Option D) (μ : Store) : SRes := xRowsTail [some (.ref 0), r1, none, some (.p x), some (.p y), none, none, r7] μ
def tlOk (x y : P) : Prop := ∀ r1 r7 μ, tl x y r1 r7 μ = .ret (.p (.bl true)) μ
def smalls : List P := [fr (-4) 1, fr (-4) 3, fr (-3) 1, fr (-3) 2, fr (-3) 4, fr (-2) 1, fr (-2) 3, fr (-1) 1, fr (-1) 2, fr (-1) 3, fr (-1) 4, fr (0) 1, fr (1) 1, fr (1) 2, fr (1) 3, fr (1) 4, fr (2) 1, fr (2) 3, fr (3) 1, fr (3) 2, fr (3) 4, fr (4) 1, fr (4) 3]
theorem sm_in : ((List.range 9).all fun i => (List.range 4).all fun j => smalls.any fun y => pq (mkFr (Int.ofNat i - 4) (Int.ofNat j + 1)) y) = true := by decide +kernel
theorem sm_mem {x : P} (h : Sm x) : x ∈ smalls := by
  obtain ⟨t, b, rfl, h1, h2, h3, h4⟩ := h
  have q := List.all_eq_true.mp (List.all_eq_true.mp sm_in (t + 4).toNat (List.mem_range.mpr (by omega))) (b - 1).toNat (List.mem_range.mpr (by omega))
  have e1 : Int.ofNat (t + 4).toNat - 4 = t := by
    show (((t + 4).toNat : Nat) : Int) - 4 = t
    omega
  have e2 : Int.ofNat (b - 1).toNat + 1 = b := by
    show (((b - 1).toNat : Nat) : Int) + 1 = b
    omega
  rw [e1, e2] at q
  obtain ⟨y, hy, hp⟩ := List.any_eq_true.mp q
  rw [pq_eq hp]
  exact hy
theorem tl_0 : ∀ y ∈ smalls, tlOk (fr (-4) 1) y := List.forall_mem_cons.mpr ⟨fun r1 r7 μ => by kernel_rfl, List.forall_mem_cons.mpr ⟨fun r1 r7 μ => by kernel_rfl, List.forall_mem_cons.mpr ⟨fun r1 r7 μ => by kernel_rfl, List.forall_mem_cons.mpr ⟨fun r1 r7 μ => by kernel_rfl, List.forall_mem_cons.mpr ⟨fun r1 r7 μ => by kernel_rfl, List.forall_mem_cons.mpr ⟨fun r1 r7 μ => by kernel_rfl, List.forall_mem_cons.mpr ⟨fun r1 r7 μ => by kernel_rfl, List.forall_mem_cons.mpr ⟨fun r1 r7 μ => by kernel_rfl, List.forall_mem_cons.mpr ⟨fun r1 r7 μ => by kernel_rfl, List.forall_mem_cons.mpr ⟨fun r1 r7 μ => by kernel_rfl, List.forall_mem_cons.mpr ⟨fun r1 r7 μ => by kernel_rfl, List.forall_mem_cons.mpr ⟨fun r1 r7 μ => by kernel_rfl, List.forall_mem_cons.mpr ⟨fun r1 r7 μ => by kernel_rfl, List.forall_mem_cons.mpr ⟨fun r1 r7 μ => by kernel_rfl, List.forall_mem_cons.mpr ⟨fun r1 r7 μ => by kernel_rfl, List.forall_mem_cons.mpr ⟨fun r1 r7 μ => by kernel_rfl, List.forall_mem_cons.mpr ⟨fun r1 r7 μ => by kernel_rfl, List.forall_mem_cons.mpr ⟨fun r1 r7 μ => by kernel_rfl, List.forall_mem_cons.mpr ⟨fun r1 r7 μ => by kernel_rfl, List.forall_mem_cons.mpr ⟨fun r1 r7 μ => by kernel_rfl, List.forall_mem_cons.mpr ⟨fun r1 r7 μ => by kernel_rfl, List.forall_mem_cons.mpr ⟨fun r1 r7 μ => by kernel_rfl, List.forall_mem_cons.mpr ⟨fun r1 r7 μ => by kernel_rfl, fun _ z => nomatch z⟩⟩⟩⟩⟩⟩⟩⟩⟩⟩⟩⟩⟩⟩⟩⟩⟩⟩⟩⟩⟩⟩⟩
theorem tl_1 : ∀ y ∈ smalls, tlOk (fr (-4) 3) y := List.forall_mem_cons.mpr ⟨fun r1 r7 μ => by kernel_rfl, List.forall_mem_cons.mpr ⟨fun r1 r7 μ => by kernel_rfl, List.forall_mem_cons.mpr ⟨fun r1 r7 μ => by kernel_rfl, List.forall_mem_cons.mpr ⟨fun r1 r7 μ => by kernel_rfl, List.forall_mem_cons.mpr ⟨fun r1 r7 μ => by kernel_rfl, List.forall_mem_cons.mpr ⟨fun r1 r7 μ => by kernel_rfl, List.forall_mem_cons.mpr ⟨fun r1 r7 μ => by kernel_rfl, List.forall_mem_cons.mpr ⟨fun r1 r7 μ => by kernel_rfl, List.forall_mem_cons.mpr ⟨fun r1 r7 μ => by kernel_rfl, List.forall_mem_cons.mpr ⟨fun r1 r7 μ => by kernel_rfl, List.forall_mem_cons.mpr ⟨fun r1 r7 μ => by kernel_rfl, List.forall_mem_cons.mpr ⟨fun r1 r7 μ => by kernel_rfl, List.forall_mem_cons.mpr ⟨fun r1 r7 μ => by kernel_rfl, List.forall_mem_cons.mpr ⟨fun r1 r7 μ => by kernel_rfl, List.forall_mem_cons.mpr ⟨fun r1 r7 μ => by kernel_rfl, List.forall_mem_cons.mpr ⟨fun r1 r7 μ => by kernel_rfl, List.forall_mem_cons.mpr ⟨fun r1 r7 μ => by kernel_rfl, List.forall_mem_cons.mpr ⟨fun r1 r7 μ => by kernel_rfl, List.forall_mem_cons.mpr ⟨fun r1 r7 μ => by kernel_rfl, List.forall_mem_cons.mpr ⟨fun r1 r7 μ => by kernel_rfl, List.forall_mem_cons.mpr ⟨fun r1 r7 μ => by kernel_rfl, List.forall_mem_cons.mpr ⟨fun r1 r7 μ => by kernel_rfl, List.forall_mem_cons.mpr ⟨fun r1 r7 μ => by kernel_rfl, fun _ z => nomatch z⟩⟩⟩⟩⟩⟩⟩⟩⟩⟩⟩⟩⟩⟩⟩⟩⟩⟩⟩⟩⟩⟩⟩
theorem tl_2 : ∀ y ∈ smalls, tlOk (fr (-3) 1) y := List.forall_mem_cons.mpr ⟨fun r1 r7 μ => by kernel_rfl, List.forall_mem_cons.mpr ⟨fun r1 r7 μ => by kernel_rfl, List.forall_mem_cons.mpr ⟨fun r1 r7 μ => by kernel_rfl, List.forall_mem_cons.mpr ⟨fun r1 r7 μ => by kernel_rfl, List.forall_mem_cons.mpr ⟨fun r1 r7 μ => by kernel_rfl, List.forall_mem_cons.mpr ⟨fun r1 r7 μ => by kernel_rfl, List.forall_mem_cons.mpr ⟨fun r1 r7 μ => by kernel_rfl, List.forall_mem_cons.mpr ⟨fun r1 r7 μ => by kernel_rfl, List.forall_mem_cons.mpr ⟨fun r1 r7 μ => by kernel_rfl, List.forall_mem_cons.mpr ⟨fun r1 r7 μ => by kernel_rfl, List.forall_mem_cons.mpr ⟨fun r1 r7 μ => by kernel_rfl, List.forall_mem_cons.mpr ⟨fun r1 r7 μ => by kernel_rfl, List.forall_mem_cons.mpr ⟨fun r1 r7 μ => by kernel_rfl, List.forall_mem_cons.mpr ⟨fun r1 r7 μ => by kernel_rfl, List.forall_mem_cons.mpr ⟨fun r1 r7 μ => by kernel_rfl, List.forall_mem_cons.mpr ⟨fun r1 r7 μ => by kernel_rfl, List.forall_mem_cons.mpr ⟨fun r1 r7 μ => by kernel_rfl, List.forall_mem_cons.mpr ⟨fun r1 r7 μ => by kernel_rfl, List.forall_mem_cons.mpr ⟨fun r1 r7 μ => by kernel_rfl, List.forall_mem_cons.mpr ⟨fun r1 r7 μ => by kernel_rfl, List.forall_mem_cons.mpr ⟨fun r1 r7 μ => by kernel_rfl, List.forall_mem_cons.mpr ⟨fun r1 r7 μ => by kernel_rfl, List.forall_mem_cons.mpr ⟨fun r1 r7 μ => by kernel_rfl, fun _ z => nomatch z⟩⟩⟩⟩⟩⟩⟩⟩⟩⟩⟩⟩⟩⟩⟩⟩⟩⟩⟩⟩⟩⟩⟩
theorem tl_3 : ∀ y ∈ smalls, tlOk (fr (-3) 2) y := List.forall_mem_cons.mpr ⟨fun r1 r7 μ => by kernel_rfl, List.forall_mem_cons.mpr ⟨fun r1 r7 μ => by kernel_rfl, List.forall_mem_cons.mpr ⟨fun r1 r7 μ => by kernel_rfl, List.forall_mem_cons.mpr ⟨fun r1 r7 μ => by kernel_rfl, List.forall_mem_cons.mpr ⟨fun r1 r7 μ => by kernel_rfl, List.forall_mem_cons.mpr ⟨fun r1 r7 μ => by kernel_rfl, List.forall_mem_cons.mpr ⟨fun r1 r7 μ => by kernel_rfl, List.forall_mem_cons.mpr ⟨fun r1 r7 μ => by kernel_rfl, List.forall_mem_cons.mpr ⟨fun r1 r7 μ => by kernel_rfl, List.forall_mem_cons.mpr ⟨fun r1 r7 μ => by kernel_rfl, List.forall_mem_cons.mpr ⟨fun r1 r7 μ => by kernel_rfl, List.forall_mem_cons.mpr ⟨fun r1 r7 μ => by kernel_rfl, List.forall_mem_cons.mpr ⟨fun r1 r7 μ => by kernel_rfl, List.forall_mem_cons.mpr ⟨fun r1 r7 μ => by kernel_rfl, List.forall_mem_cons.mpr ⟨fun r1 r7 μ => by kernel_rfl, List.forall_mem_cons.mpr ⟨fun r1 r7 μ => by kernel_rfl, List.forall_mem_cons.mpr ⟨fun r1 r7 μ => by kernel_rfl, List.forall_mem_cons.mpr ⟨fun r1 r7 μ => by kernel_rfl, List.forall_mem_cons.mpr ⟨fun r1 r7 μ => by kernel_rfl, List.forall_mem_cons.mpr ⟨fun r1 r7 μ => by kernel_rfl, List.forall_mem_cons.mpr ⟨fun r1 r7 μ => by kernel_rfl, List.forall_mem_cons.mpr ⟨fun r1 r7 μ => by kernel_rfl, List.forall_mem_cons.mpr ⟨fun r1 r7 μ => by kernel_rfl, fun _ z => nomatch z⟩⟩⟩⟩⟩⟩⟩⟩⟩⟩⟩⟩⟩⟩⟩⟩⟩⟩⟩⟩⟩⟩⟩
theorem tl_4 : ∀ y ∈ smalls, tlOk (fr (-3) 4) y := List.forall_mem_cons.mpr ⟨fun r1 r7 μ => by kernel_rfl, List.forall_mem_cons.mpr ⟨fun r1 r7 μ => by kernel_rfl, List.forall_mem_cons.mpr ⟨fun r1 r7 μ => by kernel_rfl, List.forall_mem_cons.mpr ⟨fun r1 r7 μ => by kernel_rfl, List.forall_mem_cons.mpr ⟨fun r1 r7 μ => by kernel_rfl, List.forall_mem_cons.mpr ⟨fun r1 r7 μ => by kernel_rfl, List.forall_mem_cons.mpr ⟨fun r1 r7 μ => by kernel_rfl, List.forall_mem_cons.mpr ⟨fun r1 r7 μ => by kernel_rfl, List.forall_mem_cons.mpr ⟨fun r1 r7 μ => by kernel_rfl, List.forall_mem_cons.mpr ⟨fun r1 r7 μ => by kernel_rfl, List.forall_mem_cons.mpr ⟨fun r1 r7 μ => by kernel_rfl, List.forall_mem_cons.mpr ⟨fun r1 r7 μ => by kernel_rfl, List.forall_mem_cons.mpr ⟨fun r1 r7 μ => by kernel_rfl, List.forall_mem_cons.mpr ⟨fun r1 r7 μ => by kernel_rfl, List.forall_mem_cons.mpr ⟨fun r1 r7 μ => by kernel_rfl, List.forall_mem_cons.mpr ⟨fun r1 r7 μ => by kernel_rfl, List.forall_mem_cons.mpr ⟨fun r1 r7 μ => by kernel_rfl, List.forall_mem_cons.mpr ⟨fun r1 r7 μ => by kernel_rfl, List.forall_mem_cons.mpr ⟨fun r1 r7 μ => by kernel_rfl, List.forall_mem_cons.mpr ⟨fun r1 r7 μ => by kernel_rfl, List.forall_mem_cons.mpr ⟨fun r1 r7 μ => by kernel_rfl, List.forall_mem_cons.mpr ⟨fun r1 r7 μ => by kernel_rfl, List.forall_mem_cons.mpr ⟨fun r1 r7 μ => by kernel_rfl, fun _ z => nomatch z⟩⟩⟩⟩⟩⟩⟩⟩⟩⟩⟩⟩⟩⟩⟩⟩⟩⟩⟩⟩⟩⟩⟩
theorem tl_5 : ∀ y ∈ smalls, tlOk (fr (-2) 1) y := List.forall_mem_cons.mpr ⟨fun r1 r7 μ => by kernel_rfl, List.forall_mem_cons.mpr ⟨fun r1 r7 μ => by kernel_rfl, List.forall_mem_cons.mpr ⟨fun r1 r7 μ => by kernel_rfl, List.forall_mem_cons.mpr ⟨fun r1 r7 μ => by kernel_rfl, List.forall_mem_cons.mpr ⟨fun r1 r7 μ => by kernel_rfl, List.forall_mem_cons.mpr ⟨fun r1 r7 μ => by kernel_rfl, List.forall_mem_cons.mpr ⟨fun r1 r7 μ => by kernel_rfl, List.forall_mem_cons.mpr ⟨fun r1 r7 μ => by kernel_rfl, List.forall_mem_cons.mpr ⟨fun r1 r7 μ => by kernel_rfl, List.forall_mem_cons.mpr ⟨fun r1 r7 μ => by kernel_rfl, List.forall_mem_cons.mpr ⟨fun r1 r7 μ => by kernel_rfl, List.forall_mem_cons.mpr ⟨fun r1 r7 μ => by kernel_rfl, List.forall_mem_cons.mpr ⟨fun r1 r7 μ => by kernel_rfl, List.forall_mem_cons.mpr ⟨fun r1 r7 μ => by kernel_rfl, List.forall_mem_cons.mpr ⟨fun r1 r7 μ => by kernel_rfl, List.forall_mem_cons.mpr ⟨fun r1 r7 μ => by kernel_rfl, List.forall_mem_cons.mpr ⟨fun r1 r7 μ => by kernel_rfl, List.forall_mem_cons.mpr ⟨fun r1 r7 μ => by kernel_rfl, List.forall_mem_cons.mpr ⟨fun r1 r7 μ => by kernel_rfl, List.forall_mem_cons.mpr ⟨fun r1 r7 μ => by kernel_rfl, List.forall_mem_cons.mpr ⟨fun r1 r7 μ => by kernel_rfl, List.forall_mem_cons.mpr ⟨fun r1 r7 μ => by kernel_rfl, List.forall_mem_cons.mpr ⟨fun r1 r7 μ => by kernel_rfl, fun _ z => nomatch z⟩⟩⟩⟩⟩⟩⟩⟩⟩⟩⟩⟩⟩⟩⟩⟩⟩⟩⟩⟩⟩⟩⟩
theorem tl_6 : ∀ y ∈ smalls, tlOk (fr (-2) 3) y := List.forall_mem_cons.mpr ⟨fun r1 r7 μ => by kernel_rfl, List.forall_mem_cons.mpr ⟨fun r1 r7 μ => by kernel_rfl, List.forall_mem_cons.mpr ⟨fun r1 r7 μ => by kernel_rfl, List.forall_mem_cons.mpr ⟨fun r1 r7 μ => by kernel_rfl, List.forall_mem_cons.mpr ⟨fun r1 r7 μ => by kernel_rfl, List.forall_mem_cons.mpr ⟨fun r1 r7 μ => by kernel_rfl, List.forall_mem_cons.mpr ⟨fun r1 r7 μ => by kernel_rfl, List.forall_mem_cons.mpr ⟨fun r1 r7 μ => by kernel_rfl, List.forall_mem_cons.mpr ⟨fun r1 r7 μ => by kernel_rfl, List.forall_mem_cons.mpr ⟨fun r1 r7 μ => by kernel_rfl, List.forall_mem_cons.mpr ⟨fun r1 r7 μ => by kernel_rfl, List.forall_mem_cons.mpr ⟨fun r1 r7 μ => by kernel_rfl, List.forall_mem_cons.mpr ⟨fun r1 r7 μ => by kernel_rfl, List.forall_mem_cons.mpr ⟨fun r1 r7 μ => by kernel_rfl, List.forall_mem_cons.mpr ⟨fun r1 r7 μ => by kernel_rfl, List.forall_mem_cons.mpr ⟨fun r1 r7 μ => by kernel_rfl, List.forall_mem_cons.mpr ⟨fun r1 r7 μ => by kernel_rfl, List.forall_mem_cons.mpr ⟨fun r1 r7 μ => by kernel_rfl, List.forall_mem_cons.mpr ⟨fun r1 r7 μ => by kernel_rfl, List.forall_mem_cons.mpr ⟨fun r1 r7 μ => by kernel_rfl, List.forall_mem_cons.mpr ⟨fun r1 r7 μ => by kernel_rfl, List.forall_mem_cons.mpr ⟨fun r1 r7 μ => by kernel_rfl, List.forall_mem_cons.mpr ⟨fun r1 r7 μ => by kernel_rfl, fun _ z => nomatch z⟩⟩⟩⟩⟩⟩⟩⟩⟩⟩⟩⟩⟩⟩⟩⟩⟩⟩⟩⟩⟩⟩⟩
theorem tl_7 : ∀ y ∈ smalls, tlOk (fr (-1) 1) y := List.forall_mem_cons.mpr ⟨fun r1 r7 μ => by kernel_rfl, List.forall_mem_cons.mpr ⟨fun r1 r7 μ => by kernel_rfl, List.forall_mem_cons.mpr ⟨fun r1 r7 μ => by kernel_rfl, List.forall_mem_cons.mpr ⟨fun r1 r7 μ => by kernel_rfl, List.forall_mem_cons.mpr ⟨fun r1 r7 μ => by kernel_rfl, List.forall_mem_cons.mpr ⟨fun r1 r7 μ => by kernel_rfl, List.forall_mem_cons.mpr ⟨fun r1 r7 μ => by kernel_rfl, List.forall_mem_cons.mpr ⟨fun r1 r7 μ => by kernel_rfl, List.forall_mem_cons.mpr ⟨fun r1 r7 μ => by kernel_rfl, List.forall_mem_cons.mpr ⟨fun r1 r7 μ => by kernel_rfl, List.forall_mem_cons.mpr ⟨fun r1 r7 μ => by kernel_rfl, List.forall_mem_cons.mpr ⟨fun r1 r7 μ => by kernel_rfl, List.forall_mem_cons.mpr ⟨fun r1 r7 μ => by kernel_rfl, List.forall_mem_cons.mpr ⟨fun r1 r7 μ => by kernel_rfl, List.forall_mem_cons.mpr ⟨fun r1 r7 μ => by kernel_rfl, List.forall_mem_cons.mpr ⟨fun r1 r7 μ => by kernel_rfl, List.forall_mem_cons.mpr ⟨fun r1 r7 μ => by kernel_rfl, List.forall_mem_cons.mpr ⟨fun r1 r7 μ => by kernel_rfl, List.forall_mem_cons.mpr ⟨fun r1 r7 μ => by kernel_rfl, List.forall_mem_cons.mpr ⟨fun r1 r7 μ => by kernel_rfl, List.forall_mem_cons.mpr ⟨fun r1 r7 μ => by kernel_rfl, List.forall_mem_cons.mpr ⟨fun r1 r7 μ => by kernel_rfl, List.forall_mem_cons.mpr ⟨fun r1 r7 μ => by kernel_rfl, fun _ z => nomatch z⟩⟩⟩⟩⟩⟩⟩⟩⟩⟩⟩⟩⟩⟩⟩⟩⟩⟩⟩⟩⟩⟩⟩
theorem tl_8 : ∀ y ∈ smalls, tlOk (fr (-1) 2) y := List.forall_mem_cons.mpr ⟨fun r1 r7 μ => by kernel_rfl, List.forall_mem_cons.mpr ⟨fun r1 r7 μ => by kernel_rfl, List.forall_mem_cons.mpr ⟨fun r1 r7 μ => by kernel_rfl, List.forall_mem_cons.mpr ⟨fun r1 r7 μ => by kernel_rfl, List.forall_mem_cons.mpr ⟨fun r1 r7 μ => by kernel_rfl, List.forall_mem_cons.mpr ⟨fun r1 r7 μ => by kernel_rfl, List.forall_mem_cons.mpr ⟨fun r1 r7 μ => by kernel_rfl, List.forall_mem_cons.mpr ⟨fun r1 r7 μ => by kernel_rfl, List.forall_mem_cons.mpr ⟨fun r1 r7 μ => by kernel_rfl, List.forall_mem_cons.mpr ⟨fun r1 r7 μ => by kernel_rfl, List.forall_mem_cons.mpr ⟨fun r1 r7 μ => by kernel_rfl, List.forall_mem_cons.mpr ⟨fun r1 r7 μ => by kernel_rfl, List.forall_mem_cons.mpr ⟨fun r1 r7 μ => by kernel_rfl, List.forall_mem_cons.mpr ⟨fun r1 r7 μ => by kernel_rfl, List.forall_mem_cons.mpr ⟨fun r1 r7 μ => by kernel_rfl, List.forall_mem_cons.mpr ⟨fun r1 r7 μ => by kernel_rfl, List.forall_mem_cons.mpr ⟨fun r1 r7 μ => by kernel_rfl, List.forall_mem_cons.mpr ⟨fun r1 r7 μ => by kernel_rfl, List.forall_mem_cons.mpr ⟨fun r1 r7 μ => by kernel_rfl, List.forall_mem_cons.mpr ⟨fun r1 r7 μ => by kernel_rfl, List.forall_mem_cons.mpr ⟨fun r1 r7 μ => by kernel_rfl, List.forall_mem_cons.mpr ⟨fun r1 r7 μ => by kernel_rfl, List.forall_mem_cons.mpr ⟨fun r1 r7 μ => by kernel_rfl, fun _ z => nomatch z⟩⟩⟩⟩⟩⟩⟩⟩⟩⟩⟩⟩⟩⟩⟩⟩⟩⟩⟩⟩⟩⟩⟩
theorem tl_9 : ∀ y ∈ smalls, tlOk (fr (-1) 3) y := List.forall_mem_cons.mpr ⟨fun r1 r7 μ => by kernel_rfl, List.forall_mem_cons.mpr ⟨fun r1 r7 μ => by kernel_rfl, List.forall_mem_cons.mpr ⟨fun r1 r7 μ => by kernel_rfl, List.forall_mem_cons.mpr ⟨fun r1 r7 μ => by kernel_rfl, List.forall_mem_cons.mpr ⟨fun r1 r7 μ => by kernel_rfl, List.forall_mem_cons.mpr ⟨fun r1 r7 μ => by kernel_rfl, List.forall_mem_cons.mpr ⟨fun r1 r7 μ => by kernel_rfl, List.forall_mem_cons.mpr ⟨fun r1 r7 μ => by kernel_rfl, List.forall_mem_cons.mpr ⟨fun r1 r7 μ => by kernel_rfl, List.forall_mem_cons.mpr ⟨fun r1 r7 μ => by kernel_rfl, List.forall_mem_cons.mpr ⟨fun r1 r7 μ => by kernel_rfl, List.forall_mem_cons.mpr ⟨fun r1 r7 μ => by kernel_rfl, List.forall_mem_cons.mpr ⟨fun r1 r7 μ => by kernel_rfl, List.forall_mem_cons.mpr ⟨fun r1 r7 μ => by kernel_rfl, List.forall_mem_cons.mpr ⟨fun r1 r7 μ => by kernel_rfl, List.forall_mem_cons.mpr ⟨fun r1 r7 μ => by kernel_rfl, List.forall_mem_cons.mpr ⟨fun r1 r7 μ => by kernel_rfl, List.forall_mem_cons.mpr ⟨fun r1 r7 μ => by kernel_rfl, List.forall_mem_cons.mpr ⟨fun r1 r7 μ => by kernel_rfl, List.forall_mem_cons.mpr ⟨fun r1 r7 μ => by kernel_rfl, List.forall_mem_cons.mpr ⟨fun r1 r7 μ => by kernel_rfl, List.forall_mem_cons.mpr ⟨fun r1 r7 μ => by kernel_rfl, List.forall_mem_cons.mpr ⟨fun r1 r7 μ => by kernel_rfl, fun _ z => nomatch z⟩⟩⟩⟩⟩⟩⟩⟩⟩⟩⟩⟩⟩⟩⟩⟩⟩⟩⟩⟩⟩⟩⟩
theorem tl_10 : ∀ y ∈ smalls, tlOk (fr (-1) 4) y := List.forall_mem_cons.mpr ⟨fun r1 r7 μ => by kernel_rfl, List.forall_mem_cons.mpr ⟨fun r1 r7 μ => by kernel_rfl, List.forall_mem_cons.mpr ⟨fun r1 r7 μ => by kernel_rfl, List.forall_mem_cons.mpr ⟨fun r1 r7 μ => by kernel_rfl, List.forall_mem_cons.mpr ⟨fun r1 r7 μ => by kernel_rfl, List.forall_mem_cons.mpr ⟨fun r1 r7 μ => by kernel_rfl, List.forall_mem_cons.mpr ⟨fun r1 r7 μ => by kernel_rfl, List.forall_mem_cons.mpr ⟨fun r1 r7 μ => by kernel_rfl, List.forall_mem_cons.mpr ⟨fun r1 r7 μ => by kernel_rfl, List.forall_mem_cons.mpr ⟨fun r1 r7 μ => by kernel_rfl, List.forall_mem_cons.mpr ⟨fun r1 r7 μ => by kernel_rfl, List.forall_mem_cons.mpr ⟨fun r1 r7 μ => by kernel_rfl, List.forall_mem_cons.mpr ⟨fun r1 r7 μ => by kernel_rfl, List.forall_mem_cons.mpr ⟨fun r1 r7 μ => by kernel_rfl, List.forall_mem_cons.mpr ⟨fun r1 r7 μ => by kernel_rfl, List.forall_mem_cons.mpr ⟨fun r1 r7 μ => by kernel_rfl, List.forall_mem_cons.mpr ⟨fun r1 r7 μ => by kernel_rfl, List.forall_mem_cons.mpr ⟨fun r1 r7 μ => by kernel_rfl, List.forall_mem_cons.mpr ⟨fun r1 r7 μ => by kernel_rfl, List.forall_mem_cons.mpr ⟨fun r1 r7 μ => by kernel_rfl, List.forall_mem_cons.mpr ⟨fun r1 r7 μ => by kernel_rfl, List.forall_mem_cons.mpr ⟨fun r1 r7 μ => by kernel_rfl, List.forall_mem_cons.mpr ⟨fun r1 r7 μ => by kernel_rfl, fun _ z => nomatch z⟩⟩⟩⟩⟩⟩⟩⟩⟩⟩⟩⟩⟩⟩⟩⟩⟩⟩⟩⟩⟩⟩⟩
theorem tl_11 : ∀ y ∈ smalls, tlOk (fr (0) 1) y := List.forall_mem_cons.mpr ⟨fun r1 r7 μ => by kernel_rfl, List.forall_mem_cons.mpr ⟨fun r1 r7 μ => by kernel_rfl, List.forall_mem_cons.mpr ⟨fun r1 r7 μ => by kernel_rfl, List.forall_mem_cons.mpr ⟨fun r1 r7 μ => by kernel_rfl, List.forall_mem_cons.mpr ⟨fun r1 r7 μ => by kernel_rfl, List.forall_mem_cons.mpr ⟨fun r1 r7 μ => by kernel_rfl, List.forall_mem_cons.mpr ⟨fun r1 r7 μ => by kernel_rfl, List.forall_mem_cons.mpr ⟨fun r1 r7 μ => by kernel_rfl, List.forall_mem_cons.mpr ⟨fun r1 r7 μ => by kernel_rfl, List.forall_mem_cons.mpr ⟨fun r1 r7 μ => by kernel_rfl, List.forall_mem_cons.mpr ⟨fun r1 r7 μ => by kernel_rfl, List.forall_mem_cons.mpr ⟨fun r1 r7 μ => by kernel_rfl, List.forall_mem_cons.mpr ⟨fun r1 r7 μ => by kernel_rfl, List.forall_mem_cons.mpr ⟨fun r1 r7 μ => by kernel_rfl, List.forall_mem_cons.mpr ⟨fun r1 r7 μ => by kernel_rfl, List.forall_mem_cons.mpr ⟨fun r1 r7 μ => by kernel_rfl, List.forall_mem_cons.mpr ⟨fun r1 r7 μ => by kernel_rfl, List.forall_mem_cons.mpr ⟨fun r1 r7 μ => by kernel_rfl, List.forall_mem_cons.mpr ⟨fun r1 r7 μ => by kernel_rfl, List.forall_mem_cons.mpr ⟨fun r1 r7 μ => by kernel_rfl, List.forall_mem_cons.mpr ⟨fun r1 r7 μ => by kernel_rfl, List.forall_mem_cons.mpr ⟨fun r1 r7 μ => by kernel_rfl, List.forall_mem_cons.mpr ⟨fun r1 r7 μ => by kernel_rfl, fun _ z => nomatch z⟩⟩⟩⟩⟩⟩⟩⟩⟩⟩⟩⟩⟩⟩⟩⟩⟩⟩⟩⟩⟩⟩⟩
theorem tl_12 : ∀ y ∈ smalls, tlOk (fr (1) 1) y := List.forall_mem_cons.mpr ⟨fun r1 r7 μ => by kernel_rfl, List.forall_mem_cons.mpr ⟨fun r1 r7 μ => by kernel_rfl, List.forall_mem_cons.mpr ⟨fun r1 r7 μ => by kernel_rfl, List.forall_mem_cons.mpr ⟨fun r1 r7 μ => by kernel_rfl, List.forall_mem_cons.mpr ⟨fun r1 r7 μ => by kernel_rfl, List.forall_mem_cons.mpr ⟨fun r1 r7 μ => by kernel_rfl, List.forall_mem_cons.mpr ⟨fun r1 r7 μ => by kernel_rfl, List.forall_mem_cons.mpr ⟨fun r1 r7 μ => by kernel_rfl, List.forall_mem_cons.mpr ⟨fun r1 r7 μ => by kernel_rfl, List.forall_mem_cons.mpr ⟨fun r1 r7 μ => by kernel_rfl, List.forall_mem_cons.mpr ⟨fun r1 r7 μ => by kernel_rfl, List.forall_mem_cons.mpr ⟨fun r1 r7 μ => by kernel_rfl, List.forall_mem_cons.mpr ⟨fun r1 r7 μ => by kernel_rfl, List.forall_mem_cons.mpr ⟨fun r1 r7 μ => by kernel_rfl, List.forall_mem_cons.mpr ⟨fun r1 r7 μ => by kernel_rfl, List.forall_mem_cons.mpr ⟨fun r1 r7 μ => by kernel_rfl, List.forall_mem_cons.mpr ⟨fun r1 r7 μ => by kernel_rfl, List.forall_mem_cons.mpr ⟨fun r1 r7 μ => by kernel_rfl, List.forall_mem_cons.mpr ⟨fun r1 r7 μ => by kernel_rfl, List.forall_mem_cons.mpr ⟨fun r1 r7 μ => by kernel_rfl, List.forall_mem_cons.mpr ⟨fun r1 r7 μ => by kernel_rfl, List.forall_mem_cons.mpr ⟨fun r1 r7 μ => by kernel_rfl, List.forall_mem_cons.mpr ⟨fun r1 r7 μ => by kernel_rfl, fun _ z => nomatch z⟩⟩⟩⟩⟩⟩⟩⟩⟩⟩⟩⟩⟩⟩⟩⟩⟩⟩⟩⟩⟩⟩⟩
theorem tl_13 : ∀ y ∈ smalls, tlOk (fr (1) 2) y := List.forall_mem_cons.mpr ⟨fun r1 r7 μ => by kernel_rfl, List.forall_mem_cons.mpr ⟨fun r1 r7 μ => by kernel_rfl, List.forall_mem_cons.mpr ⟨fun r1 r7 μ => by kernel_rfl, List.forall_mem_cons.mpr ⟨fun r1 r7 μ => by kernel_rfl, List.forall_mem_cons.mpr ⟨fun r1 r7 μ => by kernel_rfl, List.forall_mem_cons.mpr ⟨fun r1 r7 μ => by kernel_rfl, List.forall_mem_cons.mpr ⟨fun r1 r7 μ => by kernel_rfl, List.forall_mem_cons.mpr ⟨fun r1 r7 μ => by kernel_rfl, List.forall_mem_cons.mpr ⟨fun r1 r7 μ => by kernel_rfl, List.forall_mem_cons.mpr ⟨fun r1 r7 μ => by kernel_rfl, List.forall_mem_cons.mpr ⟨fun r1 r7 μ => by kernel_rfl, List.forall_mem_cons.mpr ⟨fun r1 r7 μ => by kernel_rfl, List.forall_mem_cons.mpr ⟨fun r1 r7 μ => by kernel_rfl, List.forall_mem_cons.mpr ⟨fun r1 r7 μ => by kernel_rfl, List.forall_mem_cons.mpr ⟨fun r1 r7 μ => by kernel_rfl, List.forall_mem_cons.mpr ⟨fun r1 r7 μ => by kernel_rfl, List.forall_mem_cons.mpr ⟨fun r1 r7 μ => by kernel_rfl, List.forall_mem_cons.mpr ⟨fun r1 r7 μ => by kernel_rfl, List.forall_mem_cons.mpr ⟨fun r1 r7 μ => by kernel_rfl, List.forall_mem_cons.mpr ⟨fun r1 r7 μ => by kernel_rfl, List.forall_mem_cons.mpr ⟨fun r1 r7 μ => by kernel_rfl, List.forall_mem_cons.mpr ⟨fun r1 r7 μ => by kernel_rfl, List.forall_mem_cons.mpr ⟨fun r1 r7 μ => by kernel_rfl, fun _ z => nomatch z⟩⟩⟩⟩⟩⟩⟩⟩⟩⟩⟩⟩⟩⟩⟩⟩⟩⟩⟩⟩⟩⟩⟩
theorem tl_14 : ∀ y ∈ smalls, tlOk (fr (1) 3) y := List.forall_mem_cons.mpr ⟨fun r1 r7 μ => by kernel_rfl, List.forall_mem_cons.mpr ⟨fun r1 r7 μ => by kernel_rfl, List.forall_mem_cons.mpr ⟨fun r1 r7 μ => by kernel_rfl, List.forall_mem_cons.mpr ⟨fun r1 r7 μ => by kernel_rfl, List.forall_mem_cons.mpr ⟨fun r1 r7 μ => by kernel_rfl, List.forall_mem_cons.mpr ⟨fun r1 r7 μ => by kernel_rfl, List.forall_mem_cons.mpr ⟨fun r1 r7 μ => by kernel_rfl, List.forall_mem_cons.mpr ⟨fun r1 r7 μ => by kernel_rfl, List.forall_mem_cons.mpr ⟨fun r1 r7 μ => by kernel_rfl, List.forall_mem_cons.mpr ⟨fun r1 r7 μ => by kernel_rfl, List.forall_mem_cons.mpr ⟨fun r1 r7 μ => by kernel_rfl, List.forall_mem_cons.mpr ⟨fun r1 r7 μ => by kernel_rfl, List.forall_mem_cons.mpr ⟨fun r1 r7 μ => by kernel_rfl, List.forall_mem_cons.mpr ⟨fun r1 r7 μ => by kernel_rfl, List.forall_mem_cons.mpr ⟨fun r1 r7 μ => by kernel_rfl, List.forall_mem_cons.mpr ⟨fun r1 r7 μ => by kernel_rfl, List.forall_mem_cons.mpr ⟨fun r1 r7 μ => by kernel_rfl, List.forall_mem_cons.mpr ⟨fun r1 r7 μ => by kernel_rfl, List.forall_mem_cons.mpr ⟨fun r1 r7 μ => by kernel_rfl, List.forall_mem_cons.mpr ⟨fun r1 r7 μ => by kernel_rfl, List.forall_mem_cons.mpr ⟨fun r1 r7 μ => by kernel_rfl, List.forall_mem_cons.mpr ⟨fun r1 r7 μ => by kernel_rfl, List.forall_mem_cons.mpr ⟨fun r1 r7 μ => by kernel_rfl, fun _ z => nomatch z⟩⟩⟩⟩⟩⟩⟩⟩⟩⟩⟩⟩⟩⟩⟩⟩⟩⟩⟩⟩⟩⟩⟩
theorem tl_15 : ∀ y ∈ smalls, tlOk (fr (1) 4) y := List.forall_mem_cons.mpr ⟨fun r1 r7 μ => by kernel_rfl, List.forall_mem_cons.mpr ⟨fun r1 r7 μ => by kernel_rfl, List.forall_mem_cons.mpr ⟨fun r1 r7 μ => by kernel_rfl, List.forall_mem_cons.mpr ⟨fun r1 r7 μ => by kernel_rfl, List.forall_mem_cons.mpr ⟨fun r1 r7 μ => by kernel_rfl, List.forall_mem_cons.mpr ⟨fun r1 r7 μ => by kernel_rfl, List.forall_mem_cons.mpr ⟨fun r1 r7 μ => by kernel_rfl, List.forall_mem_cons.mpr ⟨fun r1 r7 μ => by kernel_rfl, List.forall_mem_cons.mpr ⟨fun r1 r7 μ => by kernel_rfl, List.forall_mem_cons.mpr ⟨fun r1 r7 μ => by kernel_rfl, List.forall_mem_cons.mpr ⟨fun r1 r7 μ => by kernel_rfl, List.forall_mem_cons.mpr ⟨fun r1 r7 μ => by kernel_rfl, List.forall_mem_cons.mpr ⟨fun r1 r7 μ => by kernel_rfl, List.forall_mem_cons.mpr ⟨fun r1 r7 μ => by kernel_rfl, List.forall_mem_cons.mpr ⟨fun r1 r7 μ => by kernel_rfl, List.forall_mem_cons.mpr ⟨fun r1 r7 μ => by kernel_rfl, List.forall_mem_cons.mpr ⟨fun r1 r7 μ => by kernel_rfl, List.forall_mem_cons.mpr ⟨fun r1 r7 μ => by kernel_rfl, List.forall_mem_cons.mpr ⟨fun r1 r7 μ => by kernel_rfl, List.forall_mem_cons.mpr ⟨fun r1 r7 μ => by kernel_rfl, List.forall_mem_cons.mpr ⟨fun r1 r7 μ => by kernel_rfl, List.forall_mem_cons.mpr ⟨fun r1 r7 μ => by kernel_rfl, List.forall_mem_cons.mpr ⟨fun r1 r7 μ => by kernel_rfl, fun _ z => nomatch z⟩⟩⟩⟩⟩⟩⟩⟩⟩⟩⟩⟩⟩⟩⟩⟩⟩⟩⟩⟩⟩⟩⟩
theorem tl_16 : ∀ y ∈ smalls, tlOk (fr (2) 1) y := List.forall_mem_cons.mpr ⟨fun r1 r7 μ => by kernel_rfl, List.forall_mem_cons.mpr ⟨fun r1 r7 μ => by kernel_rfl, List.forall_mem_cons.mpr ⟨fun r1 r7 μ => by kernel_rfl, List.forall_mem_cons.mpr ⟨fun r1 r7 μ => by kernel_rfl, List.forall_mem_cons.mpr ⟨fun r1 r7 μ => by kernel_rfl, List.forall_mem_cons.mpr ⟨fun r1 r7 μ => by kernel_rfl, List.forall_mem_cons.mpr ⟨fun r1 r7 μ => by kernel_rfl, List.forall_mem_cons.mpr ⟨fun r1 r7 μ => by kernel_rfl, List.forall_mem_cons.mpr ⟨fun r1 r7 μ => by kernel_rfl, List.forall_mem_cons.mpr ⟨fun r1 r7 μ => by kernel_rfl, List.forall_mem_cons.mpr ⟨fun r1 r7 μ => by kernel_rfl, List.forall_mem_cons.mpr ⟨fun r1 r7 μ => by kernel_rfl, List.forall_mem_cons.mpr ⟨fun r1 r7 μ => by kernel_rfl, List.forall_mem_cons.mpr ⟨fun r1 r7 μ => by kernel_rfl, List.forall_mem_cons.mpr ⟨fun r1 r7 μ => by kernel_rfl, List.forall_mem_cons.mpr ⟨fun r1 r7 μ => by kernel_rfl, List.forall_mem_cons.mpr ⟨fun r1 r7 μ => by kernel_rfl, List.forall_mem_cons.mpr ⟨fun r1 r7 μ => by kernel_rfl, List.forall_mem_cons.mpr ⟨fun r1 r7 μ => by kernel_rfl, List.forall_mem_cons.mpr ⟨fun r1 r7 μ => by kernel_rfl, List.forall_mem_cons.mpr ⟨fun r1 r7 μ => by kernel_rfl, List.forall_mem_cons.mpr ⟨fun r1 r7 μ => by kernel_rfl, List.forall_mem_cons.mpr ⟨fun r1 r7 μ => by kernel_rfl, fun _ z => nomatch z⟩⟩⟩⟩⟩⟩⟩⟩⟩⟩⟩⟩⟩⟩⟩⟩⟩⟩⟩⟩⟩⟩⟩
theorem tl_17 : ∀ y ∈ smalls, tlOk (fr (2) 3) y := List.forall_mem_cons.mpr ⟨fun r1 r7 μ => by kernel_rfl, List.forall_mem_cons.mpr ⟨fun r1 r7 μ => by kernel_rfl, List.forall_mem_cons.mpr ⟨fun r1 r7 μ => by kernel_rfl, List.forall_mem_cons.mpr ⟨fun r1 r7 μ => by kernel_rfl, List.forall_mem_cons.mpr ⟨fun r1 r7 μ => by kernel_rfl, List.forall_mem_cons.mpr ⟨fun r1 r7 μ => by kernel_rfl, List.forall_mem_cons.mpr ⟨fun r1 r7 μ => by kernel_rfl, List.forall_mem_cons.mpr ⟨fun r1 r7 μ => by kernel_rfl, List.forall_mem_cons.mpr ⟨fun r1 r7 μ => by kernel_rfl, List.forall_mem_cons.mpr ⟨fun r1 r7 μ => by kernel_rfl, List.forall_mem_cons.mpr ⟨fun r1 r7 μ => by kernel_rfl, List.forall_mem_cons.mpr ⟨fun r1 r7 μ => by kernel_rfl, List.forall_mem_cons.mpr ⟨fun r1 r7 μ => by kernel_rfl, List.forall_mem_cons.mpr ⟨fun r1 r7 μ => by kernel_rfl, List.forall_mem_cons.mpr ⟨fun r1 r7 μ => by kernel_rfl, List.forall_mem_cons.mpr ⟨fun r1 r7 μ => by kernel_rfl, List.forall_mem_cons.mpr ⟨fun r1 r7 μ => by kernel_rfl, List.forall_mem_cons.mpr ⟨fun r1 r7 μ => by kernel_rfl, List.forall_mem_cons.mpr ⟨fun r1 r7 μ => by kernel_rfl, List.forall_mem_cons.mpr ⟨fun r1 r7 μ => by kernel_rfl, List.forall_mem_cons.mpr ⟨fun r1 r7 μ => by kernel_rfl, List.forall_mem_cons.mpr ⟨fun r1 r7 μ => by kernel_rfl, List.forall_mem_cons.mpr ⟨fun r1 r7 μ => by kernel_rfl, fun _ z => nomatch z⟩⟩⟩⟩⟩⟩⟩⟩⟩⟩⟩⟩⟩⟩⟩⟩⟩⟩⟩⟩⟩⟩⟩
theorem tl_18 : ∀ y ∈ smalls, tlOk (fr (3) 1) y := List.forall_mem_cons.mpr ⟨fun r1 r7 μ => by kernel_rfl, List.forall_mem_cons.mpr ⟨fun r1 r7 μ => by kernel_rfl, List.forall_mem_cons.mpr ⟨fun r1 r7 μ => by kernel_rfl, List.forall_mem_cons.mpr ⟨fun r1 r7 μ => by kernel_rfl, List.forall_mem_cons.mpr ⟨fun r1 r7 μ => by kernel_rfl, List.forall_mem_cons.mpr ⟨fun r1 r7 μ => by kernel_rfl, List.forall_mem_cons.mpr ⟨fun r1 r7 μ => by kernel_rfl, List.forall_mem_cons.mpr ⟨fun r1 r7 μ => by kernel_rfl, List.forall_mem_cons.mpr ⟨fun r1 r7 μ => by kernel_rfl, List.forall_mem_cons.mpr ⟨fun r1 r7 μ => by kernel_rfl, List.forall_mem_cons.mpr ⟨fun r1 r7 μ => by kernel_rfl, List.forall_mem_cons.mpr ⟨fun r1 r7 μ => by kernel_rfl, List.forall_mem_cons.mpr ⟨fun r1 r7 μ => by kernel_rfl, List.forall_mem_cons.mpr ⟨fun r1 r7 μ => by kernel_rfl, List.forall_mem_cons.mpr ⟨fun r1 r7 μ => by kernel_rfl, List.forall_mem_cons.mpr ⟨fun r1 r7 μ => by kernel_rfl, List.forall_mem_cons.mpr ⟨fun r1 r7 μ => by kernel_rfl, List.forall_mem_cons.mpr ⟨fun r1 r7 μ => by kernel_rfl, List.forall_mem_cons.mpr ⟨fun r1 r7 μ => by kernel_rfl, List.forall_mem_cons.mpr ⟨fun r1 r7 μ => by kernel_rfl, List.forall_mem_cons.mpr ⟨fun r1 r7 μ => by kernel_rfl, List.forall_mem_cons.mpr ⟨fun r1 r7 μ => by kernel_rfl, List.forall_mem_cons.mpr ⟨fun r1 r7 μ => by kernel_rfl, fun _ z => nomatch z⟩⟩⟩⟩⟩⟩⟩⟩⟩⟩⟩⟩⟩⟩⟩⟩⟩⟩⟩⟩⟩⟩⟩
theorem tl_19 : ∀ y ∈ smalls, tlOk (fr (3) 2) y := List.forall_mem_cons.mpr ⟨fun r1 r7 μ => by kernel_rfl, List.forall_mem_cons.mpr ⟨fun r1 r7 μ => by kernel_rfl, List.forall_mem_cons.mpr ⟨fun r1 r7 μ => by kernel_rfl, List.forall_mem_cons.mpr ⟨fun r1 r7 μ => by kernel_rfl, List.forall_mem_cons.mpr ⟨fun r1 r7 μ => by kernel_rfl, List.forall_mem_cons.mpr ⟨fun r1 r7 μ => by kernel_rfl, List.forall_mem_cons.mpr ⟨fun r1 r7 μ => by kernel_rfl, List.forall_mem_cons.mpr ⟨fun r1 r7 μ => by kernel_rfl, List.forall_mem_cons.mpr ⟨fun r1 r7 μ => by kernel_rfl, List.forall_mem_cons.mpr ⟨fun r1 r7 μ => by kernel_rfl, List.forall_mem_cons.mpr ⟨fun r1 r7 μ => by kernel_rfl, List.forall_mem_cons.mpr ⟨fun r1 r7 μ => by kernel_rfl, List.forall_mem_cons.mpr ⟨fun r1 r7 μ => by kernel_rfl, List.forall_mem_cons.mpr ⟨fun r1 r7 μ => by kernel_rfl, List.forall_mem_cons.mpr ⟨fun r1 r7 μ => by kernel_rfl, List.forall_mem_cons.mpr ⟨fun r1 r7 μ => by kernel_rfl, List.forall_mem_cons.mpr ⟨fun r1 r7 μ => by kernel_rfl, List.forall_mem_cons.mpr ⟨fun r1 r7 μ => by kernel_rfl, List.forall_mem_cons.mpr ⟨fun r1 r7 μ => by kernel_rfl, List.forall_mem_cons.mpr ⟨fun r1 r7 μ => by kernel_rfl, List.forall_mem_cons.mpr ⟨fun r1 r7 μ => by kernel_rfl, List.forall_mem_cons.mpr ⟨fun r1 r7 μ => by kernel_rfl, List.forall_mem_cons.mpr ⟨fun r1 r7 μ => by kernel_rfl, fun _ z => nomatch z⟩⟩⟩⟩⟩⟩⟩⟩⟩⟩⟩⟩⟩⟩⟩⟩⟩⟩⟩⟩⟩⟩⟩
theorem tl_20 : ∀ y ∈ smalls, tlOk (fr (3) 4) y := List.forall_mem_cons.mpr ⟨fun r1 r7 μ => by kernel_rfl, List.forall_mem_cons.mpr ⟨fun r1 r7 μ => by kernel_rfl, List.forall_mem_cons.mpr ⟨fun r1 r7 μ => by kernel_rfl, List.forall_mem_cons.mpr ⟨fun r1 r7 μ => by kernel_rfl, List.forall_mem_cons.mpr ⟨fun r1 r7 μ => by kernel_rfl, List.forall_mem_cons.mpr ⟨fun r1 r7 μ => by kernel_rfl, List.forall_mem_cons.mpr ⟨fun r1 r7 μ => by kernel_rfl, List.forall_mem_cons.mpr ⟨fun r1 r7 μ => by kernel_rfl, List.forall_mem_cons.mpr ⟨fun r1 r7 μ => by kernel_rfl, List.forall_mem_cons.mpr ⟨fun r1 r7 μ => by kernel_rfl, List.forall_mem_cons.mpr ⟨fun r1 r7 μ => by kernel_rfl, List.forall_mem_cons.mpr ⟨fun r1 r7 μ => by kernel_rfl, List.forall_mem_cons.mpr ⟨fun r1 r7 μ => by kernel_rfl, List.forall_mem_cons.mpr ⟨fun r1 r7 μ => by kernel_rfl, List.forall_mem_cons.mpr ⟨fun r1 r7 μ => by kernel_rfl, List.forall_mem_cons.mpr ⟨fun r1 r7 μ => by kernel_rfl, List.forall_mem_cons.mpr ⟨fun r1 r7 μ => by kernel_rfl, List.forall_mem_cons.mpr ⟨fun r1 r7 μ => by kernel_rfl, List.forall_mem_cons.mpr ⟨fun r1 r7 μ => by kernel_rfl, List.forall_mem_cons.mpr ⟨fun r1 r7 μ => by kernel_rfl, List.forall_mem_cons.mpr ⟨fun r1 r7 μ => by kernel_rfl, List.forall_mem_cons.mpr ⟨fun r1 r7 μ => by kernel_rfl, List.forall_mem_cons.mpr ⟨fun r1 r7 μ => by kernel_rfl, fun _ z => nomatch z⟩⟩⟩⟩⟩⟩⟩⟩⟩⟩⟩⟩⟩⟩⟩⟩⟩⟩⟩⟩⟩⟩⟩
theorem tl_21 : ∀ y ∈ smalls, tlOk (fr (4) 1) y := List.forall_mem_cons.mpr ⟨fun r1 r7 μ => by kernel_rfl, List.forall_mem_cons.mpr ⟨fun r1 r7 μ => by kernel_rfl, List.forall_mem_cons.mpr ⟨fun r1 r7 μ => by kernel_rfl, List.forall_mem_cons.mpr ⟨fun r1 r7 μ => by kernel_rfl, List.forall_mem_cons.mpr ⟨fun r1 r7 μ => by kernel_rfl, List.forall_mem_cons.mpr ⟨fun r1 r7 μ => by kernel_rfl, List.forall_mem_cons.mpr ⟨fun r1 r7 μ => by kernel_rfl, List.forall_mem_cons.mpr ⟨fun r1 r7 μ => by kernel_rfl, List.forall_mem_cons.mpr ⟨fun r1 r7 μ => by kernel_rfl, List.forall_mem_cons.mpr ⟨fun r1 r7 μ => by kernel_rfl, List.forall_mem_cons.mpr ⟨fun r1 r7 μ => by kernel_rfl, List.forall_mem_cons.mpr ⟨fun r1 r7 μ => by kernel_rfl, List.forall_mem_cons.mpr ⟨fun r1 r7 μ => by kernel_rfl, List.forall_mem_cons.mpr ⟨fun r1 r7 μ => by kernel_rfl, List.forall_mem_cons.mpr ⟨fun r1 r7 μ => by kernel_rfl, List.forall_mem_cons.mpr ⟨fun r1 r7 μ => by kernel_rfl, List.forall_mem_cons.mpr ⟨fun r1 r7 μ => by kernel_rfl, List.forall_mem_cons.mpr ⟨fun r1 r7 μ => by kernel_rfl, List.forall_mem_cons.mpr ⟨fun r1 r7 μ => by kernel_rfl, List.forall_mem_cons.mpr ⟨fun r1 r7 μ => by kernel_rfl, List.forall_mem_cons.mpr ⟨fun r1 r7 μ => by kernel_rfl, List.forall_mem_cons.mpr ⟨fun r1 r7 μ => by kernel_rfl, List.forall_mem_cons.mpr ⟨fun r1 r7 μ => by kernel_rfl, fun _ z => nomatch z⟩⟩⟩⟩⟩⟩⟩⟩⟩⟩⟩⟩⟩⟩⟩⟩⟩⟩⟩⟩⟩⟩⟩
theorem tl_22 : ∀ y ∈ smalls, tlOk (fr (4) 3) y := List.forall_mem_cons.mpr ⟨fun r1 r7 μ => by kernel_rfl, List.forall_mem_cons.mpr ⟨fun r1 r7 μ => by kernel_rfl, List.forall_mem_cons.mpr ⟨fun r1 r7 μ => by kernel_rfl, List.forall_mem_cons.mpr ⟨fun r1 r7 μ => by kernel_rfl, List.forall_mem_cons.mpr ⟨fun r1 r7 μ => by kernel_rfl, List.forall_mem_cons.mpr ⟨fun r1 r7 μ => by kernel_rfl, List.forall_mem_cons.mpr ⟨fun r1 r7 μ => by kernel_rfl, List.forall_mem_cons.mpr ⟨fun r1 r7 μ => by kernel_rfl, List.forall_mem_cons.mpr ⟨fun r1 r7 μ => by kernel_rfl, List.forall_mem_cons.mpr ⟨fun r1 r7 μ => by kernel_rfl, List.forall_mem_cons.mpr ⟨fun r1 r7 μ => by kernel_rfl, List.forall_mem_cons.mpr ⟨fun r1 r7 μ => by kernel_rfl, List.forall_mem_cons.mpr ⟨fun r1 r7 μ => by kernel_rfl, List.forall_mem_cons.mpr ⟨fun r1 r7 μ => by kernel_rfl, List.forall_mem_cons.mpr ⟨fun r1 r7 μ => by kernel_rfl, List.forall_mem_cons.mpr ⟨fun r1 r7 μ => by kernel_rfl, List.forall_mem_cons.mpr ⟨fun r1 r7 μ => by kernel_rfl, List.forall_mem_cons.mpr ⟨fun r1 r7 μ => by kernel_rfl, List.forall_mem_cons.mpr ⟨fun r1 r7 μ => by kernel_rfl, List.forall_mem_cons.mpr ⟨fun r1 r7 μ => by kernel_rfl, List.forall_mem_cons.mpr ⟨fun r1 r7 μ => by kernel_rfl, List.forall_mem_cons.mpr ⟨fun r1 r7 μ => by kernel_rfl, List.forall_mem_cons.mpr ⟨fun r1 r7 μ => by kernel_rfl, fun _ z => nomatch z⟩⟩⟩⟩⟩⟩⟩⟩⟩⟩⟩⟩⟩⟩⟩⟩⟩⟩⟩⟩⟩⟩⟩
theorem tl_all : ∀ x ∈ smalls, ∀ y ∈ smalls, tlOk x y := List.forall_mem_cons.mpr ⟨tl_0, List.forall_mem_cons.mpr ⟨tl_1, List.forall_mem_cons.mpr ⟨tl_2, List.forall_mem_cons.mpr ⟨tl_3, List.forall_mem_cons.mpr ⟨tl_4, List.forall_mem_cons.mpr ⟨tl_5, List.forall_mem_cons.mpr ⟨tl_6, List.forall_mem_cons.mpr ⟨tl_7, List.forall_mem_cons.mpr ⟨tl_8, List.forall_mem_cons.mpr ⟨tl_9, List.forall_mem_cons.mpr ⟨tl_10, List.forall_mem_cons.mpr ⟨tl_11, List.forall_mem_cons.mpr ⟨tl_12, List.forall_mem_cons.mpr ⟨tl_13, List.forall_mem_cons.mpr ⟨tl_14, List.forall_mem_cons.mpr ⟨tl_15, List.forall_mem_cons.mpr ⟨tl_16, List.forall_mem_cons.mpr ⟨tl_17, List.forall_mem_cons.mpr ⟨tl_18, List.forall_mem_cons.mpr ⟨tl_19, List.forall_mem_cons.mpr ⟨tl_20, List.forall_mem_cons.mpr ⟨tl_21, List.forall_mem_cons.mpr ⟨tl_22, fun _ z => nomatch z⟩⟩⟩⟩⟩⟩⟩⟩⟩⟩⟩⟩⟩⟩⟩⟩⟩⟩⟩⟩⟩⟩⟩
end Lw
set_option maxRecDepth 1000000
set_option maxHeartbeats 0
namespace Lw
open PySem PySem.Spec PyProof.Rows L2 Sh
def chkV (x : P) : Bool := isT (.bl true) (c__law_is_value_right.run [.p x] Store.emp)
def isRC : Res D → Bool
  | .ok (.p (.bl true)) μ => match μ.get? 0 with
    | some c => ownC c
    | none => false
  | _ => false
def chkC (c : Cell) : Bool := ownC c && isRC (runB 4 s__law_is_value_right [.ref 0] (st1 c))
def allI (k : Nat) (lo : Int) (f : Int → Bool) : Bool := (List.range k).all fun i => f (Int.ofNat i + lo)
theorem allI_at {k : Nat} {lo : Int} {f : Int → Bool} (h : allI k lo f = true) {i : Int} (h1 : lo ≤ i) (h2 : i < lo + k) : f i = true := by
  have q := List.all_eq_true.mp h (i - lo).toNat (List.mem_range.mpr (by omega))
  have e : Int.ofNat (i - lo).toNat + lo = i := by
    show (((i - lo).toNat : Nat) : Int) + lo = i
    omega
  rw [e] at q
  exact q
def tops (f : Int → Bool) : Prop := ∀ i : Int, -20 ≤ i → i ≤ 20 → f i = true
theorem tops_of {f : Int → Bool} (h1 : allI 14 (-20) f = true) (h2 : allI 14 (-6) f = true) (h3 : allI 13 8 f = true) : tops f := fun i a b => by
  by_cases q : i < -6
  · exact allI_at h1 a (by omega)
  · by_cases q2 : i < 8
    · exact allI_at h2 (by omega) (by omega)
    · exact allI_at h3 (by omega) (by omega)
def bots (f : Int → Bool) : Bool := allI 12 (-1) f
def pOdds : List P := [.non, .bl true, .bl false, .int 0, .int 1, .int (-1), .int 2, .int 33, .int (10 ^ 20), .str [], .str [97], .str [45], .tup [], .tup [.int 0], .tup [.tup []], .tup [.tup [.str [97], .str [97]]], fr 0 1, .tup [.non], .tup [fr 0 1, fr 1 2], .tup [.int 2, .int 1, .int 0], .tup [.tup [.bl true]], .tup [.str [110, 111, 110, 101], .int 3], .tup [.str [111, 110, 101, 115]]]
def cOdds : List Cell := [.fl [], .fd [], .fl [.int 1], .fd [(.str [97], .int 1)]]
def greats : List P := [.int (10 ^ 12), .int (10 ^ 12 + 1), .int (10 ^ 30), .int (10 ^ 12 - 1)]
theorem p1 : (allI 14 (-20) fun i => bots fun j => chkV (fr i j)) = true := by decide +kernel
theorem p2 : (allI 14 (-6) fun i => bots fun j => chkV (fr i j)) = true := by decide +kernel
theorem p3 : (allI 13 8 fun i => bots fun j => chkV (fr i j)) = true := by decide +kernel
theorem q1 : (allI 14 (-20) fun i => bots fun j => chkV (.tup [.int i, .int j, .int 1])) = true := by decide +kernel
theorem q2 : (allI 14 (-6) fun i => bots fun j => chkV (.tup [.int i, .int j, .int 1])) = true := by decide +kernel
theorem q3 : (allI 13 8 fun i => bots fun j => chkV (.tup [.int i, .int j, .int 1])) = true := by decide +kernel
theorem v_pair {i j : Int} (h1 : -20 ≤ i) (h2 : i ≤ 20) (h3 : -1 ≤ j) (h4 : j ≤ 10) : chkV (fr i j) = true := allI_at (tops_of p1 p2 p3 i h1 h2) h3 (by omega)
theorem v_trip {i j : Int} (h1 : -20 ≤ i) (h2 : i ≤ 20) (h3 : -1 ≤ j) (h4 : j ≤ 10) : chkV (.tup [.int i, .int j, .int 1]) = true := allI_at (tops_of q1 q2 q3 i h1 h2) h3 (by omega)
theorem v_true : tops fun i => chkV (.tup [.int i, .bl true]) := tops_of (by decide +kernel) (by decide +kernel) (by decide +kernel)
theorem v_one : tops fun i => chkV (fr i 1) := tops_of (by decide +kernel) (by decide +kernel) (by decide +kernel)
theorem v_int : tops fun i => chkV (.int i) := tops_of (by decide +kernel) (by decide +kernel) (by decide +kernel)
def chkG : P → Bool
  | .int i => chkV (fr i 1) && (chkV (fr 1 i) && chkV (fr (-i) 7))
  | _ => false
theorem v_great : (greats.all chkG) = true := by decide +kernel
theorem v_odd : (pOdds.all fun x => chkV x) = true := by decide +kernel
theorem v_row : tops fun i => chkC (.fl [.int i, .int 1]) := tops_of (by decide +kernel) (by decide +kernel) (by decide +kernel)
theorem v_cell : (cOdds.all chkC) = true := by decide +kernel
end Lw
set_option maxRecDepth 100000
set_option maxHeartbeats 4000000
namespace Lw
open PySem PySem.Spec PyProof.Rows L2 Sh
def xRow0 : Sv := (sAsg (fzE (eN opTuple (aCons (fzE (eLc (itR range1 (aCons (fzH (eCallP c__law_take.run 2 (aCons (eV 0) (aCons (eC (.int (8))) aNil)))) aNil)) (.nm 7) bYes (fzH (eCallP c__law_drawn.run 1 (aCons (eV 0) aNil))) [7])) aNil))) (gNm 1))
def xRow1 : Sv := (sIf (bOr (eTest (e2 opNeA (fzE (eN opRepr (aCons (fzH (eCallK c_sum_of.run 0 1 [0] aNil (aCons (eV 1) aNil))) aNil))) (fzE (eN opRepr (aCons (fzH (eCallP c__law_sum.run 1 (aCons (eV 1) aNil))) aNil))))) (eTest (e2 opNeA (fzE (eN opRepr (aCons (fzH (eCallK c_product_of.run 0 1 [0] aNil (aCons (eV 1) aNil))) aNil))) (fzE (eN opRepr (aCons (fzH (eCallP c__law_product.run 1 (aCons (eV 1) aNil))) aNil)))))) (sSeq (sRet (eC (.bl false))) sSkip) sSkip)
def xRow2 : Sv := (sAsg (fzH (eN opTup (aCons (fzH (eCallP c__law_drawn.run 1 (aCons (eV 0) aNil))) (aCons (fzH (eCallP c__law_drawn.run 1 (aCons (eV 0) aNil))) aNil)))) (gTp 2 (gCn (gNm 3) (gCn (gNm 4) gNo))))
theorem rows_eq : s__law_are_rows_right = sSeq xRow0 (sSeq xRow1 (sSeq xRow2 xRowsTail)) := x__law_are_rows_right_eq

theorem fixR (k : Nat) (h : k ≤ 1000) (μ : Store) : range1 [.p (.int (Int.ofNat k))] = some (.fix (rangeD k 0), none) := by
  unfold range1
  have e : inI (Int.ofNat k) = true := by
    unfold inI
    refine decide_eq_true ?_
    show k < 4611686018427387904
    omega
  first
    | (rw [e]; rfl)
    | (dsimp only; rw [e]; rfl)
    | rfl
theorem rangeD_len : ∀ (k : Nat) (i : Int), (rangeD k i).length = k
  | 0, _ => rfl
  | k + 1, i => congrArg Nat.succ (rangeD_len k (i + 1))
theorem row0_ok {a m c : Int} {N : Nat} (ha : 0 ≤ a) (hm : m.natAbs ≤ 2 ^ 61) (hc : c.natAbs ≤ N) (hN : N + 100 < 2 ^ 60) :
    ∃ (ps : List P) (μ : Store), (∀ x ∈ ps, Sm x) ∧ ps.length ≤ 7 ∧ PotAt μ 0 m (N + 15) ∧ xRow0 (padE [.ref 0] 8) (st1 (pot a m c)) = .next [some (.ref 0), some (.p (.tup ps)), none, none, none, none, none, none] μ := by
  obtain ⟨d1, a1, c1, p1, p2, p3, p4, p5⟩ := take_c (μ := st1 (pot a m c)) (n := 0) (k := 8) rfl ha hm hc (by omega) (by decide) (by decide)
  rw [set_st1] at p5
  obtain ⟨k, rfl⟩ : ∃ k : Nat, d1 = Int.ofNat k := ⟨d1.toNat, by show d1 = ((d1.toNat : Nat) : Int); omega⟩
  have hk : k ≤ 7 := by
    have : (k : Int) < 8 := p2
    omega
  have it : itR range1 (aCons (fzH (eCallP c__law_take.run 2 (aCons (eV 0) (aCons (eC (.int (8))) aNil)))) aNil) (padE [.ref 0] 8) (st1 (pot a m c)) = .ok (.fix (rangeD k 0), none) (st1 (pot a1 m c1)) := by
    have e : Is (aCons (fzH (eCallP c__law_take.run 2 (aCons (eV 0) (aCons (eC (.int (8))) aNil)))) aNil) (padE [.ref 0] 8) (st1 (pot a m c)) [.p (.int (Int.ofNat k))] (st1 (pot a1 m c1)) := is_cons (is_HR (is_P (is_cons (is_V rfl) (is_cons is_C is_nil)) rfl p5)) is_nil
    unfold itR
    rw [e]
    show srcO (range1 [.p (.int (Int.ofNat k))]) (st1 (pot a1 m c1)) = _
    rw [fixR k (by omega) Store.emp]
    rfl
  obtain ⟨acc, μ2, ⟨a2, c2, rfl, a20, c20, xs, rfl, hxs⟩, hl, h⟩ := lc_fix (el := fzH (eCallP c__law_drawn.run 1 (aCons (eV 0) aNil))) (v := 7) (J := fun i acc μ => ∃ a c : Int, μ = st1 (pot a m c) ∧ 0 ≤ a ∧ c.natAbs ≤ N + 1 + 2 * i ∧ ∃ xs : List P, acc = xs.map .p ∧ ∀ x ∈ xs, Sm x) it ⟨a1, c1, rfl, p3, by omega, [], rfl, fun _ z => nomatch z⟩ (by rw [rangeD_len]; unfold szMax; omega) (by
    rintro i d acc μ hd ⟨a, c, rfl, ha, hc, xs, rfl, hxs⟩
    have hi : i < k := by
      have := (List.getElem?_eq_some_iff.mp hd).1
      rw [rangeD_len] at this
      exact this
    obtain ⟨x, a', c', s1, s2, s3, s4⟩ := drawn_ok (μ := st1 (pot a m c)) (n := 0) rfl ha hm hc (by omega)
    rw [set_st1] at s4
    exact ⟨.p x, st1 (pot a' m c'), is_HR (is_P (is_cons (is_V rfl) is_nil) rfl s4), a', c', rfl, s2, by omega, x :: xs, rfl, fun y hy => (List.mem_cons.mp hy).elim (fun z => by rw [z]; exact s1) (hxs y)⟩)
  rw [List.length_map, rangeD_len] at hl
  rw [rangeD_len] at c20
  have pu : ∀ l : List P, pures (l.map .p) = some l := by
    intro l
    induction l with
    | nil => rfl
    | cons x r ih =>
      show (match pures (r.map D.p) with
        | some xs => some (x :: xs)
        | none => none) = _
      rw [ih]
  have mk : mkL (xs.map D.p).reverse = .fl xs.reverse := by
    rw [← List.map_reverse]
    unfold mkL
    rw [pu]
  rw [mk] at h
  refine ⟨xs.reverse, st1 (pot a2 m c2) ++ [Cell.fl xs.reverse], fun x hx => hxs x (List.mem_reverse.mp hx), by rw [List.length_reverse]; omega, ⟨a2, c2, Keep.push _ _ _ _ rfl, a20, by omega⟩, ?_⟩
  unfold xRow0
  refine asg_n (is_E (is_N (is_cons (is_E h) is_nil) ?_))
  unfold opTuple
  dsimp only
  rw [rdL_fl (push_new _ _)]
  dsimp only
  rw [pu]
theorem row1_ok {ps : List P} (hp : ∀ x ∈ ps, Sm x) (hl : ps.length ≤ 7) (μ : Store) : xRow1 [some (.ref 0), some (.p (.tup ps)), none, none, none, none, none, none] μ = .next [some (.ref 0), some (.p (.tup ps)), none, none, none, none, none, none] μ := by
  obtain ⟨t1, h1⟩ := bd_rp (added_ok hp hl μ).2 hl
  obtain ⟨t2, h2⟩ := bd_rp (multiplied_ok hp hl μ).2 hl
  unfold xRow1
  refine (if_f (is_OrF (is_Test (is_2 (is_E (is_N (is_cons (is_HR (is_K is_nil (is_cons (is_V rfl) is_nil) rfl rfl (sumOf_ok hp hl μ))) is_nil) (h1 μ))) (is_E (is_N (is_cons (is_HR (is_P (is_cons (is_V rfl) is_nil) rfl (lsum_ok hp hl μ))) is_nil) (h1 μ))) (ne_same t1)))
    (is_Test (is_2 (is_E (is_N (is_cons (is_HR (is_K is_nil (is_cons (is_V rfl) is_nil) rfl rfl (prodOf_ok hp hl μ))) is_nil) (h2 μ))) (is_E (is_N (is_cons (is_HR (is_P (is_cons (is_V rfl) is_nil) rfl (lprod_ok hp hl μ))) is_nil) (h2 μ))) (ne_same t2))))).trans rfl
theorem row2_ok {ps : List P} {μ : Store} {m : Int} {N : Nat} (hm : m.natAbs ≤ 2 ^ 61) (hN : N + 100 < 2 ^ 60) (h : PotAt μ 0 m N) : ∃ (x y : P) (μ' : Store), Sm x ∧ Sm y ∧ PotAt μ' 0 m (N + 4) ∧ xRow2 [some (.ref 0), some (.p (.tup ps)), none, none, none, none, none, none] μ = .next [some (.ref 0), some (.p (.tup ps)), none, some (.p x), some (.p y), none, none, none] μ' := by
  obtain ⟨a, c, h1, h2, h3⟩ := h
  have l0 := Store.lt_of h1
  obtain ⟨x, a1, c1, s1, s2, s3, s4⟩ := drawn_ok h1 h2 hm h3 (by omega)
  have g1 : (μ.set 0 (pot a1 m c1)).get? 0 = some (pot a1 m c1) := by rw [get_set l0, if_pos rfl]
  have l1 := Store.lt_of g1
  obtain ⟨y, a2, c2, q1, q2, q3, q4⟩ := drawn_ok g1 s2 hm s3 (by omega)
  refine ⟨x, y, (μ.set 0 (pot a1 m c1)).set 0 (pot a2 m c2), s1, q1, ⟨a2, c2, by rw [get_set l1, if_pos rfl], q2, by omega⟩, ?_⟩
  unfold xRow2
  exact (asg_g (is_H (is_N (is_cons (is_HR (is_P (is_cons (is_V rfl) is_nil) rfl s4)) (is_cons (is_HR (is_P (is_cons (is_V rfl) is_nil) rfl q4)) is_nil)) rfl))).trans rfl
theorem rows_ok {μ : Store} {n : Nat} {m : Int} {N : Nat} (hm : m.natAbs ≤ 2 ^ 61) (hN : N + 200 < 2 ^ 60) (h : PotAt μ n m N) : ∃ a c : Int, 0 ≤ a ∧ c.natAbs ≤ N + 19 ∧ c__law_are_rows_right.run [.ref n] μ = .ok (.p (.bl true)) (μ.set n (pot a m c)) := by
  obtain ⟨a, c, h1, h2, h3⟩ := h
  obtain ⟨ps, μ1, r1, r2, r3, r4⟩ := row0_ok h2 hm h3 (by omega)
  obtain ⟨x, y, μ2, s1, s2, ⟨a2, c2, s3, s5, s6⟩, s4⟩ := row2_ok (ps := ps) hm (by omega) r3
  refine ⟨a2, c2, s5, by omega, fz_run (iso1 (xs := []) (μ1 := μ2) h1 rfl rfl (runB_r ?_) s3)⟩
  rw [rows_eq]
  exact (seq_n r4).trans ((seq_n (row1_ok r1 r2 μ1)).trans ((seq_n s4).trans (tl_all x (sm_mem s1) y (sm_mem s2) _ _ μ2)))
/-! ### fractions of two ints -/
theorem isInt_at (a : Int) (h : a.natAbs ≤ 1000000) (μ : Store) : c_is_int.run [.p (.int a), .p (.int (-1000000000000)), .p (.int 1000000000000)] μ = .ok (.p (.bl true)) μ := by
  refine ok_is_int [.p (.int a), .p (.int (-1000000000000)), .p (.int 1000000000000)] _ μ ?_
  show some (P.bl (!decide (a < -1000000000000) && !decide ((1000000000000 : Int) < a))) = _
  rw [decide_eq_false (by omega), decide_eq_false (by omega)]
  rfl
theorem fo_loop {t b : Int} (ht : t.natAbs ≤ 1000000) (hb : b.natAbs ≤ 1000000) : ∃ ρ, (sFor (itAny (fzH (eN opTup (aCons (eV 0) (aCons (eV 1) aNil))))) (fzG (gNm 2)) (sSeq (sIf (bNot (eTru (fzH (eCallP c_is_int.run 3 (aCons (eV 2) (aCons (fzE (e1 opNeg (eC (.int (1000000000000))))) (aCons (eC (.int (1000000000000))) aNil))))))) (sSeq (sRaise ("BadInt" : Str) (eV 2)) sSkip) sSkip) sSkip)) [some (.p (.int t)), some (.p (.int b)), none] Store.emp = .next ρ Store.emp ∧ ∃ z, ρ = [some (.p (.int t)), some (.p (.int b)), z] := by
  obtain ⟨ρ, μ, h1, h2, z, h3⟩ := for_fix (it := itAny (fzH (eN opTup (aCons (eV 0) (aCons (eV 1) aNil))))) (g := fzG (gNm 2)) (body := (sSeq (sIf (bNot (eTru (fzH (eCallP c_is_int.run 3 (aCons (eV 2) (aCons (fzE (e1 opNeg (eC (.int (1000000000000))))) (aCons (eC (.int (1000000000000))) aNil))))))) (sSeq (sRaise ("BadInt" : Str) (eV 2)) sSkip) sSkip) sSkip)) (ρ := [some (.p (.int t)), some (.p (.int b)), none]) (μ := Store.emp) (μ1 := Store.emp) (ds := [.p (.int t), .p (.int b)])
    (I := fun i ρ μ => μ = Store.emp ∧ ∃ z, ρ = [some (.p (.int t)), some (.p (.int b)), z]) rfl ⟨rfl, none, rfl⟩ (by
      rintro i d ρ μ hd ⟨rfl, z, rfl⟩
      obtain ⟨v, hv, rfl⟩ : ∃ v : Int, v.natAbs ≤ 1000000 ∧ d = .p (.int v) := by
        match i, hd with
        | 0, h => exact ⟨t, ht, by cases h; rfl⟩
        | 1, h => exact ⟨b, hb, by cases h; rfl⟩
      refine ⟨[some (.p (.int t)), some (.p (.int b)), some (.p (.int v))], Store.emp, _, Store.emp, by rw [fzG_at, gNm_eq]; rfl, (seq_n ((if_f (is_Not (q := true) (is_Tru (is_HR (is_P (is_cons (is_V rfl) (is_cons (is_E (is_1 is_C rfl)) (is_cons is_C is_nil))) rfl (isInt_at v hv _))) rfl))).trans rfl)).trans rfl, rfl, some (.p (.int v)), rfl⟩)
  subst h2
  exact ⟨ρ, h1, z, h3⟩
theorem frOf_ok {t b : Int} (ht : t.natAbs ≤ 1000000) (hb : b.natAbs ≤ 1000000) (h0 : b ≠ 0) (μ : Store) : c_fraction_of.run [.p (.int t), .p (.int b)] μ = .ok (.p (mkFr t b)) μ := by
  obtain ⟨ρ, h1, z, rfl⟩ := fo_loop ht hb
  refine tells_iso (ps := [.int t, .int b]) (μ1 := Store.emp) (runB_r ?_)
  rw [x_fraction_of_eq]
  unfold x_fraction_of
  have e : (b == 0) = false := beq_eq_false_iff_ne.mpr h0
  exact (seq_n h1).trans ((seq_n ((if_f (is_Test (is_2 (is_V rfl) is_C (by rw [eqI, e])))).trans rfl)).trans (seq_r (ret_r (is_HR (is_P (is_cons (is_V rfl) (is_cons (is_V rfl) is_nil)) rfl (ok_told_fraction t b _ h0 (sm_le hb (by decide +kernel))))))))
theorem frOf_no {t : Int} (ht : t.natAbs ≤ 1000000) (μ : Store) : c_fraction_of.run [.p (.int t), .p (.int 0)] μ = .exc "BadInt" (.p (.int 0)) μ := by
  obtain ⟨ρ, h1, z, rfl⟩ := fo_loop (t := t) (b := 0) ht (by decide)
  refine fz_run (iso_exc1 (ps := [.int t, .int 0]) (μ1 := Store.emp) (runB_x (ρ1 := [some (.p (.int t)), some (.p (.int 0)), z]) ?_))
  rw [x_fraction_of_eq]
  unfold x_fraction_of
  exact (seq_n h1).trans (seq_x ((if_t (is_Test (is_2 (is_V rfl) is_C (by rw [eqI]; rfl)))).trans (seq_x (raise_x (is_V rfl)))))
end Lw
set_option maxRecDepth 100000
set_option maxHeartbeats 4000000
namespace Lw
open PySem PySem.Spec PyProof.Rows L2 Sh
def xOddS : List Sv := [(sAsg (fzH (eN opLst (aCons (eC .non) (aCons (eC (.bl true)) (aCons (eC (.bl false)) (aCons (eC (.int (0))) (aCons (eC (.int (1))) (aCons (fzE (e1 opNeg (eC (.int (1))))) (aCons (eC (.int (2))) (aCons (eC (.int (33))) (aCons (fzE (e2 opPow (eC (.int (10))) (eC (.int (20))))) (aCons (eC (.str [])) (aCons (eC (.str [97])) (aCons (eC (.str [45])) (aCons (fzH (eN opTup aNil)) (aCons (fzH (eN opLst aNil)) (aCons (fzE eDict0) (aCons (fzH (eN opTup (aCons (eC (.int (0))) aNil))) (aCons (fzH (eN opTup (aCons (fzH (eN opTup aNil)) aNil))) (aCons (fzH (eN opLst (aCons (eC (.int (1))) aNil))) (aCons (fzH (eN opTup (aCons (fzH (eN opTup (aCons (eC (.str [97])) (aCons (eC (.str [97])) aNil)))) aNil))) aNil))))))))))))))))))))) (gNm 1)), (sAsg (fzE (e2 opAdd (eV 1) (fzH (eN opLst (aCons (fzH (eN opTup (aCons (eC (.int (0))) (aCons (eC (.int (1))) aNil)))) (aCons (fzH (eN opTup (aCons (eC .non) aNil))) (aCons (fzE (eDisp [((eC (.str [97])), (eC (.int (1))))])) (aCons (fzH (eN opTup (aCons (fzH (eN opTup (aCons (eC (.int (0))) (aCons (eC (.int (1))) aNil)))) (aCons (fzH (eN opTup (aCons (eC (.int (1))) (aCons (eC (.int (2))) aNil)))) aNil)))) (aCons (fzH (eN opTup (aCons (eC (.int (2))) (aCons (eC (.int (1))) (aCons (eC (.int (0))) aNil))))) (aCons (fzH (eN opTup (aCons (fzH (eN opTup (aCons (eC (.bl true)) aNil))) aNil))) (aCons (fzH (eN opTup (aCons (eC (.str [110, 111, 110, 101])) (aCons (eC (.int (3))) aNil)))) (aCons (fzH (eN opTup (aCons (eC (.str [111, 110, 101, 115])) aNil))) aNil)))))))))))) (gNm 1))]
def xOddR : Sv := (sSeq (sRet (fzH (eCallP c__law_of.run 2 (aCons (eV 0) (aCons (eV 1) aNil))))) sSkip)
def oddS (c0 : Cell) : Store := match seqs xOddS sSkip [some (.ref 0), none] (st1 c0) with
  | .next _ μ => μ
  | _ => Store.emp
def odL : List D := [.p .non, .p (.bl true), .p (.bl false), .p (.int 0), .p (.int 1), .p (.int (-1)), .p (.int 2), .p (.int 33), .p (.int (10 ^ 20)), .p (.str []), .p (.str [97]), .p (.str [45]), .p (.tup []), .ref 1, .ref 2, .p (.tup [.int 0]), .p (.tup [.tup []]), .ref 3, .p (.tup [.tup [.str [97], .str [97]]]), .p (fr 0 1), .p (.tup [.non]), .ref 5, .p (.tup [fr 0 1, fr 1 2]), .p (.tup [.int 2, .int 1, .int 0]), .p (.tup [.tup [.bl true]]), .p (.tup [.str [110, 111, 110, 101], .int 3]), .p (.tup [.str [111, 110, 101, 115]])]
theorem odd_eq : s__law_odd = seqs xOddS xOddR := x__law_odd_eq
theorem odd_run (c0 : Cell) : seqs xOddS sSkip [some (.ref 0), none] (st1 c0) = .next [some (.ref 0), some (.ref 7)] (oddS c0) := by kernel_rfl
theorem odd_0 (c0 : Cell) : (oddS c0).get? 0 = some c0 := by kernel_rfl
theorem odd_7 (c0 : Cell) : (oddS c0).get? 7 = some (.dl odL) := by kernel_rfl
/-- what an odd value is, beside the cells of a store -/
def OddV (μ : Store) (n : Nat) (d : D) : Prop := (∃ x, d = .p x ∧ x ∈ pOdds) ∨ ∃ L cl, d = .ref L ∧ L ≠ n ∧ cl ∈ cOdds ∧ μ.get? L = some cl
theorem cOdds_flat {cl : Cell} (h : cl ∈ cOdds) : flatC cl = true := by
  have q : (cOdds.all flatC) = true := rfl
  exact List.all_eq_true.mp q cl h
theorem odL_v (c0 : Cell) : ∀ d ∈ odL, OddV (oddS c0) 0 d := List.forall_mem_cons.mpr ⟨.inl ⟨_, rfl, by unfold pOdds; repeat (first | exact List.mem_cons_self | refine List.mem_cons_of_mem _ ?_)⟩, List.forall_mem_cons.mpr ⟨.inl ⟨_, rfl, by unfold pOdds; repeat (first | exact List.mem_cons_self | refine List.mem_cons_of_mem _ ?_)⟩, List.forall_mem_cons.mpr ⟨.inl ⟨_, rfl, by unfold pOdds; repeat (first | exact List.mem_cons_self | refine List.mem_cons_of_mem _ ?_)⟩, List.forall_mem_cons.mpr ⟨.inl ⟨_, rfl, by unfold pOdds; repeat (first | exact List.mem_cons_self | refine List.mem_cons_of_mem _ ?_)⟩, List.forall_mem_cons.mpr ⟨.inl ⟨_, rfl, by unfold pOdds; repeat (first | exact List.mem_cons_self | refine List.mem_cons_of_mem _ ?_)⟩, List.forall_mem_cons.mpr ⟨.inl ⟨_, rfl, by unfold pOdds; repeat (first | exact List.mem_cons_self | refine List.mem_cons_of_mem _ ?_)⟩, List.forall_mem_cons.mpr ⟨.inl ⟨_, rfl, by unfold pOdds; repeat (first | exact List.mem_cons_self | refine List.mem_cons_of_mem _ ?_)⟩, List.forall_mem_cons.mpr ⟨.inl ⟨_, rfl, by unfold pOdds; repeat (first | exact List.mem_cons_self | refine List.mem_cons_of_mem _ ?_)⟩, List.forall_mem_cons.mpr ⟨.inl ⟨_, rfl, by unfold pOdds; repeat (first | exact List.mem_cons_self | refine List.mem_cons_of_mem _ ?_)⟩, List.forall_mem_cons.mpr ⟨.inl ⟨_, rfl, by unfold pOdds; repeat (first | exact List.mem_cons_self | refine List.mem_cons_of_mem _ ?_)⟩, List.forall_mem_cons.mpr ⟨.inl ⟨_, rfl, by unfold pOdds; repeat (first | exact List.mem_cons_self | refine List.mem_cons_of_mem _ ?_)⟩, List.forall_mem_cons.mpr ⟨.inl ⟨_, rfl, by unfold pOdds; repeat (first | exact List.mem_cons_self | refine List.mem_cons_of_mem _ ?_)⟩, List.forall_mem_cons.mpr ⟨.inl ⟨_, rfl, by unfold pOdds; repeat (first | exact List.mem_cons_self | refine List.mem_cons_of_mem _ ?_)⟩, List.forall_mem_cons.mpr ⟨.inr ⟨1, .fl [], rfl, by decide, by unfold cOdds; repeat (first | exact List.mem_cons_self | refine List.mem_cons_of_mem _ ?_), by kernel_rfl⟩, List.forall_mem_cons.mpr ⟨.inr ⟨2, .fd [], rfl, by decide, by unfold cOdds; repeat (first | exact List.mem_cons_self | refine List.mem_cons_of_mem _ ?_), by kernel_rfl⟩, List.forall_mem_cons.mpr ⟨.inl ⟨_, rfl, by unfold pOdds; repeat (first | exact List.mem_cons_self | refine List.mem_cons_of_mem _ ?_)⟩, List.forall_mem_cons.mpr ⟨.inl ⟨_, rfl, by unfold pOdds; repeat (first | exact List.mem_cons_self | refine List.mem_cons_of_mem _ ?_)⟩, List.forall_mem_cons.mpr ⟨.inr ⟨3, .fl [.int 1], rfl, by decide, by unfold cOdds; repeat (first | exact List.mem_cons_self | refine List.mem_cons_of_mem _ ?_), by kernel_rfl⟩, List.forall_mem_cons.mpr ⟨.inl ⟨_, rfl, by unfold pOdds; repeat (first | exact List.mem_cons_self | refine List.mem_cons_of_mem _ ?_)⟩, List.forall_mem_cons.mpr ⟨.inl ⟨_, rfl, by unfold pOdds; repeat (first | exact List.mem_cons_self | refine List.mem_cons_of_mem _ ?_)⟩, List.forall_mem_cons.mpr ⟨.inl ⟨_, rfl, by unfold pOdds; repeat (first | exact List.mem_cons_self | refine List.mem_cons_of_mem _ ?_)⟩, List.forall_mem_cons.mpr ⟨.inr ⟨5, .fd [(.str [97], .int 1)], rfl, by decide, by unfold cOdds; repeat (first | exact List.mem_cons_self | refine List.mem_cons_of_mem _ ?_), by kernel_rfl⟩, List.forall_mem_cons.mpr ⟨.inl ⟨_, rfl, by unfold pOdds; repeat (first | exact List.mem_cons_self | refine List.mem_cons_of_mem _ ?_)⟩, List.forall_mem_cons.mpr ⟨.inl ⟨_, rfl, by unfold pOdds; repeat (first | exact List.mem_cons_self | refine List.mem_cons_of_mem _ ?_)⟩, List.forall_mem_cons.mpr ⟨.inl ⟨_, rfl, by unfold pOdds; repeat (first | exact List.mem_cons_self | refine List.mem_cons_of_mem _ ?_)⟩, List.forall_mem_cons.mpr ⟨.inl ⟨_, rfl, by unfold pOdds; repeat (first | exact List.mem_cons_self | refine List.mem_cons_of_mem _ ?_)⟩, List.forall_mem_cons.mpr ⟨.inl ⟨_, rfl, by unfold pOdds; repeat (first | exact List.mem_cons_self | refine List.mem_cons_of_mem _ ?_)⟩, fun _ z => nomatch z⟩⟩⟩⟩⟩⟩⟩⟩⟩⟩⟩⟩⟩⟩⟩⟩⟩⟩⟩⟩⟩⟩⟩⟩⟩⟩⟩
theorem run_of : c__law_of.run = fzF (isoF (runB 2 (xOf (fzF (isoF (runB 5 xTake)))))) := by
  have e : s__law_of = xOf c__law_take.run := by kernel_rfl
  rw [← run_take, ← e]
  rfl
theorem OddV.keep {μ μ' : Store} {n : Nat} {d : D} (h : OddV μ n d) (k : KeepBut n μ μ') : OddV μ' n d := by
  rcases h with h | ⟨L, cl, rfl, h1, h2, h3⟩
  · exact .inl h
  · exact .inr ⟨L, cl, rfl, h1, h2, k _ _ h1 h3⟩
theorem odd_ok {μ : Store} {n : Nat} {m : Int} {N : Nat} (hm : m.natAbs ≤ 2 ^ 61) (hN : N + 100 < 2 ^ 60) (h : PotAt μ n m N) : ∃ (d : D) (μ' : Store), c__law_odd.run [.ref n] μ = .ok d μ' ∧ PotAt μ' n m (N + 1) ∧ KeepBut n μ μ' ∧ OddV μ' n d := by
  obtain ⟨a, c, h1, h2, h3⟩ := h
  obtain ⟨d, μ1, q1, q2, q3, q4⟩ := of_dl2 (μ := oddS (pot a m c)) (n := 0) (L := 7) (N := N) ⟨a, c, odd_0 _, h2, h3⟩ hm (by omega) (odd_7 _) (by decide) (by decide)
  have hv := (odL_v (pot a m c) d q1).keep q3
  have run : runB 2 s__law_odd [.ref 0] (st1 (pot a m c)) = .ok d μ1 := by
    refine runB_r ?_
    rw [odd_eq, seqs_app]
    have e := odd_run (pot a m c)
    have e2 : padE [D.ref 0] 2 = [some (.ref 0), none] := rfl
    rw [e2, e]
    show xOddR [some (.ref 0), some (.ref 7)] (oddS (pot a m c)) = _
    unfold xOddR
    exact seq_r (ret_r (is_HR (is_P (is_cons (is_V rfl) (is_cons (is_V rfl) is_nil)) rfl (by rw [run_of]; exact q4))))
  have ek : c__law_odd.run = fzF (isoF (runB 2 s__law_odd)) := rfl
  rw [ek]
  obtain ⟨e, μ', r1, r2, r3, r4⟩ := iso_pot (f := runB 2 s__law_odd) h1 run q2 (by
    rcases hv with ⟨x, rfl, _⟩ | ⟨L, cl, rfl, g1, g2, g3⟩
    · exact .inl ⟨x, rfl⟩
    · exact .inr ⟨L, cl, rfl, by omega, g3, cOdds_flat g2⟩)
  refine ⟨e, μ', r1, r2, r3, ?_⟩
  rcases r4 with ⟨x, rfl, rfl⟩ | ⟨k, cl, rfl, g1, L, rfl, g2, g3⟩
  · rcases hv with ⟨y, hy, hy2⟩ | ⟨L, cl, hy, _⟩
    · cases hy
      exact .inl ⟨x, rfl, hy2⟩
    · cases hy
  · rcases hv with ⟨y, hy, hy2⟩ | ⟨L2, cl2, hy, f1, f2, f3⟩
    · cases hy
    · cases hy
      rw [g1] at f3
      cases f3
      exact .inr ⟨L, cl, rfl, g2, f2, g3⟩
/-! ### any value -/
theorem pures_ref : ∀ {ds : List D} {k : Nat}, D.ref k ∈ ds → pures ds = none
  | d :: r, k, h => by
    rcases List.mem_cons.mp h with z | z
    · subst z
      rfl
    · have q := pures_ref z
      cases d with
      | p x =>
        show (match pures r with
          | some xs => some (x :: xs)
          | none => none) = _
        rw [q]
      | _ => rfl
theorem lst_mkL {μ : Store} {L : Nat} {ds : List D} (h : μ.get? L = some (mkL ds)) : lstOf μ L = some ds := by
  unfold lstOf
  rw [h]
  unfold mkL
  cases q : pures ds with
  | none => rfl
  | some ps => rw [pures_eq q]
theorem add_lists {μ : Store} {L M : Nat} {a b : List D} (ha : lstOf μ L = some a) (hb : lstOf μ M = some b) (hl : a.length + b.length ≤ szMax) : opAdd (.ref L) (.ref M) μ = some (.ref μ.length, μ ++ [mkL (a ++ b)]) := by
  unfold opAdd
  dsimp only
  rw [ha, hb]
  dsimp only
  rw [if_pos hl]
/-- a value that is drawn -/
def WildV (μ : Store) (n : Nat) (d : D) : Prop := (∃ x, d = .p x ∧ chkV x = true) ∨ ∃ L cl, d = .ref L ∧ L ≠ n ∧ chkC cl = true ∧ flatC cl = true ∧ μ.get? L = some cl
theorem OddV.wild {μ : Store} {n : Nat} {d : D} (h : OddV μ n d) : WildV μ n d := by
  rcases h with ⟨x, h1, h2⟩ | ⟨L, cl, h1, h2, h3, h4⟩
  · exact .inl ⟨x, h1, List.all_eq_true.mp v_odd x h2⟩
  · exact .inr ⟨L, cl, h1, h2, List.all_eq_true.mp v_cell cl h3, cOdds_flat h3, h4⟩
theorem WildV.keep {μ μ' : Store} {n : Nat} {d : D} (h : WildV μ n d) (k : KeepBut n μ μ') : WildV μ' n d := by
  rcases h with h | ⟨L, cl, rfl, h1, h2, h3, h4⟩
  · exact .inl h
  · exact .inr ⟨L, cl, rfl, h1, h2, h3, k _ _ h1 h4⟩
def xW0 : Sv := (sAsg (fzH (eCallP c__law_of.run 2 (aCons (eV 0) (aCons (fzH (eN opLst (aCons (fzE (e2 opPow (eC (.int (10))) (eC (.int (12))))) (aCons (fzE (e2 opAdd (fzE (e2 opPow (eC (.int (10))) (eC (.int (12))))) (eC (.int (1))))) (aCons (fzE (e2 opPow (eC (.int (10))) (eC (.int (30))))) (aCons (fzE (e2 opSub (fzE (e2 opPow (eC (.int (10))) (eC (.int (12))))) (eC (.int (1))))) aNil)))))) aNil)))) (gNm 1))
def xW1 : Sv := (sPar 3 4 (aCons (fzE (e2 opSub (fzE (eN opInt (aCons (fzH (eCallP c__law_take.run 2 (aCons (eV 0) (aCons (eC (.int (41))) aNil)))) aNil))) (eC (.int (20))))) (aCons (fzE (e2 opSub (fzE (eN opInt (aCons (fzH (eCallP c__law_take.run 2 (aCons (eV 0) (aCons (eC (.int (12))) aNil)))) aNil))) (eC (.int (1))))) aNil)))
def xW2 : Sv := (sAsg (fzH (eN opLst (aCons (fzH (eN opTup (aCons (eV 3) (aCons (eV 4) aNil)))) (aCons (fzH (eN opTup (aCons (eV 1) (aCons (eC (.int (1))) aNil)))) (aCons (fzH (eN opTup (aCons (eC (.int (1))) (aCons (eV 1) aNil)))) (aCons (fzH (eN opTup (aCons (fzE (e1 opNeg (eV 1))) (aCons (eC (.int (7))) aNil)))) (aCons (fzH (eN opTup (aCons (eV 3) (aCons (eV 4) (aCons (eC (.int (1))) aNil))))) (aCons (fzH (eN opLst (aCons (eV 3) (aCons (eC (.int (1))) aNil)))) (aCons (fzH (eN opTup (aCons (eV 3) (aCons (eC (.bl true)) aNil)))) aNil))))))))) (gNm 2))
def xW3 : Sv := (sAsg (fzE (e2 opAdd (eV 2) (fzH (eN opLst (aCons (fzH (eN opTup (aCons (fzE (e2 opAdd (eV 3) (eC (.int (0))))) (aCons (eC (.int (1))) aNil)))) (aCons (eV 3) aNil)))))) (gNm 2))
def xW4 : Sv := (sRet (fzH (eCallP c__law_of.run 2 (aCons (eV 0) (aCons (fzE (e2 opAdd (eV 2) (fzH (eN opLst (aCons (fzH (eCallP c__law_odd.run 1 (aCons (eV 0) aNil))) (aCons (fzH (eN opTup (aCons (eV 3) (aCons (eV 4) aNil)))) (aCons (fzH (eN opTup (aCons (eV 3) (aCons (eV 4) aNil)))) aNil))))))) aNil)))))
theorem wild_eq : s__law_wild = sSeq xW0 (sSeq xW1 (sSeq xW2 (sSeq xW3 (sSeq xW4 sSkip)))) := x__law_wild_eq
theorem gr_list (ρ : Sh.Env) (μ : Store) : Is (fzH (eN opLst (aCons (fzE (e2 opPow (eC (.int (10))) (eC (.int (12))))) (aCons (fzE (e2 opAdd (fzE (e2 opPow (eC (.int (10))) (eC (.int (12))))) (eC (.int (1))))) (aCons (fzE (e2 opPow (eC (.int (10))) (eC (.int (30))))) (aCons (fzE (e2 opSub (fzE (e2 opPow (eC (.int (10))) (eC (.int (12))))) (eC (.int (1))))) aNil)))))) ρ μ (.ref μ.length) (μ ++ [Cell.fl greats]) := by kernel_rfl
theorem wild_body {μ : Store} {m : Int} {N : Nat} (hm : m.natAbs ≤ 2 ^ 61) (hN : N + 200 < 2 ^ 60) (h : PotAt μ 0 m N) : ∃ (d : D) (μ' : Store), sSeq xW0 (sSeq xW1 (sSeq xW2 (sSeq xW3 (sSeq xW4 sSkip)))) [some (.ref 0), none, none, none, none] μ = .ret d μ' ∧ PotAt μ' 0 m (N + 5) ∧ WildV μ' 0 d := by
  have l0 : 0 < μ.length := by
    obtain ⟨a, c, h1, _, _⟩ := h
    exact Store.lt_of h1
  -- great
  have pA : PotAt (μ ++ [Cell.fl greats]) 0 m N := by
    obtain ⟨a, c, h1, h2, h3⟩ := h
    exact ⟨a, c, Keep.push _ _ _ _ h1, h2, h3⟩
  obtain ⟨g, μ1, g1, g2, g3, g4⟩ := of_fl pA hm (by omega) (push_new _ _) (by decide) (by decide) (by omega)
  have w0 : xW0 [some (.ref 0), none, none, none, none] μ = .next [some (.ref 0), some (.p g), none, none, none] μ1 := by
    unfold xW0
    exact asg_n (is_HR (is_P (is_cons (is_V rfl) (is_cons (gr_list _ _) is_nil)) rfl (by rw [run_of]; exact g4)))
  obtain ⟨gi, rfl⟩ : ∃ gi : Int, g = .int gi := by
    have q : (greats.all fun x => match x with
      | .int _ => true
      | _ => false) = true := rfl
    have := List.all_eq_true.mp q g g1
    cases g with
    | int gi => exact ⟨gi, rfl⟩
    | _ => cases this
  have hg : chkV (fr gi 1) = true ∧ chkV (fr 1 gi) = true ∧ chkV (fr (-gi) 7) = true := by
    have q := List.all_eq_true.mp v_great _ g1
    unfold chkG at q
    simp only [Bool.and_eq_true] at q
    exact q
  -- top, bottom
  obtain ⟨t0, μ2, t1, t2, t3, t4, t5⟩ := take_p g2 hm (k := 41) (by omega) (by decide) (by decide)
  obtain ⟨b0, μ3, b1, b2, b3, b4, b5⟩ := take_p t3 hm (k := 12) (by omega) (by decide) (by decide)
  rw [← run_take] at t5 b5
  have w1 : xW1 [some (.ref 0), some (.p (.int gi)), none, none, none] μ1 = .next [some (.ref 0), some (.p (.int gi)), none, some (.p (.int (t0 - 20))), some (.p (.int (b0 - 1)))] μ3 := by
    unfold xW1
    exact (par_n (is_cons (is_E (is_2 (is_E (is_N (is_cons (is_HR (is_P (is_cons (is_V rfl) (is_cons is_C is_nil)) rfl t5)) is_nil) rfl)) is_C rfl)) (is_cons (is_E (is_2 (is_E (is_N (is_cons (is_HR (is_P (is_cons (is_V rfl) (is_cons is_C is_nil)) rfl b5)) is_nil) rfl)) is_C rfl)) is_nil))).trans rfl
  generalize hT : t0 - 20 = top at w1
  generalize hB : b0 - 1 = bot at w1
  have T1 : -20 ≤ top := by omega
  have T2 : top ≤ 20 := by omega
  have B1 : -1 ≤ bot := by omega
  have B2 : bot ≤ 10 := by omega
  have l3 : 0 < μ3.length := by
    obtain ⟨a, c, h1, _, _⟩ := b3
    exact Store.lt_of h1
  -- values
  let rowC : Cell := .fl [.int top, .int 1]
  let ds2 : List D := [.p (fr top bot), .p (fr gi 1), .p (fr 1 gi), .p (fr (-gi) 7), .p (.tup [.int top, .int bot, .int 1]), .ref μ3.length, .p (.tup [.int top, .bl true])]
  have w2 : xW2 [some (.ref 0), some (.p (.int gi)), none, some (.p (.int top)), some (.p (.int bot))] μ3 = .next [some (.ref 0), some (.p (.int gi)), some (.ref (μ3 ++ [rowC]).length), some (.p (.int top)), some (.p (.int bot))] ((μ3 ++ [rowC]) ++ [mkL ds2]) := by
    unfold xW2
    have tp : ∀ (x y : Ev D) (p q : P) (ρ : Sh.Env) (μ : Store), Is x ρ μ (.p p) μ → Is y ρ μ (.p q) μ → Is (fzH (eN opTup (aCons x (aCons y aNil)))) ρ μ (.p (.tup [p, q])) μ := fun x y p q ρ μ hx hy => is_H (is_N (is_cons hx (is_cons hy is_nil)) rfl)
    exact asg_n (is_H (is_N (is_cons (tp _ _ _ _ _ _ (is_V rfl) (is_V rfl)) (is_cons (tp _ _ _ _ _ _ (is_V rfl) is_C) (is_cons (tp _ _ _ _ _ _ is_C (is_V rfl)) (is_cons (tp _ _ _ _ _ _ (is_E (is_1 (is_V rfl) rfl)) is_C) (is_cons (is_H (is_N (is_cons (is_V rfl) (is_cons (is_V rfl) (is_cons is_C is_nil))) rfl)) (is_cons (is_H (is_N (is_cons (is_V rfl) (is_cons is_C is_nil)) (show opLst [.p (.int top), .p (.int 1)] μ3 = some (.ref μ3.length, μ3 ++ [rowC]) from rfl))) (is_cons (tp _ _ _ _ _ _ (is_V rfl) is_C) is_nil))))))) rfl))
  -- values and two more
  let μ5 : Store := (μ3 ++ [rowC]) ++ [mkL ds2]
  have e5 : μ5.get? (μ3 ++ [rowC]).length = some (mkL ds2) := push_new _ _
  have k5 : Keep μ3 μ5 := (Keep.push _ _).trans (Keep.push _ _)
  let ds3 : List D := [.p (fr (top + 0) 1), .p (.int top)]
  let μ6 : Store := μ5 ++ [mkL ds3]
  have e6 : μ6.get? (μ3 ++ [rowC]).length = some (mkL ds2) := Keep.push _ _ _ _ e5
  have f6 : μ6.get? μ5.length = some (mkL ds3) := push_new _ _
  let μ7 : Store := μ6 ++ [mkL (ds2 ++ ds3)]
  have w3 : xW3 [some (.ref 0), some (.p (.int gi)), some (.ref (μ3 ++ [rowC]).length), some (.p (.int top)), some (.p (.int bot))] μ5 = .next [some (.ref 0), some (.p (.int gi)), some (.ref μ6.length), some (.p (.int top)), some (.p (.int bot))] μ7 := by
    unfold xW3
    have tl : Is (fzH (eN opLst (aCons (fzH (eN opTup (aCons (fzE (e2 opAdd (eV 3) (eC (.int (0))))) (aCons (eC (.int (1))) aNil)))) (aCons (eV 3) aNil)))) [some (.ref 0), some (.p (.int gi)), some (.ref (μ3 ++ [rowC]).length), some (.p (.int top)), some (.p (.int bot))] μ5 (.ref μ5.length) μ6 :=
      is_H (is_N (is_cons (is_H (is_N (is_cons (is_E (is_2 (is_V rfl) is_C rfl)) (is_cons is_C is_nil)) rfl)) (is_cons (is_V rfl) is_nil)) rfl)
    exact asg_n (is_E (is_2 (is_V rfl) tl (add_lists (lst_mkL e6) (lst_mkL f6) (by show 9 ≤ 16777216; decide))))
  have e7 : μ7.get? μ6.length = some (mkL (ds2 ++ ds3)) := push_new _ _
  have k7 : Keep μ3 μ7 := k5.trans ((Keep.push _ _).trans (Keep.push _ _))
  have p7 : PotAt μ7 0 m (N + 3) := by
    obtain ⟨a, c, h1, h2, h3⟩ := b3
    exact ⟨a, c, k7 _ _ h1, h2, by omega⟩
  -- an odd value
  obtain ⟨od, μ8, o1, o2, o3, o4⟩ := odd_ok hm (by omega) p7
  let ds4 : List D := [od, .p (fr top bot), .p (fr top bot)]
  let μ9 : Store := μ8 ++ [mkL ds4]
  have n6 : μ6.length ≠ 0 := by
    have := Store.lt_of e6
    omega
  have e9 : μ9.get? μ6.length = some (mkL (ds2 ++ ds3)) := Keep.push _ _ _ _ (o3 _ _ n6 e7)
  have f9 : μ9.get? μ8.length = some (mkL ds4) := push_new _ _
  let all : List D := (ds2 ++ ds3) ++ ds4
  let μ10 : Store := μ9 ++ [mkL all]
  have hdl : mkL all = .dl all := by
    have q : pures all = none := pures_ref (k := μ3.length) (List.mem_append_left _ (List.mem_append_left _ (by
      show D.ref μ3.length ∈ ds2
      simp [ds2])))
    show (match pures all with
      | some ps => Cell.fl ps
      | none => .dl all) = _
    rw [q]
  have e10 : μ10.get? μ9.length = some (.dl all) := by
    rw [← hdl]
    exact push_new _ _
  have p10 : PotAt μ10 0 m (N + 4) := by
    obtain ⟨a, c, h1, h2, h3⟩ := o2
    exact ⟨a, c, Keep.push _ _ _ _ (Keep.push _ _ _ _ h1), h2, by omega⟩
  obtain ⟨d, μ11, d1, d2, d3, d4⟩ := of_dl2 p10 hm (by omega) e10 (by show 0 < 12; decide) (by show 12 ≤ 2 ^ 60; decide)
  refine ⟨d, μ11, ?_, d2.mono (by omega), ?_⟩
  · refine (seq_n w0).trans ((seq_n w1).trans ((seq_n w2).trans ((seq_n w3).trans (seq_r ?_))))
    unfold xW4
    have ol : Is (fzH (eN opLst (aCons (fzH (eCallP c__law_odd.run 1 (aCons (eV 0) aNil))) (aCons (fzH (eN opTup (aCons (eV 3) (aCons (eV 4) aNil)))) (aCons (fzH (eN opTup (aCons (eV 3) (aCons (eV 4) aNil)))) aNil))))) [some (.ref 0), some (.p (.int gi)), some (.ref μ6.length), some (.p (.int top)), some (.p (.int bot))] μ7 (.ref μ8.length) μ9 :=
      is_H (is_N (is_cons (is_HR (is_P (is_cons (is_V rfl) is_nil) rfl o1)) (is_cons (is_H (is_N (is_cons (is_V rfl) (is_cons (is_V rfl) is_nil)) rfl)) (is_cons (is_H (is_N (is_cons (is_V rfl) (is_cons (is_V rfl) is_nil)) rfl)) is_nil))) rfl)
    exact ret_r (is_HR (is_P (is_cons (is_V rfl) (is_cons (is_E (is_2 (is_V rfl) ol (add_lists (lst_mkL e9) (lst_mkL f9) (by show 12 ≤ 16777216; decide)))) is_nil)) rfl (by rw [run_of]; exact d4)))
  · have kA : KeepBut 0 μ3 μ10 := k7.but.trans (o3.trans ((KeepBut.push _ _).trans (KeepBut.push _ _)))
    have kO : KeepBut 0 μ8 μ10 := (KeepBut.push _ _).trans (KeepBut.push _ _)
    have hr : μ7.get? μ3.length = some rowC := ((Keep.push _ _).trans ((Keep.push _ _).trans (Keep.push _ _))) _ _ (push_new _ _)
    have hr10 : μ10.get? μ3.length = some rowC := kO _ _ (by omega) (o3 _ _ (by omega) hr)
    have pv : chkV (fr top bot) = true := v_pair T1 T2 B1 B2
    refine WildV.keep ?_ d3
    have P_ : ∀ x, chkV x = true → d = .p x → WildV μ10 0 d := fun x hx hd => .inl ⟨x, hd, hx⟩
    rcases List.mem_append.mp d1 with q | q
    · rcases List.mem_append.mp q with q | q
      · rcases List.mem_cons.mp q with z | q
        · exact P_ _ pv z
        rcases List.mem_cons.mp q with z | q
        · exact P_ _ hg.1 z
        rcases List.mem_cons.mp q with z | q
        · exact P_ _ hg.2.1 z
        rcases List.mem_cons.mp q with z | q
        · exact P_ _ hg.2.2 z
        rcases List.mem_cons.mp q with z | q
        · exact P_ _ (v_trip T1 T2 B1 B2) z
        rcases List.mem_cons.mp q with z | q
        · exact .inr ⟨_, rowC, z, by omega, v_row top T1 T2, rfl, hr10⟩
        rcases List.mem_cons.mp q with z | q
        · exact P_ _ (v_true top T1 T2) z
        cases q
      · rcases List.mem_cons.mp q with z | q
        · refine P_ _ ?_ z
          rw [Int.add_zero]
          exact v_one top T1 T2
        rcases List.mem_cons.mp q with z | q
        · exact P_ _ (v_int top T1 T2) z
        cases q
    · rcases List.mem_cons.mp q with z | q
      · subst z
        exact (o4.keep kO).wild
      rcases List.mem_cons.mp q with z | q
      · exact P_ _ pv z
      rcases List.mem_cons.mp q with z | q
      · exact P_ _ pv z
      cases q
theorem wild_ok {μ : Store} {n : Nat} {m : Int} {N : Nat} (hm : m.natAbs ≤ 2 ^ 61) (hN : N + 300 < 2 ^ 60) (h : PotAt μ n m N) : ∃ (d : D) (μ' : Store), c__law_wild.run [.ref n] μ = .ok d μ' ∧ PotAt μ' n m (N + 5) ∧ KeepBut n μ μ' ∧ WildV μ' n d := by
  obtain ⟨a, c, h1, h2, h3⟩ := h
  obtain ⟨d, μ1, q1, q2, q3⟩ := wild_body (μ := st1 (pot a m c)) hm (by omega) ⟨a, c, rfl, h2, h3⟩
  have run : runB 5 s__law_wild [.ref 0] (st1 (pot a m c)) = .ok d μ1 := by
    refine runB_r ?_
    rw [wild_eq]
    exact q1
  have ek : c__law_wild.run = fzF (isoF (runB 5 s__law_wild)) := rfl
  rw [ek]
  obtain ⟨e, μ', r1, r2, r3, r4⟩ := iso_pot (f := runB 5 s__law_wild) h1 run q2 (by
    rcases q3 with ⟨x, rfl, _⟩ | ⟨L, cl, rfl, g1, g2, g3, g4⟩
    · exact .inl ⟨x, rfl⟩
    · exact .inr ⟨L, cl, rfl, by omega, g4, g3⟩)
  refine ⟨e, μ', r1, r2, r3, ?_⟩
  rcases r4 with ⟨x, rfl, rfl⟩ | ⟨k, cl, rfl, g1, L, rfl, g2, g3⟩
  · rcases q3 with ⟨y, hy, hy2⟩ | ⟨L, cl, hy, _⟩
    · cases hy
      exact .inl ⟨x, rfl, hy2⟩
    · cases hy
  · rcases q3 with ⟨y, hy, hy2⟩ | ⟨L2, cl2, hy, f1, f2, f3, f4⟩
    · cases hy
    · cases hy
      rw [g1] at f4
      cases f4
      exact .inr ⟨L, cl, rfl, g2, f2, f3, g3⟩
/-- what is asked of a value -/
theorem value_ok {μ : Store} {n : Nat} {m : Int} {N : Nat} {d : D} (h : PotAt μ n m N) (hv : WildV μ n d) : ∃ μ', c__law_is_value_right.run [d] μ = .ok (.p (.bl true)) μ' ∧ PotAt μ' n m N ∧ (∀ k c, μ.get? k = some c → (∀ L, d ≠ .ref L ∨ k ≠ L) → μ'.get? k = some c) := by
  have ek : c__law_is_value_right.run = fzF (isoF (runB 4 s__law_is_value_right)) := rfl
  rcases hv with ⟨x, rfl, hx⟩ | ⟨L, cl, rfl, h1, h2, h3, h4⟩
  · unfold chkV isT at hx
    split at hx
    · rename_i y μ1 q
      have := pq_eq hx
      subst this
      refine ⟨μ, ?_, h, fun k c e _ => e⟩
      rw [ek] at q ⊢
      exact alone_iso _ [x] (.bl true) μ1 μ q
    · cases hx
  · unfold chkC at h2
    obtain ⟨o1, o2⟩ := Bool.and_eq_true_iff.mp h2
    unfold isRC at o2
    split at o2
    · rename_i μ1 q
      split at o2
      · rename_i c' hc'
        have hl := Store.lt_of h4
        refine ⟨μ.set L c', ?_, ?_, fun k c e hk => ?_⟩
        · rw [ek]
          exact fz_run (iso1 (xs := []) h4 o1 o2 q hc')
        · obtain ⟨a, c, p1, p2, p3⟩ := h
          exact ⟨a, c, by rw [get_set hl, if_neg (Ne.symm h1)]; exact p1, p2, p3⟩
        · rcases hk L with z | z
          · exact absurd rfl z
          · rw [get_set hl, if_neg z]
            exact e
      · cases o2
    · cases o2
end Lw
set_option maxRecDepth 100000
set_option maxHeartbeats 4000000
namespace Lw
open PySem PySem.Spec PyProof.Rows L2 Sh
abbrev subsS : List Str := [("StepError" : Str), ("BadFraction" : Str), ("BadRow" : Str), ("BadInt" : Str)]
def xB0 : Sv := (sIf (bOr (bNot (eTru (fzH (eCallP c__law_is_value_right.run 1 (aCons (fzH (eCallP c__law_wild.run 1 (aCons (eV 0) aNil))) aNil))))) (bNot (eTru (fzH (eCallP c__law_are_rows_right.run 1 (aCons (eV 0) aNil)))))) (sSeq (sRet (eC (.bl false))) sSkip) sSkip)
def xB1 : Sv := (sAsg (fzH (eN opTup (aCons (fzE (e2 opSub (fzE (eN opInt (aCons (fzH (eCallP c__law_take.run 2 (aCons (eV 0) (aCons (eC (.int (2001))) aNil)))) aNil))) (eC (.int (1000))))) (aCons (fzE (e2 opSub (fzE (eN opInt (aCons (fzH (eCallP c__law_take.run 2 (aCons (eV 0) (aCons (eC (.int (201))) aNil)))) aNil))) (eC (.int (100))))) aNil)))) (gTp 2 (gCn (gNm 5) (gCn (gNm 6) gNo))))
def xB2 : Sv := (sAsg (fzE (eHeard [("StepError" : Str), ("BadFraction" : Str), ("BadRow" : Str), ("BadInt" : Str)] (fzH (eCallK c_fraction_of.run 1 1 [0, 1] (aCons (eV 5) aNil) (aCons (eV 6) aNil))))) (gTp 2 (gCn (gNm 3) (gCn (gNm 7) gNo))))
def xB3 : Sv := (sIf (bAnd (eTest (e2 opEqA (eV 6) (eC (.int (0))))) (bOr (bNot (eTru (fzE (eIsX (eV 3) [("BadInt" : Str)] [("StepError" : Str), ("BadFraction" : Str), ("BadRow" : Str)])))) (eTest (e2 opNeA (fzH (eVal [("StepError" : Str), ("BadFraction" : Str), ("BadRow" : Str), ("BadInt" : Str)] (eV 3))) (eC (.int (0))))))) (sSeq (sRet (eC (.bl false))) sSkip) sSkip)
def xB4 : Sv := (sIf (bAnd (eTest (e2 opNeA (eV 6) (eC (.int (0))))) (eTest (e2 opNeA (fzE (eN opRepr (aCons (eV 7) aNil))) (fzE (eN opRepr (aCons (fzH (eCallP c__law_frac.run 2 (aCons (eV 5) (aCons (eV 6) aNil)))) aNil)))))) (sSeq (sRet (eC (.bl false))) sSkip) sSkip)
def xBody : Sv := sSeq xB0 (sSeq xB1 (sSeq xB2 (sSeq xB3 (sSeq xB4 sSkip))))
def xFor : Sv := sFor (itR range1 (aCons (eC (.int (40))) aNil)) (fzG (gNm 1)) xBody
def xS1 : Sv := (sAsg (fzE (e2 opPow (eC (.int (10))) (eC (.int (12))))) (gNm 2))
def xS2 : Sv := (sIf (bOr (eTest (e2 opNeA (fzH (eCallP c_fraction_of.run 2 (aCons (eV 2) (aCons (fzE (e1 opNeg (eV 2))) aNil)))) (fzH (eN opTup (aCons (fzE (e1 opNeg (eC (.int (1))))) (aCons (eC (.int (1))) aNil)))))) (bOr (eTest (e2 opIsNot (fzH (eCallP c_is_fraction.run 1 (aCons (fzH (eN opTup (aCons (eV 2) (aCons (fzE (e2 opSub (eV 2) (eC (.int (1))))) aNil)))) aNil))) (eC (.bl true)))) (eTest (e2 opNeA (fzH (eCallP c_sum_of.run 1 (aCons (fzH (eN opTup aNil)) aNil))) (fzH (eN opTup (aCons (eC (.int (0))) (aCons (eC (.int (1))) aNil)))))))) (sSeq (sRet (eC (.bl false))) sSkip) sSkip)
def xS3 : Sv := (sIf (bOr (eTest (e2 opNeA (fzH (eCallK c_product_of.run 0 1 [0] aNil (aCons (fzH (eN opTup aNil)) aNil))) (fzH (eN opTup (aCons (eC (.int (1))) (aCons (eC (.int (1))) aNil)))))) (eTest (e2 opNeA (fzH (eCallP c_sum_of.run 1 (aCons (fzE (e2 opMulA (fzH (eN opTup (aCons (fzH (eN opTup (aCons (eC (.int (1))) (aCons (eC (.int (2))) aNil)))) aNil))) (eC (.int (60))))) aNil))) (fzH (eN opTup (aCons (eC (.int (30))) (aCons (eC (.int (1))) aNil))))))) (sSeq (sRet (eC (.bl false))) sSkip) sSkip)
def xE1 : Ev D := (fzH (e2 opIx (fzE (eHeard [("StepError" : Str), ("BadFraction" : Str), ("BadRow" : Str), ("BadInt" : Str)] (fzH (eCallP c_sum_of.run 1 (aCons (fzE (e2 opMulA (fzH (eN opTup (aCons (fzH (eN opTup (aCons (eC (.int (1))) (aCons (eC (.int (2))) aNil)))) aNil))) (eC (.int (61))))) aNil))))) (eC (.int (0)))))
def xE2 : Ev D := (fzH (e2 opIx (fzE (eHeard [("StepError" : Str), ("BadFraction" : Str), ("BadRow" : Str), ("BadInt" : Str)] (fzH (eCallP c_product_of.run 1 (aCons (fzH (eN opLst (aCons (fzH (eN opTup (aCons (eC (.int (1))) (aCons (eC (.int (2))) aNil)))) aNil))) aNil))))) (eC (.int (0)))))
def xE3 : Ev D := (fzH (e2 opIx (fzE (eHeard [("StepError" : Str), ("BadFraction" : Str), ("BadRow" : Str), ("BadInt" : Str)] (fzH (eCallP c_fraction_of.run 2 (aCons (eV 4) (aCons (eC .non) aNil)))))) (eC (.int (0)))))
def xE4 : Ev D := (fzH (e2 opIx (fzE (eHeard [("StepError" : Str), ("BadFraction" : Str), ("BadRow" : Str), ("BadInt" : Str)] (fzH (eCallP c_fraction_of.run 2 (aCons (eC (.int (1))) (aCons (eV 4) aNil)))))) (eC (.int (0)))))
def xS6 : Sv := (sIf (bNot (eTru (fzE (eN opAll (aCons (fzE (eLc (itAny (eV 3)) (.nm 8) bYes (fzE (eIsX (eV 8) [("BadRow" : Str)] [("StepError" : Str), ("BadFraction" : Str), ("BadInt" : Str)])) [8])) aNil))))) (sSeq (sRet (eC (.bl false))) sSkip) sSkip)
def xS7 : Sv := (sAsg (fzH (eCallP c__law_of.run 2 (aCons (eV 0) (aCons (fzH (eN opLst (aCons (eC .non) (aCons (fzE (e2 opAdd (eV 2) (eC (.int (1))))) (aCons (eC (.bl true)) (aCons (eC (.str [49])) (aCons (fzE (e2 opSub (fzE (e1 opNeg (eV 2))) (eC (.int (1))))) aNil))))))) aNil)))) (gNm 4))
def xS10 : Sv := (sRet (fzE (eN opAll (aCons (fzE (eLc (itAny (eV 3)) (.nm 8) bYes (fzH (eAnd (fzE (eIsX (eV 8) [("BadInt" : Str)] [("StepError" : Str), ("BadFraction" : Str), ("BadRow" : Str)])) (fzH (e2 opEqA (fzE (eN opRepr (aCons (fzH (eVal [("StepError" : Str), ("BadFraction" : Str), ("BadRow" : Str), ("BadInt" : Str)] (eV 8))) aNil))) (fzE (eN opRepr (aCons (eV 4) aNil))))))) [8])) aNil))))
theorem right_eq : s__law_right = sSeq xFor (sSeq xS1 (sSeq xS2 (sSeq xS3 (sSeq (sAsg (fzH (eN opLst (aCons xE1 aNil))) (gNm 3)) (sSeq (sDrop (fzE (eM .lst opAppend (eV 3) (aCons xE2 aNil)))) (sSeq xS6 (sSeq xS7 (sSeq (sAsg (fzH (eN opLst (aCons xE3 aNil))) (gNm 3)) (sSeq (sDrop (fzE (eM .lst opAppend (eV 3) (aCons xE4 aNil)))) (sSeq xS10 sSkip)))))))))) := x__law_right_eq
theorem heard_ok {subs : List Str} {ev : Ev D} {ρ : Sh.Env} {μ μ1 : Store} {d : D} (h : ev ρ μ = .ok d μ1) : eHeard subs ev ρ μ = pr2 (.p .non) d μ1 := by
  unfold eHeard
  rw [h]
theorem heard_exc {subs : List Str} {ev : Ev D} {ρ : Sh.Env} {μ μ1 : Store} {d : D} {c : Str} (h : ev ρ μ = .exc c d μ1) (hc : hasS c subs = true) : eHeard subs ev ρ μ = pr2 (.exc c d) (.p .non) μ1 := by
  unfold eHeard
  rw [h]
  dsimp only
  rw [hc]
/-! ### one turn -/
theorem b0_ok {x1 x3 x5 x6 x7 : Option D} {μ : Store} {m : Int} {N : Nat} (hm : m.natAbs ≤ 2 ^ 61) (hN : N + 1000 < 2 ^ 60) (h : PotAt μ 0 m N) : ∃ μ', PotAt μ' 0 m (N + 24) ∧ xB0 [some (.ref 0), x1, none, x3, none, x5, x6, x7, none] μ = .next [some (.ref 0), x1, none, x3, none, x5, x6, x7, none] μ' := by
  obtain ⟨d, μ1, w1, w2, w3, w4⟩ := wild_ok hm (by omega) h
  obtain ⟨μ2, v1, v2, v3⟩ := value_ok w2 w4
  obtain ⟨a, c, r1, r2, r3⟩ := rows_ok hm (by omega) v2
  have hl : 0 < μ2.length := by
    obtain ⟨a, c, h1, _, _⟩ := v2
    exact Store.lt_of h1
  refine ⟨μ2.set 0 (pot a m c), ⟨a, c, by rw [get_set hl, if_pos rfl], r1, by omega⟩, ?_⟩
  unfold xB0
  exact (if_f (is_OrF (is_Not (q := true) (is_Tru (is_HR (is_P (is_cons (is_HR (is_P (is_cons (is_V rfl) is_nil) rfl w1)) is_nil) rfl v1)) rfl)) (is_Not (q := true) (is_Tru (is_HR (is_P (is_cons (is_V rfl) is_nil) rfl r3)) rfl)))).trans rfl
theorem b1_ok {x1 x3 x5 x6 x7 : Option D} {μ : Store} {m : Int} {N : Nat} (hm : m.natAbs ≤ 2 ^ 61) (hN : N + 1000 < 2 ^ 60) (h : PotAt μ 0 m N) : ∃ (t b : Int) (μ' : Store), t.natAbs ≤ 1000 ∧ b.natAbs ≤ 1000 ∧ PotAt μ' 0 m (N + 2) ∧ xB1 [some (.ref 0), x1, none, x3, none, x5, x6, x7, none] μ = .next [some (.ref 0), x1, none, x3, none, some (.p (.int t)), some (.p (.int b)), x7, none] μ' := by
  obtain ⟨t0, μ2, t1, t2, t3, t4, t5⟩ := take_p h hm (k := 2001) (by omega) (by decide) (by decide)
  obtain ⟨b0, μ3, b1, b2, b3, b4, b5⟩ := take_p t3 hm (k := 201) (by omega) (by decide) (by decide)
  rw [← run_take] at t5 b5
  refine ⟨t0 - 1000, b0 - 100, μ3, by omega, by omega, b3, ?_⟩
  unfold xB1
  exact (asg_g (is_H (is_N (is_cons (is_E (is_2 (is_E (is_N (is_cons (is_HR (is_P (is_cons (is_V rfl) (is_cons is_C is_nil)) rfl t5)) is_nil) rfl)) is_C rfl)) (is_cons (is_E (is_2 (is_E (is_N (is_cons (is_HR (is_P (is_cons (is_V rfl) (is_cons is_C is_nil)) rfl b5)) is_nil) rfl)) is_C rfl)) is_nil)) rfl))).trans rfl
theorem b234_ok {x1 x3 x7 : Option D} {μ : Store} {t b : Int} (ht : t.natAbs ≤ 1000) (hb : b.natAbs ≤ 1000) : ∃ y3 y7, (sSeq xB2 (sSeq xB3 (sSeq xB4 sSkip))) [some (.ref 0), x1, none, x3, none, some (.p (.int t)), some (.p (.int b)), x7, none] μ = .next [some (.ref 0), x1, none, y3, none, some (.p (.int t)), some (.p (.int b)), y7, none] μ := by
  by_cases h0 : b = 0
  · subst h0
    refine ⟨some (.exc "BadInt" (.p (.int 0))), some (.p .non), ?_⟩
    have e2 : xB2 [some (.ref 0), x1, none, x3, none, some (.p (.int t)), some (.p (.int 0)), x7, none] μ = .next [some (.ref 0), x1, none, some (.exc "BadInt" (.p (.int 0))), none, some (.p (.int t)), some (.p (.int 0)), some (.p .non), none] μ := by
      unfold xB2
      exact (asg_g (is_E ((heard_exc (is_HR (is_K (is_cons (is_V rfl) is_nil) (is_cons (is_V rfl) is_nil) rfl rfl (frOf_no (by omega) μ))) rfl).trans (show pr2 (.exc "BadInt" (.p (.int 0))) (.p .non) μ = .ok (.mix [.exc "BadInt" (.p (.int 0)), .p .non]) μ from rfl)))).trans rfl
    have e3 : xB3 [some (.ref 0), x1, none, some (.exc "BadInt" (.p (.int 0))), none, some (.p (.int t)), some (.p (.int 0)), some (.p .non), none] μ = .next [some (.ref 0), x1, none, some (.exc "BadInt" (.p (.int 0))), none, some (.p (.int t)), some (.p (.int 0)), some (.p .non), none] μ := by kernel_rfl
    have e4 : xB4 [some (.ref 0), x1, none, some (.exc "BadInt" (.p (.int 0))), none, some (.p (.int t)), some (.p (.int 0)), some (.p .non), none] μ = .next [some (.ref 0), x1, none, some (.exc "BadInt" (.p (.int 0))), none, some (.p (.int t)), some (.p (.int 0)), some (.p .non), none] μ := by kernel_rfl
    exact (seq_n e2).trans ((seq_n e3).trans ((seq_n e4).trans rfl))
  · refine ⟨some (.p .non), some (.p (mkFr t b)), ?_⟩
    have e2 : xB2 [some (.ref 0), x1, none, x3, none, some (.p (.int t)), some (.p (.int b)), x7, none] μ = .next [some (.ref 0), x1, none, some (.p .non), none, some (.p (.int t)), some (.p (.int b)), some (.p (mkFr t b)), none] μ := by
      unfold xB2
      exact (asg_g (is_E ((heard_ok (is_HR (is_K (is_cons (is_V rfl) is_nil) (is_cons (is_V rfl) is_nil) rfl rfl (frOf_ok (by omega) (by omega) h0 μ)))).trans (show pr2 (.p .non) (.p (mkFr t b)) μ = .ok (.p (.tup [.non, mkFr t b])) μ from rfl)))).trans rfl
    have z : (b == 0) = false := beq_eq_false_iff_ne.mpr h0
    have e3 : xB3 [some (.ref 0), x1, none, some (.p .non), none, some (.p (.int t)), some (.p (.int b)), some (.p (mkFr t b)), none] μ = .next [some (.ref 0), x1, none, some (.p .non), none, some (.p (.int t)), some (.p (.int b)), some (.p (mkFr t b)), none] μ := by
      unfold xB3
      exact (if_f (is_AndF (is_Test (is_2 (is_V rfl) is_C (by rw [eqI, z]))))).trans rfl
    obtain ⟨n, d, e, l⟩ := low_of (t := t) h0
    have l1 := l.ln
    have l2 := l.ld
    have rp : opRepr [.p (mkFr t b)] μ = some (.p (.str (shwY (fr n d).py)), μ) := by
      rw [e]
      exact rp_fr (Nat.lt_of_le_of_lt (Nat.le_trans l1 ht) (by decide +kernel)) (Nat.lt_of_le_of_lt (Nat.le_trans l2 hb) (by decide +kernel)) μ
    have lf := ok__law_frac t b μ h0 (sm_le hb (by decide +kernel)) (sm_le ht (by decide +kernel))
    have e4 : xB4 [some (.ref 0), x1, none, some (.p .non), none, some (.p (.int t)), some (.p (.int b)), some (.p (mkFr t b)), none] μ = .next [some (.ref 0), x1, none, some (.p .non), none, some (.p (.int t)), some (.p (.int b)), some (.p (mkFr t b)), none] μ := by
      unfold xB4
      exact (if_f (is_AndT (is_Test (is_2 (is_V rfl) is_C (by rw [neI, z]; rfl))) (is_Test (is_2 (is_E (is_N (is_cons (is_V rfl) is_nil) rp)) (is_E (is_N (is_cons (is_HR (is_P (is_cons (is_V rfl) (is_cons (is_V rfl) is_nil)) rfl lf)) is_nil) rp)) (ne_same _))))).trans rfl
    exact (seq_n e2).trans ((seq_n e3).trans ((seq_n e4).trans rfl))
def EnvR (ρ : Sh.Env) : Prop := ∃ x1 x3 x5 x6 x7, ρ = [some (.ref 0), x1, none, x3, none, x5, x6, x7, none]
theorem for_ok {μ : Store} {m : Int} (hm : m.natAbs ≤ 2 ^ 61) (h : PotAt μ 0 m 0) : ∃ ρ μ', xFor (padE [.ref 0] 9) μ = .next ρ μ' ∧ EnvR ρ ∧ PotAt μ' 0 m 4000 := by
  obtain ⟨ρ, μ', h1, h2, h3⟩ := for_fix (it := itR range1 (aCons (eC (.int (40))) aNil)) (g := fzG (gNm 1)) (body := xBody) (ρ := padE [.ref 0] 9) (μ := μ) (μ1 := μ) (ds := rangeD 40 0)
    (I := fun i ρ μ => EnvR ρ ∧ i ≤ 40 ∧ PotAt μ 0 m (100 * i)) rfl ⟨⟨none, none, none, none, none, rfl⟩, by omega, h⟩ (by
      rintro i d ρ μ hd ⟨⟨x1, x3, x5, x6, x7, rfl⟩, hi, hp⟩
      have hi2 : i < 40 := by
        have := (List.getElem?_eq_some_iff.mp hd).1
        rw [rangeD_len] at this
        exact this
      obtain ⟨μ1, p1, e1⟩ := b0_ok (x1 := some d) (x3 := x3) (x5 := x5) (x6 := x6) (x7 := x7) hm (by omega) hp
      obtain ⟨t, b, μ2, ht, hb, p2, e2⟩ := b1_ok (x1 := some d) (x3 := x3) (x5 := x5) (x6 := x6) (x7 := x7) hm (by omega) p1
      obtain ⟨y3, y7, e3⟩ := b234_ok (x1 := some d) (x3 := x3) (x7 := x7) (μ := μ2) ht hb
      refine ⟨[some (.ref 0), some d, none, x3, none, x5, x6, x7, none], μ, _, μ2, by rw [fzG_at, gNm_eq]; rfl, ?_, ⟨some d, y3, some (.p (.int t)), some (.p (.int b)), y7, rfl⟩, by omega, p2.mono (by omega)⟩
      unfold xBody
      exact (seq_n e1).trans ((seq_n e2).trans e3))
  exact ⟨ρ, μ', h1, h2, h3.2.mono (by rw [rangeD_len]; decide)⟩
/-! ### the row that is no tuple -/
def row : Cell := .fl [fr 1 2]
theorem iso_ref {f : Fn} {μ μ1 : Store} {L k : Nat} {c0 : Cell} {n : Str} {xs : List P} (hc : μ.get? L = some c0) (h0 : ownC c0 = true) (h : f (.ref 0 :: xs.map .p) (st1 c0) = .exc n (.ref k) μ1) : isoF f (.ref L :: xs.map .p) μ = f (.ref L :: xs.map .p) μ := by
  have e : locA μ (.ref L :: xs.map .p) [] [] = some (.ref 0 :: xs.map .p, [L], [c0]) := by
    unfold locA
    dsimp only
    rw [hc]
    dsimp only
    rw [h0]
    show (match locA μ (xs.map .p) [L] [c0] with
      | some (ds, z) => some (D.ref 0 :: ds, z)
      | none => none) = _
    rw [loc_ps]
  unfold isoF
  rw [e]
  dsimp only
  rw [of_one, h]
def isRefX : Res D → Bool
  | .exc _ (.ref _) _ => true
  | _ => false
theorem isRefX_ok {r : Res D} (h : isRefX r = true) : ∃ n k μ, r = .exc n (.ref k) μ := by
  unfold isRefX at h
  split at h
  · exact ⟨_, _, _, rfl⟩
  · cases h
theorem is_row_no {μ : Store} {L : Nat} (h : μ.get? L = some row) : c_is_row.run [.ref L, .p (.int 60)] μ = .ok (.p (.bl false)) (μ.set L row) := by
  have e : runB 3 s_is_row [.ref 0, .p (.int 60)] (st1 row) = .ok (.p (.bl false)) (st1 row) := by kernel_rfl
  have ek : c_is_row.run = fzF (isoF (runB 3 s_is_row)) := rfl
  rw [ek]
  exact fz_run (iso1 (xs := [.int 60]) h rfl rfl e rfl)
theorem look_no {μ : Store} {L : Nat} (h : μ.get? L = some row) : c_look_at_row.run [.ref L] μ = .exc "BadRow" (.ref L) (μ.set L row) := by
  obtain ⟨n, k, μ1, q⟩ := isRefX_ok (r := runB 1 s_look_at_row [.ref 0] (st1 row)) (by decide +kernel)
  refine fz_run ((iso_ref (xs := []) h rfl q).trans (runB_x (ρ1 := [some (.ref L)]) ?_))
  rw [x_look_at_row_eq]
  unfold x_look_at_row
  exact seq_x ((if_t (is_Not (q := false) (is_Tru (is_HR (is_P (is_cons (is_V rfl) (is_cons is_C is_nil)) rfl (is_row_no h))) rfl))).trans (seq_x (raise_x (is_V rfl))))
theorem prod_no {μ : Store} {L : Nat} (h : μ.get? L = some row) : c_product_of.run [.ref L] μ = .exc "BadRow" (.ref L) (μ.set L row) := by
  obtain ⟨n, k, μ1, q⟩ := isRefX_ok (r := runB 1 s_product_of [.ref 0] (st1 row)) (by decide +kernel)
  refine fz_run ((iso_ref (xs := []) h rfl q).trans (runB_x (ρ1 := [some (.ref L)]) ?_))
  rw [x_product_of_eq]
  unfold x_product_of
  exact seq_x (drop_x (is_HR (is_P (is_cons (is_V rfl) is_nil) rfl (look_no h))))
/-! ### the end -/
def big : D := .p (.int 1000000000000)
theorem s123_ok {ρ : Sh.Env} (h : EnvR ρ) (μ : Store) : ∃ x1 x3 x5 x6 x7, ρ = [some (.ref 0), x1, none, x3, none, x5, x6, x7, none] ∧ xS1 ρ μ = .next [some (.ref 0), x1, some big, x3, none, x5, x6, x7, none] μ ∧ xS2 [some (.ref 0), x1, some big, x3, none, x5, x6, x7, none] μ = .next [some (.ref 0), x1, some big, x3, none, x5, x6, x7, none] μ ∧ xS3 [some (.ref 0), x1, some big, x3, none, x5, x6, x7, none] μ = .next [some (.ref 0), x1, some big, x3, none, x5, x6, x7, none] μ := by
  obtain ⟨x1, x3, x5, x6, x7, rfl⟩ := h
  exact ⟨x1, x3, x5, x6, x7, rfl, by kernel_rfl, by kernel_rfl, by kernel_rfl⟩
theorem append_dl {μ : Store} {C : Nat} {ds : List D} {v : D} (h : μ.get? C = some (.dl ds)) (hl : ds.length < szMax) : opAppend (.ref C) [v] μ = some (.p .non, μ.set C (.dl (ds ++ [v]))) := by
  unfold opAppend
  dsimp only
  rw [h]
  show (if ds.length < szMax then _ else _) = _
  rw [if_pos hl]
theorem isMT_dl {μ : Store} {C : Nat} {ds : List D} (h : μ.get? C = some (.dl ds)) : isMT .lst (.ref C) μ = true := by
  unfold isMT
  dsimp only
  rw [h]
def ps5 : List P := [.non, .int 1000000000001, .bl true, .str [49], .int (-1000000000001)]
def isEx (x : P) : Res D → Bool
  | .exc c (.p y) _ => sq c "BadInt" && pq y x
  | _ => false
theorem isEx_ok {x : P} {ps : List P} {f : Fn} (h : isEx x (f (ps.map .p) Store.emp) = true) (μ : Store) : fzF (isoF f) (ps.map .p) μ = .exc "BadInt" (.p x) μ := by
  unfold isEx at h
  split at h
  · rename_i c y μ1 q
    simp only [Bool.and_eq_true] at h
    obtain ⟨h1, h2⟩ := h
    have e1 := sq_eq h1
    have e2 := pq_eq h2
    subst e1
    subst e2
    exact fz_run (iso_exc1 q)
  · cases h
theorem five_ok : (ps5.all fun x => isEx x (runB 3 s_fraction_of ([x, .non].map .p) Store.emp) && (isEx x (runB 3 s_fraction_of ([.int 1, x].map .p) Store.emp) && okRp x.py)) = true := by decide +kernel
theorem five_at {x : P} (h : x ∈ ps5) : (∀ μ, c_fraction_of.run [.p x, .p .non] μ = .exc "BadInt" (.p x) μ) ∧ (∀ μ, c_fraction_of.run [.p (.int 1), .p x] μ = .exc "BadInt" (.p x) μ) ∧ okRp x.py = true := by
  have q := List.all_eq_true.mp five_ok x h
  simp only [Bool.and_eq_true] at q
  exact ⟨fun μ => isEx_ok q.1 μ, fun μ => isEx_ok q.2.1 μ, q.2.2⟩
theorem right_ok : RightOk c__law_right.run := by
  intro μ0 L a m hμ0 ha hm
  obtain ⟨ρ, μ, f1, f2, f3⟩ := for_ok (μ := st1 (pot a m 0)) hm ⟨a, 0, rfl, ha, by decide⟩
  obtain ⟨x1, x3, x5, x6, x7, rfl, s1, s2, s3⟩ := s123_ok f2 μ
  have l0 : 0 < μ.length := by
    obtain ⟨a, c, h1, _, _⟩ := f3
    exact Store.lt_of h1
  let er1 : D := .exc "BadRow" (.p (.tup (repL 61 [fr 1 2])))
  have w1 : Is xE1 [some (.ref 0), x1, some big, x3, none, x5, x6, x7, none] μ er1 μ := by kernel_rfl
  have m1 : opLst [er1] μ = some (.ref μ.length, μ ++ [Cell.dl [er1]]) := rfl
  let μ1 : Store := μ ++ [Cell.dl [er1]]
  have c1 : μ1.get? μ.length = some (.dl [er1]) := push_new _ _
  have n1 : μ1.length = μ.length + 1 := Store.push_len _ _
  let μ2 : Store := μ1 ++ [row]
  have r2 : μ2.get? μ1.length = some row := push_new _ _
  let μ3 : Store := μ2.set μ1.length row
  have k3 : Keep μ1 μ3 := (Keep.push _ _).trans (setSame r2)
  let er2 : D := .exc "BadRow" (.ref μ1.length)
  have w2 : Is xE2 [some (.ref 0), x1, some big, some (.ref μ.length), none, x5, x6, x7, none] μ1 er2 μ3 := by
    unfold xE2
    refine is_H (is_2 (is_E ((heard_exc (is_HR (is_P (is_cons (is_H (is_N (is_cons (is_H (is_N (is_cons is_C (is_cons is_C is_nil)) rfl)) is_nil) (show opLst [.p (fr 1 2)] μ1 = some (.ref μ1.length, μ2) from rfl))) is_nil) rfl (prod_no r2))) rfl).trans (show pr2 er2 (.p .non) μ3 = .ok (.mix [er2, .p .non]) μ3 from rfl))) is_C rfl)
  have c3 : μ3.get? μ.length = some (.dl [er1]) := k3 _ _ c1
  let μ4 : Store := μ3.set μ.length (.dl [er1, er2])
  have c4 : μ4.get? μ.length = some (.dl [er1, er2]) := by
    show (μ3.set μ.length _).get? _ = _
    rw [get_set (Store.lt_of c3), if_pos rfl]
  have p4 : PotAt μ4 0 m 4000 := by
    obtain ⟨a, c, h1, h2, h3⟩ := f3
    refine ⟨a, c, ?_, h2, h3⟩
    show (μ3.set μ.length _).get? _ = _
    rw [get_set (Store.lt_of c3), if_neg (by omega)]
    exact k3 _ _ (Keep.push _ _ _ _ h1)
  have t4 : sAsg (fzH (eN opLst (aCons xE1 aNil))) (gNm 3) [some (.ref 0), x1, some big, x3, none, x5, x6, x7, none] μ = .next [some (.ref 0), x1, some big, some (.ref μ.length), none, x5, x6, x7, none] μ1 := asg_n (is_H (is_N (is_cons w1 is_nil) m1))
  have t5 : sDrop (fzE (eM .lst opAppend (eV 3) (aCons xE2 aNil))) [some (.ref 0), x1, some big, some (.ref μ.length), none, x5, x6, x7, none] μ1 = .next [some (.ref 0), x1, some big, some (.ref μ.length), none, x5, x6, x7, none] μ4 :=
    drop_n (is_E (is_M (is_V rfl) (isMT_dl c1) (is_cons w2 is_nil) (append_dl c3 (by show 1 < 16777216; decide))))
  -- all of them rows
  have it6 : itAny (eV 3) [some (.ref 0), x1, some big, some (.ref μ.length), none, x5, x6, x7, none] μ4 = .ok (.lst μ.length 0, none) μ4 := by
    show srcO (itOf (.ref μ.length) μ4) _ = _
    unfold itOf
    dsimp only
    rw [c4]
    rfl
  obtain ⟨μ5, ⟨p5, c5⟩, h5⟩ := lc_all (v := 8) (el := (fzE (eIsX (eV 8) [("BadRow" : Str)] [("StepError" : Str), ("BadFraction" : Str), ("BadInt" : Str)]))) (I := fun μ' => PotAt μ' 0 m 4000 ∧ μ'.get? μ.length = some (.dl [er1, er2])) (ds := [er1, er2]) it6 (fun μ' h => by
    unfold rdL
    rw [h.2]) ⟨p4, c4⟩ (by show 2 ≤ 16777216; decide) (by
    intro j x hx μ' hI
    refine ⟨μ', ?_, hI⟩
    match j, hx with
    | 0, h => cases h; rfl
    | 1, h => cases h; rfl)
  let μ6 : Store := μ5 ++ [mkL (List.replicate 2 (D.p (.bl true)) ++ []).reverse]
  have t6 : xS6 [some (.ref 0), x1, some big, some (.ref μ.length), none, x5, x6, x7, none] μ4 = .next [some (.ref 0), x1, some big, some (.ref μ.length), none, x5, x6, x7, none] μ6 := by
    unfold xS6
    exact (if_f (is_Not (q := true) (is_Tru (is_E (is_N (is_cons (is_E h5) is_nil) (all_true 2 _))) rfl))).trans rfl
  have p6 : PotAt μ6 0 m 4000 := by
    obtain ⟨a, c, h1, h2, h3⟩ := p5
    exact ⟨a, c, Keep.push _ _ _ _ h1, h2, h3⟩
  -- an odd value
  let μ7 : Store := μ6 ++ [Cell.fl ps5]
  have p7 : PotAt μ7 0 m 4000 := by
    obtain ⟨a, c, h1, h2, h3⟩ := p6
    exact ⟨a, c, Keep.push _ _ _ _ h1, h2, h3⟩
  have l6 : 0 < μ6.length := by
    obtain ⟨a, c, h1, _, _⟩ := p6
    exact Store.lt_of h1
  obtain ⟨x, μ8, o1, o2, o3, o4⟩ := of_fl p7 hm (by decide) (push_new _ _) (by decide) (by decide) (by omega)
  obtain ⟨v1, v2, v3⟩ := five_at o1
  have g7 : Is (fzH (eN opLst (aCons (eC .non) (aCons (fzE (e2 opAdd (eV 2) (eC (.int (1))))) (aCons (eC (.bl true)) (aCons (eC (.str [49])) (aCons (fzE (e2 opSub (fzE (e1 opNeg (eV 2))) (eC (.int (1))))) aNil))))))) [some (.ref 0), x1, some big, some (.ref μ.length), none, x5, x6, x7, none] μ6 (.ref μ6.length) μ7 := by kernel_rfl
  have t7 : xS7 [some (.ref 0), x1, some big, some (.ref μ.length), none, x5, x6, x7, none] μ6 = .next [some (.ref 0), x1, some big, some (.ref μ.length), some (.p x), x5, x6, x7, none] μ8 := by
    unfold xS7
    exact asg_n (is_HR (is_P (is_cons (is_V rfl) (is_cons g7 is_nil)) rfl (by rw [run_of]; exact o4)))
  let er : D := .exc "BadInt" (.p x)
  have w3 : ∀ (y3 : Option D) (μ : Store), Is xE3 [some (.ref 0), x1, some big, y3, some (.p x), x5, x6, x7, none] μ er μ := fun y3 μ => by
    unfold xE3
    exact is_H (is_2 (is_E ((heard_exc (is_HR (is_P (is_cons (is_V rfl) (is_cons is_C is_nil)) rfl (v1 μ))) rfl).trans (show pr2 er (.p .non) μ = .ok (.mix [er, .p .non]) μ from rfl))) is_C rfl)
  have w4 : ∀ (y3 : Option D) (μ : Store), Is xE4 [some (.ref 0), x1, some big, y3, some (.p x), x5, x6, x7, none] μ er μ := fun y3 μ => by
    unfold xE4
    exact is_H (is_2 (is_E ((heard_exc (is_HR (is_P (is_cons is_C (is_cons (is_V rfl) is_nil)) rfl (v2 μ))) rfl).trans (show pr2 er (.p .non) μ = .ok (.mix [er, .p .non]) μ from rfl))) is_C rfl)
  let μ9 : Store := μ8 ++ [Cell.dl [er]]
  have c9 : μ9.get? μ8.length = some (.dl [er]) := push_new _ _
  let μA : Store := μ9.set μ8.length (.dl [er, er])
  have cA : μA.get? μ8.length = some (.dl [er, er]) := by
    show (μ9.set μ8.length _).get? _ = _
    rw [get_set (Store.lt_of c9), if_pos rfl]
  have l8 : 0 < μ8.length := by
    obtain ⟨a, c, h1, _, _⟩ := o2
    exact Store.lt_of h1
  have pA : PotAt μA 0 m 4001 := by
    obtain ⟨a, c, h1, h2, h3⟩ := o2
    refine ⟨a, c, ?_, h2, h3⟩
    show (μ9.set μ8.length _).get? _ = _
    rw [get_set (Store.lt_of c9), if_neg (by omega)]
    exact Keep.push _ _ _ _ h1
  have t8 : sAsg (fzH (eN opLst (aCons xE3 aNil))) (gNm 3) [some (.ref 0), x1, some big, some (.ref μ.length), some (.p x), x5, x6, x7, none] μ8 = .next [some (.ref 0), x1, some big, some (.ref μ8.length), some (.p x), x5, x6, x7, none] μ9 := asg_n (is_H (is_N (is_cons (w3 _ _) is_nil) rfl))
  have t9 : sDrop (fzE (eM .lst opAppend (eV 3) (aCons xE4 aNil))) [some (.ref 0), x1, some big, some (.ref μ8.length), some (.p x), x5, x6, x7, none] μ9 = .next [some (.ref 0), x1, some big, some (.ref μ8.length), some (.p x), x5, x6, x7, none] μA :=
    drop_n (is_E (is_M (is_V rfl) (isMT_dl c9) (is_cons (w4 _ _) is_nil) (append_dl c9 (by show 1 < 16777216; decide))))
  have itA : itAny (eV 3) [some (.ref 0), x1, some big, some (.ref μ8.length), some (.p x), x5, x6, x7, none] μA = .ok (.lst μ8.length 0, none) μA := by
    show srcO (itOf (.ref μ8.length) μA) _ = _
    unfold itOf
    dsimp only
    rw [cA]
    rfl
  obtain ⟨μB, ⟨pB, cB⟩, hB⟩ := lc_all (v := 8) (el := (fzH (eAnd (fzE (eIsX (eV 8) [("BadInt" : Str)] [("StepError" : Str), ("BadFraction" : Str), ("BadRow" : Str)])) (fzH (e2 opEqA (fzE (eN opRepr (aCons (fzH (eVal [("StepError" : Str), ("BadFraction" : Str), ("BadRow" : Str), ("BadInt" : Str)] (eV 8))) aNil))) (fzE (eN opRepr (aCons (eV 4) aNil)))))))) (I := fun μ' => PotAt μ' 0 m 4001 ∧ μ'.get? μ8.length = some (.dl [er, er])) (ds := [er, er]) itA (fun μ' h => by
    unfold rdL
    rw [h.2]) ⟨pA, cA⟩ (by show 2 ≤ 16777216; decide) (by
    intro j y hy μ' hI
    have ey : y = er := by
      match j, hy with
      | 0, h => cases h; rfl
      | 1, h => cases h; rfl
    subst ey
    refine ⟨μ', ?_, hI⟩
    exact is_H (is_eAndT (is_E (show Is (eIsX (eV 8) [("BadInt" : Str)] [("StepError" : Str), ("BadFraction" : Str), ("BadRow" : Str)]) _ μ' (.p (.bl true)) μ' from rfl)) rfl (is_H (is_2 (is_E (is_N (is_cons (is_H (show Is (eVal subsS (eV 8)) _ μ' (.p x) μ' from rfl)) is_nil) (rp_p v3 μ'))) (is_E (is_N (is_cons (is_V rfl) is_nil) (rp_p v3 μ'))) (eq_same _)))))
  have body : s__law_right (padE [.ref 0] 9) (st1 (pot a m 0)) = .ret (.p (.bl true)) (μB ++ [mkL (List.replicate 2 (D.p (.bl true)) ++ []).reverse]) := by
    rw [right_eq]
    refine (seq_n f1).trans ((seq_n s1).trans ((seq_n s2).trans ((seq_n s3).trans ((seq_n t4).trans ((seq_n t5).trans ((seq_n t6).trans ((seq_n t7).trans ((seq_n t8).trans ((seq_n t9).trans (seq_r ?_))))))))))
    unfold xS10
    exact ret_r (is_E (is_N (is_cons (is_E hB) is_nil) (all_true 2 _)))
  obtain ⟨aZ, cZ, z1, z2, z3⟩ := pB
  refine ⟨μ0.set L (pot aZ m cZ), fz_run (iso1 (xs := []) hμ0 rfl rfl (runB_r body) (Keep.push _ _ _ _ z1)), fun n c hn hc => ?_⟩
  rw [get_set (Store.lt_of hμ0), if_neg hn]
  exact hc
theorem run_law : ∀ ns : List Int, ns.length ≤ 63 → (∀ z ∈ ns, Builtin.Int.intBits z ≤ 1048576) → ∃ μ', c_law.run [.rol (ns.map Sh.P.int)] Store.emp = .ok (.p (.bl true)) μ' := fun ns _ _ => by
  obtain ⟨μ', h⟩ := law_run right_ok ns
  refine ⟨μ', ?_⟩
  have pot_eq : s__law_pot = xPot := by kernel_rfl
  have cells_eq : s__law_cells = xCells := by kernel_rfl
  have law_eq : s_law = xLaw c__law_cells.run c__law_pot.run c__law_right.run := by kernel_rfl
  rw [← h, ← pot_eq, ← cells_eq]
  have e : c_law.run = fzF (isoF (runB 2 s_law)) := rfl
  rw [e, law_eq]
  rfl
end Lw
set_option maxRecDepth 1000000
set_option maxHeartbeats 0
namespace Lw
open PySem PySem.Spec PyProof.Rows L2 Sh
abbrev R : PySem.W.OpenRow := PySem.W.OpenLaw.row PySem.Challenge.rw_treesofsteps_k21_whole_fractions
abbrev qv : Program := PySem.W.view R.prog [52]
def n1 : List Str := ["StepError", "BadFraction", "BadRow", "BadInt", "is_int", "NOUGHT", "ONE", "MOST", "MOST_LONG", "told_divisor", "told_fraction", "is_exact", "is_fraction", "look_at_fraction", "plus", "opposite", "minus", "times", "over", "told_sign", "added", "multiplied", "is_row", "look_at_row"]
def n2 : List Str := ["sum_of", "product_of", "quotient_of", "compared", "fraction_of", "_law_pot", "_law_take", "_law_of", "_law_cells", "_law_heard", "_law_odd", "_law_is_bool", "_law_frac", "_law_plus", "_law_times", "_law_over", "_law_sum", "_law_product", "_law_drawn", "_law_is_lowest", "_law_wild", "_law_is_value_right", "_law_are_rows_right", "_law_right"]
def names : List Str := List.append n1 n2
def idxs : List Nat := [6, 12, 13, 14, 15, 16, 17, 18, 19, 20, 21, 22, 23, 24, 25, 26, 27, 28, 29, 30, 31, 33, 34, 35, 36, 37, 38, 39, 40, 41, 42, 43, 44, 45, 46, 47, 48, 49, 50, 51, 52]
def frees : List Str := [("len" : Str), ("abs" : Str), ("max" : Str), ("min" : Str), ("int" : Str), ("bool" : Str), ("sum" : Str), ("all" : Str), ("any" : Str), ("list" : Str), ("tuple" : Str), ("dict" : Str), ("str" : Str), ("isinstance" : Str), ("range" : Str), ("enumerate" : Str), ("zip" : Str), ("sorted" : Str), ("repr" : Str), ("set" : Str), ("reversed" : Str), ("type" : Str), ("super" : Str)]
def classes : List Str := [("StepError" : Str), ("BadFraction" : Str), ("BadRow" : Str), ("BadInt" : Str)]
def cInts : List (Str × Int) := []
def fa : List He.Fa := List.append (List.map (fun i => He.Fa.glo (diP PW i).x) idxs) (List.append (List.map He.Fa.free frees) (List.append (List.map He.Fa.glo classes) (List.map (fun q => He.Fa.int q.1 q.2) cInts)))
def fn : List He.DefD := List.map (ddP PW) idxs
def posS : List Stmt → Nat → Pos
  | [.Expr (.Call (.Attribute (.Call (.Name _ a0) [] [] a1) _ a2) [.Name _ a3] [] a4) a5, .Assign [.Attribute (.Name _ a6) _ a7] (.Name _ a8) a9] => fun n => [a0, a1, a2, a3, a4, a5, a6, a7, a8, a9].getD n a0
  | _ => fun _ => ⟨0, 0, 0, 0⟩
def bodyS : Stmt → List Stmt
  | .FunctionDef (body := b) .. => b
  | _ => []
def initS : Stmt → List Stmt
  | .ClassDef (body := b) .. => b.flatMap bodyS
  | _ => []
def pI : Nat → Pos := posS (initS (PW.main.body.getD 1 (.Pass ⟨0, 0, 0, 0⟩)))
def hsubs : List Str := [("StepError" : Str), ("BadFraction" : Str), ("BadRow" : Str), ("BadInt" : Str)]
def exB (K : PySem.W.Frag) : Bool := excB PW K "StepError" ("StepError" : Str) pI [("StepError" : Str), ("BadFraction" : Str), ("BadRow" : Str), ("BadInt" : Str)] [] && excB PW K "StepError" ("BadFraction" : Str) pI [("BadFraction" : Str)] [("StepError" : Str), ("BadRow" : Str), ("BadInt" : Str)] && excB PW K "StepError" ("BadRow" : Str) pI [("BadRow" : Str)] [("StepError" : Str), ("BadFraction" : Str), ("BadInt" : Str)] && excB PW K "StepError" ("BadInt" : Str) pI [("BadInt" : Str)] [("StepError" : Str), ("BadFraction" : Str), ("BadRow" : Str)] && (hsubs.all fun y => decide (PySem.W.exmOne K (.ref (He.ga K y)) (.ref (He.ga K "StepError")) = some true)) && (hcons.all fun q => conB K q.1 q.2)
def o2 (K : PySem.W.Frag) : FnI := fnI K (He.ma K (He.ga K "StepError") "__init__")
abbrev hk : PySem.W.Hook := hookS 6 fa fn exB o2 (valI pI)
def ob (s : PySem.W.SharedT) : AlS FnI := obS 6 fa fn exB o2 s
theorem ob_eq (s : PySem.W.SharedT) : ob s = hk.obs s.abs := obS_eq s
theorem run (w : World) : HandSHeadRun.RunEq R qv hk ob 3000 names w := by
  intro os
  kernel_rfl
def posHs : List Stmt → List Pos × List Nat
  | [.Assign [.Tuple [.Name _ a0, .Name _ a1] n0 a2] (.Tuple [.Constant _ n1 a3, .Constant _ n2 a4] n3 a5) a6, .Try [.Assign [.Name _ a7] (.Call (.Name _ a8) [] [] a9) a10] [.ExceptHandler (some (.Name _ a11)) _ [.Assign [.Name _ a12] (.Name _ a13) a14] a15] [] [] a16, .Return (some (.Tuple [.Name _ a17, .Name _ a18] n4 a19)) a20] =>
    ([a0, a1, a2, a3, a4, a5, a6, a7, a8, a9, a10, a11, a12, a13, a14, a15, a16, a17, a18, a19, a20], [n0, n1, n2, n3, n4])
  | _ => ([], [])
section
variable {w : World} {K : PySem.W.Frag} {mg : Str → Option Value} {h base : Heap} (X : K.In h) (G : h.Ns mainGlobals mg) (c : SaysS fa fn exB o2 (valI pI) h K) (tb : ∀ p ∈ codesK K, LamX.TabB base mg p.1 p.2)
include X G c
theorem dk {i : Nat} (hi : i ∈ idxs) : DOk K mg (diP PW i) := dok_of X G c.d (List.mem_append.mpr (.inl (List.mem_map.mpr ⟨i, hi, rfl⟩))) (List.mem_map.mpr ⟨i, hi, rfl⟩)
theorem fr_ {x : Str} (hx : x ∈ frees) : mg x = none := He.free_ok X G (c.d.facts (List.mem_append.mpr (.inr (List.mem_append.mpr (.inl (List.mem_map.mpr ⟨x, hx, rfl⟩))))))
theorem gl_ {x : Str} (hx : x ∈ classes) : mg x = some (.ref (He.ga K x)) := He.glo_ok X G (c.d.facts (List.mem_append.mpr (.inr (List.mem_append.mpr (.inr (List.mem_append.mpr (.inl (List.mem_map.mpr ⟨x, hx, rfl⟩))))))))
theorem in_ {q : Str × Int} (hx : q ∈ cInts) : ∃ t, mg q.1 = some (.int q.2 t) := He.int_ok X G (c.d.facts (List.mem_append.mpr (.inr (List.mem_append.mpr (.inr (List.mem_append.mpr (.inr (List.mem_map.mpr ⟨q, hx, rfl⟩))))))))
theorem ok_bl : ∀ p ∈ blv, GvOk PW w K mg base p.1 p.2 := fun p hp => by
  have e : blv = List.map (fun b => (b, GV.free)) frees := rfl
  rw [e] at hp
  obtain ⟨b, hb, rfl⟩ := List.mem_map.mp hp
  exact fr_ X G c hb
theorem exs : excB PW K "StepError" ("StepError" : Str) pI [("StepError" : Str), ("BadFraction" : Str), ("BadRow" : Str), ("BadInt" : Str)] [] = true ∧ excB PW K "StepError" ("BadFraction" : Str) pI [("BadFraction" : Str)] [("StepError" : Str), ("BadRow" : Str), ("BadInt" : Str)] = true ∧ excB PW K "StepError" ("BadRow" : Str) pI [("BadRow" : Str)] [("StepError" : Str), ("BadFraction" : Str), ("BadInt" : Str)] = true ∧ excB PW K "StepError" ("BadInt" : Str) pI [("BadInt" : Str)] [("StepError" : Str), ("BadFraction" : Str), ("BadRow" : Str)] = true ∧ (hsubs.all fun y => decide (PySem.W.exmOne K (.ref (He.ga K y)) (.ref (He.ga K "StepError")) = some true)) = true ∧ (hcons.all fun q => conB K q.1 q.2) = true := by
  have e := c.more
  unfold exB at e
  simpa only [Bool.and_eq_true, and_assoc] using e
theorem x_StepError : ExcG PW K mg ("StepError" : Str) [("StepError" : Str), ("BadFraction" : Str), ("BadRow" : Str), ("BadInt" : Str)] [] := excB_ok c.two (exs X G c).1 (fr_ X G c (by decide +kernel)) fun y hy => gl_ X G c (show y ∈ classes from (by decide +kernel : ∀ y ∈ [("StepError" : Str), ("StepError" : Str), ("BadFraction" : Str), ("BadRow" : Str), ("BadInt" : Str)], y ∈ classes) y hy)
theorem x_BadFraction : ExcG PW K mg ("BadFraction" : Str) [("BadFraction" : Str)] [("StepError" : Str), ("BadRow" : Str), ("BadInt" : Str)] := excB_ok c.two (exs X G c).2.1 (fr_ X G c (by decide +kernel)) fun y hy => gl_ X G c (show y ∈ classes from (by decide +kernel : ∀ y ∈ [("BadFraction" : Str), ("BadFraction" : Str), ("StepError" : Str), ("BadRow" : Str), ("BadInt" : Str)], y ∈ classes) y hy)
theorem x_BadRow : ExcG PW K mg ("BadRow" : Str) [("BadRow" : Str)] [("StepError" : Str), ("BadFraction" : Str), ("BadInt" : Str)] := excB_ok c.two (exs X G c).2.2.1 (fr_ X G c (by decide +kernel)) fun y hy => gl_ X G c (show y ∈ classes from (by decide +kernel : ∀ y ∈ [("BadRow" : Str), ("BadRow" : Str), ("StepError" : Str), ("BadFraction" : Str), ("BadInt" : Str)], y ∈ classes) y hy)
theorem x_BadInt : ExcG PW K mg ("BadInt" : Str) [("BadInt" : Str)] [("StepError" : Str), ("BadFraction" : Str), ("BadRow" : Str)] := excB_ok c.two (exs X G c).2.2.2.1 (fr_ X G c (by decide +kernel)) fun y hy => gl_ X G c (show y ∈ classes from (by decide +kernel : ∀ y ∈ [("BadInt" : Str), ("BadInt" : Str), ("StepError" : Str), ("BadFraction" : Str), ("BadRow" : Str)], y ∈ classes) y hy)
theorem heard_ : HeardG K mg "_law_heard" [("StepError" : Str), ("BadFraction" : Str), ("BadRow" : Str), ("BadInt" : Str)] := heard_of (i := 37) (ar := (diP PW 37).args.headD ⟨"", none, ⟨0, 0, 0, 0⟩⟩) (q := fun j => (posHs (diP PW 37).body).1.getD j ⟨0, 0, 0, 0⟩) (n := fun j => (posHs (diP PW 37).body).2.getD j 0) (dk X G c (by decide +kernel)) (by kernel_rfl) (by kernel_rfl) (by kernel_rfl) (by kernel_rfl) (by kernel_rfl) (by decide +kernel) (fun y hy => gl_ X G c ((by decide +kernel : ∀ y ∈ [("StepError" : Str), ("StepError" : Str), ("BadFraction" : Str), ("BadRow" : Str), ("BadInt" : Str)], y ∈ classes) y hy)) fun y hy => of_decide_eq_true (List.all_eq_true.mp (exs X G c).2.2.2.2.1 y hy)
theorem ok_xl : ∀ p ∈ xl, GvOk PW w K mg base p.1 p.2 := ap_all (List.forall_mem_cons.mpr ⟨x_StepError X G c, (List.forall_mem_cons.mpr ⟨x_BadFraction X G c, (List.forall_mem_cons.mpr ⟨x_BadRow X G c, (List.forall_mem_cons.mpr ⟨x_BadInt X G c, (List.forall_mem_cons.mpr ⟨heard_ X G c, (fun _ z => nomatch z)⟩)⟩)⟩)⟩)⟩) (ok_bl X G c)
theorem ok_cl : ∀ p ∈ cl, GvOk PW w K mg base p.1 p.2 := ap_all (fun p hp => by
  obtain ⟨q, hq, rfl⟩ := List.mem_map.mp hp
  exact conB_ok X G (List.all_eq_true.mp (exs X G c).2.2.2.2.2 q hq)) (ok_xl X G c)
include tb
theorem f__law_cells : FOk PW w K mg base ("_law_cells" : Str) c__law_cells ∧ c__law_cells.ps.Nodup := ⟨fok_of (N := [("script" : Str), ("most" : Str)]) (k := 3) (dk X G c (i := 36) (by decide +kernel)) (by decide +kernel) rfl (gok_of tb c.uni (ap_all (fun _ z => nomatch z) (ok_cl X G c))), (by decide +kernel : ([("script" : Str), ("most" : Str)] : List Str).Nodup)⟩
theorem f__law_pot : FOk PW w K mg base ("_law_pot" : Str) c__law_pot ∧ c__law_pot.ps.Nodup := ⟨fok_of (N := [("script" : Str), ("place" : Str), ("cell" : Str), ("own" : Str), ("small" : Str)]) (k := 3) (dk X G c (i := 33) (by decide +kernel)) (by decide +kernel) rfl (gok_of tb c.uni (ap_all (fun _ z => nomatch z) (ok_cl X G c))), (by decide +kernel : ([("script" : Str), ("place" : Str)] : List Str).Nodup)⟩
theorem g__law_frac : FOk PW w K mg base ("_law_frac" : Str) b__law_frac ∧ b__law_frac.ps.Nodup := ⟨fok_of (N := [("top" : Str), ("bottom" : Str), ("sign" : Str), ("one" : Str), ("other" : Str)]) (k := 3) (dk X G c (i := 40) (by decide +kernel)) (by decide +kernel) rfl (gok_of tb c.uni (ap_all (fun _ z => nomatch z) (ok_cl X G c))), (by decide +kernel : ([("top" : Str), ("bottom" : Str)] : List Str).Nodup)⟩
theorem f__law_frac : FOk PW w K mg base ("_law_frac" : Str) c__law_frac ∧ c__law_frac.ps.Nodup := by rw [e__law_frac]; exact g__law_frac X G c tb
theorem f__law_take : FOk PW w K mg base ("_law_take" : Str) c__law_take ∧ c__law_take.ps.Nodup := ⟨fok_of (N := [("pot" : Str), ("upto" : Str), ("prime" : Str), ("mixture" : Str), ("digit" : Str)]) (k := 3) (dk X G c (i := 34) (by decide +kernel)) (by decide +kernel) rfl (gok_of tb c.uni (ap_all (fun _ z => nomatch z) (ok_cl X G c))), (by decide +kernel : ([("pot" : Str), ("upto" : Str)] : List Str).Nodup)⟩
theorem f__law_drawn : FOk PW w K mg base ("_law_drawn" : Str) c__law_drawn ∧ c__law_drawn.ps.Nodup := ⟨fok_of (N := [("pot" : Str)]) (k := 4) (dk X G c (i := 46) (by decide +kernel)) (by decide +kernel) rfl (gok_of tb c.uni (ap_all (List.forall_mem_cons.mpr ⟨f__law_frac X G c tb, (List.forall_mem_cons.mpr ⟨f__law_take X G c tb, (fun _ z => nomatch z)⟩)⟩) (ok_cl X G c))), (by decide +kernel : ([("pot" : Str)] : List Str).Nodup)⟩
theorem g__law_over : FOk PW w K mg base ("_law_over" : Str) b__law_over ∧ b__law_over.ps.Nodup := ⟨fok_of (N := [("one" : Str), ("other" : Str)]) (k := 4) (dk X G c (i := 43) (by decide +kernel)) (by decide +kernel) rfl (gok_of tb c.uni (ap_all (List.forall_mem_cons.mpr ⟨f__law_frac X G c tb, (fun _ z => nomatch z)⟩) (ok_cl X G c))), (by decide +kernel : ([("one" : Str), ("other" : Str)] : List Str).Nodup)⟩
theorem f__law_over : FOk PW w K mg base ("_law_over" : Str) c__law_over ∧ c__law_over.ps.Nodup := by rw [e__law_over]; exact g__law_over X G c tb
theorem g__law_times : FOk PW w K mg base ("_law_times" : Str) b__law_times ∧ b__law_times.ps.Nodup := ⟨fok_of (N := [("one" : Str), ("other" : Str)]) (k := 4) (dk X G c (i := 42) (by decide +kernel)) (by decide +kernel) rfl (gok_of tb c.uni (ap_all (List.forall_mem_cons.mpr ⟨f__law_frac X G c tb, (fun _ z => nomatch z)⟩) (ok_cl X G c))), (by decide +kernel : ([("one" : Str), ("other" : Str)] : List Str).Nodup)⟩
theorem f__law_times : FOk PW w K mg base ("_law_times" : Str) c__law_times ∧ c__law_times.ps.Nodup := by rw [e__law_times]; exact g__law_times X G c tb
theorem f__law_product : FOk PW w K mg base ("_law_product" : Str) c__law_product ∧ c__law_product.ps.Nodup := ⟨fok_of (N := [("some" : Str), ("found" : Str), ("one" : Str)]) (k := 5) (dk X G c (i := 45) (by decide +kernel)) (by decide +kernel) rfl (gok_of tb c.uni (ap_all (List.forall_mem_cons.mpr ⟨f__law_times X G c tb, (fun _ z => nomatch z)⟩) (ok_cl X G c))), (by decide +kernel : ([("some" : Str)] : List Str).Nodup)⟩
theorem g__law_plus : FOk PW w K mg base ("_law_plus" : Str) b__law_plus ∧ b__law_plus.ps.Nodup := ⟨fok_of (N := [("one" : Str), ("other" : Str)]) (k := 4) (dk X G c (i := 41) (by decide +kernel)) (by decide +kernel) rfl (gok_of tb c.uni (ap_all (List.forall_mem_cons.mpr ⟨f__law_frac X G c tb, (fun _ z => nomatch z)⟩) (ok_cl X G c))), (by decide +kernel : ([("one" : Str), ("other" : Str)] : List Str).Nodup)⟩
theorem f__law_plus : FOk PW w K mg base ("_law_plus" : Str) c__law_plus ∧ c__law_plus.ps.Nodup := by rw [e__law_plus]; exact g__law_plus X G c tb
theorem f__law_sum : FOk PW w K mg base ("_law_sum" : Str) c__law_sum ∧ c__law_sum.ps.Nodup := ⟨fok_of (N := [("some" : Str), ("found" : Str), ("one" : Str)]) (k := 5) (dk X G c (i := 44) (by decide +kernel)) (by decide +kernel) rfl (gok_of tb c.uni (ap_all (List.forall_mem_cons.mpr ⟨f__law_plus X G c tb, (fun _ z => nomatch z)⟩) (ok_cl X G c))), (by decide +kernel : ([("some" : Str)] : List Str).Nodup)⟩
theorem g_told_divisor : FOk PW w K mg base ("told_divisor" : Str) b_told_divisor ∧ b_told_divisor.ps.Nodup := ⟨fok_of (N := [("one" : Str), ("other" : Str)]) (k := 3) (dk X G c (i := 12) (by decide +kernel)) (by decide +kernel) rfl (gok_of tb c.uni (ap_all (fun _ z => nomatch z) (ok_cl X G c))), (by decide +kernel : ([("one" : Str), ("other" : Str)] : List Str).Nodup)⟩
theorem f_told_divisor : FOk PW w K mg base ("told_divisor" : Str) c_told_divisor ∧ c_told_divisor.ps.Nodup := by rw [e_told_divisor]; exact g_told_divisor X G c tb
theorem g_is_exact : FOk PW w K mg base ("is_exact" : Str) b_is_exact ∧ b_is_exact.ps.Nodup := ⟨fok_of (N := [("value" : Str), ("part" : Str)]) (k := 4) (dk X G c (i := 14) (by decide +kernel)) (by decide +kernel) rfl (gok_of tb c.uni (ap_all (List.forall_mem_cons.mpr ⟨f_told_divisor X G c tb, (fun _ z => nomatch z)⟩) (ok_cl X G c))), (by decide +kernel : ([("value" : Str)] : List Str).Nodup)⟩
theorem f_is_exact : FOk PW w K mg base ("is_exact" : Str) c_is_exact ∧ c_is_exact.ps.Nodup := by rw [e_is_exact]; exact g_is_exact X G c tb
theorem g_is_int : FOk PW w K mg base ("is_int" : Str) b_is_int ∧ b_is_int.ps.Nodup := ⟨fok_of (N := [("value" : Str), ("least" : Str), ("most" : Str)]) (k := 3) (dk X G c (i := 6) (by decide +kernel)) (by decide +kernel) rfl (gok_of tb c.uni (ap_all (fun _ z => nomatch z) (ok_cl X G c))), (by decide +kernel : ([("value" : Str), ("least" : Str), ("most" : Str)] : List Str).Nodup)⟩
theorem f_is_int : FOk PW w K mg base ("is_int" : Str) c_is_int ∧ c_is_int.ps.Nodup := by rw [e_is_int]; exact g_is_int X G c tb
theorem g_is_fraction : FOk PW w K mg base ("is_fraction" : Str) b_is_fraction ∧ b_is_fraction.ps.Nodup := ⟨fok_of (N := [("value" : Str)]) (k := 5) (dk X G c (i := 15) (by decide +kernel)) (by decide +kernel) rfl (gok_of tb c.uni (ap_all (List.forall_mem_cons.mpr ⟨f_is_exact X G c tb, (List.forall_mem_cons.mpr ⟨f_is_int X G c tb, (fun _ z => nomatch z)⟩)⟩) (ok_cl X G c))), (by decide +kernel : ([("value" : Str)] : List Str).Nodup)⟩
theorem f_is_fraction : FOk PW w K mg base ("is_fraction" : Str) c_is_fraction ∧ c_is_fraction.ps.Nodup := by rw [e_is_fraction]; exact g_is_fraction X G c tb
theorem f_look_at_fraction : FOk PW w K mg base ("look_at_fraction" : Str) c_look_at_fraction ∧ c_look_at_fraction.ps.Nodup := ⟨fok_of (N := [("value" : Str)]) (k := 6) (dk X G c (i := 16) (by decide +kernel)) (by decide +kernel) rfl (gok_of tb c.uni (ap_all (List.forall_mem_cons.mpr ⟨f_is_fraction X G c tb, (fun _ z => nomatch z)⟩) (ok_cl X G c))), (by decide +kernel : ([("value" : Str)] : List Str).Nodup)⟩
theorem g_opposite : FOk PW w K mg base ("opposite" : Str) b_opposite ∧ b_opposite.ps.Nodup := ⟨fok_of (N := [("one" : Str)]) (k := 3) (dk X G c (i := 18) (by decide +kernel)) (by decide +kernel) rfl (gok_of tb c.uni (ap_all (fun _ z => nomatch z) (ok_cl X G c))), (by decide +kernel : ([("one" : Str)] : List Str).Nodup)⟩
theorem f_opposite : FOk PW w K mg base ("opposite" : Str) c_opposite ∧ c_opposite.ps.Nodup := by rw [e_opposite]; exact g_opposite X G c tb
theorem g_told_fraction : FOk PW w K mg base ("told_fraction" : Str) b_told_fraction ∧ b_told_fraction.ps.Nodup := ⟨fok_of (N := [("top" : Str), ("bottom" : Str), ("shared" : Str)]) (k := 4) (dk X G c (i := 13) (by decide +kernel)) (by decide +kernel) rfl (gok_of tb c.uni (ap_all (List.forall_mem_cons.mpr ⟨f_told_divisor X G c tb, (fun _ z => nomatch z)⟩) (ok_cl X G c))), (by decide +kernel : ([("top" : Str), ("bottom" : Str)] : List Str).Nodup)⟩
theorem f_told_fraction : FOk PW w K mg base ("told_fraction" : Str) c_told_fraction ∧ c_told_fraction.ps.Nodup := by rw [e_told_fraction]; exact g_told_fraction X G c tb
theorem g_plus : FOk PW w K mg base ("plus" : Str) b_plus ∧ b_plus.ps.Nodup := ⟨fok_of (N := [("one" : Str), ("other" : Str)]) (k := 5) (dk X G c (i := 17) (by decide +kernel)) (by decide +kernel) rfl (gok_of tb c.uni (ap_all (List.forall_mem_cons.mpr ⟨f_told_fraction X G c tb, (fun _ z => nomatch z)⟩) (ok_cl X G c))), (by decide +kernel : ([("one" : Str), ("other" : Str)] : List Str).Nodup)⟩
theorem f_plus : FOk PW w K mg base ("plus" : Str) c_plus ∧ c_plus.ps.Nodup := by rw [e_plus]; exact g_plus X G c tb
theorem g_minus : FOk PW w K mg base ("minus" : Str) b_minus ∧ b_minus.ps.Nodup := ⟨fok_of (N := [("one" : Str), ("other" : Str)]) (k := 6) (dk X G c (i := 19) (by decide +kernel)) (by decide +kernel) rfl (gok_of tb c.uni (ap_all (List.forall_mem_cons.mpr ⟨f_opposite X G c tb, (List.forall_mem_cons.mpr ⟨f_plus X G c tb, (fun _ z => nomatch z)⟩)⟩) (ok_cl X G c))), (by decide +kernel : ([("one" : Str), ("other" : Str)] : List Str).Nodup)⟩
theorem f_minus : FOk PW w K mg base ("minus" : Str) c_minus ∧ c_minus.ps.Nodup := by rw [e_minus]; exact g_minus X G c tb
theorem g_told_sign : FOk PW w K mg base ("told_sign" : Str) b_told_sign ∧ b_told_sign.ps.Nodup := ⟨fok_of (N := [("one" : Str)]) (k := 3) (dk X G c (i := 22) (by decide +kernel)) (by decide +kernel) rfl (gok_of tb c.uni (ap_all (fun _ z => nomatch z) (ok_cl X G c))), (by decide +kernel : ([("one" : Str)] : List Str).Nodup)⟩
theorem f_told_sign : FOk PW w K mg base ("told_sign" : Str) c_told_sign ∧ c_told_sign.ps.Nodup := by rw [e_told_sign]; exact g_told_sign X G c tb
theorem f_compared : FOk PW w K mg base ("compared" : Str) c_compared ∧ c_compared.ps.Nodup := ⟨fok_of (N := [("one" : Str), ("other" : Str)]) (k := 7) (dk X G c (i := 30) (by decide +kernel)) (by decide +kernel) rfl (gok_of tb c.uni (ap_all (List.forall_mem_cons.mpr ⟨f_look_at_fraction X G c tb, (List.forall_mem_cons.mpr ⟨f_minus X G c tb, (List.forall_mem_cons.mpr ⟨f_told_sign X G c tb, (fun _ z => nomatch z)⟩)⟩)⟩) (ok_cl X G c))), (by decide +kernel : ([("one" : Str), ("other" : Str)] : List Str).Nodup)⟩
theorem f_is_row : FOk PW w K mg base ("is_row" : Str) c_is_row ∧ c_is_row.ps.Nodup := ⟨fok_of (N := [("value" : Str), ("most" : Str), ("one" : Str)]) (k := 6) (dk X G c (i := 25) (by decide +kernel)) (by decide +kernel) rfl (gok_of tb c.uni (ap_all (List.forall_mem_cons.mpr ⟨f_is_fraction X G c tb, (fun _ z => nomatch z)⟩) (ok_cl X G c))), (by decide +kernel : ([("value" : Str), ("most" : Str)] : List Str).Nodup)⟩
theorem f_look_at_row : FOk PW w K mg base ("look_at_row" : Str) c_look_at_row ∧ c_look_at_row.ps.Nodup := ⟨fok_of (N := [("value" : Str)]) (k := 7) (dk X G c (i := 26) (by decide +kernel)) (by decide +kernel) rfl (gok_of tb c.uni (ap_all (List.forall_mem_cons.mpr ⟨f_is_row X G c tb, (fun _ z => nomatch z)⟩) (ok_cl X G c))), (by decide +kernel : ([("value" : Str)] : List Str).Nodup)⟩
theorem g_times : FOk PW w K mg base ("times" : Str) b_times ∧ b_times.ps.Nodup := ⟨fok_of (N := [("one" : Str), ("other" : Str)]) (k := 5) (dk X G c (i := 20) (by decide +kernel)) (by decide +kernel) rfl (gok_of tb c.uni (ap_all (List.forall_mem_cons.mpr ⟨f_told_fraction X G c tb, (fun _ z => nomatch z)⟩) (ok_cl X G c))), (by decide +kernel : ([("one" : Str), ("other" : Str)] : List Str).Nodup)⟩
theorem f_times : FOk PW w K mg base ("times" : Str) c_times ∧ c_times.ps.Nodup := by rw [e_times]; exact g_times X G c tb
theorem f_multiplied : FOk PW w K mg base ("multiplied" : Str) c_multiplied ∧ c_multiplied.ps.Nodup := ⟨fok_of (N := [("some" : Str), ("found" : Str), ("one" : Str)]) (k := 6) (dk X G c (i := 24) (by decide +kernel)) (by decide +kernel) rfl (gok_of tb c.uni (ap_all (List.forall_mem_cons.mpr ⟨f_times X G c tb, (fun _ z => nomatch z)⟩) (ok_cl X G c))), (by decide +kernel : ([("some" : Str)] : List Str).Nodup)⟩
theorem f_product_of : FOk PW w K mg base ("product_of" : Str) c_product_of ∧ c_product_of.ps.Nodup := ⟨fok_of (N := [("row" : Str)]) (k := 8) (dk X G c (i := 28) (by decide +kernel)) (by decide +kernel) rfl (gok_of tb c.uni (ap_all (List.forall_mem_cons.mpr ⟨f_look_at_row X G c tb, (List.forall_mem_cons.mpr ⟨f_multiplied X G c tb, (fun _ z => nomatch z)⟩)⟩) (ok_cl X G c))), (by decide +kernel : ([("row" : Str)] : List Str).Nodup)⟩
theorem g_over : FOk PW w K mg base ("over" : Str) b_over ∧ b_over.ps.Nodup := ⟨fok_of (N := [("one" : Str), ("other" : Str)]) (k := 5) (dk X G c (i := 21) (by decide +kernel)) (by decide +kernel) rfl (gok_of tb c.uni (ap_all (List.forall_mem_cons.mpr ⟨f_told_fraction X G c tb, (fun _ z => nomatch z)⟩) (ok_cl X G c))), (by decide +kernel : ([("one" : Str), ("other" : Str)] : List Str).Nodup)⟩
theorem f_over : FOk PW w K mg base ("over" : Str) c_over ∧ c_over.ps.Nodup := by rw [e_over]; exact g_over X G c tb
theorem f_quotient_of : FOk PW w K mg base ("quotient_of" : Str) c_quotient_of ∧ c_quotient_of.ps.Nodup := ⟨fok_of (N := [("one" : Str), ("other" : Str)]) (k := 7) (dk X G c (i := 29) (by decide +kernel)) (by decide +kernel) rfl (gok_of tb c.uni (ap_all (List.forall_mem_cons.mpr ⟨f_look_at_fraction X G c tb, (List.forall_mem_cons.mpr ⟨f_over X G c tb, (fun _ z => nomatch z)⟩)⟩) (ok_cl X G c))), (by decide +kernel : ([("one" : Str), ("other" : Str)] : List Str).Nodup)⟩
theorem f_added : FOk PW w K mg base ("added" : Str) c_added ∧ c_added.ps.Nodup := ⟨fok_of (N := [("some" : Str), ("found" : Str), ("one" : Str)]) (k := 6) (dk X G c (i := 23) (by decide +kernel)) (by decide +kernel) rfl (gok_of tb c.uni (ap_all (List.forall_mem_cons.mpr ⟨f_plus X G c tb, (fun _ z => nomatch z)⟩) (ok_cl X G c))), (by decide +kernel : ([("some" : Str)] : List Str).Nodup)⟩
theorem f_sum_of : FOk PW w K mg base ("sum_of" : Str) c_sum_of ∧ c_sum_of.ps.Nodup := ⟨fok_of (N := [("row" : Str)]) (k := 8) (dk X G c (i := 27) (by decide +kernel)) (by decide +kernel) rfl (gok_of tb c.uni (ap_all (List.forall_mem_cons.mpr ⟨f_added X G c tb, (List.forall_mem_cons.mpr ⟨f_look_at_row X G c tb, (fun _ z => nomatch z)⟩)⟩) (ok_cl X G c))), (by decide +kernel : ([("row" : Str)] : List Str).Nodup)⟩
theorem f__law_are_rows_right : FOk PW w K mg base ("_law_are_rows_right" : Str) c__law_are_rows_right ∧ c__law_are_rows_right.ps.Nodup := ⟨fok_of (N := [("pot" : Str), ("row" : Str), ("left" : Str), ("one" : Str), ("other" : Str), ("caught" : Str), ("told" : Str), ("at" : Str)]) (k := 11) (dk X G c (i := 50) (by decide +kernel)) (by decide +kernel) rfl (gok_of tb c.uni (ap_all (List.forall_mem_cons.mpr ⟨f__law_drawn X G c tb, (List.forall_mem_cons.mpr ⟨f__law_over X G c tb, (List.forall_mem_cons.mpr ⟨f__law_product X G c tb, (List.forall_mem_cons.mpr ⟨f__law_sum X G c tb, (List.forall_mem_cons.mpr ⟨f__law_take X G c tb, (List.forall_mem_cons.mpr ⟨f_compared X G c tb, (List.forall_mem_cons.mpr ⟨f_product_of X G c tb, (List.forall_mem_cons.mpr ⟨f_quotient_of X G c tb, (List.forall_mem_cons.mpr ⟨f_sum_of X G c tb, (fun _ z => nomatch z)⟩)⟩)⟩)⟩)⟩)⟩)⟩)⟩)⟩) (ok_cl X G c))), (by decide +kernel : ([("pot" : Str)] : List Str).Nodup)⟩
theorem f__law_is_bool : FOk PW w K mg base ("_law_is_bool" : Str) c__law_is_bool ∧ c__law_is_bool.ps.Nodup := ⟨fok_of (N := [("told" : Str), ("due" : Str)]) (k := 3) (dk X G c (i := 39) (by decide +kernel)) (by decide +kernel) rfl (gok_of tb c.uni (ap_all (fun _ z => nomatch z) (ok_cl X G c))), (by decide +kernel : ([("told" : Str), ("due" : Str)] : List Str).Nodup)⟩
theorem f__law_is_lowest : FOk PW w K mg base ("_law_is_lowest" : Str) c__law_is_lowest ∧ c__law_is_lowest.ps.Nodup := ⟨fok_of (N := [("value" : Str), ("most" : Str), ("part" : Str)]) (k := 4) (dk X G c (i := 47) (by decide +kernel)) (by decide +kernel) rfl (gok_of tb c.uni (ap_all (List.forall_mem_cons.mpr ⟨f__law_frac X G c tb, (fun _ z => nomatch z)⟩) (ok_cl X G c))), (by decide +kernel : ([("value" : Str), ("most" : Str)] : List Str).Nodup)⟩
theorem f__law_is_value_right : FOk PW w K mg base ("_law_is_value_right" : Str) c__law_is_value_right ∧ c__law_is_value_right.ps.Nodup := ⟨fok_of (N := [("value" : Str), ("fine" : Str), ("caught" : Str), ("miss" : Str)]) (k := 11) (dk X G c (i := 49) (by decide +kernel)) (by decide +kernel) rfl (gok_of tb c.uni (ap_all (List.forall_mem_cons.mpr ⟨f__law_is_bool X G c tb, (List.forall_mem_cons.mpr ⟨f__law_is_lowest X G c tb, (List.forall_mem_cons.mpr ⟨f_compared X G c tb, (List.forall_mem_cons.mpr ⟨f_is_exact X G c tb, (List.forall_mem_cons.mpr ⟨f_is_fraction X G c tb, (List.forall_mem_cons.mpr ⟨f_quotient_of X G c tb, (List.forall_mem_cons.mpr ⟨f_sum_of X G c tb, (fun _ z => nomatch z)⟩)⟩)⟩)⟩)⟩)⟩)⟩) (ok_cl X G c))), (by decide +kernel : ([("value" : Str)] : List Str).Nodup)⟩
theorem f__law_of : FOk PW w K mg base ("_law_of" : Str) c__law_of ∧ c__law_of.ps.Nodup := ⟨fok_of (N := [("pot" : Str), ("some" : Str)]) (k := 4) (dk X G c (i := 35) (by decide +kernel)) (by decide +kernel) rfl (gok_of tb c.uni (ap_all (List.forall_mem_cons.mpr ⟨f__law_take X G c tb, (fun _ z => nomatch z)⟩) (ok_cl X G c))), (by decide +kernel : ([("pot" : Str), ("some" : Str)] : List Str).Nodup)⟩
theorem f__law_odd : FOk PW w K mg base ("_law_odd" : Str) c__law_odd ∧ c__law_odd.ps.Nodup := ⟨fok_of (N := [("pot" : Str), ("some" : Str)]) (k := 5) (dk X G c (i := 38) (by decide +kernel)) (by decide +kernel) rfl (gok_of tb c.uni (ap_all (List.forall_mem_cons.mpr ⟨f__law_of X G c tb, (fun _ z => nomatch z)⟩) (ok_cl X G c))), (by decide +kernel : ([("pot" : Str)] : List Str).Nodup)⟩
theorem f__law_wild : FOk PW w K mg base ("_law_wild" : Str) c__law_wild ∧ c__law_wild.ps.Nodup := ⟨fok_of (N := [("pot" : Str), ("great" : Str), ("values" : Str), ("top" : Str), ("bottom" : Str)]) (k := 6) (dk X G c (i := 48) (by decide +kernel)) (by decide +kernel) rfl (gok_of tb c.uni (ap_all (List.forall_mem_cons.mpr ⟨f__law_odd X G c tb, (List.forall_mem_cons.mpr ⟨f__law_of X G c tb, (List.forall_mem_cons.mpr ⟨f__law_take X G c tb, (fun _ z => nomatch z)⟩)⟩)⟩) (ok_cl X G c))), (by decide +kernel : ([("pot" : Str)] : List Str).Nodup)⟩
theorem f_fraction_of : FOk PW w K mg base ("fraction_of" : Str) c_fraction_of ∧ c_fraction_of.ps.Nodup := ⟨fok_of (N := [("top" : Str), ("bottom" : Str), ("part" : Str)]) (k := 5) (dk X G c (i := 31) (by decide +kernel)) (by decide +kernel) rfl (gok_of tb c.uni (ap_all (List.forall_mem_cons.mpr ⟨f_is_int X G c tb, (List.forall_mem_cons.mpr ⟨f_told_fraction X G c tb, (fun _ z => nomatch z)⟩)⟩) (ok_cl X G c))), (by decide +kernel : ([("top" : Str), ("bottom" : Str)] : List Str).Nodup)⟩
theorem f__law_right : FOk PW w K mg base ("_law_right" : Str) c__law_right ∧ c__law_right.ps.Nodup := ⟨fok_of (N := [("pot" : Str), ("lap" : Str), ("great" : Str), ("caught" : Str), ("odd" : Str), ("top" : Str), ("bottom" : Str), ("told" : Str), ("miss" : Str)]) (k := 14) (dk X G c (i := 51) (by decide +kernel)) (by decide +kernel) rfl (gok_of tb c.uni (ap_all (List.forall_mem_cons.mpr ⟨f__law_are_rows_right X G c tb, (List.forall_mem_cons.mpr ⟨f__law_frac X G c tb, (List.forall_mem_cons.mpr ⟨f__law_is_value_right X G c tb, (List.forall_mem_cons.mpr ⟨f__law_of X G c tb, (List.forall_mem_cons.mpr ⟨f__law_take X G c tb, (List.forall_mem_cons.mpr ⟨f__law_wild X G c tb, (List.forall_mem_cons.mpr ⟨f_fraction_of X G c tb, (List.forall_mem_cons.mpr ⟨f_is_fraction X G c tb, (List.forall_mem_cons.mpr ⟨f_product_of X G c tb, (List.forall_mem_cons.mpr ⟨f_sum_of X G c tb, (fun _ z => nomatch z)⟩)⟩)⟩)⟩)⟩)⟩)⟩)⟩)⟩)⟩) (ok_cl X G c))), (by decide +kernel : ([("pot" : Str)] : List Str).Nodup)⟩
theorem f_law : FOk PW w K mg base ("law" : Str) c_law ∧ c_law.ps.Nodup := ⟨fok_of (N := [("script" : Str), ("place" : Str)]) (k := 15) (dk X G c (i := 52) (by decide +kernel)) (by decide +kernel) rfl (gok_of tb c.uni (ap_all (List.forall_mem_cons.mpr ⟨f__law_cells X G c tb, (List.forall_mem_cons.mpr ⟨f__law_pot X G c tb, (List.forall_mem_cons.mpr ⟨f__law_right X G c tb, (fun _ z => nomatch z)⟩)⟩)⟩) (ok_cl X G c))), (by decide +kernel : ([("script" : Str)] : List Str).Nodup)⟩
end
end Lw
end
set_option maxRecDepth 1000000
set_option maxHeartbeats 0
open PySem PySem.Spec PyProof.Rows L2 Sh
theorem PySem.Challenge.cw_treesofsteps_k21_whole_fractions_holds : PySem.Challenge.rw_treesofsteps_k21_whole_fractions.Holds := by
  w_on; o_law
  refine HandSHeadRun.head_any (r := PySem.W.OpenLaw.row PySem.Challenge.rw_treesofsteps_k21_whole_fractions) (q := Lw.qv) (H := Lw.hk) (ob := Lw.ob) (M := 3000) (loose := Lw.names) (d := HandSHeadRun.topDef (PySem.W.OpenLaw.row PySem.Challenge.rw_treesofsteps_k21_whole_fractions).prog 52) (kwd := []) Lw.ob_eq (by kernel_rfl) (fun s => by kernel_rfl) Lw.run
    (by kernel_rfl) (by kernel_rfl) (by kernel_rfl) (by rfl) (by first | assumption | decide +kernel) (by decide +kernel) ⟨rfl, rfl, rfl, rfl, rfl, by decide +kernel⟩ ?hw ?hc
  case hw => w_witness2
  case hc =>
    refine walk_S (l := PySem.Challenge.rw_treesofsteps_k21_whole_fractions) (n := 63) (c := Lw.c_law) (pn := "script") rfl (by decide) (by kernel_rfl) ⟨rfl, by decide, by decide⟩ rfl (fun w K mg h base X G c _ _ tb => ?_) Lw.run_law
    have e : (HandSHeadRun.topDef (PySem.W.OpenLaw.row PySem.Challenge.rw_treesofsteps_k21_whole_fractions).prog 52).name = ("law" : PySem.Str) := by kernel_rfl
    rw [e]
    exact (Lw.f_law X G c tb).1
