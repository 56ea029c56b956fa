import PyProof.Rows.All
import PyProof.InstStoreFacts
import KE.BytesMake
import KE.KLam
import KE.KSortAsk
import Wide.All
import OpenK.AllK
import Wide.FinOn
import PySem.Challenge.RW_og0088_01
set_option Elab.async false
set_option linter.all false
set_option tactic.hygienic false
set_option genSizeOf false
set_option genInjectivity false
set_option maxHeartbeats 8000000
set_option maxRecDepth 100000
section
namespace Mine
open PySem PySem.W
inductive V where
  | none | bool (b : Bool) | int (i : Int) | str (k : Nat) | bytes (b : List UInt8)
  | tup (l : List V) | list (l : List V) | dct (ks : List Nat) (l : List V)
  | rng (a b : Int) | mut (k : Nat) | clo (k : Nat) (l : List V)
  deriving Inhabited
inductive M where
  | list (l : List V)
  | dict (ks : List Nat) (l : List V)
  | inst (ks : List Nat) (l : List V)
  deriving Inhabited
noncomputable abbrev aj := Nat → Option V
noncomputable abbrev St := List M
inductive BI where | len | range | sorted | max | tuple | list | bytes
inductive BM where | append | pop | index | clear
inductive E where
  | lit (v : V)
  | loc (x : Nat)
  | glob (x : Nat)
  | tup (l : List E) | lst (l : List E) | mlst (l : List E)
  | dct (ks : List Nat) (l : List E) | mdct (ks : List Nat) (l : List E)
  | bin (op : Operator) (a b : E)
  | ifx (t a b : E)
  | cmp (op : CmpOp) (a b : E)
  | and (l : List E) | or (l : List E) | not (a : E)
  | idx (a i : E)
  | slc (a lo hi : E)
  | attr (a : E) (x : Nat)
  | call (f : Nat) (l : List E)
  | meth (o : E) (m : Nat) (l : List E)
  | bi (b : BI) (l : List E)
  | bm (o : E) (m : BM) (l : List E)
  | comp (xs : List Nat) (elt it : E) (ifs : List E) (mu en : Bool)
  | lam (k : Nat)
inductive T where
  | nm (x : Nat)
  | att (o : E) (x : Nat)
  | sub (o i : E)
  | nms (xs : List Nat)
  | subs (os is : List E)
inductive S where
  | ex (e : E)
  | ret (e : E)
  | asg (t : T) (e : E)
  | for_ (x : Nat) (it : E) (b : List S)
  | if_ (t : E) (a b : List S)
  | rz (t : E)
  | cont
  | fz
inductive Fl where
  | next | cont | ret (v : V) | exc
noncomputable abbrev aB := List V → St → Option (Option V × St)
structure Gam where
  f : Nat → aB
  m : Nat → aB
noncomputable def aF : Nat := 1048576
noncomputable def bX : List UInt8 → List UInt8 → Bool
  | [], [] => false
  | [], _ :: _ => true
  | _ :: _, [] => false
  | a :: as, b :: bs => if a = b then bX as bs else decide (a.toNat < b.toNat)
theorem ae {α : Type} {x : α} {P : Prop} (h : Option.none = some x) : P := nomatch h
section
variable {α : Type}
noncomputable def iq (v : V) (k : Int → Option α) : Option α := match v with | .int i => k i | _ => none
noncomputable def uX (v : V) (k : Nat → Option α) : Option α := match v with | .str i => k i | _ => none
noncomputable def yi (v : V) (k : List UInt8 → Option α) : Option α := match v with | .bytes i => k i | _ => none
noncomputable def pB (v : V) (k : List V → Option α) : Option α := match v with | .list i => k i | _ => none
noncomputable def oR (v : V) (k : List V → Option α) : Option α := match v with | .tup i => k i | _ => none
noncomputable def oN (v : V) (k : Nat → Option α) : Option α := match v with | .mut i => k i | _ => none
noncomputable def oO (m : M) (k : List V → Option α) : Option α := match m with | .list l => k l | _ => none
noncomputable def EZ (m : M) (k : List Nat → List V → Option α) : Option α := match m with | .dict ks l => k ks l | _ => none
noncomputable def l0 (m : M) (k : List Nat → List V → Option α) : Option α := match m with | .inst ks l => k ks l | _ => none
noncomputable def kg (σ : St) (i : Nat) (k : M → Option α) : Option α := match σ[i]? with | some m => k m | none => none
noncomputable def ip (v : V) (k : Bool → Option α) : Option α := match v with | .bool c => k c | _ => none
noncomputable def g9 {β : Type} (vs : List β) (o : Option α) : Option α := match vs with | [] => o | _ :: _ => none
noncomputable def f7 {β : Type} (vs : List β) (k : β → List β → Option α) : Option α := match vs with | [] => none | v :: vs => k v vs
noncomputable def one (vs : List V) (k : V → Option α) : Option α := f7 vs fun v vs => g9 vs (k v)
noncomputable def mp {β γ : Type} (o : Option (β × γ)) (f : β → γ → Option α) : Option α := match o with | none => none | some p => f p.1 p.2
variable {i : Int} {s : Nat} {y : List UInt8} {l vs : List V} {ks : List Nat} {v : V} {m : M} {σ : St} {d : α} {o : Option α}
@[simp] theorem GF {k : Int → Option α} : iq (.int i) k = k i := rfl
@[simp] theorem GH {k : Nat → Option α} : uX (.str s) k = k s := rfl
@[simp] theorem GI {k : List UInt8 → Option α} : yi (.bytes y) k = k y := rfl
@[simp] theorem GG {k : List V → Option α} : pB (.list l) k = k l := rfl
@[simp] theorem CV {k : List V → Option α} : oR (.tup l) k = k l := rfl
@[simp] theorem oQ {k : Nat → Option α} : oN (.mut s) k = k s := rfl
@[simp] theorem zB {k : List V → Option α} : oO (.list l) k = k l := rfl
@[simp] theorem F3 {k : List Nat → List V → Option α} : EZ (.dict ks l) k = k ks l := rfl
@[simp] theorem qw {k : List Nat → List V → Option α} : l0 (.inst ks l) k = k ks l := rfl
@[simp] theorem kZ {c : Bool} {k : Bool → Option α} : ip (.bool c) k = k c := rfl
@[simp] theorem CW {k : V → Option α} : one [v] k = k v := rfl
@[simp] theorem tB {β : Type} {v : β} {vs : List β} {k : β → List β → Option α} : f7 (v :: vs) k = k v vs := rfl
@[simp] theorem EW {β : Type} : g9 ([] : List β) o = o := rfl
@[simp] theorem bM {β γ : Type} {x : β} {y : γ} {f : β → γ → Option α} : mp (some (x, y)) f = f x y := rfl
@[simp] theorem nM {k : M → Option α} (h : σ[s]? = some m) : kg σ s k = k m := by unfold kg; rw [h]
@[elab_as_elim] theorem yh {C : V → Prop} {k : Int → Option α} (h : iq v k = some d) (f : ∀ i, k i = some d → C (.int i)) : C v := by cases v <;> first | exact f _ h | exact ae h
@[elab_as_elim] theorem CU {C : V → Prop} {k : Nat → Option α} (h : uX v k = some d) (f : ∀ i, k i = some d → C (.str i)) : C v := by cases v <;> first | exact f _ h | exact ae h
@[elab_as_elim] theorem uY {C : V → Prop} {k : List UInt8 → Option α} (h : yi v k = some d) (f : ∀ i, k i = some d → C (.bytes i)) : C v := by cases v <;> first | exact f _ h | exact ae h
@[elab_as_elim] theorem rH {C : V → Prop} {k : List V → Option α} (h : pB v k = some d) (f : ∀ i, k i = some d → C (.list i)) : C v := by cases v <;> first | exact f _ h | exact ae h
@[elab_as_elim] theorem oS {C : V → Prop} {k : List V → Option α} (h : oR v k = some d) (f : ∀ i, k i = some d → C (.tup i)) : C v := by cases v <;> first | exact f _ h | exact ae h
@[elab_as_elim] theorem oP {C : V → Prop} {k : Nat → Option α} (h : oN v k = some d) (f : ∀ i, k i = some d → C (.mut i)) : C v := by cases v <;> first | exact f _ h | exact ae h
@[elab_as_elim] theorem l4 {C : M → Prop} {k : List V → Option α} (h : oO m k = some d) (f : ∀ l, k l = some d → C (.list l)) : C m := by cases m <;> first | exact f _ h | exact ae h
@[elab_as_elim] theorem qv {C : M → Prop} {k : List Nat → List V → Option α} (h : l0 m k = some d) (f : ∀ ks l, k ks l = some d → C (.inst ks l)) : C m := by cases m <;> first | exact f _ _ h | exact ae h
theorem gg {C : Prop} {k : M → Option α} (h : kg σ s k = some d) (f : ∀ m, σ[s]? = some m → k m = some d → C) : C := by
  unfold kg at h
  revert h f
  cases σ[s]? with
  | none => exact fun h H => ae h
  | some m => exact fun h f => f m rfl h
@[elab_as_elim] theorem gI {C : V → Prop} {k : Bool → Option α} (h : ip v k = some d) (f : ∀ c, k c = some d → C (.bool c)) : C v := by cases v <;> first | exact f _ h | exact ae h
theorem aA {β γ : Type} {C : Prop} {x : Option (β × γ)} {k : β → γ → Option α} (h : mp x k = some d) (f : ∀ a b, x = some (a, b) → k a b = some d → C) : C := by
  cases x with
  | none => exact ae h
  | some p => exact f p.1 p.2 rfl h
@[elab_as_elim] theorem eG {β : Type} {vs : List β} {C : List β → Prop} {k : β → List β → Option α} (h : f7 vs k = some d) (f : ∀ v vs, k v vs = some d → C (v :: vs)) : C vs := by cases vs <;> first | exact f _ _ h | exact ae h
@[elab_as_elim] theorem gH {β : Type} {vs : List β} {C : List β → Prop} (h : g9 vs o = some d) (f : o = some d → C []) : C vs := by cases vs <;> first | exact f h | exact ae h
theorem aY {p : Prop} [Decidable p] {C : Prop} (h : (if p then o else none) = some d) (f : p → o = some d → C) : C := by
  by_cases q : p
  · rw [if_pos q] at h; exact f q h
  · rw [if_neg q] at h; exact ae h
theorem y7 {β : Type} {c : Bool} {x y r : β} {C : Prop} (h : (if c = true then x else y) = r) (f : c = true → x = r → C) (g : c = false → y = r → C) : C := by
  cases c with
  | true => exact f rfl h
  | false => exact g rfl h
@[elab_as_elim] theorem ac {C : α → Prop} {a : α} (h : some a = some d) (f : C a) : C d := by cases h; exact f
theorem bS {β : Type} {C : Prop} {x : Option β} {k : β → Option α} (h : x.bind k = some d) (f : ∀ a, x = some a → k a = some d → C) : C := by
  cases x with
  | none => exact ae h
  | some a => exact f a rfl h
end
noncomputable def pz (a b : V) : Option Bool := match a with
  | .int a => iq b fun b => some (a == b)
  | .str a => uX b fun b => some (a == b)
  | .bytes a => yi b fun b => some (a == b)
  | _ => none
noncomputable def pA : List V → List V → Option Bool
  | [], [] => some true
  | [], _ :: _ => some false
  | _ :: _, [] => some false
  | a :: as, b :: bs => (pz a b).bind fun x => (pA as bs).bind fun y => some (x && y)
noncomputable def vX (a b : V) : Option Bool := match a with
  | .tup a => oR b fun b => pA a b
  | .list a => pB b fun b => pA a b
  | a => pz a b
noncomputable def qp (a b : V) : Option Bool := match a with
  | .int a => iq b fun b => some (decide (a < b))
  | .bytes a => yi b fun b => some (bX a b)
  | _ => none
noncomputable def f8 (op : CmpOp) (a b : V) : Option Bool := match op with
  | .Lt => qp a b
  | .Gt => qp b a
  | .LtE => (qp b a).map (!·)
  | .GtE => (qp a b).map (!·)
  | _ => none
noncomputable def fF : CmpOp → Bool → Bool → Bool
  | .Lt, s, _ => s
  | .LtE, s, e => s || e
  | .Gt, s, e => !(s || e)
  | .GtE, s, _ => !s
  | _, _, _ => false
noncomputable def dY (op : CmpOp) : List V → List V → Option Bool
  | [], [] => some (fF op false true)
  | [], _ :: _ => some (fF op true false)
  | _ :: _, [] => some (fF op false false)
  | a :: as, b :: bs => (pz a b).bind fun c => if c = true then dY op as bs else f8 op a b
noncomputable def l5 (op : CmpOp) (a b : V) : Option Bool := match a with
  | .tup a => oR b fun b => match op with
    | .Gt => dY .Gt a b
    | .GtE => dY .GtE a b
    | _ => none
  | a => f8 op a b
noncomputable def sC (a : V) : List V → Option Bool
  | [] => some false
  | x :: xs => (pz x a).bind fun c => (sC a xs).bind fun d => some (c || d)
noncomputable def bq (σ : St) : V → V
  | .mut k => match σ[k]? with
    | some (.list l) => .list l
    | _ => .mut k
  | v => v
noncomputable def y8 (a b : V) : Option Bool := match b with
  | .tup l => sC a l
  | .list l => sC a l
  | .rng lo hi => iq a fun i => some (decide (lo ≤ i) && decide (i < hi))
  | _ => none
noncomputable def f6 (op : CmpOp) (a b : V) (σ : St) : Option Bool := match op with
  | .Eq => vX (bq σ a) (bq σ b)
  | .NotEq => (vX (bq σ a) (bq σ b)).map (!·)
  | .In => y8 a (bq σ b)
  | .NotIn => (y8 a (bq σ b)).map (!·)
  | op => l5 op a b
noncomputable def dA (op : Operator) (a b : V) : Option V := match op with
  | .Add => match a with
    | .int a => iq b fun b => some (.int (a + b))
    | .bytes a => yi b fun b => if a.length + b.length ≤ aF then some (.bytes (a ++ b)) else none
    | .list a => pB b fun b => if a.length + b.length ≤ aF then some (.list (a ++ b)) else none
    | _ => none
  | .Sub => iq a fun a => iq b fun b => some (.int (a - b))
  | .Mult => match a with
    | .int a => iq b fun b => if a.natAbs < 2 ^ 4000 ∧ b.natAbs < 2 ^ 64 then some (.int (a * b)) else none
    | .list a => iq b fun b => if a.length ≤ 1 ∧ 0 ≤ b ∧ b ≤ 1000 then some (.list (List.replicate b.toNat a).flatten) else none
    | _ => none
  | .Mod => iq a fun a => iq b fun b => if 0 < b then some (.int (a % b)) else none
  | .FloorDiv => iq a fun a => iq b fun b => if 0 < b ∧ b < 2 ^ 64 then some (.int (a / b)) else none
  | .Pow => iq a fun a => iq b fun b => if a.natAbs < 2 ^ 4000 ∧ 0 ≤ b ∧ b ≤ 1000 then some (.int (a ^ b.toNat)) else none
  | _ => none
noncomputable def jc (l : List V) (i : Int) : Option V := if 0 ≤ i then l[i.toNat]? else none
noncomputable def dW (k : Nat) : List Nat → List V → Option V
  | [], _ => none
  | a :: as, vs => f7 vs fun v vs => if a = k then some v else dW k as vs
noncomputable def cV {α : Type} (k : Nat) (v : α) : List Nat → List α → List α
  | [], _ => [v]
  | a :: as, xs => if a = k then v :: xs.tail else xs.headD v :: cV k v as xs.tail
theorem ew {α : Type} {k a : Nat} {v x : α} {as : List Nat} {xs : List α} : cV k v (a :: as) (x :: xs) = if a = k then v :: xs else x :: cV k v as xs := rfl
noncomputable def ca (k : Nat) : List Nat → List Nat
  | a :: as => if a = k then a :: as else a :: ca k as
  | [] => [k]
noncomputable def kK (i : V) (l : List V) : Option V := iq i fun i => if l.length ≤ aF then jc l i else none
noncomputable def g8 (a i : V) (σ : St) : Option V := match a with
  | .tup l => kK i l
  | .list l => kK i l
  | .dct ks l => uX i fun k => dW k ks l
  | .mut m => kg σ m fun x => match x with
    | .list l => kK i l
    | .dict ks l => uX i fun k => dW k ks l
    | _ => none
  | _ => none
noncomputable def part? : V → Option (Option Nat)
  | .none => some none
  | .int i => if 0 ≤ i ∧ i ≤ 1000000 then some (some i.toNat) else none
  | _ => none
noncomputable def mw {α : Type} (l : List α) (lo hi : Option Nat) : List α := (l.take (hi.getD l.length)).drop (lo.getD 0)
noncomputable def pc (a lo hi : V) : Option V := (part? lo).bind fun lo => (part? hi).bind fun hi => match a with
  | .bytes l => if l.length ≤ aF then some (.bytes (mw l lo hi)) else none
  | .tup l => if lo = none then hi.bind fun k => if k < l.length ∧ l.length ≤ aF then some (.tup (l.take k)) else none else none
  | .list l => if lo = none then hi.bind fun k => if l.length ≤ aF then some (.list (l.take k)) else none else none
  | _ => none
noncomputable def jv {α : Type} (c : Nat → Nat → Bool) : KasT α → α
  | .ret a => a
  | .ask i j k => jv c (k (c i j))
noncomputable def fJ (c : Nat → Nat → Bool) (n : Nat) : List Nat := (jv c (kas_sort n)).toList
noncomputable def hB (v : V) : Option Unit := oR v fun l => f7 l fun a H => yi a fun H => some ()
noncomputable def iH : List V → Bool
  | [] => true
  | v :: r => (hB v).isSome && iH r
noncomputable def t7 (v : V) : List V := match v with | .tup x => x | _ => []
noncomputable def rI (l : List V) : Bool := l.all fun a => l.all fun b => (dY .Lt (t7 a) (t7 b)).isSome
noncomputable def t9 (a b : V) : Bool := (oR a fun x => oR b fun y => dY .Lt x y).getD false
noncomputable def gn (l : List V) : Option V :=
  if l.length < 2 then some (.list l)
  else if l.length < 64 ∧ iH l = true ∧ rI l = true then
    some (.list ((fJ (fun i j => t9 (l.getD i .none) (l.getD j .none)) l.length).map fun i => l.getD i .none))
  else none
noncomputable def kR (a : V) : List V → Option V
  | [] => (f8 .Gt a a).bind fun H => some a
  | x :: xs => (f8 .Gt x a).bind fun c => kR (if c = true then x else a) xs
noncomputable def aR (a : Int) : Nat → List V
  | 0 => []
  | n + 1 => .int a :: aR (a + 1) n
noncomputable def uH (v : V) : Option V := match v with
  | .list l => if l.length ≤ aF then some (.int l.length) else none
  | .bytes l => if l.length ≤ aF then some (.int l.length) else none
  | _ => none
noncomputable def oz (v : V) : Option V := match v with
  | .list l => if l.length ≤ aF then some (.list l) else none
  | .tup l => if l.length ≤ aF then some (.list l) else none
  | _ => none
noncomputable def py (b : BI) (vs : List V) (σ : St) : Option V := match b with
  | .len => one vs fun v => uH (bq σ v)
  | .range => f7 vs fun v vs => iq v fun a => match vs with
    | [] => if 0 ≤ a ∧ a ≤ aF then some (.rng 0 a) else none
    | v :: vs => g9 vs (iq v fun n => if 0 ≤ a ∧ a ≤ n ∧ n ≤ aF then some (.rng a n) else none)
  | .sorted => one vs fun v => pB (bq σ v) gn
  | .max => one vs fun v => pB v fun l => f7 l fun a l => if l.length ≤ aF then kR a l else none
  | .tuple => one vs fun v => pB (bq σ v) fun l => if l.length ≤ aF then some (.tup l) else none
  | .list => one vs fun v => oz (bq σ v)
  | .bytes => one vs fun v => pB v fun l => one l fun x => iq x fun i => if i = 0 then some (.bytes [0]) else none
noncomputable def jk (a : V) : List V → Nat → Option Nat
  | [], _ => none
  | x :: xs, n => (pz x a).bind fun c => if c = true then (sC a xs).bind fun H => some n else jk a xs (n + 1)
noncomputable def yI (m : BM) (k : Nat) (vs l : List V) (σ : St) : Option (V × St) := match m with
  | .append => one vs fun v => if l.length < aF then some (.none, σ.set k (.list (l ++ [v]))) else none
  | .pop => one vs fun v => iq v fun i => if 0 ≤ i ∧ i < l.length ∧ l.length ≤ aF then some (l.getD i.toNat .none, σ.set k (.list (l.eraseIdx i.toNat))) else none
  | .clear => g9 vs (if l.length ≤ aF then some (.none, σ.set k (.list [])) else none)
  | .index => one vs fun v => if l.length ≤ aF then (jk v l 0).bind fun n => some (.int (n : Int), σ) else none
noncomputable def AY (m : BM) (o : V) (vs : List V) (σ : St) : Option (V × St) := oN o fun k => kg σ k fun x => oO x fun l => yI m k vs l σ
noncomputable def aS (v : V) (σ : St) : Option (Option Nat × List V) := match v with
  | .list l => if l.length ≤ aF then some (none, l) else none
  | .tup l => if l.length ≤ aF then some (none, l) else none
  | .rng a b => if 0 ≤ a ∧ a ≤ aF ∧ 0 ≤ b ∧ b ≤ aF then some (none, aR a (b - a).toNat) else none
  | .mut k => kg σ k fun m => oO m fun l => if l.length ≤ aF then some (some k, l) else none
  | _ => none
noncomputable def upd (ρ : aj) (x : Nat) (v : V) : aj := fun y => if y = x then some v else ρ y
noncomputable def ak : List Nat → List V → aj → Option aj
  | [], vs, ρ => g9 vs (some ρ)
  | x :: xs, vs, ρ => f7 vs fun v vs => ak xs vs (upd ρ x v)
noncomputable def dT (xs : List Nat) (v : V) (ρ : aj) : Option aj := if xs.length = 1 then some (upd ρ (xs.headD 0) v) else oR v fun vs => ak xs vs ρ
noncomputable def aL : List V → Int → List V
  | [], _ => []
  | v :: vs, n => .tup [.int n, v] :: aL vs (n + 1)
noncomputable def stays (o : Option Nat) (l : List V) (σ : St) : Bool := @decide (∀ k, o = some k → σ[k]? = some (.list l)) (Classical.propDecidable _)
theorem cL {o : Option Nat} {l : List V} {σ : St} : stays o l σ = true ↔ ∀ k, o = some k → σ[k]? = some (.list l) := by
  unfold stays; exact @decide_eq_true_iff _ (Classical.propDecidable _)
noncomputable def cA (elt : aj → St → Option (V × St)) (ifs : aj → St → Option (Bool × St)) (xs : List Nat) (o : Option Nat) (l₀ : List V) (ρ : aj) : List V → St → Option (List V × St)
  | [], σ => some ([], σ)
  | v :: vs, σ => (dT xs v ρ).bind fun ρ' => mp (ifs ρ' σ) fun c σ1 => if c = true
      then mp (elt ρ' σ1) fun y σ₂ => if stays o l₀ σ₂ = true then mp (cA elt ifs xs o l₀ ρ vs σ₂) fun ys σ3 => some (y :: ys, σ3) else none
      else if stays o l₀ σ1 = true then cA elt ifs xs o l₀ ρ vs σ1 else none
noncomputable def cy : List (List Nat) := [[71], [71, 4, 10], [71, 33, 65, 10], [71, 15], [71, 15], [71, 15], [3, 0, 19, 2]]
noncomputable def cz (ρ : aj) : List Nat → Option (List V)
  | [] => some []
  | x :: xs => (ρ x).bind fun v => (cz ρ xs).bind fun vs => some (v :: vs)
noncomputable def gv (x : Nat) : Option V := if x = 30 then some (.tup [.str 26, .str 13]) else none
noncomputable def vY (mu : Bool) (vs : List V) (σ : St) : V × St := if mu = true then (.mut σ.length, σ ++ [.list vs]) else (.list vs, σ)
noncomputable def lg (o : Option V) (σ : St) : Option (V × St) := o.bind fun v => some (v, σ)
@[elab_as_elim] theorem kX {C : St → Prop} {o : Option V} {v : V} {σ σ' : St} (h : lg o σ = some (v, σ')) (k : o = some v → C σ) : C σ' := by
  cases o with
  | none => exact ae h
  | some w => cases h; exact k rfl
@[elab_as_elim] theorem bE {α β : Type} {C : α → β → Prop} {a x : α} {b y : β} (h : some (a, b) = some (x, y)) (k : C a b) : C x y := by cases h; exact k
@[simp] theorem GE {v : V} {σ : St} : lg (some v) σ = some (v, σ) := rfl
section
variable (Γ : Gam)
mutual
noncomputable def a9 : E → aj → St → Option (V × St)
  | .lit v, _, σ => some (v, σ)
  | .loc x, ρ, σ => lg (ρ x) σ
  | .glob x, _, σ => lg (gv x) σ
  | .tup l, ρ, σ => mp (evEs l ρ σ) fun vs σ1 => some (.tup vs, σ1)
  | .lst l, ρ, σ => mp (evEs l ρ σ) fun vs σ1 => some (.list vs, σ1)
  | .mlst l, ρ, σ => mp (evEs l ρ σ) fun vs σ1 => some (.mut σ1.length, σ1 ++ [.list vs])
  | .dct ks l, ρ, σ => mp (evEs l ρ σ) fun vs σ1 => some (.dct ks vs, σ1)
  | .mdct ks l, ρ, σ => mp (evEs l ρ σ) fun vs σ1 => some (.mut σ1.length, σ1 ++ [.dict ks vs])
  | .bin op a b, ρ, σ => mp (a9 a ρ σ) fun x σ1 => mp (a9 b ρ σ1) fun y σ₂ => lg (dA op x y) σ₂
  | .ifx t a b, ρ, σ => mp (a9 t ρ σ) fun v σ1 => ip v fun c => if c = true then a9 a ρ σ1 else a9 b ρ σ1
  | .cmp op a b, ρ, σ => mp (a9 a ρ σ) fun x σ1 => mp (a9 b ρ σ1) fun y σ₂ => (f6 op x y σ₂).bind fun c => some (.bool c, σ₂)
  | .and l, ρ, σ => mp (evAnd l ρ σ) fun c σ1 => some (.bool c, σ1)
  | .or l, ρ, σ => mp (evOr l ρ σ) fun c σ1 => some (.bool c, σ1)
  | .not a, ρ, σ => mp (a9 a ρ σ) fun v σ1 => ip v fun c => some (.bool (!c), σ1)
  | .idx a i, ρ, σ => mp (a9 a ρ σ) fun x σ1 => mp (a9 i ρ σ1) fun y σ₂ => lg (g8 x y σ₂) σ₂
  | .slc a lo hi, ρ, σ => mp (a9 a ρ σ) fun x σ1 => mp (a9 lo ρ σ1) fun y σ₂ => mp (a9 hi ρ σ₂) fun z σ3 => lg (pc x y z) σ3
  | .attr a x, ρ, σ => mp (a9 a ρ σ) fun v σ1 => oN v fun k => kg σ1 k fun m => l0 m fun ks l => lg (dW x ks l) σ1
  | .call f l, ρ, σ => mp (evEs l ρ σ) fun vs σ1 => mp (Γ.f f vs σ1) lg
  | .meth o m l, ρ, σ => mp (a9 o ρ σ) fun v σ1 => oN v fun k => kg σ1 k fun x => l0 x fun H H => mp (evEs l ρ σ1) fun vs σ₂ => mp (Γ.m m (.mut k :: vs) σ₂) lg
  | .bi b l, ρ, σ => mp (evEs l ρ σ) fun vs σ1 => lg (py b vs σ1) σ1
  | .bm o m l, ρ, σ => mp (a9 o ρ σ) fun v σ1 => oN v fun k => kg σ1 k fun x => oO x fun H => mp (evEs l ρ σ1) fun vs σ₂ => AY m (.mut k) vs σ₂
  | .comp xs elt it ifs mu en, ρ, σ => mp (a9 it ρ σ) fun iv σ1 => mp (aS iv σ1) fun o l => if (!en || o.isSome) = true
      then mp (cA (fun ρ' σ' => a9 elt ρ' σ') (fun ρ' σ' => evAnd ifs ρ' σ') xs o l ρ (if en = true then aL l 0 else l) σ1) fun vs σ₂ => some (vY mu vs σ₂) else none
  | .lam k, ρ, σ => (cy[k]?).bind fun xs => (cz ρ xs).bind fun vs => some (.clo k vs, σ)
noncomputable def evEs : List E → aj → St → Option (List V × St)
  | [], _, σ => some ([], σ)
  | e :: es, ρ, σ => mp (a9 e ρ σ) fun v σ1 => mp (evEs es ρ σ1) fun vs σ₂ => some (v :: vs, σ₂)
noncomputable def evAnd : List E → aj → St → Option (Bool × St)
  | [], _, σ => some (true, σ)
  | e :: es, ρ, σ => mp (a9 e ρ σ) fun v σ1 => ip v fun c => if c = true then evAnd es ρ σ1 else some (false, σ1)
noncomputable def evOr : List E → aj → St → Option (Bool × St)
  | [], _, σ => some (false, σ)
  | e :: es, ρ, σ => mp (a9 e ρ σ) fun v σ1 => ip v fun c => if c = true then some (true, σ1) else evOr es ρ σ1
end
noncomputable def xb (k : Nat) (x : M) (i v : V) (σ : St) : Option St := match x with
  | .list l => iq i fun i => if 0 ≤ i ∧ i < l.length ∧ l.length ≤ aF then some (σ.set k (.list (l.set i.toNat v))) else none
  | .dict ks l => uX i fun s => if ks.length ≤ 100 then some (σ.set k (.dict (ca s ks) (cV s v ks l))) else none
  | _ => none
noncomputable def eY (o i v : V) (σ : St) : Option St := oN o fun k => kg σ k fun x => xb k x i v σ
noncomputable def cC : List E → List E → List V → aj → St → Option St
  | [], is, vs, _, σ => g9 is (g9 vs (some σ))
  | o :: os, is, vs, ρ, σ => f7 is fun i is => f7 vs fun v vs => mp (a9 Γ o ρ σ) fun x σ1 => mp (a9 Γ i ρ σ1) fun y σ₂ => (eY x y v σ₂).bind fun σ3 => cC os is vs ρ σ3
noncomputable def c9 : List Nat := [0, 2, 3, 6, 8, 9, 10, 11, 12, 13, 14]
noncomputable def nW (t : T) (v : V) (ρ : aj) (σ : St) : Option (aj × St) := match t with
  | .nm x => some (upd ρ x v, σ)
  | .att o x => mp (a9 Γ o ρ σ) fun w σ1 => oN w fun k => kg σ1 k fun m => l0 m fun ks l => if ks.length ≤ 100 ∧ c9.contains x = true then some (ρ, σ1.set k (.inst (ca x ks) (cV x v ks l))) else none
  | .sub o i => mp (a9 Γ o ρ σ) fun x σ1 => mp (a9 Γ i ρ σ1) fun y σ₂ => (eY x y v σ₂).bind fun σ3 => some (ρ, σ3)
  | .nms xs => oR v fun vs => (ak xs vs ρ).bind fun ρ' => some (ρ', σ)
  | .subs os is => oR v fun vs => (cC Γ os is vs ρ σ).bind fun σ' => some (ρ, σ')
noncomputable def sz (f : Fl) (p : aj × St) (k : Option (Fl × aj × St)) : Option (Fl × aj × St) := match f with
  | .ret r => some (.ret r, p)
  | .exc => none
  | _ => k
noncomputable def sW (f : Fl) (p : aj × St) (k : Option (Fl × aj × St)) : Option (Fl × aj × St) := match f with
  | .next => k
  | f => some (f, p)
section
variable {p : aj × St} {k : Option (Fl × aj × St)} {v : V} {f : Fl} {r : Fl × aj × St} {C : Prop}
@[simp] theorem Ez : sz (.ret v) p k = some (.ret v, p) := rfl
@[simp] theorem Ey : sz .next p k = k := rfl
@[simp] theorem Ew : sz .cont p k = k := rfl
@[simp] theorem F7 : sW (.ret v) p k = some (.ret v, p) := rfl
@[simp] theorem F6 : sW .next p k = k := rfl
@[simp] theorem F4 : sW .cont p k = some (.cont, p) := rfl
@[simp] theorem F5 : sW .exc p k = some (.exc, p) := rfl
end
noncomputable def cR (body : aj → St → Option (Fl × aj × St)) (x : Nat) : List V → aj → St → Option (Fl × aj × St)
  | [], ρ, σ => some (.next, ρ, σ)
  | v :: vs, ρ, σ => mp (body (upd ρ x v) σ) fun f p => sz f p (cR body x vs p.1 p.2)
mutual
noncomputable def ub : S → aj → St → Option (Fl × aj × St)
  | .ex e, ρ, σ => mp (a9 Γ e ρ σ) fun H σ1 => some (.next, ρ, σ1)
  | .ret e, ρ, σ => mp (a9 Γ e ρ σ) fun v σ1 => some (.ret v, ρ, σ1)
  | .asg t e, ρ, σ => mp (a9 Γ e ρ σ) fun v σ1 => (nW Γ t v ρ σ1).bind fun p => some (.next, p)
  | .for_ x it b, ρ, σ => mp (a9 Γ it ρ σ) fun iv σ1 => mp (aS iv σ1) fun o l => if o.isNone = true then cR (fun ρ' σ' => evSs b ρ' σ') x l ρ σ1 else none
  | .if_ t a b, ρ, σ => mp (a9 Γ t ρ σ) fun v σ1 => ip v fun c => if c = true then evSs a ρ σ1 else evSs b ρ σ1
  | .rz t, ρ, σ => mp (a9 Γ t ρ σ) fun v σ1 => ip v fun c => if c = true then some (.exc, ρ, σ1) else some (.next, ρ, σ1)
  | .cont, ρ, σ => some (.cont, ρ, σ)
  | .fz, ρ, σ => some (.next, ρ, σ)
noncomputable def evSs : List S → aj → St → Option (Fl × aj × St)
  | [], ρ, σ => some (.next, ρ, σ)
  | s :: ss, ρ, σ => mp (ub s ρ σ) fun f p => sW f p (evSs ss p.1 p.2)
end
noncomputable def ao : aj := fun H => none
noncomputable def o0 (f : Fl) (σ : St) : Option (Option V × St) := match f with
  | .ret v => some (some v, σ)
  | .next => some (some .none, σ)
  | .exc => some (none, σ)
  | .cont => none
noncomputable def d6 (ps : List Nat) (b : List S) : aB := fun args σ => (ak ps args ao).bind fun ρ => mp (evSs Γ b ρ σ) fun f p => o0 f p.2
end
section
variable {Γ : Gam} {ρ : aj} {σ : St} {v : V} {x y f k m : Nat} {l ifs es : List E} {ks xs : List Nat} {op : CmpOp} {a b i t o it elt lo hi e : E} {mu en : Bool}
@[simp] theorem Eh : a9 Γ (.lit v) ρ σ = some (v, σ) := rfl
@[simp] theorem z0 : a9 Γ (.loc x) ρ σ = lg (ρ x) σ := rfl
@[simp] theorem wy : a9 Γ (.glob x) ρ σ = lg (gv x) σ := rfl
@[simp] theorem q7 : a9 Γ (.tup l) ρ σ = mp (evEs Γ l ρ σ) fun vs σ1 => some (.tup vs, σ1) := rfl
@[simp] theorem tW : a9 Γ (.lst l) ρ σ = mp (evEs Γ l ρ σ) fun vs σ1 => some (.list vs, σ1) := rfl
@[simp] theorem rj : a9 Γ (.mlst l) ρ σ = mp (evEs Γ l ρ σ) fun vs σ1 => some (.mut σ1.length, σ1 ++ [.list vs]) := rfl
@[simp] theorem tT : a9 Γ (.dct ks l) ρ σ = mp (evEs Γ l ρ σ) fun vs σ1 => some (.dct ks vs, σ1) := rfl
@[simp] theorem rh : a9 Γ (.mdct ks l) ρ σ = mp (evEs Γ l ρ σ) fun vs σ1 => some (.mut σ1.length, σ1 ++ [.dict ks vs]) := rfl
@[simp] theorem tR {op : Operator} : a9 Γ (.bin op a b) ρ σ = mp (a9 Γ a ρ σ) fun x σ1 => mp (a9 Γ b ρ σ1) fun y σ₂ => lg (dA op x y) σ₂ := rfl
@[simp] theorem mD : a9 Γ (.ifx t a b) ρ σ = mp (a9 Γ t ρ σ) fun v σ1 => ip v fun c => if c = true then a9 Γ a ρ σ1 else a9 Γ b ρ σ1 := rfl
@[simp] theorem tS {op : CmpOp} : a9 Γ (.cmp op a b) ρ σ = mp (a9 Γ a ρ σ) fun x σ1 => mp (a9 Γ b ρ σ1) fun y σ₂ => (f6 op x y σ₂).bind fun c => some (.bool c, σ₂) := rfl
@[simp] theorem tO : a9 Γ (.and l) ρ σ = mp (evAnd Γ l ρ σ) fun c σ1 => some (.bool c, σ1) := rfl
@[simp] theorem xS : a9 Γ (.or l) ρ σ = mp (evOr Γ l ρ σ) fun c σ1 => some (.bool c, σ1) := rfl
@[simp] theorem tX : a9 Γ (.not a) ρ σ = mp (a9 Γ a ρ σ) fun v σ1 => ip v fun c => some (.bool (!c), σ1) := rfl
@[simp] theorem tU : a9 Γ (.idx a i) ρ σ = mp (a9 Γ a ρ σ) fun x σ1 => mp (a9 Γ i ρ σ1) fun y σ₂ => lg (g8 x y σ₂) σ₂ := rfl
@[simp] theorem tY : a9 Γ (.slc a lo hi) ρ σ = mp (a9 Γ a ρ σ) fun x σ1 => mp (a9 Γ lo ρ σ1) fun y σ₂ => mp (a9 Γ hi ρ σ₂) fun z σ3 => lg (pc x y z) σ3 := rfl
@[simp] theorem rg : a9 Γ (.attr a x) ρ σ = mp (a9 Γ a ρ σ) fun v σ1 => oN v fun k => kg σ1 k fun m => l0 m fun ks l => lg (dW x ks l) σ1 := rfl
@[simp] theorem mC : a9 Γ (.call f l) ρ σ = mp (evEs Γ l ρ σ) fun vs σ1 => mp (Γ.f f vs σ1) lg := rfl
@[simp] theorem ri : a9 Γ (.meth o m l) ρ σ = mp (a9 Γ o ρ σ) fun v σ1 => oN v fun k => kg σ1 k fun x => l0 x fun H H => mp (evEs Γ l ρ σ1) fun vs σ₂ => mp (Γ.m m (.mut k :: vs) σ₂) lg := rfl
@[simp] theorem xQ {b : BI} : a9 Γ (.bi b l) ρ σ = mp (evEs Γ l ρ σ) fun vs σ1 => lg (py b vs σ1) σ1 := rfl
@[simp] theorem xR {m : BM} : a9 Γ (.bm o m l) ρ σ = mp (a9 Γ o ρ σ) fun v σ1 => oN v fun k => kg σ1 k fun x => oO x fun H => mp (evEs Γ l ρ σ1) fun vs σ₂ => AY m (.mut k) vs σ₂ := rfl
@[simp] theorem jC : a9 Γ (.comp xs elt it ifs mu en) ρ σ = mp (a9 Γ it ρ σ) fun iv σ1 => mp (aS iv σ1) fun o l => if (!en || o.isSome) = true then mp (cA (fun ρ' σ' => a9 Γ elt ρ' σ') (fun ρ' σ' => evAnd Γ ifs ρ' σ') xs o l ρ (if en = true then aL l 0 else l) σ1) fun vs σ₂ => some (vY mu vs σ₂) else none := rfl
@[simp] theorem tV : a9 Γ (.lam k) ρ σ = (cy[k]?).bind fun xs => (cz ρ xs).bind fun vs => some (.clo k vs, σ) := rfl
@[simp] theorem tZ : evEs Γ [] ρ σ = some ([], σ) := rfl
@[simp] theorem eI : evEs Γ (e :: es) ρ σ = mp (a9 Γ e ρ σ) fun v σ1 => mp (evEs Γ es ρ σ1) fun vs σ₂ => some (v :: vs, σ₂) := rfl
@[simp] theorem Eg : evAnd Γ [] ρ σ = some (true, σ) := rfl
@[simp] theorem jB : evAnd Γ (e :: es) ρ σ = mp (a9 Γ e ρ σ) fun v σ1 => ip v fun c => if c = true then evAnd Γ es ρ σ1 else some (false, σ1) := rfl
@[simp] theorem Ei : evOr Γ [] ρ σ = some (false, σ) := rfl
@[simp] theorem mE : evOr Γ (e :: es) ρ σ = mp (a9 Γ e ρ σ) fun v σ1 => ip v fun c => if c = true then some (true, σ1) else evOr Γ es ρ σ1 := rfl
@[simp] theorem xT : ub Γ (.ex e) ρ σ = mp (a9 Γ e ρ σ) fun H σ1 => some (.next, ρ, σ1) := rfl
@[simp] theorem q9 : ub Γ (.ret e) ρ σ = mp (a9 Γ e ρ σ) fun v σ1 => some (.ret v, ρ, σ1) := rfl
@[simp] theorem mF {t : T} : ub Γ (.asg t e) ρ σ = mp (a9 Γ e ρ σ) fun v σ1 => (nW Γ t v ρ σ1).bind fun p => some (.next, p) := rfl
@[simp] theorem q8 {b : List S} : ub Γ (.for_ x it b) ρ σ = mp (a9 Γ it ρ σ) fun iv σ1 => mp (aS iv σ1) fun o l => if o.isNone = true then cR (fun ρ' σ' => evSs Γ b ρ' σ') x l ρ σ1 else none := rfl
@[simp] theorem lC {a b : List S} : ub Γ (.if_ t a b) ρ σ = mp (a9 Γ t ρ σ) fun v σ1 => ip v fun c => if c = true then evSs Γ a ρ σ1 else evSs Γ b ρ σ1 := rfl
@[simp] theorem u0 : ub Γ (.rz t) ρ σ = mp (a9 Γ t ρ σ) fun v σ1 => ip v fun c => if c = true then some (.exc, ρ, σ1) else some (.next, ρ, σ1) := rfl
@[simp] theorem DD : ub Γ .cont ρ σ = some (.cont, ρ, σ) := rfl
@[simp] theorem Gx : ub Γ .fz ρ σ = some (.next, ρ, σ) := rfl
@[simp] theorem Ek : evSs Γ [] ρ σ = some (.next, ρ, σ) := rfl
@[simp] theorem bU {s : S} {ss : List S} : evSs Γ (s :: ss) ρ σ = mp (ub Γ s ρ σ) fun f p => sW f p (evSs Γ ss p.1 p.2) := rfl
end
end Mine
end
section
namespace Mine
open PySem
noncomputable def CK : List Str := [
  ⟨#[99, 111, 110, 116, 101, 110, 116]⟩ /- 0 content -/,
  ⟨#[115, 101, 108, 102]⟩ /- 1 self -/,
  ⟨#[109, 111, 100, 101]⟩ /- 2 mode -/,
  ⟨#[97, 99, 99, 101, 115, 115]⟩ /- 3 access -/,
  ⟨#[107, 101, 121]⟩ /- 4 key -/,
  ⟨#[97, 108, 116, 101, 114, 110, 97, 116, 101, 115]⟩ /- 5 alternates -/,
  ⟨#[107, 101, 121, 115]⟩ /- 6 keys -/,
  ⟨#[112, 108, 97, 99, 101]⟩ /- 7 place -/,
  ⟨#[115, 116, 97, 109, 112, 115]⟩ /- 8 stamps -/,
  ⟨#[110, 101, 120, 116, 95, 115, 116, 97, 109, 112]⟩ /- 9 next_stamp -/,
  ⟨#[119, 104, 105, 99, 104]⟩ /- 10 which -/,
  ⟨#[97, 116]⟩ /- 11 at -/,
  ⟨#[105, 115, 95, 110, 111, 119, 104, 101, 114, 101]⟩ /- 12 is_nowhere -/,
  ⟨#[114, 101, 97, 100, 95, 108, 97, 115, 116]⟩ /- 13 read_last -/,
  ⟨#[104, 105, 103, 104, 101, 115, 116]⟩ /- 14 highest -/,
  ⟨#[114, 101, 99, 111, 114, 100]⟩ /- 15 record -/,
  ⟨#[119, 111, 114, 116, 104]⟩ /- 16 worth -/,
  ⟨#[111, 102, 102, 115, 101, 116]⟩ /- 17 offset -/,
  ⟨#[115, 105, 122, 101]⟩ /- 18 size -/,
  ⟨#[105, 115, 95, 100, 111, 117, 98, 108, 101]⟩ /- 19 is_double -/,
  ⟨#[102, 111, 117, 110, 100]⟩ /- 20 found -/,
  ⟨#[119, 97, 110, 116, 101, 100]⟩ /- 21 wanted -/,
  ⟨#[111, 119, 110]⟩ /- 22 own -/,
  ⟨#[115, 116, 97, 116, 117, 115]⟩ /- 23 status -/,
  ⟨#[114, 111, 119]⟩ /- 24 row -/,
  ⟨#[115, 116, 97, 109, 112]⟩ /- 25 stamp -/,
  ⟨#[115, 116, 97, 110, 100]⟩ /- 26 stand -/,
  ⟨#[111, 110, 101]⟩ /- 27 one -/,
  ⟨#[111, 114, 100, 101, 114, 101, 100]⟩ /- 28 ordered -/,
  ⟨#[109, 111, 114, 101]⟩ /- 29 more -/,
  ⟨#[82, 69, 65, 68, 73, 78, 71]⟩ /- 30 READING -/,
  ⟨#[108, 111, 115, 101]⟩ /- 31 lose -/,
  ⟨#[112, 97, 114, 116]⟩ /- 32 part -/,
  ⟨#[111, 112]⟩ /- 33 op -/,
  ⟨#[116, 117, 114, 110, 101, 100]⟩ /- 34 turned -/,
  ⟨#[110, 117, 109, 98, 101, 114, 115]⟩ /- 35 numbers -/,
  ⟨#[111, 116, 104, 101, 114, 115, 95, 119, 105, 116, 104]⟩ /- 36 others_with -/,
  ⟨#[109, 97, 121, 95, 119, 114, 105, 116, 101]⟩ /- 37 may_write -/,
  ⟨#[112, 108, 97, 99, 101, 95, 111, 102]⟩ /- 38 place_of -/,
  ⟨#[100, 111, 117, 98, 108, 101, 100]⟩ /- 39 doubled -/,
  ⟨#[112, 117, 116]⟩ /- 40 put -/,
  ⟨#[108, 97, 115, 116, 95, 112, 108, 97, 99, 101]⟩ /- 41 last_place -/,
  ⟨#[111, 108, 100]⟩ /- 42 old -/,
  ⟨#[100, 114, 111, 112]⟩ /- 43 drop -/,
  ⟨#[98, 97, 103]⟩ /- 44 bag -/,
  ⟨#[109, 97, 110, 121]⟩ /- 45 many -/,
  ⟨#[110, 117, 109, 98, 101, 114]⟩ /- 46 number -/,
  ⟨#[99, 101, 108, 108]⟩ /- 47 cell -/,
  ⟨#[115, 99, 114, 105, 112, 116]⟩ /- 48 script -/,
  ⟨#[95, 108, 97, 119, 95, 116, 97, 107, 101]⟩ /- 49 _law_take -/,
  ⟨#[112, 114, 105, 109, 101]⟩ /- 50 prime -/,
  ⟨#[95, 108, 97, 119, 95, 112, 97, 114, 116]⟩ /- 51 _law_part -/,
  ⟨#[115, 116, 97, 116, 101]⟩ /- 52 state -/,
  ⟨#[95, 108, 97, 119, 95, 111, 114, 100, 101, 114]⟩ /- 53 _law_order -/,
  ⟨#[108, 97, 116, 101, 114]⟩ /- 54 later -/,
  ⟨#[95, 108, 97, 119, 95, 115, 116, 111, 111, 100]⟩ /- 55 _law_stood -/,
  ⟨#[111, 116, 104, 101, 114]⟩ /- 56 other -/,
  ⟨#[109, 105, 110, 101]⟩ /- 57 mine -/,
  ⟨#[105, 110, 95, 116, 117, 114, 110]⟩ /- 58 in_turn -/,
  ⟨#[112, 114, 105, 109, 101, 115]⟩ /- 59 primes -/,
  ⟨#[95, 108, 97, 119, 95, 100, 111, 117, 98, 108, 101, 100]⟩ /- 60 _law_doubled -/,
  ⟨#[95, 108, 97, 119, 95, 112, 117, 116]⟩ /- 61 _law_put -/,
  ⟨#[105, 115, 95, 100, 101, 108, 101, 116, 101]⟩ /- 62 is_delete -/,
  ⟨#[95, 108, 97, 119, 95, 114, 101, 99, 111, 114, 100]⟩ /- 63 _law_record -/,
  ⟨#[119, 97, 121]⟩ /- 64 way -/,
  ⟨#[115, 104, 111, 114, 116]⟩ /- 65 short -/,
  ⟨#[95, 108, 97, 119, 95, 110, 101, 120, 116]⟩ /- 66 _law_next -/,
  ⟨#[95, 108, 97, 119, 95, 97, 116]⟩ /- 67 _law_at -/,
  ⟨#[95, 108, 97, 119, 95, 115, 116, 97, 114, 116]⟩ /- 68 _law_start -/,
  ⟨#[95, 108, 97, 119, 95, 119, 114, 105, 116, 101]⟩ /- 69 _law_write -/,
  ⟨#[95, 108, 97, 119, 95, 99, 104, 97, 110, 103, 101]⟩ /- 70 _law_change -/,
  ⟨#[102, 105, 108, 101, 95, 104, 101, 114, 101]⟩ /- 71 file_here -/,
  ⟨#[95, 108, 97, 119, 95, 98, 97, 103]⟩ /- 72 _law_bag -/,
  ⟨#[116, 117, 114, 110]⟩ /- 73 turn -/,
  ⟨#[114, 111, 119, 115]⟩ /- 74 rows -/,
  ⟨#[95, 108, 97, 119, 95, 116, 111, 108, 100]⟩ /- 75 _law_told -/,
  ⟨#[109, 97, 100, 101]⟩ /- 76 made -/,
  ⟨#[95, 108, 97, 119, 95, 100, 101, 101, 100]⟩ /- 77 _law_deed -/,
  ⟨#[100, 117, 101]⟩ /- 78 due -/,
  ⟨#[100, 101, 101, 100]⟩ /- 79 deed -/,
  ⟨#[116, 111, 108, 100]⟩ /- 80 told -/,
  ⟨#[69, 120, 99, 101, 112, 116, 105, 111, 110]⟩ /- 81 Exception -/,
  ⟨#[70, 105, 108, 101, 70, 97, 117, 108, 116]⟩ /- 82 FileFault -/,
  ⟨#[75, 101, 121, 70, 105, 108, 101]⟩ /- 83 KeyFile -/,
  ⟨#[119, 104, 97, 116]⟩ /- 84 what -/,
  ⟨#[114, 101, 97, 100, 95, 110, 101, 120, 116]⟩ /- 85 read_next -/,
  ⟨#[114, 101, 97, 100, 95, 97, 116]⟩ /- 86 read_at -/,
  ⟨#[115, 116, 97, 114, 116]⟩ /- 87 start -/,
  ⟨#[119, 114, 105, 116, 101]⟩ /- 88 write -/,
  ⟨#[114, 101, 119, 114, 105, 116, 101]⟩ /- 89 rewrite -/,
  ⟨#[100, 101, 108, 101, 116, 101]⟩ /- 90 delete -/]
noncomputable def Df : List Str := [
  ⟨#[101, 120, 116, 101, 110, 100]⟩ /- 0 extend -/,
  ⟨#[115, 101, 113, 117, 101, 110, 116, 105, 97, 108]⟩ /- 1 sequential -/,
  ⟨#[111, 117, 116, 112, 117, 116]⟩ /- 2 output -/,
  ⟨#[48, 50]⟩ /- 3 02 -/,
  ⟨#[48, 48]⟩ /- 4 00 -/,
  ⟨#[114, 97, 110, 100, 111, 109]⟩ /- 5 random -/,
  ⟨#[52, 55]⟩ /- 6 47 -/,
  ⟨#[52, 54]⟩ /- 7 46 -/,
  ⟨#[49, 48]⟩ /- 8 10 -/,
  ⟨#[50, 51]⟩ /- 9 23 -/,
  ⟨#[62]⟩ /- 10 > -/,
  ⟨#[61]⟩ /- 11 = -/,
  ⟨#[50, 50]⟩ /- 12 22 -/,
  ⟨#[105, 45, 111]⟩ /- 13 i-o -/,
  ⟨#[52, 56]⟩ /- 14 48 -/,
  ⟨#[50, 49]⟩ /- 15 21 -/,
  ⟨#[52, 57]⟩ /- 16 49 -/,
  ⟨#[52, 51]⟩ /- 17 43 -/,
  ⟨#[114, 111, 119, 115]⟩ /- 18 rows -/,
  ⟨#[119, 104, 105, 99, 104]⟩ /- 19 which -/,
  ⟨#[110, 111, 119, 104, 101, 114, 101]⟩ /- 20 nowhere -/,
  ⟨#[108, 97, 115, 116]⟩ /- 21 last -/,
  ⟨#[97, 116]⟩ /- 22 at -/,
  ⟨#[97, 99, 99, 101, 115, 115]⟩ /- 23 access -/,
  ⟨#[111, 100, 100]⟩ /- 24 odd -/,
  ⟨#[109, 111, 100, 101]⟩ /- 25 mode -/,
  ⟨#[105, 110, 112, 117, 116]⟩ /- 26 input -/,
  ⟨#[62, 61]⟩ /- 27 >= -/,
  ⟨#[100, 111, 117, 98, 108, 101]⟩ /- 28 double -/,
  ⟨#[109, 97, 110, 121]⟩ /- 29 many -/,
  ⟨#[100, 121, 110, 97, 109, 105, 99]⟩ /- 30 dynamic -/]
noncomputable def ja : List Nat := [1, 0, 2, 3, 4, 5]
noncomputable def fb : List S := [
  .asg (.att (.loc 1) 0) (.loc 0),
  .asg (.att (.loc 1) 2) (.loc 2),
  .asg (.att (.loc 1) 3) (.loc 3),
  .asg (.att (.loc 1) 6) (.bin .Add (.lst [(.tup [(.idx (.loc 4) (.lit (.int 0))), (.idx (.loc 4) (.lit (.int 1))), (.lit (.bool false))])]) (.bi .list [(.loc 5)])),
  .rz (.and [(.cmp .Eq (.loc 2) (.lit (.str 0))), (.cmp .NotEq (.loc 3) (.lit (.str 1)))]),
  .if_ (.cmp .Eq (.loc 2) (.lit (.str 2))) [
    .ex (.bm (.loc 0) .clear [])] [],
  .asg (.att (.loc 1) 8) (.comp [7] (.bin .Mult (.lst [(.loc 7)]) (.bi .len [(.attr (.loc 1) 6)])) (.bi .range [(.bi .len [(.loc 0)])]) [] true false),
  .asg (.att (.loc 1) 9) (.bi .len [(.loc 0)]),
  .asg (.att (.loc 1) 10) (.lit (.int 0)),
  .asg (.att (.loc 1) 11) (.tup [(.lit (.bytes [])), (.lit (.int (-1)))]),
  .asg (.att (.loc 1) 12) (.lit (.bool false)),
  .asg (.att (.loc 1) 13) (.lit (.int (-1))),
  .asg (.att (.loc 1) 14) (.lit (.bytes [])),
  .if_ (.and [(.cmp .Eq (.loc 2) (.lit (.str 0))), (.cmp .NotEq (.loc 0) (.lst []))]) [
    .asg (.att (.loc 1) 14) (.bi .max [(.comp [15] (.meth (.loc 1) 16 [(.loc 15), (.lit (.int 0))]) (.loc 0) [] false false)])] []]
noncomputable def mj : List Nat := [1]
noncomputable def qR : List S := [
  .ret (.bi .tuple [(.attr (.loc 1) 0)])]
noncomputable def k9 : List Nat := [1, 15, 10]
noncomputable def nu : List S := [
  .asg (.nms [17, 18, 19]) (.idx (.attr (.loc 1) 6) (.loc 10)),
  .ret (.slc (.loc 15) (.loc 17) (.bin .Add (.loc 17) (.loc 18)))]
noncomputable def gw : List Nat := [1, 10]
noncomputable def jP : List S := [
  .asg (.nm 20) (.mlst []),
  .for_ 7 (.bi .range [(.bi .len [(.attr (.loc 1) 0)])]) [
    .ex (.bm (.loc 20) .append [(.tup [(.meth (.loc 1) 16 [(.idx (.attr (.loc 1) 0) (.loc 7)), (.loc 10)]), (.idx (.idx (.attr (.loc 1) 8) (.loc 7)) (.loc 10)), (.loc 7)])])],
  .ret (.bi .sorted [(.loc 20)])]
noncomputable def fo : List Nat := [1, 4]
noncomputable def j6 : List S := [
  .for_ 7 (.bi .range [(.bi .len [(.attr (.loc 1) 0)])]) [
    .if_ (.cmp .Eq (.meth (.loc 1) 16 [(.idx (.attr (.loc 1) 0) (.loc 7)), (.lit (.int 0))]) (.loc 4)) [
      .ret (.loc 7)] []],
  .ret (.lit (.int (-1)))]
noncomputable def dm : List Nat := [1, 15, 10, 22]
noncomputable def fc : List S := [
  .asg (.nm 21) (.meth (.loc 1) 16 [(.loc 15), (.loc 10)]),
  .for_ 7 (.bi .range [(.bi .len [(.attr (.loc 1) 0)])]) [
    .if_ (.and [(.cmp .NotEq (.loc 7) (.loc 22)), (.cmp .Eq (.meth (.loc 1) 16 [(.idx (.attr (.loc 1) 0) (.loc 7)), (.loc 10)]) (.loc 21))]) [
      .ret (.lit (.bool true))] []],
  .ret (.lit (.bool false))]
noncomputable def k7 : List Nat := [1, 10, 11]
noncomputable def nq : List S := [
  .asg (.att (.loc 1) 10) (.loc 10),
  .asg (.att (.loc 1) 11) (.loc 11),
  .asg (.att (.loc 1) 12) (.lit (.bool false))]
noncomputable def mi : List Nat := [1, 23]
noncomputable def qQ : List S := [
  .asg (.att (.loc 1) 12) (.lit (.bool true)),
  .asg (.att (.loc 1) 13) (.lit (.int (-1))),
  .ret (.tup [(.loc 23), (.lit (.bytes []))])]
noncomputable def k6 : List Nat := [1, 24, 10]
noncomputable def np : List S := [
  .asg (.nms [16, 25, 7]) (.loc 24),
  .ex (.meth (.loc 1) 26 [(.loc 10), (.ifx (.cmp .Gt (.loc 10) (.lit (.int 0))) (.tup [(.loc 16), (.loc 25)]) (.tup [(.bin .Add (.loc 16) (.lit (.bytes [0]))), (.lit (.int (-1)))]))]),
  .asg (.att (.loc 1) 13) (.idx (.idx (.attr (.loc 1) 8) (.loc 7)) (.lit (.int 0))),
  .asg (.nm 29) (.comp [27] (.loc 27) (.meth (.loc 1) 28 [(.loc 10)]) [(.and [(.cmp .Eq (.idx (.loc 27) (.lit (.int 0))) (.loc 16)), (.cmp .Gt (.idx (.loc 27) (.lit (.int 1))) (.loc 25))])] false false),
  .ret (.tup [(.ifx (.and [(.cmp .Gt (.loc 10) (.lit (.int 0))), (.cmp .NotEq (.loc 29) (.lst []))]) (.lit (.str 3)) (.lit (.str 4))), (.idx (.attr (.loc 1) 0) (.loc 7))])]
noncomputable def eE : List Nat := [1]
noncomputable def gN : List S := [
  .rz (.cmp .Eq (.attr (.loc 1) 3) (.lit (.str 5))),
  .if_ (.cmp .NotIn (.attr (.loc 1) 2) (.glob 30)) [
    .ret (.tup [(.lit (.str 6)), (.lit (.bytes []))])] [],
  .if_ (.attr (.loc 1) 12) [
    .asg (.att (.loc 1) 13) (.lit (.int (-1))),
    .ret (.tup [(.lit (.str 7)), (.lit (.bytes []))])] [],
  .for_ 24 (.meth (.loc 1) 28 [(.attr (.loc 1) 10)]) [
    .if_ (.cmp .Gt (.tup [(.idx (.loc 24) (.lit (.int 0))), (.idx (.loc 24) (.lit (.int 1)))]) (.attr (.loc 1) 11)) [
      .ret (.meth (.loc 1) 20 [(.loc 24), (.attr (.loc 1) 10)])] []],
  .ret (.meth (.loc 1) 31 [(.lit (.str 8))])]
noncomputable def gx : List Nat := [1, 4, 10]
noncomputable def jQ : List S := [
  .rz (.cmp .Eq (.attr (.loc 1) 3) (.lit (.str 1))),
  .if_ (.cmp .NotIn (.attr (.loc 1) 2) (.glob 30)) [
    .ret (.tup [(.lit (.str 6)), (.lit (.bytes []))])] [],
  .for_ 24 (.meth (.loc 1) 28 [(.loc 10)]) [
    .if_ (.cmp .Eq (.idx (.loc 24) (.lit (.int 0))) (.loc 4)) [
      .ret (.meth (.loc 1) 20 [(.loc 24), (.loc 10)])] []],
  .ret (.meth (.loc 1) 31 [(.lit (.str 9))])]
noncomputable def k8 : List Nat := [1, 33, 4, 10]
noncomputable def nr : List S := [
  .rz (.cmp .Eq (.attr (.loc 1) 3) (.lit (.str 5))),
  .if_ (.cmp .NotIn (.attr (.loc 1) 2) (.glob 30)) [
    .ret (.lit (.str 6))] [],
  .asg (.att (.loc 1) 13) (.lit (.int (-1))),
  .for_ 24 (.meth (.loc 1) 28 [(.loc 10)]) [
    .asg (.nm 32) (.slc (.idx (.loc 24) (.lit (.int 0))) (.lit .none) (.bi .len [(.loc 4)])),
    .if_ (.or [(.and [(.cmp .NotEq (.loc 33) (.lit (.str 10))), (.cmp .Eq (.loc 32) (.loc 4))]), (.and [(.cmp .NotEq (.loc 33) (.lit (.str 11))), (.cmp .Gt (.loc 32) (.loc 4))])]) [
      .ex (.meth (.loc 1) 26 [(.loc 10), (.tup [(.idx (.loc 24) (.lit (.int 0))), (.bin .Sub (.idx (.loc 24) (.lit (.int 1))) (.lit (.int 1)))])]),
      .ret (.lit (.str 4))] []],
  .ret (.idx (.meth (.loc 1) 31 [(.lit (.str 9))]) (.lit (.int 0)))]
noncomputable def pK : List Nat := [1, 15, 8, 34]
noncomputable def tb : List S := [
  .ex (.bm (.attr (.loc 1) 0) .append [(.loc 15)]),
  .ex (.bm (.attr (.loc 1) 8) .append [(.comp [10] (.ifx (.cmp .In (.loc 10) (.loc 34)) (.attr (.loc 1) 9) (.idx (.loc 8) (.loc 10))) (.bi .range [(.bi .len [(.attr (.loc 1) 6)])]) [] false false)]),
  .asg (.att (.loc 1) 9) (.bin .Add (.attr (.loc 1) 9) (.lit (.int 1)))]
noncomputable def mh : List Nat := [1, 7]
noncomputable def qP : List S := [
  .ex (.bm (.attr (.loc 1) 0) .pop [(.loc 7)]),
  .ex (.bm (.attr (.loc 1) 8) .pop [(.loc 7)])]
noncomputable def gu : List Nat := [1, 15, 22, 35]
noncomputable def jO : List S := [
  .asg (.nm 23) (.lit (.str 4)),
  .for_ 10 (.loc 35) [
    .if_ (.meth (.loc 1) 36 [(.loc 15), (.loc 10), (.loc 22)]) [
      .if_ (.not (.idx (.idx (.attr (.loc 1) 6) (.loc 10)) (.lit (.int 2)))) [
        .ret (.lit (.str 12))] [],
      .asg (.nm 23) (.lit (.str 3))] []],
  .ret (.loc 23)]
noncomputable def gZ : List Nat := [1]
noncomputable def lZ : List S := [
  .if_ (.cmp .Eq (.attr (.loc 1) 3) (.lit (.str 1))) [
    .ret (.cmp .In (.attr (.loc 1) 2) (.tup [(.lit (.str 2)), (.lit (.str 0))]))] [],
  .ret (.cmp .In (.attr (.loc 1) 2) (.tup [(.lit (.str 2)), (.lit (.str 13))]))]
noncomputable def hG : List Nat := [1, 15]
noncomputable def gO : List S := [
  .if_ (.not (.meth (.loc 1) 37 [])) [
    .ret (.lit (.str 14))] [],
  .asg (.att (.loc 1) 13) (.lit (.int (-1))),
  .asg (.nm 4) (.meth (.loc 1) 16 [(.loc 15), (.lit (.int 0))]),
  .if_ (.cmp .Eq (.attr (.loc 1) 3) (.lit (.str 1))) [
    .if_ (.and [(.cmp .NotEq (.attr (.loc 1) 0) (.lst [])), (.cmp .LtE (.loc 4) (.attr (.loc 1) 14))]) [
      .ret (.lit (.str 15))] []] [
    .if_ (.cmp .GtE (.meth (.loc 1) 38 [(.loc 4)]) (.lit (.int 0))) [
      .ret (.lit (.str 12))] []],
  .asg (.nm 23) (.meth (.loc 1) 39 [(.loc 15), (.lit (.int (-1))), (.bi .range [(.lit (.int 1)), (.bi .len [(.attr (.loc 1) 6)])])]),
  .if_ (.cmp .NotEq (.loc 23) (.lit (.str 12))) [
    .ex (.meth (.loc 1) 40 [(.loc 15), (.lst []), (.bi .range [(.bi .len [(.attr (.loc 1) 6)])])]),
    .asg (.att (.loc 1) 14) (.loc 4)] [],
  .ret (.loc 23)]
noncomputable def gd : List Nat := [1]
noncomputable def lh : List S := [
  .asg (.nm 8) (.comp [24] (.idx (.loc 24) (.lit (.int 0))) (.attr (.loc 1) 8) [] true false),
  .ret (.ifx (.cmp .In (.attr (.loc 1) 13) (.loc 8)) (.bm (.loc 8) .index [(.attr (.loc 1) 13)]) (.lit (.int (-1))))]
noncomputable def gy : List Nat := [1, 15]
noncomputable def dj : List S := [
  .if_ (.cmp .NotEq (.attr (.loc 1) 2) (.lit (.str 13))) [
    .ret (.lit (.str 16))] [],
  .asg (.nm 4) (.meth (.loc 1) 16 [(.loc 15), (.lit (.int 0))]),
  .asg (.nm 7) (.meth (.loc 1) 38 [(.loc 4)]),
  .if_ (.cmp .Eq (.attr (.loc 1) 3) (.lit (.str 1))) [
    .asg (.nm 7) (.meth (.loc 1) 41 []),
    .if_ (.cmp .Lt (.loc 7) (.lit (.int 0))) [
      .ret (.lit (.str 17))] [],
    .if_ (.cmp .NotEq (.meth (.loc 1) 16 [(.idx (.attr (.loc 1) 0) (.loc 7)), (.lit (.int 0))]) (.loc 4)) [
      .asg (.att (.loc 1) 13) (.lit (.int (-1))),
      .ret (.lit (.str 15))] []] [
    .if_ (.cmp .Lt (.loc 7) (.lit (.int 0))) [
      .ret (.lit (.str 9))] []],
  .asg (.att (.loc 1) 13) (.lit (.int (-1))),
  .asg (.nm 42) (.idx (.attr (.loc 1) 0) (.loc 7)),
  .asg (.nm 34) (.comp [10] (.loc 10) (.bi .range [(.lit (.int 1)), (.bi .len [(.attr (.loc 1) 6)])]) [(.cmp .NotEq (.meth (.loc 1) 16 [(.loc 42), (.loc 10)]) (.meth (.loc 1) 16 [(.loc 15), (.loc 10)]))] false false),
  .asg (.nm 23) (.meth (.loc 1) 39 [(.loc 15), (.loc 7), (.loc 34)]),
  .if_ (.cmp .Eq (.loc 23) (.lit (.str 12))) [
    .ret (.loc 23)] [],
  .if_ (.cmp .Eq (.loc 34) (.lst [])) [
    .asg (.sub (.attr (.loc 1) 0) (.loc 7)) (.loc 15)] [
    .asg (.nm 8) (.idx (.attr (.loc 1) 8) (.loc 7)),
    .ex (.meth (.loc 1) 43 [(.loc 7)]),
    .ex (.meth (.loc 1) 40 [(.loc 15), (.loc 8), (.loc 34)])],
  .ret (.loc 23)]
noncomputable def iG : List Nat := [1, 4]
noncomputable def ls : List S := [
  .if_ (.cmp .NotEq (.attr (.loc 1) 2) (.lit (.str 13))) [
    .ret (.lit (.str 16))] [],
  .asg (.nm 7) (.ifx (.cmp .Eq (.attr (.loc 1) 3) (.lit (.str 1))) (.meth (.loc 1) 41 []) (.meth (.loc 1) 38 [(.loc 4)])),
  .if_ (.cmp .Lt (.loc 7) (.lit (.int 0))) [
    .ret (.ifx (.cmp .Eq (.attr (.loc 1) 3) (.lit (.str 1))) (.lit (.str 17)) (.lit (.str 9)))] [],
  .asg (.att (.loc 1) 13) (.lit (.int (-1))),
  .ex (.meth (.loc 1) 43 [(.loc 7)]),
  .ret (.lit (.str 4))]
noncomputable def fm : List Nat := [44, 45]
noncomputable def j5 : List S := [
  .asg (.nm 16) (.bin .Mod (.idx (.loc 44) (.lit (.int 0))) (.loc 45)),
  .asg (.sub (.loc 44) (.lit (.int 0))) (.bin .FloorDiv (.idx (.loc 44) (.lit (.int 0))) (.loc 45)),
  .ret (.loc 16)]
noncomputable def jZ : List Nat := [48]
noncomputable def pC : List S := [
  .asg (.nm 46) (.lit (.int 7)),
  .for_ 47 (.slc (.loc 48) (.lit .none) (.lit (.int 24))) [
    .asg (.nm 46) (.bin .Add (.bin .Mult (.loc 46) (.lit (.int 1000033))) (.bin .Mod (.loc 47) (.bin .Pow (.lit (.int 10)) (.lit (.int 120)))))],
  .if_ (.cmp .Lt (.loc 46) (.bin .Pow (.lit (.int 10)) (.lit (.int 50)))) [
    .asg (.nm 46) (.bin .Pow (.loc 46) (.lit (.int 7)))] [],
  .ret (.mlst [(.loc 46)])]
noncomputable def dS : List Nat := [44]
noncomputable def gb : List S := [
  .asg (.nm 50) (.idx (.lst [(.lit (.bytes [97, 97])), (.lit (.bytes [97, 98])), (.lit (.bytes [98, 97])), (.lit (.bytes [98, 98])), (.lit (.bytes [98, 99])), (.lit (.bytes [99, 97]))]) (.call 49 [(.loc 44), (.lit (.int 6))])),
  .ret (.bin .Add (.bin .Add (.loc 50) (.idx (.lst [(.lit (.bytes [120])), (.lit (.bytes [121]))]) (.call 49 [(.loc 44), (.lit (.int 2))]))) (.idx (.lst [(.lit (.bytes [48])), (.lit (.bytes [49])), (.lit (.bytes [50])), (.lit (.bytes [51])), (.lit (.bytes [52]))]) (.call 49 [(.loc 44), (.lit (.int 5))])))]
noncomputable def fk : List Nat := [15, 10]
noncomputable def j4 : List S := [
  .ret (.idx (.lst [(.slc (.loc 15) (.lit .none) (.lit (.int 2))), (.slc (.loc 15) (.lit (.int 2)) (.lit (.int 3))), (.slc (.loc 15) (.lit (.int 3)) (.lit (.int 4)))]) (.loc 10))]
noncomputable def gX : List Nat := [52, 10]
noncomputable def lX : List S := [
  .ret (.bi .sorted [(.comp [35, 15] (.tup [(.call 51 [(.loc 15), (.loc 10)]), (.idx (.loc 35) (.loc 10)), (.loc 15), (.idx (.loc 35) (.lit (.int 0)))]) (.idx (.loc 52) (.lit (.str 18))) [] false false)])]
noncomputable def eD : List Nat := [52, 10, 24]
noncomputable def gM : List S := [
  .asg (.subs [(.loc 52), (.loc 52), (.loc 52)] [(.lit (.str 19)), (.lit (.str 20)), (.lit (.str 21))]) (.tup [(.loc 10), (.lit (.bool false)), (.idx (.loc 24) (.lit (.int 3)))]),
  .asg (.sub (.loc 52) (.lit (.str 22))) (.ifx (.cmp .Gt (.loc 10) (.lit (.int 0))) (.tup [(.idx (.loc 24) (.lit (.int 0))), (.bin .Add (.idx (.loc 24) (.lit (.int 1))) (.lit (.int 1)))]) (.tup [(.bin .Add (.idx (.loc 24) (.lit (.int 0))) (.bi .bytes [(.lst [(.lit (.int 0))])])), (.lit (.int 0))])),
  .asg (.nm 54) (.comp [27] (.lit (.int 1)) (.call 53 [(.loc 52), (.loc 10)]) [(.and [(.cmp .Eq (.idx (.loc 27) (.lit (.int 0))) (.idx (.loc 24) (.lit (.int 0)))), (.cmp .Gt (.idx (.loc 27) (.lit (.int 1))) (.idx (.loc 24) (.lit (.int 1))))])] false false),
  .ret (.tup [(.ifx (.and [(.cmp .Gt (.loc 10) (.lit (.int 0))), (.cmp .NotEq (.loc 54) (.lst []))]) (.lit (.str 3)) (.lit (.str 4))), (.idx (.loc 24) (.lit (.int 2)))])]
noncomputable def fj : List Nat := [52]
noncomputable def j3 : List S := [
  .if_ (.cmp .Eq (.idx (.loc 52) (.lit (.str 23))) (.lit (.str 5))) [
    .ret (.lit (.str 24))] [],
  .if_ (.cmp .NotIn (.idx (.loc 52) (.lit (.str 25))) (.tup [(.lit (.str 26)), (.lit (.str 13))])) [
    .ret (.tup [(.lit (.str 6)), (.lit (.bytes []))])] [],
  .asg (.sub (.loc 52) (.lit (.str 21))) (.lit (.int (-1))),
  .if_ (.idx (.loc 52) (.lit (.str 20))) [
    .ret (.tup [(.lit (.str 7)), (.lit (.bytes []))])] [],
  .for_ 24 (.call 53 [(.loc 52), (.idx (.loc 52) (.lit (.str 19)))]) [
    .if_ (.cmp .GtE (.slc (.loc 24) (.lit .none) (.lit (.int 2))) (.idx (.loc 52) (.lit (.str 22)))) [
      .ret (.call 55 [(.loc 52), (.idx (.loc 52) (.lit (.str 19))), (.loc 24)])] []],
  .asg (.sub (.loc 52) (.lit (.str 20))) (.lit (.bool true)),
  .ret (.tup [(.lit (.str 8)), (.lit (.bytes []))])]
noncomputable def iF : List Nat := [52, 4, 10]
noncomputable def lr : List S := [
  .if_ (.cmp .Eq (.idx (.loc 52) (.lit (.str 23))) (.lit (.str 1))) [
    .ret (.lit (.str 24))] [],
  .if_ (.cmp .NotIn (.idx (.loc 52) (.lit (.str 25))) (.tup [(.lit (.str 26)), (.lit (.str 13))])) [
    .ret (.tup [(.lit (.str 6)), (.lit (.bytes []))])] [],
  .for_ 24 (.call 53 [(.loc 52), (.loc 10)]) [
    .if_ (.cmp .Eq (.idx (.loc 24) (.lit (.int 0))) (.loc 4)) [
      .ret (.call 55 [(.loc 52), (.loc 10), (.loc 24)])] []],
  .asg (.subs [(.loc 52), (.loc 52)] [(.lit (.str 20)), (.lit (.str 21))]) (.tup [(.lit (.bool true)), (.lit (.int (-1)))]),
  .ret (.tup [(.lit (.str 9)), (.lit (.bytes []))])]
noncomputable def eC : List Nat := [52, 33, 4, 10]
noncomputable def gL : List S := [
  .if_ (.cmp .Eq (.idx (.loc 52) (.lit (.str 23))) (.lit (.str 5))) [
    .ret (.lit (.str 24))] [],
  .if_ (.cmp .NotIn (.idx (.loc 52) (.lit (.str 25))) (.tup [(.lit (.str 26)), (.lit (.str 13))])) [
    .ret (.lit (.str 6))] [],
  .asg (.sub (.loc 52) (.lit (.str 21))) (.lit (.int (-1))),
  .for_ 24 (.call 53 [(.loc 52), (.loc 10)]) [
    .asg (.nm 32) (.slc (.idx (.loc 24) (.lit (.int 0))) (.lit .none) (.bi .len [(.loc 4)])),
    .if_ (.idx (.dct [11, 10, 27] [(.cmp .Eq (.loc 32) (.loc 4)), (.cmp .Gt (.loc 32) (.loc 4)), (.cmp .GtE (.loc 32) (.loc 4))]) (.loc 33)) [
      .asg (.subs [(.loc 52), (.loc 52), (.loc 52)] [(.lit (.str 19)), (.lit (.str 22)), (.lit (.str 20))]) (.tup [(.loc 10), (.slc (.loc 24) (.lit .none) (.lit (.int 2))), (.lit (.bool false))]),
      .ret (.lit (.str 4))] []],
  .asg (.sub (.loc 52) (.lit (.str 20))) (.lit (.bool true)),
  .ret (.lit (.str 9))]
noncomputable def dk : List Nat := [52, 15, 22, 42]
noncomputable def f9 : List S := [
  .asg (.nm 23) (.lit (.str 4)),
  .for_ 10 (.tup [(.lit (.int 1)), (.lit (.int 2))]) [
    .if_ (.and [(.cmp .NotEq (.loc 42) (.lit (.bytes []))), (.cmp .Eq (.call 51 [(.loc 42), (.loc 10)]) (.call 51 [(.loc 15), (.loc 10)]))]) [
      .cont] [],
    .if_ (.cmp .NotEq (.comp [35, 56] (.lit (.int 1)) (.idx (.loc 52) (.lit (.str 18))) [(.and [(.cmp .NotEq (.idx (.loc 35) (.lit (.int 0))) (.loc 22)), (.cmp .Eq (.call 51 [(.loc 56), (.loc 10)]) (.call 51 [(.loc 15), (.loc 10)]))])] false false) (.lst [])) [
      .if_ (.and [(.cmp .Eq (.loc 10) (.lit (.int 2))), (.not (.idx (.loc 52) (.lit (.str 28))))]) [
        .ret (.lit (.str 12))] [],
      .asg (.nm 23) (.lit (.str 3))] []],
  .ret (.loc 23)]
noncomputable def gr : List Nat := [52, 15, 35, 42]
noncomputable def jN : List S := [
  .asg (.nm 45) (.idx (.loc 52) (.lit (.str 29))),
  .asg (.nm 57) (.comp [10] (.ifx (.and [(.cmp .NotEq (.loc 42) (.lit (.bytes []))), (.cmp .Eq (.call 51 [(.loc 42), (.loc 10)]) (.call 51 [(.loc 15), (.loc 10)]))]) (.idx (.loc 35) (.loc 10)) (.loc 45)) (.bi .range [(.lit (.int 3))]) [] false false),
  .asg (.subs [(.loc 52), (.loc 52)] [(.lit (.str 18)), (.lit (.str 29))]) (.tup [(.bin .Add (.idx (.loc 52) (.lit (.str 18))) (.lst [(.tup [(.bi .tuple [(.loc 57)]), (.loc 15)])])), (.bin .Add (.loc 45) (.lit (.int 1)))])]
noncomputable def gY : List Nat := [52, 15]
noncomputable def lY : List S := [
  .asg (.nm 58) (.cmp .Eq (.idx (.loc 52) (.lit (.str 23))) (.lit (.str 1))),
  .if_ (.cmp .NotIn (.idx (.loc 52) (.lit (.str 25))) (.ifx (.loc 58) (.tup [(.lit (.str 2)), (.lit (.str 0))]) (.tup [(.lit (.str 2)), (.lit (.str 13))]))) [
    .ret (.lit (.str 14))] [],
  .asg (.sub (.loc 52) (.lit (.str 21))) (.lit (.int (-1))),
  .asg (.nm 59) (.comp [35, 56] (.slc (.loc 56) (.lit .none) (.lit (.int 2))) (.idx (.loc 52) (.lit (.str 18))) [] false false),
  .if_ (.and [(.loc 58), (.cmp .NotEq (.loc 59) (.lst [])), (.cmp .LtE (.slc (.loc 15) (.lit .none) (.lit (.int 2))) (.bi .max [(.loc 59)]))]) [
    .ret (.lit (.str 15))] [],
  .if_ (.and [(.not (.loc 58)), (.cmp .In (.slc (.loc 15) (.lit .none) (.lit (.int 2))) (.loc 59))]) [
    .ret (.lit (.str 12))] [],
  .asg (.nm 23) (.call 60 [(.loc 52), (.loc 15), (.lit (.int (-1))), (.lit (.bytes []))]),
  .if_ (.cmp .NotEq (.loc 23) (.lit (.str 12))) [
    .ex (.call 61 [(.loc 52), (.loc 15), (.tup []), (.lit (.bytes []))])] [],
  .ret (.loc 23)]
noncomputable def dR : List Nat := [52, 15, 62]
noncomputable def ga : List S := [
  .if_ (.cmp .NotEq (.idx (.loc 52) (.lit (.str 25))) (.lit (.str 13))) [
    .ret (.lit (.str 16))] [],
  .asg (.nm 58) (.cmp .Eq (.idx (.loc 52) (.lit (.str 23))) (.lit (.str 1))),
  .asg (.nm 20) (.comp [24] (.loc 24) (.idx (.loc 52) (.lit (.str 18))) [(.ifx (.loc 58) (.cmp .Eq (.idx (.idx (.loc 24) (.lit (.int 0))) (.lit (.int 0))) (.idx (.loc 52) (.lit (.str 21)))) (.cmp .Eq (.slc (.idx (.loc 24) (.lit (.int 1))) (.lit .none) (.lit (.int 2))) (.slc (.loc 15) (.lit .none) (.lit (.int 2)))))] false false),
  .if_ (.cmp .Eq (.loc 20) (.lst [])) [
    .ret (.ifx (.loc 58) (.lit (.str 17)) (.lit (.str 9)))] [],
  .asg (.sub (.loc 52) (.lit (.str 21))) (.lit (.int (-1))),
  .asg (.nms [35, 42]) (.idx (.loc 20) (.lit (.int 0))),
  .if_ (.loc 62) [
    .asg (.sub (.loc 52) (.lit (.str 18))) (.comp [24] (.loc 24) (.idx (.loc 52) (.lit (.str 18))) [(.cmp .NotEq (.idx (.loc 24) (.lit (.int 1))) (.loc 42))] false false),
    .ret (.lit (.str 4))] [],
  .if_ (.cmp .NotEq (.slc (.loc 42) (.lit .none) (.lit (.int 2))) (.slc (.loc 15) (.lit .none) (.lit (.int 2)))) [
    .ret (.lit (.str 15))] [],
  .asg (.nm 23) (.call 60 [(.loc 52), (.loc 15), (.idx (.loc 35) (.lit (.int 0))), (.loc 42)]),
  .if_ (.and [(.cmp .NotEq (.loc 23) (.lit (.str 12))), (.cmp .NotEq (.slc (.loc 42) (.lit (.int 2)) (.lit .none)) (.slc (.loc 15) (.lit (.int 2)) (.lit .none)))]) [
    .asg (.sub (.loc 52) (.lit (.str 18))) (.comp [24] (.loc 24) (.idx (.loc 52) (.lit (.str 18))) [(.cmp .NotEq (.idx (.loc 24) (.lit (.int 1))) (.loc 42))] false false),
    .ex (.call 61 [(.loc 52), (.loc 15), (.loc 35), (.loc 42)])] [],
  .ret (.loc 23)]
noncomputable def fi : List Nat := [44, 52, 71]
noncomputable def aD : List S := [
  .asg (.nms [64, 15, 10]) (.tup [(.call 49 [(.loc 44), (.lit (.int 8))]), (.call 63 [(.loc 44)]), (.call 49 [(.loc 44), (.lit (.int 3))])]),
  .asg (.nms [4, 33]) (.tup [(.call 51 [(.loc 15), (.loc 10)]), (.idx (.lst [(.lit (.str 11)), (.lit (.str 10)), (.lit (.str 27))]) (.call 49 [(.loc 44), (.lit (.int 3))]))]),
  .asg (.nm 65) (.ifx (.cmp .Eq (.call 49 [(.loc 44), (.lit (.int 3))]) (.lit (.int 0))) (.slc (.loc 4) (.lit .none) (.lit (.int 1))) (.loc 4)),
  .fz,
  .if_ (.cmp .Lt (.loc 64) (.lit (.int 3))) [
    .ret (.tup [(.call 66 [(.loc 52)]), (.lam 0)])] [],
  .if_ (.cmp .Eq (.loc 64) (.lit (.int 3))) [
    .ret (.tup [(.call 67 [(.loc 52), (.loc 4), (.loc 10)]), (.lam 1)])] [],
  .if_ (.cmp .Eq (.loc 64) (.lit (.int 4))) [
    .ret (.tup [(.call 68 [(.loc 52), (.loc 33), (.loc 65), (.loc 10)]), (.lam 2)])] [],
  .if_ (.cmp .Eq (.loc 64) (.lit (.int 5))) [
    .ret (.tup [(.call 69 [(.loc 52), (.loc 15)]), (.lam 3)])] [],
  .if_ (.cmp .Eq (.loc 64) (.lit (.int 6))) [
    .ret (.tup [(.call 70 [(.loc 52), (.loc 15), (.lit (.bool false))]), (.lam 4)])] [],
  .ret (.tup [(.call 70 [(.loc 52), (.loc 15), (.lit (.bool true))]), (.lam 5)])]
noncomputable def xK : List Nat := [48]
noncomputable def d4 : List S := [
  .asg (.nm 44) (.call 72 [(.loc 48)]),
  .asg (.nms [2, 3]) (.tup [(.idx (.lst [(.lit (.str 13)), (.lit (.str 26)), (.lit (.str 13)), (.lit (.str 2)), (.lit (.str 0))]) (.call 49 [(.loc 44), (.lit (.int 5))])), (.idx (.lst [(.lit (.str 30)), (.lit (.str 1)), (.lit (.str 5))]) (.call 49 [(.loc 44), (.lit (.int 3))]))]),
  .asg (.nms [19, 0]) (.tup [(.cmp .Eq (.call 49 [(.loc 44), (.lit (.int 2))]) (.lit (.int 1))), (.mlst [])]),
  .for_ 73 (.bi .range [(.call 49 [(.loc 44), (.lit (.int 7))])]) [
    .asg (.nm 15) (.call 63 [(.loc 44)]),
    .if_ (.and [(.cmp .NotIn (.slc (.loc 15) (.lit .none) (.lit (.int 2))) (.comp [56] (.slc (.loc 56) (.lit .none) (.lit (.int 2))) (.loc 0) [] false false)), (.or [(.loc 19), (.cmp .NotIn (.slc (.loc 15) (.lit (.int 3)) (.lit .none)) (.comp [56] (.slc (.loc 56) (.lit (.int 3)) (.lit .none)) (.loc 0) [] false false))])]) [
      .ex (.bm (.loc 0) .append [(.loc 15)])] []],
  .asg (.nm 74) (.ifx (.cmp .Eq (.loc 2) (.lit (.str 2))) (.lst []) (.comp [46, 15] (.tup [(.tup [(.loc 46), (.loc 46), (.loc 46)]), (.loc 15)]) (.loc 0) [] false true)),
  .asg (.nm 52) (.mdct [18, 29, 25, 23, 28] [(.loc 74), (.bi .len [(.loc 74)]), (.loc 2), (.loc 3), (.loc 19)]),
  .asg (.subs [(.loc 52), (.loc 52), (.loc 52), (.loc 52)] [(.lit (.str 19)), (.lit (.str 22)), (.lit (.str 20)), (.lit (.str 21))]) (.tup [(.lit (.int 0)), (.tup [(.lit (.bytes [])), (.lit (.int (-1)))]), (.lit (.bool false)), (.lit (.int (-1)))]),
  .fz,
  .asg (.nm 76) (.call 75 [(.lam 6)]),
  .if_ (.and [(.cmp .Eq (.loc 2) (.lit (.str 0))), (.cmp .NotEq (.loc 3) (.lit (.str 1)))]) [
    .ret (.cmp .Eq (.loc 76) (.lit (.str 24)))] [],
  .for_ 73 (.bi .range [(.call 49 [(.loc 44), (.lit (.int 13))])]) [
    .asg (.nms [78, 79]) (.call 77 [(.loc 44), (.loc 52), (.loc 76)]),
    .if_ (.cmp .NotEq (.call 75 [(.loc 79)]) (.loc 78)) [
      .ret (.lit (.bool false))] [],
    .if_ (.or [(.cmp .NotEq (.meth (.loc 76) 80 []) (.bi .tuple [(.comp [35, 15] (.loc 15) (.idx (.loc 52) (.lit (.str 18))) [] false false)])), (.cmp .NotEq (.loc 0) (.bi .list [(.meth (.loc 76) 80 [])]))]) [
      .ret (.lit (.bool false))] []],
  .ret (.lit (.bool true))]
-- meth read_next: []
-- meth read_at: [(.loc 4), (.loc 10)]
-- meth start: [(.loc 33), (.loc 65), (.loc 10)]
-- meth write: [(.loc 15)]
-- meth rewrite: [(.loc 15)]
-- meth delete: [(.slc (.loc 15) (.lit .none) (.lit (.int 2)))]
-- new: [(.loc 0), (.loc 2), (.loc 3), (.tup [(.lit (.int 0)), (.lit (.int 2))]), (.lst [(.tup [(.lit (.int 2)), (.lit (.int 1)), (.lit (.bool true))]), (.tup [(.lit (.int 3)), (.lit (.int 1)), (.loc 19)])])]
noncomputable def vD : aB := fun H H => none
noncomputable def tab : List (Nat × aB) → Nat → aB
  | [], _ => vD
  | (k, d) :: r, n => if n = k then d else tab r n
noncomputable def bJ : Gam := ⟨tab [], tab []⟩
noncomputable def nE : aB := d6 bJ fm j5
noncomputable def w4 : aB := d6 bJ jZ pC
noncomputable def jV : aB := d6 bJ fk j4
noncomputable def nF : aB := d6 bJ mj qR
noncomputable def jX : aB := d6 bJ k9 nu
noncomputable def m7 : aB := d6 bJ k7 nq
noncomputable def qT : aB := d6 bJ mi qQ
noncomputable def qS : aB := d6 bJ mh qP
noncomputable def iE : aB := d6 bJ gZ lZ
noncomputable def gp : aB := d6 bJ gd lh
noncomputable def w7 : aB := d6 bJ pK tb
noncomputable def EA : List (Nat × aB) := [(49, nE), (51, jV), (72, w4)]
noncomputable def EU : List (Nat × aB) := [(80, nF), (16, jX), (26, m7), (31, qT), (43, qS), (37, iE), (41, gp), (40, w7)]
noncomputable def aV : Gam := ⟨tab EA, tab EU⟩
noncomputable def fS : aB := d6 aV dS gb
noncomputable def pI : aB := d6 aV gX lX
noncomputable def fP : aB := d6 aV dk f9
noncomputable def qU : aB := d6 aV gr jN
noncomputable def jR : aB := d6 aV ja fb
noncomputable def gS : aB := d6 aV gw jP
noncomputable def gT : aB := d6 aV fo j6
noncomputable def dG : aB := d6 aV dm fc
noncomputable def EB : List (Nat × aB) := (63, fS) :: (53, pI) :: (60, fP) :: (61, qU) :: EA
noncomputable def EV : List (Nat × aB) := (28, gS) :: (38, gT) :: (36, dG) :: EU
noncomputable def aE : Gam := ⟨tab EB, tab EV⟩
noncomputable def m0 : aB := d6 aE k6 np
noncomputable def gP : aB := d6 aE gu jO
noncomputable def m8 : aB := d6 aE k8 nr
noncomputable def jx : aB := d6 aE iG ls
noncomputable def m9 : aB := d6 aE eD gM
noncomputable def gR : aB := d6 aE eC gL
noncomputable def jy : aB := d6 aE gY lY
noncomputable def e8 : aB := d6 aE dR ga
noncomputable def ED : List (Nat × aB) := (55, m9) :: (68, gR) :: (69, jy) :: (70, e8) :: EB
noncomputable def DG : List (Nat × aB) := (20, m0) :: (39, gP) :: EV
noncomputable def aO : Gam := ⟨tab ED, tab DG⟩
noncomputable def fR : aB := d6 aO eE gN
noncomputable def jz : aB := d6 aO gx jQ
noncomputable def ma : aB := d6 aO hG gO
noncomputable def gU : aB := d6 aO gy dj
noncomputable def jS : aB := d6 aO fj j3
noncomputable def te : aB := d6 aO iF lr
noncomputable def EE : List (Nat × aB) := (66, jS) :: (67, te) :: ED
noncomputable def iP : Gam := ⟨tab EE, tab DG⟩
noncomputable def lu : aB := d6 iP fi aD
noncomputable def vW : Nat → List E
  | 1 => [.loc 4, .loc 10]
  | 2 => [.loc 33, .loc 65, .loc 10]
  | 3 => [.loc 15]
  | 4 => [.loc 15]
  | 5 => [.slc (.loc 15) (.lit .none) (.lit (.int 2))]
  | 6 => [.loc 0, .loc 2, .loc 3, .tup [.lit (.int 0), .lit (.int 2)], .lst [.tup [.lit (.int 2), .lit (.int 1), .lit (.bool true)], .tup [.lit (.int 3), .lit (.int 1), .loc 19]]]
  | _ => []
noncomputable def uO (D : aB) (k f : Nat) (ℓ : aj) (σ : St) : Option (Option V × St) := kg σ f fun m => l0 m fun H H => (evEs bJ (vW k) ℓ σ).bind fun p => D (.mut f :: p.1) p.2
noncomputable def wR (k : Nat) (D : aB) (cs : List V) (σ : St) : Option (Option V × St) := (cy[k]?).bind fun xs => (ak xs cs ao).bind fun ℓ => (ℓ 71).bind fun v => oN v fun f => uO D k f ℓ σ
noncomputable def oE (k : Nat) (q : Option V × St) : Option (Option V × St) := match q.1 with
  | some .none => some (some (.mut k), q.2)
  | some _ => none
  | none => some (none, q.2)
noncomputable def CA (cs : List V) (σ : St) : Option (Option V × St) := (ak [3, 0, 19, 2] cs ao).bind fun ℓ => (evEs bJ (vW 6) ℓ σ).bind fun p => (jR (.mut p.2.length :: p.1) (p.2 ++ [.inst [] []])).bind (oE p.2.length)
noncomputable def DL : Nat → aB
  | 0 => fR
  | 1 => jz
  | 2 => m8
  | 3 => ma
  | 4 => gU
  | 5 => jx
  | _ => vD
noncomputable def ia (k : Nat) (cs : List V) (σ : St) : Option (Option V × St) := if k = 6 then CA cs σ else wR k (DL k) cs σ
noncomputable def EY {α : Type} (v : V) (f : Nat → List V → Option α) : Option α := match v with | .clo k cs => f k cs | _ => none
@[simp] theorem CS {α : Type} {k : Nat} {cs : List V} {f : Nat → List V → Option α} : EY (.clo k cs) f = f k cs := rfl
@[elab_as_elim] theorem CT {α : Type} {v : V} {d : α} {C : V → Prop} {f : Nat → List V → Option α} (h : EY v f = some d) (k : ∀ j cs, f j cs = some d → C (.clo j cs)) : C v := by cases v <;> first | exact k _ _ h | exact ae h
noncomputable def cw : aB := fun args σ => one args fun v => EY v fun k cs => (ia k cs σ).bind fun q => some (some (q.1.getD (.str 24)), q.2)
noncomputable def H9 : List (Nat × aB) := (75, cw) :: (77, lu) :: EE
noncomputable def ck : Gam := ⟨tab H9, tab DG⟩
noncomputable def yA : aB := d6 ck xK d4
end Mine
end
section
namespace Mine
open PySem PySem.W PyProof.Rows PySem.Calls
noncomputable def ad (i : Nat) : Str := CK.getD i ⟨#[]⟩
noncomputable def dE (i : Nat) : Str := Df.getD i ⟨#[]⟩
structure Cx where
  prog : Program
  w : World
  B : Heap
  mg : Str → Option Value
  LI : Nat → Expr
noncomputable abbrev Cx.M (c : Cx) : Model := model c.prog c.w
def lj (p : Prop) (o o' : Obj) : Prop := o' = o ∨ (p ∧ (∃ es n, o.data = .dict es n ∧ es ≠ #[]) ∧ o'.cls = o.cls ∧ o'.dict = o.dict ∧ o'.data = o.data)
section
variable {p q : Prop}
theorem lj.rfl' {o : Obj} : lj p o o := .inl rfl
theorem lj.data {o o' : Obj} (x : lj p o o') : o'.data = o.data := by
  rcases x with rfl | ⟨_, _, _, _, h⟩
  · rfl
  · exact h
theorem lj.trans {a b c : Obj} (x : lj p a b) (y : lj p b c) : lj p a c := by
  rcases x with rfl | ⟨h0, h1, h2, h3, h4⟩
  · exact y
  · rcases y with rfl | ⟨g0, g1, g2, g3, g4⟩
    · exact .inr ⟨h0, h1, h2, h3, h4⟩
    · exact .inr ⟨h0, h1, g2.trans h2, g3.trans h3, g4.trans h4⟩
theorem lj.imp {o o' : Obj} (x : lj p o o') (k : p → q) : lj q o o' := Or.imp id (fun z => ⟨k z.1, z.2⟩) x
theorem lj.exact {o o' : Obj} (x : lj p o o') (n : ¬ p) : o' = o := Or.elim x id fun z => absurd z.1 n
end
structure Old (F X : Addr → Prop) (h h' : Heap) : Prop where
  live : ∀ b o, h.get? b = some o → ∃ o', h'.get? b = some o'
  keep : ∀ b o, h.get? b = some o → ¬ X b → ∃ o', h'.get? b = some o' ∧ lj (F b) o o'
namespace Old
variable {F G X Y : Addr → Prop} {h h' h'' : Heap}
theorem rfl' : Old F X h h := ⟨fun H o e => ⟨o, e⟩, fun b o e H => ⟨o, e, .rfl'⟩⟩
theorem trans (x : Old F X h h') (y : Old F X h' h'') : Old F X h h'' :=
  ⟨fun b o e => by obtain ⟨o1, e1⟩ := x.live b o e; exact y.live b o1 e1, fun b o e n => by
    obtain ⟨o1, e1, u1⟩ := x.keep b o e n
    obtain ⟨o2, e2, u2⟩ := y.keep b o1 e1 n
    exact ⟨o2, e2, u1.trans u2⟩⟩
theorem mono (x : Old F X h h') (k : ∀ b, X b → Y b) : Old F Y h h' := ⟨x.live, fun b o e n => x.keep b o e fun z => n (k b z)⟩
theorem fewer (x : Old G X h h') (k : ∀ b, G b → F b ∨ X b ∨ h.get? b = none) : Old F X h h' := ⟨x.live, fun b o e n => by
  obtain ⟨o', e', u⟩ := x.keep b o e n
  refine ⟨o', e', u.imp fun z => ?_⟩
  rcases k b z with z | z | z
  · exact z
  · exact absurd z n
  · rw [z] at e; cases e⟩
theorem exact (x : Old F X h h') {b : Addr} {o : Obj} (e : h.get? b = some o) (n : ¬ X b) (hc : ¬ F b) : h'.get? b = some o := by
  obtain ⟨o', e', u⟩ := x.keep b o e n
  rw [← u.exact hc]; exact e'
theorem trans' (x : Old F X h h') (y : Old F Y h' h'') (k : ∀ b, Y b → X b ∨ h.get? b = none) : Old F X h h'' :=
  ⟨fun b o e => by obtain ⟨o1, e1⟩ := x.live b o e; exact y.live b o1 e1, fun b o e n => by
    obtain ⟨o1, e1, u1⟩ := x.keep b o e n
    obtain ⟨o2, e2, u2⟩ := y.keep b o1 e1 fun z => (k b z).elim n fun q => by rw [q] at e; cases e
    exact ⟨o2, e2, u1.trans u2⟩⟩
end Old
structure Kp (S : Addr → Prop) (h h' : Heap) : Prop where
  live : ∀ b o, h.get? b = some o → ∃ o', h'.get? b = some o'
  keep : ∀ b o, h.get? b = some o → ¬ S b → h'.get? b = some o
namespace Kp
variable {S T : Addr → Prop} {h h' h'' : Heap}
theorem rfl' : Kp S h h := ⟨fun H o e => ⟨o, e⟩, fun H H e H => e⟩
theorem trans (x : Kp S h h') (y : Kp S h' h'') : Kp S h h'' := ⟨fun b o e => by obtain ⟨o1, e1⟩ := x.live b o e; exact y.live b o1 e1, fun b o e n => y.keep b o (x.keep b o e n) n⟩
theorem mono (x : Kp S h h') (k : ∀ b, S b → T b) : Kp T h h' := ⟨x.live, fun b o e n => x.keep b o e fun z => n (k b z)⟩
theorem push (h : Heap) (o : Obj) : Kp S h (h.push o) := ⟨fun b o' e => ⟨o', Heap.get?_push_of_some o e⟩, fun b o' e H => Heap.get?_push_of_some o e⟩
theorem of_same {a : Addr} {o' : Obj} (x : Heap.SameBut a h h') (ha : S a) (hl : h'.get? a = some o') : Kp S h h' := ⟨fun b o e => by
  by_cases z : b = a
  · subst z; exact ⟨_, hl⟩
  · exact ⟨o, (x.2 b z).trans e⟩, fun b o e n => (x.2 b fun z => n (z ▸ ha)).trans e⟩
theorem of_all (k : ∀ b o, h.get? b = some o → h'.get? b = some o) : Kp S h h' := ⟨fun b o e => ⟨o, k b o e⟩, fun b o e H => k b o e⟩
theorem old {F : Addr → Prop} (x : Kp S h h') : Old F S h h' := ⟨x.live, fun b o e n => ⟨o, x.keep b o e n, .rfl'⟩⟩
theorem trans' (x : Kp S h h') (y : Kp T h' h'') (k : ∀ b, T b → S b ∨ h.get? b = none) : Kp S h h'' :=
  ⟨fun b o e => by obtain ⟨o1, e1⟩ := x.live b o e; exact y.live b o1 e1, fun b o e n => y.keep b o (x.keep b o e n) fun z => (k b z).elim n fun q => by rw [q] at e; cases e⟩
end Kp
noncomputable abbrev aN := List (Addr × Option Addr)
noncomputable def f0 (ρ : aN) : List Addr := ρ.flatMap fun q => q.1 :: q.2.toList
theorem dn (a b : aN) : f0 (a ++ b) = f0 a ++ f0 b := by unfold f0; rw [List.flatMap_append]
theorem nJ (q : Addr × Option Addr) (r : aN) : f0 (q :: r) = (q.1 :: q.2.toList) ++ f0 r := by unfold f0; rw [List.flatMap_cons]
def MX (ρ : aN) (b : Addr) : Prop := b = 284 ∨ b = 298 ∨ b ∈ f0 ρ
inductive CloD (c : Cx) (X : Addr → Prop) (h : Heap) (k : Nat) (vs : List Value) : Value → Prop where
  | mk {f : Addr} {o : Obj} {qual : Str} {params : Arguments} {body : Expr} {scope : Scope} {cl : List (Str × Addr)} {pm : Value} {c' : Addr} {ctv : Value} {pos : Pos} {xs : List Nat} {as : List Addr} : ¬ X f → ¬ X c' → h.get? f = some o → o.cls = .type "function" → o.data = .func (kla_fn "<lambda>" qual params body scope cl pm (.ref c') ctv) →
      c.LI k = .Lambda params body scope pos → (∃ oc vs t, h.get? c' = some oc ∧ oc.data = .fields vs ∧ vs[1]? = some (.str qual t)) → cy[k]? = some xs → as.length = xs.length → vs.length = xs.length → (∀ (i x : Nat) (a : Addr), xs[i]? = some x → as[i]? = some a → cl.lookup (ad x) = some a) → (∀ n a, cl.lookup n = some a → a ∈ as) → (∀ a ∈ as, ¬ X a) →
      (∀ (i : Nat) (a : Addr) (v : Value), as[i]? = some a → vs[i]? = some v → ∃ oc, h.get? a = some oc ∧ oc.data = .cell (some v)) → CloD c X h k vs (.ref f)
section
variable (c : Cx) (X : Addr → Prop) (ρ : aN) (h : Heap)
mutual
def VR : V → Value → Prop
  | .none, v => v = .none
  | .bool b, v => v = .bool b
  | .int i, v => ∃ t, v = .int i t
  | .str k, v => k < 31 ∧ ∃ t, v = .str (dE k) t
  | .bytes b, v => ∃ t, v = .bytes b.toArray t
  | .tup l, v => ∃ p xs, v = .ref p ∧ ¬ X p ∧ h.IsTuple p xs.toArray ∧ VRs l xs
  | .list l, v => ∃ p xs, v = .ref p ∧ ¬ X p ∧ h.IsList p xs.toArray ∧ VRs l xs
  | .dct ks l, v => ∃ p xs, v = .ref p ∧ ¬ X p ∧ h.DictOf (strKind c.prog c.w) p ((ks.map dE).zip xs) ∧ (∀ k ∈ ks, k < 31) ∧ ks.length = xs.length ∧ VRs l xs
  | .rng a b, v => ∃ p t u w, v = .ref p ∧ ¬ X p ∧ IsRange h p a b 1 t u w
  | .mut k, v => ∃ q, ρ[k]? = some q ∧ v = .ref q.1
  | .clo k l, v => ∃ vs, CloD c X h k vs v ∧ VRs l vs
def VRs : List V → List Value → Prop
  | [], [] => True
  | a :: as, v :: vs => VR a v ∧ VRs as vs
  | _, _ => False
end
end
section
variable {c : Cx} {X X' : Addr → Prop} {ρ ρ' : aN} {h h' : Heap}
def aG (X X' : Addr → Prop) (h h' : Heap) : Prop := ∀ b o, h.get? b = some o → ¬ X b → h'.get? b = some o ∧ ¬ X' b
theorem aG.of_keep (k : ∀ b o, h.get? b = some o → ¬ X b → h'.get? b = some o ∧ ¬ X' b) : aG X X' h h' := k
theorem CloD.mono {k : Nat} {vs : List Value} {v : Value} (S : aG X X' h h') (r : CloD c X h k vs v) : CloD c X' h' k vs v := by
  obtain ⟨n, nc, ho, hoc, hod, hL, ⟨oc, ws, t, g1, g3⟩, hcap, l1, l2, k1, k0, k2, k3⟩ := r
  refine .mk (S _ _ ho n).2 (S _ oc g1 nc).2 (S _ _ ho n).1 hoc hod hL ⟨oc, ws, t, (S _ oc g1 nc).1, g3⟩ hcap l1 l2 k1 k0 (fun a ha => ?_) fun i a v hi hv => ?_
  · obtain ⟨i, hi, rfl⟩ := List.mem_iff_getElem.mp ha
    obtain ⟨oc, q1, q3⟩ := k3 i _ _ (List.getElem?_eq_getElem hi) (List.getElem?_eq_getElem (by rw [l2, ← l1]; exact hi))
    exact (S _ oc q1 (k2 _ ha)).2
  · obtain ⟨oc, q1, q3⟩ := k3 i a v hi hv
    exact ⟨oc, (S a oc q1 (k2 a (List.mem_of_getElem? hi))).1, q3⟩
mutual
theorem VR.mono (S : aG X X' h h') (hp : ρ <+: ρ') : ∀ {a : V} {v : Value}, VR c X ρ h a v → VR c X' ρ' h' a v
  | .none, _, e => by simpa [VR] using e
  | .bool _, _, e => by simpa [VR] using e
  | .int _, _, e => by simpa [VR] using e
  | .str _, _, e => by simpa [VR] using e
  | .bytes _, _, e => by simpa [VR] using e
  | .tup l, v, e => by
    rw [VR] at e ⊢
    obtain ⟨p, xs, rfl, n, ⟨o, ho, hc, r⟩, hl⟩ := e
    obtain ⟨e', n'⟩ := S p o ho n
    exact ⟨p, xs, rfl, n', ⟨o, e', hc, r⟩, VRs.mono S hp hl⟩
  | .list l, v, e => by
    rw [VR] at e ⊢
    obtain ⟨p, xs, rfl, n, ⟨o, ho, hc, r⟩, hl⟩ := e
    obtain ⟨e', n'⟩ := S p o ho n
    exact ⟨p, xs, rfl, n', ⟨o, e', hc, r⟩, VRs.mono S hp hl⟩
  | .dct ks l, v, e => by
    rw [VR] at e ⊢
    obtain ⟨p, xs, rfl, n, ⟨o, es, ep, ho, hx, r⟩, hk, hz, hl⟩ := e
    obtain ⟨e', n'⟩ := S p o ho n
    exact ⟨p, xs, rfl, n', ⟨o, es, ep, e', hx, r⟩, hk, hz, VRs.mono S hp hl⟩
  | .rng a b, v, e => by
    rw [VR] at e ⊢
    obtain ⟨p, t, u, w, rfl, n, hr⟩ := e
    obtain ⟨e', n'⟩ := S p _ hr n
    exact ⟨p, t, u, w, rfl, n', e'⟩
  | .mut k, v, e => by
    rw [VR] at e ⊢
    obtain ⟨q, hq, rfl⟩ := e
    exact ⟨q, by obtain ⟨r, rfl⟩ := hp; rw [List.getElem?_append_left (List.getElem?_eq_some_iff.mp hq).1]; exact hq, rfl⟩
  | .clo k l, v, e => by
    rw [VR] at e ⊢
    obtain ⟨vs, r, hl⟩ := e
    exact ⟨vs, r.mono S, VRs.mono S hp hl⟩
theorem VRs.mono (S : aG X X' h h') (hp : ρ <+: ρ') : ∀ {l : List V} {vs : List Value}, VRs c X ρ h l vs → VRs c X' ρ' h' l vs
  | [], [], _ => by simp [VRs]
  | a :: as, v :: vs, e => by
    rw [VRs] at e ⊢
    exact ⟨VR.mono S hp e.1, VRs.mono S hp e.2⟩
  | [], _ :: _, e => by simp [VRs] at e
  | _ :: _, [], e => by simp [VRs] at e
end
theorem VRs.length : ∀ {l : List V} {vs : List Value}, VRs c X ρ h l vs → l.length = vs.length
  | [], [], _ => rfl
  | a :: as, v :: vs, e => by
    rw [VRs] at e
    simp [VRs.length e.2]
  | [], _ :: _, e => by simp [VRs] at e
  | _ :: _, [], e => by simp [VRs] at e
theorem VRs.append : ∀ {l : List V} {vs : List Value} {l' : List V} {vs' : List Value}, VRs c X ρ h l vs → VRs c X ρ h l' vs' → VRs c X ρ h (l ++ l') (vs ++ vs')
  | [], [], _, _, _, y => y
  | a :: as, v :: vs, _, _, e, y => by
    rw [VRs] at e
    show VRs c X ρ h (a :: (as ++ _)) (v :: (vs ++ _))
    rw [VRs]
    exact ⟨e.1, VRs.append e.2 y⟩
  | [], _ :: _, _, _, e, _ => by simp [VRs] at e
  | _ :: _, [], _, _, e, _ => by simp [VRs] at e
theorem VRs.get : ∀ {l : List V} {vs : List Value} {i : Nat} {a : V}, VRs c X ρ h l vs → l[i]? = some a → ∃ v, vs[i]? = some v ∧ VR c X ρ h a v
  | a :: as, v :: vs, 0, _, e, q => by
    rw [VRs] at e
    cases q
    exact ⟨v, rfl, e.1⟩
  | a :: as, v :: vs, i + 1, _, e, q => by
    rw [VRs] at e
    exact VRs.get (i := i) e.2 (by simpa using q)
  | [], _, _, _, _, q => by simp at q
  | _ :: _, [], _, _, e, _ => by simp [VRs] at e
theorem VRs.get' : ∀ {l : List V} {vs : List Value} {i : Nat} {v : Value}, VRs c X ρ h l vs → vs[i]? = some v → ∃ a, l[i]? = some a ∧ VR c X ρ h a v
  | a :: as, v :: vs, 0, _, e, q => by
    rw [VRs] at e
    cases q
    exact ⟨a, rfl, e.1⟩
  | a :: as, v :: vs, i + 1, _, e, q => by
    rw [VRs] at e
    exact VRs.get' (i := i) e.2 (by simpa using q)
  | _, [], _, _, _, q => by simp at q
  | [], _ :: _, _, _, e, _ => by simp [VRs] at e
theorem VRs.set : ∀ {l : List V} {vs : List Value} {a : V} {v : Value} (i : Nat), VRs c X ρ h l vs → VR c X ρ h a v → VRs c X ρ h (l.set i a) (vs.set i v)
  | [], [], _, _, _, _, _ => by simp [VRs]
  | a :: as, v :: vs, _, _, 0, e, q => by
    rw [VRs] at e
    show VRs c X ρ h (_ :: as) (_ :: vs)
    rw [VRs]; exact ⟨q, e.2⟩
  | a :: as, v :: vs, _, _, i + 1, e, q => by
    rw [VRs] at e
    show VRs c X ρ h (a :: as.set i _) (v :: vs.set i _)
    rw [VRs]; exact ⟨e.1, VRs.set i e.2 q⟩
  | [], _ :: _, _, _, _, e, _ => by simp [VRs] at e
  | _ :: _, [], _, _, _, e, _ => by simp [VRs] at e
theorem VRs.take : ∀ {l : List V} {vs : List Value} (i : Nat), VRs c X ρ h l vs → VRs c X ρ h (l.take i) (vs.take i)
  | [], [], _, _ => by simp [VRs]
  | a :: as, v :: vs, 0, _ => by simp [VRs]
  | a :: as, v :: vs, i + 1, e => by
    rw [VRs] at e
    show VRs c X ρ h (a :: as.take i) (v :: vs.take i)
    rw [VRs]; exact ⟨e.1, VRs.take i e.2⟩
  | [], _ :: _, _, e => by simp [VRs] at e
  | _ :: _, [], _, e => by simp [VRs] at e
theorem VRs.drop : ∀ {l : List V} {vs : List Value} (i : Nat), VRs c X ρ h l vs → VRs c X ρ h (l.drop i) (vs.drop i)
  | [], [], _, _ => by simp [VRs]
  | a :: as, v :: vs, 0, e => e
  | a :: as, v :: vs, i + 1, e => by
    rw [VRs] at e
    exact VRs.drop i e.2
  | [], _ :: _, _, e => by simp [VRs] at e
  | _ :: _, [], _, e => by simp [VRs] at e
theorem VRs.eraseIdx : ∀ {l : List V} {vs : List Value} (i : Nat), VRs c X ρ h l vs → VRs c X ρ h (l.eraseIdx i) (vs.eraseIdx i)
  | [], [], _, _ => by simp [VRs]
  | a :: as, v :: vs, 0, e => by
    rw [VRs] at e
    exact e.2
  | a :: as, v :: vs, i + 1, e => by
    rw [VRs] at e
    show VRs c X ρ h (a :: as.eraseIdx i) (v :: vs.eraseIdx i)
    rw [VRs]; exact ⟨e.1, VRs.eraseIdx i e.2⟩
  | [], _ :: _, _, e => by simp [VRs] at e
  | _ :: _, [], _, e => by simp [VRs] at e
end
noncomputable def FC : Addr := 199
inductive Al : List Nat → List DictEntry → List Value → Prop where
  | nil : Al [] [] []
  | cons {k : Nat} {ks : List Nat} {e : DictEntry} {es : List DictEntry} {vs : List Value} : e.key.isStr (ad k) = true → Al ks es vs → Al (k :: ks) (e :: es) (e.val :: vs)
section
variable (c : Cx) (X : Addr → Prop) (ρ : aN) (h : Heap)
def MR (q : Addr × Option Addr) : M → Prop
  | .list l => ∃ xs n, q.2 = none ∧ h.get? q.1 = some (seqObj "list" xs.toArray n) ∧ VRs c X ρ h l xs
  | .dict ks l => ∃ xs, q.2 = none ∧ h.DictOf (strKind c.prog c.w) q.1 ((ks.map dE).zip xs) ∧ (∀ k ∈ ks, k < 31) ∧ ks.length = xs.length ∧ VRs c X ρ h l xs
  | .inst ks l => ∃ (dx : Addr) (sl : Array (Option Value)) (es : List DictEntry) (n : Nat) (xs : List Value), q.2 = some dx ∧ h.get? q.1 = some ⟨.ref FC, some dx, .plain, sl⟩ ∧ h.get? dx = some (dictOf es n) ∧ (∀ k ∈ ks, c9.contains k = true) ∧ Al ks es xs ∧ (∀ e ∈ es, DictEntry.refKey e = false) ∧ VRs c X ρ h l xs
def mn (cd P : Addr) (qual : Str) : Prop := ∃ ps, h.get? P = some (PySem.W.tabObj ps) ∧ TriplesOk ps.toList ∧
  ∀ pos cv, codeAmong pos ps.toList = some cv → ∃ c' oc vs t, cv = .ref c' ∧ ¬ X c' ∧ h.get? c' = some oc ∧ oc.data = .fields vs ∧ vs[1]? = some (.str qual t)
noncomputable def CZ : Str := ⟨#[108, 97, 119, 46, 60, 108, 111, 99, 97, 108, 115, 62, 46, 60, 108, 97, 109, 98, 100, 97, 62]⟩
noncomputable def yk : Str := ⟨#[95, 108, 97, 119, 95, 100, 101, 101, 100, 46, 60, 108, 111, 99, 97, 108, 115, 62, 46, 60, 108, 97, 109, 98, 100, 97, 62]⟩
structure WR (FX : Addr → Prop) (σ : St) : Prop where
  base : ∀ b o, c.B.get? b = some o → h.get? b = some o
  len : ρ.length = σ.length
  nd : (f0 ρ).Nodup
  at_ : ∀ (k : Nat) (q : Addr × Option Addr) (m : M), ρ[k]? = some q → σ[k]? = some m → MR c (fun b => MX ρ b ∨ FX b) ρ h q m
  new : ∀ b ∈ f0 ρ, c.B.get? b = none ∧ b ≠ 284 ∧ b ≠ 298
  t1 : mn (fun b => MX ρ b ∨ FX b) h 300 298 CZ
  t2 : mn (fun b => MX ρ b ∨ FX b) h 288 284 yk
  fx : ∀ b, FX b → (∃ o, h.get? b = some o) ∧ c.B.get? b = none ∧ ¬ MX ρ b
end
abbrev XX (ρ : aN) (FX : Addr → Prop) : Addr → Prop := fun b => MX ρ b ∨ FX b
structure Ps (c : Cx) (FX O : Addr → Prop) (ρ : aN) (s : Shared) (ρ' : aN) (σ' : St) (s' : Shared) : Prop where
  pre : ρ <+: ρ'
  wr : WR c ρ' s'.heap FX σ'
  old : Old FX (fun b => MX ρ b ∨ O b) s.heap s'.heap
  newp : ∀ b ∈ f0 ρ', b ∈ f0 ρ ∨ s.heap.get? b = none
  rest : s' = { s with heap := s'.heap, toks := s'.toks }
abbrev No : Addr → Prop := fun H => False
section
variable {c : Cx} {FX FY O O' : Addr → Prop} {ρ ρ' ρ'' : aN} {σ σ' σ'' : St} {s s' s'' : Shared} {h h' : Heap}
theorem Ps.stands (P : Ps c FX O ρ s ρ' σ' s') (ho : ∀ b, O b → FX b) : aG (XX ρ FX) (XX ρ' FX) s.heap s'.heap := fun b o e n => by
  refine ⟨P.old.exact e (fun z => n (z.imp id (ho b))) fun z => n (.inr z), fun z => ?_⟩
  rcases z with (z | z | z) | z
  · exact n (.inl (.inl z))
  · exact n (.inl (.inr (.inl z)))
  · rcases P.newp b z with q | q
    · exact n (.inl (.inr (.inr q)))
    · rw [q] at e; cases e
  · exact n (.inr z)
theorem Ps.vrO (P : Ps c FX O ρ s ρ' σ' s') (ho : ∀ b, O b → FX b) {a : V} {v : Value} (x : VR c (XX ρ FX) ρ s.heap a v) : VR c (XX ρ' FX) ρ' s'.heap a v := x.mono (P.stands ho) P.pre
theorem Ps.vr (P : Ps c FX No ρ s ρ' σ' s') {a : V} {v : Value} (x : VR c (XX ρ FX) ρ s.heap a v) : VR c (XX ρ' FX) ρ' s'.heap a v := P.vrO (fun H z => z.elim) x
theorem Ps.vrs (P : Ps c FX No ρ s ρ' σ' s') {a : List V} {v : List Value} (x : VRs c (XX ρ FX) ρ s.heap a v) : VRs c (XX ρ' FX) ρ' s'.heap a v := x.mono (P.stands fun H z => z.elim) P.pre
theorem Ps.rfl' (W : WR c ρ s.heap FX σ) : Ps c FX O ρ s ρ σ s := ⟨List.prefix_refl _, W, .rfl', fun H hb => .inl hb, rfl⟩
theorem Ps.weak (P : Ps c FX O ρ s ρ' σ' s') (k : ∀ b, O b → O' b) : Ps c FX O' ρ s ρ' σ' s' := ⟨P.pre, P.wr, P.old.mono fun b z => z.imp id (k b), P.newp, P.rest⟩
theorem Ps.toks (P : Ps c FX O ρ s ρ' σ' s') (t : Nat) : Ps c FX O ρ s ρ' σ' { s' with toks := t } := ⟨P.pre, P.wr, P.old, P.newp, by have := P.rest; rw [this]⟩
theorem Ps.trans (P : Ps c FX O ρ s ρ' σ' s') (Q : Ps c FX O ρ' s' ρ'' σ'' s'') : Ps c FX O ρ s ρ'' σ'' s'' := by
  refine ⟨P.pre.trans Q.pre, Q.wr, P.old.trans' Q.old fun b z => ?_, fun b hb => ?_, ?_⟩
  · rcases z with (z | z | z) | z
    · exact .inl (.inl (.inl z))
    · exact .inl (.inl (.inr (.inl z)))
    · rcases P.newp b z with q | q
      · exact .inl (.inl (.inr (.inr q)))
      · exact .inr q
    · exact .inl (.inr z)
  · rcases Q.newp b hb with q | q
    · exact P.newp b q
    · cases e : s.heap.get? b with
      | none => exact .inr rfl
      | some o => obtain ⟨o', e'⟩ := P.old.live b o e; rw [q] at e'; cases e'
  · have a := P.rest; have b := Q.rest
    rw [b, a]
theorem mn.mono {X X' : Addr → Prop} {cd P : Addr} {qual : Str} (S : aG X X' h h') (hP : h'.get? P = h.get? P) (x : mn X h cd P qual) : mn X' h' cd P qual := by
  obtain ⟨ps, e, ht, k⟩ := x
  refine ⟨ps, hP.trans e, ht, fun pos cv q => ?_⟩
  obtain ⟨c', oc, vs, t, rfl, n, g1, g3, g4⟩ := k pos cv q
  obtain ⟨e', n'⟩ := S c' oc g1 n
  exact ⟨c', oc, vs, t, rfl, n', e', g3, g4⟩
theorem MR.mono {X X' : Addr → Prop} {q : Addr × Option Addr} {m : M} (S : aG X X' h h') (hp : ρ <+: ρ') (h1 : h'.get? q.1 = h.get? q.1) (h2 : ∀ dx, q.2 = some dx → h'.get? dx = h.get? dx) (x : MR c X ρ h q m) : MR c X' ρ' h' q m := by
  cases m with
  | list l => obtain ⟨xs, n, z, e, r⟩ := x; exact ⟨xs, n, z, h1.trans e, r.mono S hp⟩
  | dict ks l =>
    obtain ⟨xs, z, ⟨o, es, ep, ho, y⟩, hk, hz, r⟩ := x
    exact ⟨xs, z, ⟨o, es, ep, h1.trans ho, y⟩, hk, hz, r.mono S hp⟩
  | inst ks l =>
    obtain ⟨dx, sl, es, n, xs, z, e1, e2, hk, y, y2, r⟩ := x
    exact ⟨dx, sl, es, n, xs, z, h1.trans e1, (h2 dx z).trans e2, hk, y, y2, r.mono S hp⟩
theorem MR.lt {X : Addr → Prop} {q : Addr × Option Addr} {m : M} (x : MR c X ρ h q m) : (∃ o, h.get? q.1 = some o) ∧ ∀ dx, q.2 = some dx → ∃ o, h.get? dx = some o := by
  cases m with
  | list l => obtain ⟨xs, n, z, e, r⟩ := x; exact ⟨⟨_, e⟩, fun dx q => by rw [z] at q; cases q⟩
  | dict ks l => obtain ⟨xs, z, ⟨o, es, ep, ho, y⟩, _⟩ := x; exact ⟨⟨_, ho⟩, fun dx q => by rw [z] at q; cases q⟩
  | inst ks l => obtain ⟨dx, sl, es, n, xs, z, e1, e2, _⟩ := x; exact ⟨⟨_, e1⟩, fun dx' q => by rw [z] at q; cases q; exact ⟨_, e2⟩⟩
theorem d9 {q : Addr × Option Addr} {b : Addr} (hq : q ∈ ρ) (hb : b = q.1 ∨ q.2 = some b) : b ∈ f0 ρ := by
  unfold f0
  refine List.mem_flatMap.mpr ⟨q, hq, ?_⟩
  rcases hb with rfl | hb
  · exact .head _
  · rw [hb]; exact .tail _ (.head _)
theorem cn {b : Addr} (hb : b ∈ f0 ρ) : ∃ q ∈ ρ, b = q.1 ∨ q.2 = some b := by
  unfold f0 at hb
  obtain ⟨q, hq, hb⟩ := List.mem_flatMap.mp hb
  refine ⟨q, hq, ?_⟩
  rcases List.mem_cons.mp hb with rfl | hb
  · exact .inl rfl
  · cases e : q.2 with
    | none => rw [e] at hb; cases hb
    | some d => rw [e] at hb; simp at hb; exact .inr (by rw [hb])
theorem WR.lt (W : WR c ρ h FX σ) {b : Addr} (hb : b ∈ f0 ρ) : ∃ o, h.get? b = some o := by
  obtain ⟨q, hq, z⟩ := cn hb
  obtain ⟨k, hk, rfl⟩ := List.mem_iff_getElem.mp hq
  have hk' : k < σ.length := by rw [← W.len]; exact hk
  have := (W.at_ k ρ[k] σ[k] (List.getElem?_eq_getElem hk) (List.getElem?_eq_getElem hk')).lt
  rcases z with rfl | z
  · exact this.1
  · exact this.2 b z
theorem WR.weak (W : WR c ρ h FX σ) (k : ∀ b, FY b → FX b) : WR c ρ h FY σ := by
  have S : aG (XX ρ FX) (XX ρ FY) h h := .of_keep fun b o e n => ⟨e, fun z => n (z.imp id (k b))⟩
  exact ⟨W.base, W.len, W.nd, fun i q m hq hm => (W.at_ i q m hq hm).mono S (List.prefix_refl _) rfl fun H H => rfl, W.new, W.t1.mono S rfl, W.t2.mono S rfl, fun b hb => W.fx b (k b hb)⟩
theorem WR.enter (W : WR c ρ h FX σ) (K : Kp No h h') (k : ∀ b, FY b → FX b ∨ (h.get? b = none ∧ ∃ o, h'.get? b = some o)) (kb : ∀ b, FX b → FY b) : WR c ρ h' FY σ := by
  have all : ∀ b o, h.get? b = some o → h'.get? b = some o := fun b o e => K.keep b o e fun z => z
  have S : aG (XX ρ FX) (XX ρ FY) h h' := .of_keep fun b o e n => ⟨all b o e, fun z => z.elim (fun z => n (.inl z)) fun z => (k b z).elim (fun z => n (.inr z)) fun z => by rw [z.1] at e; cases e⟩
  have mx : ∀ b, MX ρ b → ∃ o, h.get? b = some o := fun b z => by
    rcases z with rfl | rfl | z
    · obtain ⟨_, e, _⟩ := W.t2; exact ⟨_, e⟩
    · obtain ⟨_, e, _⟩ := W.t1; exact ⟨_, e⟩
    · obtain ⟨q, hq, z⟩ := cn z
      obtain ⟨i, hi, rfl⟩ := List.mem_iff_getElem.mp hq
      have hi' : i < σ.length := by rw [← W.len]; exact hi
      have := (W.at_ i ρ[i] σ[i] (List.getElem?_eq_getElem hi) (List.getElem?_eq_getElem hi')).lt
      rcases z with rfl | z
      · exact this.1
      · exact this.2 b z
  refine ⟨fun b o e => all b o (W.base b o e), W.len, W.nd, fun i q m hq hm => ?_, W.new, ?_, ?_, fun b hb => ?_⟩
  · have z := W.at_ i q m hq hm
    have y : h'.get? q.1 = h.get? q.1 ∧ ∀ dx, q.2 = some dx → h'.get? dx = h.get? dx := by
      have := z.lt
      refine ⟨?_, fun dx q => ?_⟩
      · obtain ⟨o, e⟩ := this.1; exact (all _ _ e).trans e.symm
      · obtain ⟨o, e⟩ := this.2 dx q; exact (all _ _ e).trans e.symm
    exact z.mono S (List.prefix_refl _) y.1 y.2
  · obtain ⟨ps, e, _⟩ := id W.t1; exact W.t1.mono S ((all _ _ e).trans e.symm)
  · obtain ⟨ps, e, _⟩ := id W.t2; exact W.t2.mono S ((all _ _ e).trans e.symm)
  · rcases k b hb with z | z
    · obtain ⟨o, e⟩ := (W.fx b z).1
      exact ⟨⟨o, all b o e⟩, (W.fx b z).2⟩
    · refine ⟨z.2, ?_, fun y => ?_⟩
      · cases e : c.B.get? b with
        | none => rfl
        | some o => have := W.base b o e; rw [z.1] at this; cases this
      · obtain ⟨o, e⟩ := mx b y
        rw [z.1] at e; cases e
theorem MR.stays {X : Addr → Prop} {q : Addr × Option Addr} {m : M} (z : MR c X ρ h q m) (k : ∀ b o, h.get? b = some o → (b = q.1 ∨ q.2 = some b) → h'.get? b = some o) : h'.get? q.1 = h.get? q.1 ∧ ∀ dx, q.2 = some dx → h'.get? dx = h.get? dx := by
  cases m with
  | list l => obtain ⟨_, _, z, e, _⟩ := z; exact ⟨(k _ _ e (.inl rfl)).trans e.symm, fun dx q => by rw [z] at q; cases q⟩
  | dict ks l => obtain ⟨_, z, ⟨_, _, _, e, _⟩, _⟩ := z; exact ⟨(k _ _ e (.inl rfl)).trans e.symm, fun dx q => by rw [z] at q; cases q⟩
  | inst ks l => obtain ⟨_, _, _, _, _, z, e, e2, _⟩ := z; exact ⟨(k _ _ e (.inl rfl)).trans e.symm, fun dx q => by rw [z] at q; cases q; exact (k _ _ e2 (.inr z)).trans e2.symm⟩
theorem WR.T1 (W : WR c ρ h FX σ) : ∃ o, h.get? 298 = some o := by obtain ⟨_, e, _⟩ := W.t1; exact ⟨_, e⟩
theorem WR.T2 (W : WR c ρ h FX σ) : ∃ o, h.get? 284 = some o := by obtain ⟨_, e, _⟩ := W.t2; exact ⟨_, e⟩
theorem WR.step {S : Addr → Prop} (W : WR c ρ h FX σ) (K : Kp S h h') (hS : ∀ b, S b → FX b) : WR c ρ h' FX σ := by
  have T : aG (XX ρ FX) (XX ρ FX) h h' := .of_keep fun b o e n => ⟨K.keep b o e fun z => n (.inr (hS b z)), n⟩
  have km : ∀ b o, h.get? b = some o → MX ρ b → h'.get? b = some o := fun b o e z => K.keep b o e fun y => (W.fx b (hS b y)).2.2 z
  refine ⟨fun b o e => K.keep b o (W.base b o e) fun z => ?_, W.len, W.nd, fun i q m hq hm => ?_, W.new, ?_, ?_, fun b hb => ⟨by obtain ⟨o, e⟩ := (W.fx b hb).1; exact K.live b o e, (W.fx b hb).2⟩⟩
  · have := (W.fx b (hS b z)).2.1; rw [e] at this; cases this
  · have z := W.at_ i q m hq hm
    have y := z.stays (h' := h') fun b o e y => km b o e (.inr (.inr (d9 (List.mem_of_getElem? hq) y)))
    exact z.mono T (List.prefix_refl _) y.1 y.2
  · obtain ⟨o, e⟩ := W.T1; exact W.t1.mono T ((km _ _ e (.inr (.inl rfl))).trans e.symm)
  · obtain ⟨o, e⟩ := W.T2; exact W.t2.mono T ((km _ _ e (.inl rfl)).trans e.symm)
theorem WR.stepP {S : Addr → Prop} (W : WR c ρ s.heap FX σ) (K : Kp S s.heap h') (hS : ∀ b, S b → FX b ∧ O b) (t : Nat) : Ps c FX O ρ s ρ σ { s with heap := h', toks := t } :=
  ⟨List.prefix_refl _, W.step K fun b z => (hS b z).1, ⟨K.live, fun b o e n => ⟨o, K.keep b o e fun z => n (.inr (hS b z).2), .rfl'⟩⟩, fun H hb => .inl hb, rfl⟩
theorem WR.grow (W : WR c ρ s.heap FX σ) (K : Kp No s.heap h') (t : Nat) : Ps c FX O ρ s ρ σ { s with heap := h', toks := t } := W.stepP K (fun H z => z.elim) t
theorem WR.upd {k : Nat} {q : Addr × Option Addr} {m : M} {t : Nat} (W : WR c ρ s.heap FX σ) (hq : ρ[k]? = some q) (K : Kp (fun b => b = q.1 ∨ q.2 = some b) s.heap h') (hm : MR c (XX ρ FX) ρ h' q m) :
    Ps c FX O ρ s ρ (σ.set k m) { s with heap := h', toks := t } := by
  have hmem : ∀ b, (b = q.1 ∨ q.2 = some b) → b ∈ f0 ρ := fun b z => d9 (List.mem_of_getElem? hq) z
  have T : aG (XX ρ FX) (XX ρ FX) s.heap h' := .of_keep fun b o e n => ⟨K.keep b o e fun z => n (.inl (.inr (.inr (hmem b z)))), n⟩
  have nt : ∀ b, (b = q.1 ∨ q.2 = some b) → b ≠ 284 ∧ b ≠ 298 := fun b z => (W.new b (hmem b z)).2
  refine ⟨List.prefix_refl _, ⟨fun b o e => K.keep b o (W.base b o e) fun z => ?_, by rw [List.length_set]; exact W.len, W.nd, fun i r m' hr hm' => ?_, W.new, ?_, ?_, fun b hb => ⟨by obtain ⟨o, e⟩ := (W.fx b hb).1; exact K.live b o e, (W.fx b hb).2⟩⟩,
    ⟨K.live, fun b o e n => ⟨o, K.keep b o e fun z => n (.inl (.inr (.inr (hmem b z)))), .rfl'⟩⟩, fun H hb => .inl hb, rfl⟩
  · have := (W.new b (hmem b z)).1; rw [e] at this; cases this
  · by_cases hik : i = k
    · subst hik
      rw [hq] at hr; cases hr
      have hl : i < σ.length := by rw [← W.len]; exact (List.getElem?_eq_some_iff.mp hq).1
      rw [List.getElem?_set_self hl] at hm'; cases hm'
      exact hm
    · rw [List.getElem?_set_ne (Ne.symm hik)] at hm'
      have z := W.at_ i r m' hr hm'
      have dis : ∀ b, (b = r.1 ∨ r.2 = some b) → ¬ (b = q.1 ∨ q.2 = some b) := fun b y1 y2 => by
        obtain ⟨hi, ei⟩ := List.getElem?_eq_some_iff.mp hr
        obtain ⟨hk, ek⟩ := List.getElem?_eq_some_iff.mp hq
        have nd := W.nd
        unfold f0 at nd
        have p1 : b ∈ (r.1 :: r.2.toList) := by rcases y1 with rfl | y1; exact .head _; rw [y1]; exact .tail _ (.head _)
        have p2 : b ∈ (q.1 :: q.2.toList) := by rcases y2 with rfl | y2; exact .head _; rw [y2]; exact .tail _ (.head _)
        have key := (List.pairwise_flatMap.mp nd).2
        rcases Nat.lt_or_gt_of_ne hik with hlt | hlt
        · have := (List.pairwise_iff_getElem.mp key) i k hi hk hlt
          rw [ei, ek] at this
          exact this b p1 b p2 rfl
        · have := (List.pairwise_iff_getElem.mp key) k i hk hi hlt
          rw [ei, ek] at this
          exact this b p2 b p1 rfl
      have y := z.stays (h' := h') fun b o e y => K.keep b o e (dis b y)
      exact z.mono T (List.prefix_refl _) y.1 y.2
  · obtain ⟨o, e⟩ := W.T1; exact W.t1.mono T ((K.keep _ _ e fun z => (nt _ z).2 rfl).trans e.symm)
  · obtain ⟨o, e⟩ := W.T2; exact W.t2.mono T ((K.keep _ _ e fun z => (nt _ z).1 rfl).trans e.symm)
theorem WR.make {q : Addr × Option Addr} {m : M} {t : Nat} (W : WR c ρ s.heap FX σ) (K : Kp No s.heap h') (hq : ∀ b, (b = q.1 ∨ q.2 = some b) → s.heap.get? b = none) (hd : q.2 ≠ some q.1) (hm : MR c (XX (ρ ++ [q]) FX) (ρ ++ [q]) h' q m) :
    Ps c FX O ρ s (ρ ++ [q]) (σ ++ [m]) { s with heap := h', toks := t } := by
  have hp : ρ <+: ρ ++ [q] := List.prefix_append _ _
  have ha : ∀ b, b ∈ f0 (ρ ++ [q]) → b ∈ f0 ρ ∨ (b = q.1 ∨ q.2 = some b) := fun b hb => by
    obtain ⟨r, hr, z⟩ := cn hb
    rcases List.mem_append.mp hr with hr | hr
    · exact .inl (d9 hr z)
    · cases List.mem_singleton.mp hr; exact .inr z
  have T : aG (XX ρ FX) (XX (ρ ++ [q]) FX) s.heap h' := .of_keep fun b o e n => ⟨K.keep b o e fun z => z, fun z => by
    rcases z with (z | z | z) | z
    · exact n (.inl (.inl z))
    · exact n (.inl (.inr (.inl z)))
    · rcases ha b z with y | y
      · exact n (.inl (.inr (.inr y)))
      · have := hq b y; rw [this] at e; cases e
    · exact n (.inr z)⟩
  have all : ∀ b o, s.heap.get? b = some o → h'.get? b = some o := fun b o e => K.keep b o e fun z => z
  have b0 : ∀ b, s.heap.get? b = none → c.B.get? b = none := fun b hb => by
    cases e : c.B.get? b with
    | none => rfl
    | some o => have := W.base b o e; rw [hb] at this; cases this
  refine ⟨hp, ⟨fun b o e => all b o (W.base b o e), by rw [List.length_append, List.length_append, W.len]; rfl, ?_, fun i r m' hr hm' => ?_, fun b hb => ?_, ?_, ?_, fun b hb => ⟨by obtain ⟨o, e⟩ := (W.fx b hb).1; exact ⟨o, all b o e⟩, (W.fx b hb).2.1, fun z => ?_⟩⟩,
    ⟨K.live, fun b o e n => ⟨o, all b o e, .rfl'⟩⟩, fun b hb => (ha b hb).imp id (hq b), rfl⟩
  · rw [dn]
    refine List.nodup_append.mpr ⟨W.nd, ?_, fun a h1 b h2 e => ?_⟩
    · rw [nJ]
      cases e : q.2 with
      | none => simp [f0]
      | some d => simp [f0]; rintro rfl; exact hd e
    · subst e
      obtain ⟨r, hr, z⟩ := cn h2
      cases List.mem_singleton.mp hr
      obtain ⟨o, e⟩ := W.lt h1
      rw [hq a z] at e; cases e
  · by_cases hi : i < ρ.length
    · have hi' : i < σ.length := by rw [← W.len]; exact hi
      rw [List.getElem?_append_left hi] at hr
      rw [List.getElem?_append_left hi'] at hm'
      have z := W.at_ i r m' hr hm'
      have y := z.stays (h' := h') fun b o e H => all b o e
      exact z.mono T hp y.1 y.2
    · have e : i = ρ.length := by
        have := (List.getElem?_eq_some_iff.mp hr).1
        rw [List.length_append] at this
        exact Nat.le_antisymm (Nat.le_of_lt_succ this) (Nat.le_of_not_lt hi)
      subst e
      rw [List.getElem?_append_right (Nat.le_refl _)] at hr
      rw [W.len, List.getElem?_append_right (Nat.le_refl _)] at hm'
      simp at hr hm'
      subst hr hm'
      exact hm
  · rcases ha b hb with y | y
    · exact W.new b y
    · have l1 := hq b y
      obtain ⟨o1, e1⟩ := W.T1
      obtain ⟨o2, e2⟩ := W.T2
      exact ⟨b0 b l1, fun z => (by rw [z, e2] at l1; cases l1), fun z => (by rw [z, e1] at l1; cases l1)⟩
  · obtain ⟨o, e⟩ := W.T1; exact W.t1.mono T ((all _ _ e).trans e.symm)
  · obtain ⟨o, e⟩ := W.T2; exact W.t2.mono T ((all _ _ e).trans e.symm)
  · rcases z with z | z | z
    · exact (W.fx b hb).2.2 (.inl z)
    · exact (W.fx b hb).2.2 (.inr (.inl z))
    · rcases ha b z with y | y
      · exact (W.fx b hb).2.2 (.inr (.inr y))
      · obtain ⟨o, e⟩ := (W.fx b hb).1
        rw [hq b y] at e; cases e
end
end Mine
end
section
namespace Mine
open PySem PySem.W PyProof.Rows PySem.Calls
abbrev aC : Value → Shared → Prop := fun H H => False
abbrev Po (c : Cx) (FX : Addr → Prop) (ρ : aN) (s : Shared) (d : V) (σ' : St) : Value → Shared → Prop :=
  fun v s' => ∃ ρ', Ps c FX No ρ s ρ' σ' s' ∧ VR c (XX ρ' FX) ρ' s'.heap d v
section
variable {c : Cx} {FX : Addr → Prop} {ρ : aN} {σ : St} {s : Shared} {A : Around} {E : Value → Shared → Prop}
theorem ce {d : V} {v : Value} (W : WR c ρ s.heap FX σ) (k : VR c (XX ρ FX) ρ s.heap d v) (t : Nat) : Po c FX ρ s d σ v { s with toks := t } :=
  ⟨ρ, (Ps.rfl' W).toks t, k⟩
theorem fY {d : V} {v : Value} (W : WR c ρ s.heap FX σ) (k : VR c (XX ρ FX) ρ s.heap d v) : Po c FX ρ s d σ v s := ⟨ρ, Ps.rfl' W, k⟩
theorem cM {X : Addr → Prop} {h : Heap} {i : Int} {t : Tok} : VR c X ρ h (.int i) (.int i t) := by rw [VR]; exact ⟨t, rfl⟩
theorem iD {X : Addr → Prop} {h : Heap} {b : List UInt8} {t : Tok} : VR c X ρ h (.bytes b) (.bytes b.toArray t) := by rw [VR]; exact ⟨t, rfl⟩
theorem rZ {X : Addr → Prop} {h : Heap} {b : Bool} : VR c X ρ h (.bool b) (.bool b) := by rw [VR]
theorem nb {X : Addr → Prop} {h : Heap} : VR c X ρ h .none .none := by rw [VR]
theorem ng {X : Addr → Prop} {h : Heap} {k : Nat} {t : Tok} (hk : k < 31) : VR c X ρ h (.str k) (.str (dE k) t) := by rw [VR]; exact ⟨hk, t, rfl⟩
theorem de {h : Heap} (W : WR c ρ h FX σ) {b : Addr} (hb : h.get? b = none) : ¬ XX ρ FX b := fun z => by
  rcases z with (z | z | z) | z
  · obtain ⟨o, e⟩ := W.T2; rw [z, e] at hb; cases hb
  · obtain ⟨o, e⟩ := W.T1; rw [z, e] at hb; cases hb
  · obtain ⟨o, e⟩ := W.lt z; rw [e] at hb; cases hb
  · obtain ⟨o, e⟩ := (W.fx _ z).1; rw [e] at hb; cases hb
theorem an (h : Heap) : h.get? h.objs.size = none := Heap.get?_none_of_le (Nat.le_refl _)
theorem jE (W : WR c ρ s.heap FX σ) : ¬ XX ρ FX s.heap.objs.size := de W (an _)
theorem Ps.push (W : WR c ρ s.heap FX σ) (o : Obj) : Ps c FX No ρ s ρ σ { s with heap := s.heap.push o } := W.grow (Kp.push _ _) s.toks
theorem jI {l : List V} {vs : List Value} (W : WR c ρ s.heap FX σ) (k : VRs c (XX ρ FX) ρ s.heap l vs) (n : Nat) :
    Po c FX ρ s (.list l) σ (.ref s.heap.objs.size) { s with heap := s.heap.push { cls := .type "list", data := .seq vs.toArray n } } := by
  have P := Ps.push W { cls := .type "list", data := .seq vs.toArray n }
  refine ⟨ρ, P, ?_⟩
  rw [VR]
  exact ⟨_, vs, rfl, jE W, ⟨_, Heap.get?_push_size _ rfl, rfl, n, rfl⟩, P.vrs k⟩
theorem l6 {l : List V} {vs : List Value} (W : WR c ρ s.heap FX σ) (k : VRs c (XX ρ FX) ρ s.heap l vs) (n : Nat) :
    Po c FX ρ s (.tup l) σ (.ref s.heap.objs.size) { s with heap := s.heap.push { cls := .type "tuple", data := .seq vs.toArray n } } := by
  have P := Ps.push W { cls := .type "tuple", data := .seq vs.toArray n }
  refine ⟨ρ, P, ?_⟩
  rw [VR]
  exact ⟨_, vs, rfl, jE W, ⟨_, Heap.get?_push_size _ rfl, rfl, n, rfl⟩, P.vrs k⟩
theorem v6 {l : List V} {vs : List Value} (W : WR c ρ s.heap FX σ) (k : VRs c (XX ρ FX) ρ s.heap l vs) :
    Po c FX ρ s (.mut σ.length) (σ ++ [.list l]) (.ref s.heap.objs.size) { s with heap := s.heap.push { cls := .type "list", data := .seq vs.toArray } } := by
  have P : Ps c FX No ρ s (ρ ++ [(s.heap.objs.size, none)]) (σ ++ [.list l]) { s with heap := s.heap.push { cls := .type "list", data := .seq vs.toArray }, toks := s.toks } := by
    refine W.make (Kp.push _ _) (fun b hb => ?_) (by simp) ⟨vs, 0, rfl, Heap.get?_push_size _ rfl, ?_⟩
    · rcases hb with rfl | hb
      · exact an _
      · cases hb
    · refine k.mono (.of_keep fun b o e n => ⟨Heap.get?_push_of_some _ e, fun z => ?_⟩) (List.prefix_append _ _)
      rcases z with (z | z | z) | z
      · exact n (.inl (.inl z))
      · exact n (.inl (.inr (.inl z)))
      · rw [dn] at z
        rcases List.mem_append.mp z with z | z
        · exact n (.inl (.inr (.inr z)))
        · simp [f0] at z
          subst z
          rw [an] at e; cases e
      · exact n (.inr z)
  refine ⟨_, P, ?_⟩
  rw [VR]
  refine ⟨(s.heap.objs.size, none), ?_, rfl⟩
  rw [← W.len]; simp
theorem pk {X : Addr → Prop} {h : Heap} {l : List V} {vs : List Value} (k : VRs c X ρ h l vs) : ∀ n : Nat, VRs c X ρ h (List.replicate n l).flatten (List.replicate n vs).flatten
  | 0 => by simp [VRs]
  | n + 1 => by
    rw [List.replicate_succ, List.replicate_succ, List.flatten_cons, List.flatten_cons]
    exact VRs.append k (pk k n)
theorem lH {α : Type} : ∀ (l : List (Array α)) (a : Array α), List.foldl (fun x y => x ++ y) a l = a ++ ((l.map (·.toList)).flatten).toArray
  | [], a => by simp
  | x :: r, a => by
    rw [List.foldl_cons, lH r]
    apply Array.toList_inj.mp
    simp
theorem mU {l : Addr} {vs : List Value} {x : Int} {u : Tok} {Q : Value → Shared → Prop} (hl : s.heap.IsList l vs.toArray) (h0 : 0 ≤ x) (h1 : x ≤ 1000) (hz : vs.length ≤ 1)
    (h : Q (.ref s.heap.objs.size) { s with heap := s.heap.push { cls := .type "list", data := .seq ((List.replicate x.toNat vs).flatten).toArray } }) :
    wpAny (model c.prog c.w) A (binaryOp .Mult (.ref l) (.int x u)) Q E s := by
  obtain ⟨⟨cls, dd, data, sl⟩, ho, hc, n, hd⟩ := id hl
  simp only at hc hd
  subst hc hd
  have hn : vs.length * x.toNat ≤ 1000 := by
    have := Nat.mul_le_mul hz (Int.toNat_le.mpr h1)
    rwa [Nat.one_mul] at this
  have e : List.foldl (fun x1 x2 => x1 ++ x2) (#[] : Array Value) (List.replicate (if vs.toArray.isEmpty = true then 0 else x.toNat) vs.toArray) = ((List.replicate x.toNat vs).flatten).toArray := by
    rw [lH]
    cases vs with
    | nil => simp
    | cons v r => simp
  refine wpAny_binaryOp_repeat_ref (T := "list") (U := "int") (by decide) ⟨_, ho, rfl⟩ (fun s' => typeIs_int s' x u) noFill_list_mul F.fills_int_mul F.slot_int_rmul repeat_list F.slot_int_index.lookup
    (call_meets F.slot_int_rmul (typeIs_int s x u) F.entry_int_rmul (F.args_int_rmul_2 _ _) (lm_int_rmul_list_any x u l vs.toArray n dd sl)
      ⟨ho, rfl, ⟨_, ho, rfl⟩, call_meets F.slot_list_mul ⟨_, ho, rfl⟩ F.entry_list_mul (F.args_list_mul_2 _ _)
        (lm_list_mul_any l vs.toArray n dd sl x u (by simp [Builtin.List.listFitsIndex]; omega) (by simp only [List.size_toArray]; omega) (by simp only [Builtin.List.listTooLong, sizeLine, List.size_toArray]; simp; omega))
        ⟨ho, ?_⟩⟩)
  rw [e]
  exact h
theorem mo {l b : Addr} {vs ws : List Value} {Q : Value → Shared → Prop} (hl : s.heap.IsList l vs.toArray) (hb : s.heap.IsList b ws.toArray) (hz : vs.length + ws.length ≤ 1048576)
    (h : Q (.ref s.heap.objs.size) { s with heap := s.heap.push { cls := .type "list", data := .seq (vs ++ ws).toArray } }) :
    wpAny (model c.prog c.w) A (binaryOp .Add (.ref l) (.ref b)) Q E s := by
  obtain ⟨⟨cls, dd, data, sl⟩, ho, hc, n, hd⟩ := id hl
  obtain ⟨⟨cls2, dd2, data2, sl2⟩, ho2, hc2, n2, hd2⟩ := id hb
  simp only at hc hd hc2 hd2
  subst hc hd hc2 hd2
  have e : vs.toArray ++ ws.toArray = (vs ++ ws).toArray := by simp
  refine concat_meets ⟨_, ho, rfl⟩ ⟨_, ho2, rfl⟩ noFill_list_add seq_list_add PySem.F.slot_list_add PySem.F.entry_list_add (PySem.F.args_list_add_2 _ _) (list_addW l b vs.toArray ws.toArray n n2 dd dd2 sl sl2 (by rw [sizeLine_eq]; simp; omega)) ⟨ho, ho2, ?_⟩
  rw [e]
  exact h
theorem kj {a : Int} {n : Nat} (h : a.natAbs < 2 ^ n) (hn : 0 < n) : Builtin.Int.intBits a ≤ n := by
  unfold Builtin.Int.intBits
  split
  · exact Nat.zero_le _
  · rename_i z
    have hz : a.natAbs ≠ 0 := by
      intro e
      apply z
      have : a = 0 := Int.natAbs_eq_zero.mp e
      simp [this]
    exact Nat.succ_le_of_lt ((Nat.log2_lt hz).mpr h)
theorem zz {a b : Int} (hb : b.natAbs < 2 ^ 64) : IntMulOk a b := by
  unfold IntMulOk
  have h := kj hb (by decide)
  have e : decide (Builtin.Int.intBits b > shortFactorBits) = false := decide_eq_false (by unfold shortFactorBits; omega)
  rw [e]
  simp
theorem sv {a b : Int} (h0 : 0 < b) (hb : b < 2 ^ 64) : Builtin.divisionGoesByPylong a b = false := by
  unfold Builtin.divisionGoesByPylong
  have hbn : b.natAbs < 2 ^ 64 := by rw [← Int.natAbs_of_nonneg (Int.le_of_lt h0)] at hb; exact Int.ofNat_lt.mp hb
  have hz : b.natAbs ≠ 0 := Int.natAbs_ne_zero.mpr (Int.ne_of_gt h0)
  have := (Nat.log2_lt hz).mpr hbn
  have e : (b == 0) = false := beq_eq_false_iff_ne.mpr (Int.ne_of_gt h0)
  simp only [e, Bool.false_eq_true, if_false, Bool.and_eq_false_iff, decide_eq_false_iff_not]
  left
  omega
section
variable {X : Addr → Prop} {h : Heap} {α : Type} {d : α} {a : V} {v : Value} {C : Value → Prop} {ds : List V} {vs : List Value} {CL : List Value → Prop}
@[elab_as_elim] theorem bZ {k : Int → Option α} (e : iq a k = some d) (ha : VR c X ρ h a v) (f : ∀ i t, k i = some d → C (.int i t)) : C v :=
  yh (C := fun a => VR c X ρ h a v → C v) e (fun i e ha => by rw [VR] at ha; obtain ⟨t, rfl⟩ := ha; exact f i t e) ha
@[elab_as_elim] theorem iV {k : List UInt8 → Option α} (e : yi a k = some d) (ha : VR c X ρ h a v) (f : ∀ i t, k i = some d → C (.bytes i.toArray t)) : C v :=
  uY (C := fun a => VR c X ρ h a v → C v) e (fun i e ha => by rw [VR] at ha; obtain ⟨t, rfl⟩ := ha; exact f i t e) ha
@[elab_as_elim] theorem mX {k : Nat → Option α} (e : uX a k = some d) (ha : VR c X ρ h a v) (f : ∀ i t, i < 31 → k i = some d → C (.str (dE i) t)) : C v :=
  CU (C := fun a => VR c X ρ h a v → C v) e (fun i e ha => by rw [VR] at ha; obtain ⟨hk, t, rfl⟩ := ha; exact f i t hk e) ha
@[elab_as_elim] theorem qx {k : Nat → Option α} (e : oN a k = some d) (ha : VR c X ρ h a v) (f : ∀ i q, ρ[i]? = some q → k i = some d → C (.ref q.1)) : C v :=
  oP (C := fun a => VR c X ρ h a v → C v) e (fun i e ha => by rw [VR] at ha; obtain ⟨q, hq, rfl⟩ := ha; exact f i q hq e) ha
@[elab_as_elim] theorem di {l : List V} (ha : VR c X ρ h (.list l) v) (f : ∀ p xs, ¬ X p → h.IsList p xs.toArray → VRs c X ρ h l xs → C (.ref p)) : C v := by
  rw [VR] at ha; obtain ⟨p, xs, rfl, n, hp, hx⟩ := ha; exact f p xs n hp hx
@[elab_as_elim] theorem bN {l : List V} (ha : VR c X ρ h (.tup l) v) (f : ∀ p xs, ¬ X p → h.IsTuple p xs.toArray → VRs c X ρ h l xs → C (.ref p)) : C v := by
  rw [VR] at ha; obtain ⟨p, xs, rfl, n, hp, hx⟩ := ha; exact f p xs n hp hx
@[elab_as_elim] theorem uW {k : List V → Option α} (e : pB a k = some d) (ha : VR c X ρ h a v) (f : ∀ l p xs, h.IsList p xs.toArray → VRs c X ρ h l xs → k l = some d → C (.ref p)) : C v :=
  rH (C := fun a => VR c X ρ h a v → C v) e (fun l e ha => di ha fun p xs H hp hx => f l p xs hp hx e) ha
@[elab_as_elim] theorem qy {k : List V → Option α} (e : oR a k = some d) (ha : VR c X ρ h a v) (f : ∀ l p xs, h.IsTuple p xs.toArray → VRs c X ρ h l xs → k l = some d → C (.ref p)) : C v :=
  oS (C := fun a => VR c X ρ h a v → C v) e (fun l e ha => bN ha fun p xs H hp hx => f l p xs hp hx e) ha
@[elab_as_elim] theorem au {a : V} (hd : VRs c X ρ h (a :: ds) vs) (f : ∀ v vs, VR c X ρ h a v → VRs c X ρ h ds vs → CL (v :: vs)) : CL vs := by
  cases vs with
  | nil => exact (show False from hd).elim
  | cons v vs => rw [VRs] at hd; exact f v vs hd.1 hd.2
@[elab_as_elim] theorem aM (hd : VRs c X ρ h [] vs) (f : CL []) : CL vs := by
  cases vs with
  | nil => exact f
  | cons v vs => exact (show False from hd).elim
@[elab_as_elim] theorem eH {k : V → List V → Option α} (e : f7 ds k = some d) (hd : VRs c X ρ h ds vs) (f : ∀ a ds v vs, k a ds = some d → VR c X ρ h a v → VRs c X ρ h ds vs → CL (v :: vs)) : CL vs :=
  eG (C := fun ds => VRs c X ρ h ds vs → CL vs) e (fun a ds e hd => au hd fun v vs h1 h2 => f a ds v vs e h1 h2) hd
@[elab_as_elim] theorem eQ {o : Option α} (e : g9 ds o = some d) (hd : VRs c X ρ h ds vs) (f : o = some d → CL []) : CL vs :=
  gH (C := fun ds => VRs c X ρ h ds vs → CL vs) e (fun e hd => aM hd (f e)) hd
@[elab_as_elim] theorem dX {k : V → Option α} (e : one ds k = some d) (hd : VRs c X ρ h ds vs) (f : ∀ a v, k a = some d → VR c X ρ h a v → CL [v]) : CL vs :=
  eH e hd fun a H v H e ha hd => eQ (CL := fun vs => CL (v :: vs)) e hd fun e => f a v e ha
end
section
variable {a b d : V} {va vb : Value} {i : Int} {t : Tok} (W : WR c ρ s.heap FX σ)
include W
theorem AN (h : (iq b fun b => some (.int (i + b))) = some d) (hb : VR c (XX ρ FX) ρ s.heap b vb) : wpAny c.M A (binaryOp .Add (.int i t) vb) (Po c FX ρ s d σ) aC s :=
  bZ h hb fun j u h => ac h (PySem.wpAny_add_int (ce W cM _))
theorem AP {l : List UInt8} (h : (yi b fun b => if l.length + b.length ≤ aF then some (.bytes (l ++ b)) else none) = some d) (hb : VR c (XX ρ FX) ρ s.heap b vb) : wpAny c.M A (binaryOp .Add (.bytes l.toArray t) vb) (Po c FX ρ s d σ) aC s :=
  iV h hb fun j u h => aY h fun hz h => ac h (KBy.add_bytes (by simp only [List.size_toArray]; unfold aF at hz; omega) fun t' k => by
    rw [show l.toArray ++ j.toArray = (l ++ j).toArray from by simp]; exact ce W iD k)
theorem AO {l : List V} (h : (pB b fun b => if l.length + b.length ≤ aF then some (.list (l ++ b)) else none) = some d) (ha : VR c (XX ρ FX) ρ s.heap (.list l) va) (hb : VR c (XX ρ FX) ρ s.heap b vb) : wpAny c.M A (binaryOp .Add va vb) (Po c FX ρ s d σ) aC s :=
  di ha fun p xs H hp hx => uW h hb fun m q ys hq hy h => aY h fun hz h => ac h (mo hp hq (by rw [← hx.length, ← hy.length]; exact hz) (jI W (hx.append hy) 0))
theorem CH (h : (iq b fun b => if i.natAbs < 2 ^ 4000 ∧ b.natAbs < 2 ^ 64 then some (.int (i * b)) else none) = some d) (hb : VR c (XX ρ FX) ρ s.heap b vb) : wpAny c.M A (binaryOp .Mult (.int i t) vb) (Po c FX ρ s d σ) aC s :=
  bZ h hb fun j u h => aY h fun hz h => ac h (mul_int (ce W cM _) (zz hz.2))
theorem CI {l : List V} (h : (iq b fun b => if l.length ≤ 1 ∧ 0 ≤ b ∧ b ≤ 1000 then some (.list (List.replicate b.toNat l).flatten) else none) = some d) (ha : VR c (XX ρ FX) ρ s.heap (.list l) va) (hb : VR c (XX ρ FX) ρ s.heap b vb) : wpAny c.M A (binaryOp .Mult va vb) (Po c FX ρ s d σ) aC s :=
  di ha fun p xs H hp hx => bZ h hb fun j u h => aY h fun hz h => ac h (mU hp hz.2.1 hz.2.2 (by rw [← hx.length]; exact hz.1) (jI W (pk hx _) 0))
theorem CX {j : Int} {u : Tok} (h : (if i.natAbs < 2 ^ 4000 ∧ 0 ≤ j ∧ j ≤ 1000 then some (V.int (i ^ j.toNat)) else none) = some d) : wpAny c.M A (binaryOp .Pow (.int i t) (.int j u)) (Po c FX ρ s d σ) aC s :=
  aY h fun hz h => ac h (by
    refine pow_int hz.2.1 ?_ (ce W cM _)
    have h1 := kj hz.1 (by decide)
    have h3 : (Builtin.Int.intBits i : Int) * j ≤ 4000 * 1000 := Int.mul_le_mul (by omega) hz.2.2 hz.2.1 (by omega)
    omega)
theorem zb {j : Int} {u : Tok} (h : (if 0 < j ∧ j < 2 ^ 64 then some (V.int (i / j)) else none) = some d) : wpAny c.M A (binaryOp .FloorDiv (.int i t) (.int j u)) (Po c FX ρ s d σ) aC s :=
  aY h fun hz h => ac h (by
    rw [← Int.fdiv_eq_ediv_of_nonneg i (by omega)]
    exact floordiv_int (by omega) (ce W cM _) (.inl (sv hz.1 hz.2)))
theorem rX {op : Operator} {k : Int → Int → Option V} (h : (iq a fun a => iq b (k a)) = some d) (ha : VR c (XX ρ FX) ρ s.heap a va) (hb : VR c (XX ρ FX) ρ s.heap b vb) (f : ∀ i t j u, k i j = some d → wpAny c.M A (binaryOp op (.int i t) (.int j u)) (Po c FX ρ s d σ) aC s) : wpAny c.M A (binaryOp op va vb) (Po c FX ρ s d σ) aC s :=
  bZ h ha fun i t h => bZ h hb fun j u h => f i t j u h
theorem yD (h : dA .Add a b = some d) (ha : VR c (XX ρ FX) ρ s.heap a va) (hb : VR c (XX ρ FX) ρ s.heap b vb) : wpAny c.M A (binaryOp .Add va vb) (Po c FX ρ s d σ) aC s := by
  cases a <;> first | exact ae h | skip
  · exact bZ (k := some) rfl ha fun i t e => by cases e; exact AN W h hb
  · exact iV (k := some) rfl ha fun i t e => by cases e; exact AP W h hb
  · exact AO W h ha hb
theorem wZ (h : dA .Mult a b = some d) (ha : VR c (XX ρ FX) ρ s.heap a va) (hb : VR c (XX ρ FX) ρ s.heap b vb) : wpAny c.M A (binaryOp .Mult va vb) (Po c FX ρ s d σ) aC s := by
  cases a <;> first | exact ae h | skip
  · exact bZ (k := some) rfl ha fun i t e => by cases e; exact CH W h hb
  · exact CI W h ha hb
theorem wj {op : Operator} (h : dA op a b = some d) (ha : VR c (XX ρ FX) ρ s.heap a va) (hb : VR c (XX ρ FX) ρ s.heap b vb) : wpAny c.M A (binaryOp op va vb) (Po c FX ρ s d σ) aC s := by
  cases op <;> first | exact ae h | skip
  · exact yD W h ha hb
  · exact rX W h ha hb fun i t j u h => ac h (sub_int (ce W cM _))
  · exact wZ W h ha hb
  · exact rX W h ha hb fun i t j u h => aY h fun hz h => ac h (by rw [← Int.fmod_eq_emod_of_nonneg i (by omega)]; exact mod_int' (by omega) (ce W cM _))
  · exact rX W h ha hb fun i t j u h => CX W h
  · exact rX W h ha hb fun i t j u h => zb W h
end
end
end Mine
end
section
namespace Mine
open PySem PySem.W PyProof.Rows PySem.Calls PySem.SeqAt
theorem gK : Slot "bytes" (cmpInfo .Lt).2.1 "bytes.__lt__" :=
  .of (owner := "bytes") (n := "__lt__") (by rw [typeLookup_type, builtinLookup_eq_fast]; kernel_rfl) (by decide +kernel) (by decide +kernel) (by decide +kernel)
    (by first | exact .inl (by decide +kernel) | exact .inr (by decide +kernel)) (by rw [isSubtype_type]; kernel_rfl)
theorem jf : entryFor table "bytes.__lt__" = some Builtin.«bytes.__lt__» := entryFor_of_tree (by kernel_rfl)
theorem ka (a b : Value) : argsOk "bytes.__lt__" ⟨[a, b], []⟩ := by
  unfold argsOk; rw [signature?_of (id := "bytes.__lt__") (n := ['_', '_', 't', 'l', '_', '_']) (o := ['s', 'e', 't', 'y', 'b']) (by kernel_rfl) FB.owner_bytes]; kernel_rfl
theorem qI : Slot "bytes" (cmpInfo .LtE).2.1 "bytes.__le__" :=
  .of (owner := "bytes") (n := "__le__") (by rw [typeLookup_type, builtinLookup_eq_fast]; kernel_rfl) (by decide +kernel) (by decide +kernel) (by decide +kernel)
    (by first | exact .inl (by decide +kernel) | exact .inr (by decide +kernel)) (by rw [isSubtype_type]; kernel_rfl)
theorem nU : entryFor table "bytes.__le__" = some Builtin.«bytes.__le__» := entryFor_of_tree (by kernel_rfl)
theorem pP (a b : Value) : argsOk "bytes.__le__" ⟨[a, b], []⟩ := by
  unfold argsOk; rw [signature?_of (id := "bytes.__le__") (n := ['_', '_', 'e', 'l', '_', '_']) (o := ['s', 'e', 't', 'y', 'b']) (by kernel_rfl) FB.owner_bytes]; kernel_rfl
theorem qH : Slot "bytes" (cmpInfo .Gt).2.1 "bytes.__gt__" :=
  .of (owner := "bytes") (n := "__gt__") (by rw [typeLookup_type, builtinLookup_eq_fast]; kernel_rfl) (by decide +kernel) (by decide +kernel) (by decide +kernel)
    (by first | exact .inl (by decide +kernel) | exact .inr (by decide +kernel)) (by rw [isSubtype_type]; kernel_rfl)
theorem nT : entryFor table "bytes.__gt__" = some Builtin.«bytes.__gt__» := entryFor_of_tree (by kernel_rfl)
theorem pO (a b : Value) : argsOk "bytes.__gt__" ⟨[a, b], []⟩ := by
  unfold argsOk; rw [signature?_of (id := "bytes.__gt__") (n := ['_', '_', 't', 'g', '_', '_']) (o := ['s', 'e', 't', 'y', 'b']) (by kernel_rfl) FB.owner_bytes]; kernel_rfl
theorem qG : Slot "bytes" (cmpInfo .GtE).2.1 "bytes.__ge__" :=
  .of (owner := "bytes") (n := "__ge__") (by rw [typeLookup_type, builtinLookup_eq_fast]; kernel_rfl) (by decide +kernel) (by decide +kernel) (by decide +kernel)
    (by first | exact .inl (by decide +kernel) | exact .inr (by decide +kernel)) (by rw [isSubtype_type]; kernel_rfl)
theorem nS : entryFor table "bytes.__ge__" = some Builtin.«bytes.__ge__» := entryFor_of_tree (by kernel_rfl)
theorem pN (a b : Value) : argsOk "bytes.__ge__" ⟨[a, b], []⟩ := by
  unfold argsOk; rw [signature?_of (id := "bytes.__ge__") (n := ['_', '_', 'e', 'g', '_', '_']) (o := ['s', 'e', 't', 'y', 'b']) (by kernel_rfl) FB.owner_bytes]; kernel_rfl
theorem er : ∀ a b : List UInt8, (Builtin.Bytes.order a b == .lt) = bX a b ∧ (Builtin.Bytes.order a b == .gt) = bX b a
  | [], [] => by simp [Builtin.Bytes.order, bX]
  | [], _ :: _ => by simp [Builtin.Bytes.order, bX]
  | _ :: _, [] => by simp [Builtin.Bytes.order, bX]
  | x :: a, y :: b => by
    have ih := er a b
    simp only [Builtin.Bytes.order, bX]
    by_cases h1 : x < y
    · have hn : x ≠ y := fun e => by subst e; exact absurd h1 (UInt8.lt_irrefl _)
      have h2 : x.toNat < y.toNat := h1
      have h3 : ¬ y.toNat < x.toNat := by omega
      simp [h1, hn, Ne.symm hn, h2, h3]
    · by_cases h2 : y < x
      · have hn : x ≠ y := fun e => by subst e; exact absurd h2 (UInt8.lt_irrefl _)
        have h3 : y.toNat < x.toNat := h2
        have h4 : ¬ x.toNat < y.toNat := by omega
        simp [h1, hn, Ne.symm hn, h2, h3, h4]
      · have e : x = y := UInt8.le_antisymm (UInt8.not_lt.mp h2) (UInt8.not_lt.mp h1)
        subst e
        simp [h1, ih]
theorem sR (a b : List UInt8) : (Builtin.Bytes.order a b != .gt) = !bX b a := by rw [bne, (er a b).2]
theorem sS (a b : List UInt8) : (Builtin.Bytes.order a b != .lt) = !bX a b := by rw [bne, (er a b).1]
theorem o9 (b c : Array UInt8) (t u : Tok) : Gives (Builtin.«bytes.__lt__» ⟨[.bytes b t, .bytes c u], []⟩) (.val (.bool (bX b.toList c.toList))) := by
  refine .of_wp fun M A E s Q hq => ?_
  show wpAny M A (isInstance (.bytes c u) (.type "bytes") >>= fun r => _) _ E s
  refine wpAny_bind (wpAny_isInstance (typeIs_bytes s c u) F.sub_bytes_bytes ?_)
  exact wpAny_pure ⟨_, rfl, by rw [← (er _ _).1] at hq; exact hq⟩
theorem vk {prog : Program} {w : World} {A : Around} {E : Value → Shared → Prop} {s : Shared} {b c : Array UInt8} {t u : Tok} {Q : Value → Shared → Prop} (h : Q (.bool (bX b.toList c.toList)) s) : wpAny (model prog w) A (compareOp .Lt (.bytes b t) (.bytes c u)) Q E s :=
  compareOp_gives (op := .Lt) (typeIs_bytes s b t) (typeIs_bytes s c u) gK jf (ka _ _) (o9 b c t u) (fun e => nomatch e) h
theorem o8 (b c : Array UInt8) (t u : Tok) : Gives (Builtin.«bytes.__le__» ⟨[.bytes b t, .bytes c u], []⟩) (.val (.bool (!bX c.toList b.toList))) := by
  refine .of_wp fun M A E s Q hq => ?_
  show wpAny M A (isInstance (.bytes c u) (.type "bytes") >>= fun r => _) _ E s
  refine wpAny_bind (wpAny_isInstance (typeIs_bytes s c u) F.sub_bytes_bytes ?_)
  exact wpAny_pure ⟨_, rfl, by rw [← sR _ _] at hq; exact hq⟩
theorem vg {prog : Program} {w : World} {A : Around} {E : Value → Shared → Prop} {s : Shared} {b c : Array UInt8} {t u : Tok} {Q : Value → Shared → Prop} (h : Q (.bool (!bX c.toList b.toList)) s) : wpAny (model prog w) A (compareOp .LtE (.bytes b t) (.bytes c u)) Q E s :=
  compareOp_gives (op := .LtE) (typeIs_bytes s b t) (typeIs_bytes s c u) qI nU (pP _ _) (o8 b c t u) (fun e => nomatch e) h
theorem o7 (b c : Array UInt8) (t u : Tok) : Gives (Builtin.«bytes.__gt__» ⟨[.bytes b t, .bytes c u], []⟩) (.val (.bool (bX c.toList b.toList))) := by
  refine .of_wp fun M A E s Q hq => ?_
  show wpAny M A (isInstance (.bytes c u) (.type "bytes") >>= fun r => _) _ E s
  refine wpAny_bind (wpAny_isInstance (typeIs_bytes s c u) F.sub_bytes_bytes ?_)
  exact wpAny_pure ⟨_, rfl, by rw [← (er _ _).2] at hq; exact hq⟩
theorem vf {prog : Program} {w : World} {A : Around} {E : Value → Shared → Prop} {s : Shared} {b c : Array UInt8} {t u : Tok} {Q : Value → Shared → Prop} (h : Q (.bool (bX c.toList b.toList)) s) : wpAny (model prog w) A (compareOp .Gt (.bytes b t) (.bytes c u)) Q E s :=
  compareOp_gives (op := .Gt) (typeIs_bytes s b t) (typeIs_bytes s c u) qH nT (pO _ _) (o7 b c t u) (fun e => nomatch e) h
theorem o6 (b c : Array UInt8) (t u : Tok) : Gives (Builtin.«bytes.__ge__» ⟨[.bytes b t, .bytes c u], []⟩) (.val (.bool (!bX b.toList c.toList))) := by
  refine .of_wp fun M A E s Q hq => ?_
  show wpAny M A (isInstance (.bytes c u) (.type "bytes") >>= fun r => _) _ E s
  refine wpAny_bind (wpAny_isInstance (typeIs_bytes s c u) F.sub_bytes_bytes ?_)
  exact wpAny_pure ⟨_, rfl, by rw [← sS _ _] at hq; exact hq⟩
theorem ve {prog : Program} {w : World} {A : Around} {E : Value → Shared → Prop} {s : Shared} {b c : Array UInt8} {t u : Tok} {Q : Value → Shared → Prop} (h : Q (.bool (!bX b.toList c.toList)) s) : wpAny (model prog w) A (compareOp .GtE (.bytes b t) (.bytes c u)) Q E s :=
  compareOp_gives (op := .GtE) (typeIs_bytes s b t) (typeIs_bytes s c u) qG nS (pN _ _) (o6 b c t u) (fun e => nomatch e) h
noncomputable def nV : Value → Value → Bool
  | .int a _, .int b _ => a == b
  | .str a _, .str b _ => a == b
  | .bytes a _, .bytes b _ => a.toList == b.toList
  | _, _ => false
theorem jM : ∀ i < 31, ∀ j < 31, dE i = dE j → i = j := by decide +kernel
section
variable {c : Cx} {X : Addr → Prop} {ρ : aN} {h : Heap} {prog : Program} {w : World} {A : Around} {E : Value → Shared → Prop} {s : Shared}
theorem rl (a b : Int) (t u : Tok) : RcAt A s (.int a t) (.int b u) (a == b) := fun prog w E Q hq => show wpAny (model prog w) A (compareOp .Eq _ _) Q E s from PyProof.Rows.eq_int hq
theorem lD (a b : Array UInt8) (t u : Tok) : RcAt A s (.bytes a t) (.bytes b u) (a.toList == b.toList) := fun prog w E Q hq => show wpAny (model prog w) A (compareOp .Eq _ _) Q E s from PySem.W.eq_bytes hq
theorem rm (a b : Str) (t u : Tok) : RcAt A s (.str a t) (.str b u) (a == b) := fun prog w E Q hq => show wpAny (model prog w) A (compareOp .Eq _ _) Q E s from PyProof.Rows.eq_str hq
theorem mG {a b : Value} {k : Bool} (h1 : RcAt A s a b k) (h2 : a = b → k = true) (h3 : ∀ x t y u, (a, b) ≠ (.float x t, .float y u)) : EqAt A s a b k := fun prog w E Q hq => by
  unfold eqBool
  refine wpAny_holding ?_
  refine wpAny_ite_split (fun hab => ?_) (fun H => ?_)
  · have e := h2 (eq_of_beq hab)
    subst e
    exact wpAny_bind (wpAny_rule (wpAny_pure hq))
  · split
    · exact absurd (by assumption) (h3 _ _ _ _)
    · exact wpAny_bind (h1 prog w E _ (wpAny_truthy_bool hq))
def xD (A : Around) (s : Shared) (va vb : Value) (r : Bool) : Prop := RcAt A s va vb r ∧ EqAt A s va vb r ∧ nV va vb = r ∧ PySem.SeqAt.RcNeAt A s va vb (!r)
theorem wC (i j : Int) (t u : Tok) : xD A s (.int i t) (.int j u) (i == j) :=
  ⟨rl _ _ _ _, mG (rl _ _ _ _) (fun e => by cases e; exact beq_self_eq_true _) (fun H H H H e => by cases e), rfl, fun prog w E Q hq => show wpAny (model prog w) A (compareOp .NotEq _ _) Q E s from PyProof.Rows.ne_int hq⟩
theorem sw (i j : List UInt8) (t u : Tok) : xD A s (.bytes i.toArray t) (.bytes j.toArray u) (i == j) :=
  ⟨lD _ _ _ _, mG (lD _ _ _ _) (fun e => by cases e; exact beq_self_eq_true _) (fun H H H H e => by cases e), rfl, fun prog w E Q hq => show wpAny (model prog w) A (compareOp .NotEq _ _) Q E s from PySem.W.ne_bytes hq⟩
theorem wD {k l : Nat} (hk : k < 31) (hl : l < 31) (t u : Tok) : xD A s (.str (dE k) t) (.str (dE l) u) (k == l) := by
  have e : (k == l) = (dE k == dE l) := by
    by_cases q : k = l
    · subst q; rw [beq_self_eq_true, beq_self_eq_true]
    · rw [beq_eq_false_iff_ne.mpr q, beq_eq_false_iff_ne.mpr fun z => q (jM k hk l hl z)]
  rw [e]
  exact ⟨rm _ _ _ _, mG (rm _ _ _ _) (fun e => by injection e with e1 e2; rw [e1, beq_self_eq_true]) (fun H H H H e => by cases e), rfl, fun prog w E Q hq => show wpAny (model prog w) A (compareOp .NotEq _ _) Q E s from PyProof.Rows.ne_str hq⟩
theorem iL {a b : V} {r : Bool} {va vb : Value} (e : pz a b = some r) (ha : VR c X ρ h a va) (hb : VR c X ρ h b vb) : xD A s va vb r := by
  cases a <;> first | exact ae e | skip
  · exact bZ (k := some) rfl ha fun i t e' => by cases e'; exact bZ e hb fun j u e => ac e (wC _ _ _ _)
  · exact mX (k := some) rfl ha fun i t hi e' => by cases e'; exact mX e hb fun j u hj e => ac e (wD hi hj _ _)
  · exact iV (k := some) rfl ha fun i t e' => by cases e'; exact iV e hb fun j u e => ac e (sw _ _ _ _)
def mf (op : CmpOp) (A : Around) (s : Shared) (a b : Value) (k : Bool) : Prop :=
  ∀ (prog : Program) (w : World) (E : Value → Shared → Prop) (Q : Value → Shared → Prop), Q (.bool k) s → wpAny (model prog w) A (richCompare op a b) Q E s
@[elab_as_elim] theorem oB {C : V → V → Bool → Prop} {a b : V} {r : Bool} (h : qp a b = some r) (k1 : ∀ i j, C (.int i) (.int j) (decide (i < j))) (k2 : ∀ i j, C (.bytes i) (.bytes j) (bX i j)) : C a b r := by
  cases a <;> first | exact ae h | skip
  · exact yh h fun j h => ac h (k1 _ _)
  · exact uY h fun j h => ac h (k2 _ _)
theorem pj {i : Int} (h : VR c X ρ hp (.int i) va) : ∃ t, va = .int i t := by rw [VR] at h; exact h
theorem lf {i : List UInt8} (h : VR c X ρ hp (.bytes i) va) : ∃ t, va = .bytes i.toArray t := by rw [VR] at h; exact h
def xJ (op : CmpOp) (c : Cx) (X : Addr → Prop) (ρ : aN) (h : Heap) (A : Around) (s : Shared) (f : Bool → Bool) (a b : V) (r : Bool) : Prop := ∀ va vb, VR c X ρ h a va → VR c X ρ h b vb → mf op A s va vb (f r)
theorem zK {a b : V} {r : Bool} (e : qp a b = some r) : xJ .Lt c X ρ h A s id a b r :=
  oB (C := xJ .Lt c X ρ h A s id) e (fun i j H H ha hb => by obtain ⟨t, rfl⟩ := pj ha; obtain ⟨u, rfl⟩ := pj hb; exact fun prog w E Q hq => show wpAny (model prog w) A (compareOp .Lt _ _) Q E s from PyProof.Rows.lt_int hq)
    (fun i j H H ha hb => by obtain ⟨t, rfl⟩ := lf ha; obtain ⟨u, rfl⟩ := lf hb; exact fun prog w E Q hq => show wpAny (model prog w) A (compareOp .Lt _ _) Q E s from vk hq)
theorem zI {a b : V} {r : Bool} (e : qp b a = some r) : xJ .Gt c X ρ h A s id a b r :=
  oB (C := fun b a r => xJ .Gt c X ρ h A s id a b r) e (fun i j H H ha hb => by obtain ⟨t, rfl⟩ := pj ha; obtain ⟨u, rfl⟩ := pj hb; exact fun prog w E Q hq => show wpAny (model prog w) A (compareOp .Gt _ _) Q E s from PyProof.Rows.gt_int hq)
    (fun i j H H ha hb => by obtain ⟨t, rfl⟩ := lf ha; obtain ⟨u, rfl⟩ := lf hb; exact fun prog w E Q hq => show wpAny (model prog w) A (compareOp .Gt _ _) Q E s from vf hq)
theorem rE (i j : Int) : decide (j ≤ i) = !decide (i < j) := by simp [← Int.not_lt]
theorem zH {a b : V} {r : Bool} (e : qp a b = some r) : xJ .GtE c X ρ h A s not a b r :=
  oB (C := xJ .GtE c X ρ h A s not) e (fun i j H H ha hb => by obtain ⟨t, rfl⟩ := pj ha; obtain ⟨u, rfl⟩ := pj hb; exact fun prog w E Q hq => show wpAny (model prog w) A (compareOp .GtE _ _) Q E s from PyProof.Rows.ge_int (rE i j ▸ hq))
    (fun i j H H ha hb => by obtain ⟨t, rfl⟩ := lf ha; obtain ⟨u, rfl⟩ := lf hb; exact fun prog w E Q hq => show wpAny (model prog w) A (compareOp .GtE _ _) Q E s from ve hq)
theorem zJ {a b : V} {r : Bool} (e : qp b a = some r) : xJ .LtE c X ρ h A s not a b r :=
  oB (C := fun b a r => xJ .LtE c X ρ h A s not a b r) e (fun i j H H ha hb => by obtain ⟨t, rfl⟩ := pj ha; obtain ⟨u, rfl⟩ := pj hb; exact fun prog w E Q hq => show wpAny (model prog w) A (compareOp .LtE _ _) Q E s from PyProof.Rows.le_int (rE i j ▸ hq))
    (fun i j H H ha hb => by obtain ⟨t, rfl⟩ := lf ha; obtain ⟨u, rfl⟩ := lf hb; exact fun prog w E Q hq => show wpAny (model prog w) A (compareOp .LtE _ _) Q E s from vg hq)
theorem jH {op : CmpOp} {a b : V} {r : Bool} {va vb : Value} (e : f8 op a b = some r) (ha : VR c X ρ h a va) (hb : VR c X ρ h b vb) : mf op A s va vb r := by
  cases op <;> first | exact ae e | skip
  · exact zK e va vb ha hb
  · obtain ⟨q, e', rfl⟩ := Option.map_eq_some_iff.mp e
    exact zJ e' va vb ha hb
  · exact zI e va vb ha hb
  · obtain ⟨q, e', rfl⟩ := Option.map_eq_some_iff.mp e
    exact zH e' va vb ha hb
end
end Mine
end
section
namespace Mine
open PySem PySem.W PyProof.Rows PySem.Calls PySem.SeqAt
open AutoSeq1 (wpAny_loadPart')
open MeetsSeq MeetsSeq2 MeetsSeq3 SeqRoads2
def j9 (A : Around) (s : Shared) (op : CmpOp) (fin : Bool) : List (Value × Value) → Bool → Prop
  | [], r => r = fin
  | (x, y) :: l, r => ∃ e, EqAt A s x y e ∧ (if e = true then j9 A s op fin l r else mf op A s x y r)
theorem qN (l b : Addr) (items items2 : Array Value) (n n2 : Nat) (dd dd2 : Option Addr) (sl sl2 : Array (Option Value)) (r : Bool) :
    Meets (Builtin.«tuple.__gt__» ⟨[.ref l, .ref b], []⟩)
      (fun A R s => s.heap.get? l = some { cls := .type "tuple", dict := dd, data := .seq items n, slots := sl } ∧ s.heap.get? b = some { cls := .type "tuple", dict := dd2, data := .seq items2 n2, slots := sl2 } ∧
        j9 A.in1 s .Gt (decide (items.size > items2.size)) (items.toList.zip items2.toList) r ∧
        R (.ok (.ret (.bool r))) s) :=
  .of_wp fun prog w A R s h => by
    obtain ⟨hp, g, d, tk, os⟩ := s; obtain ⟨hl, hb, he, h⟩ := h
    have f2 := AutoSeq1.sub_tuple_tuple
    wp_walk using wpAny_loadPart' hl, wpAny_loadPart' hb, wpAny_forIn_list _ (fun rest b s' => b.1 = none ∧ s' = ⟨hp, g, d, tk, os⟩ ∧ j9 A.in1 ⟨hp, g, d, tk, os⟩ .Gt (decide (items.size > items2.size)) rest r) _
    case turn =>
      rintro ⟨y, x⟩ rest b s' ⟨hb', rfl, e, he, hR⟩
      refine wpAny_bind (he prog w _ _ ?_)
      cases e with
      | true =>
        rw [if_pos rfl] at hR
        wp_walk
        exact ⟨rfl, rfl, hR⟩
      | false =>
        rw [if_neg (by simp)] at hR
        simp only [Bool.not_false, if_true]
        refine wpAny_bind (wpAny_rule (wpAny_bind (hR prog w _ _ ?_)))
        wp_walk
        exact ⟨_, rfl, h⟩
    case fin =>
      rintro ⟨b1, b2⟩ s' ⟨hb', rfl, hR⟩
      simp only at hb'
      subst hb'
      have hR : r = decide (items.size > items2.size) := hR
      subst hR
      wp_walk
      exact ⟨_, rfl, h⟩
    case h =>
      exact ⟨rfl, rfl, he⟩
theorem qM (l b : Addr) (items items2 : Array Value) (n n2 : Nat) (dd dd2 : Option Addr) (sl sl2 : Array (Option Value)) (r : Bool) :
    Meets (Builtin.«tuple.__ge__» ⟨[.ref l, .ref b], []⟩)
      (fun A R s => s.heap.get? l = some { cls := .type "tuple", dict := dd, data := .seq items n, slots := sl } ∧ s.heap.get? b = some { cls := .type "tuple", dict := dd2, data := .seq items2 n2, slots := sl2 } ∧
        j9 A.in1 s .GtE (decide (items.size ≥ items2.size)) (items.toList.zip items2.toList) r ∧
        R (.ok (.ret (.bool r))) s) :=
  .of_wp fun prog w A R s h => by
    obtain ⟨hp, g, d, tk, os⟩ := s; obtain ⟨hl, hb, he, h⟩ := h
    have f2 := AutoSeq1.sub_tuple_tuple
    wp_walk using wpAny_loadPart' hl, wpAny_loadPart' hb, wpAny_forIn_list _ (fun rest b s' => b.1 = none ∧ s' = ⟨hp, g, d, tk, os⟩ ∧ j9 A.in1 ⟨hp, g, d, tk, os⟩ .GtE (decide (items.size ≥ items2.size)) rest r) _
    case turn =>
      rintro ⟨y, x⟩ rest b s' ⟨hb', rfl, e, he, hR⟩
      refine wpAny_bind (he prog w _ _ ?_)
      cases e with
      | true =>
        rw [if_pos rfl] at hR
        wp_walk
        exact ⟨rfl, rfl, hR⟩
      | false =>
        rw [if_neg (by simp)] at hR
        simp only [Bool.not_false, if_true]
        refine wpAny_bind (wpAny_rule (wpAny_bind (hR prog w _ _ ?_)))
        wp_walk
        exact ⟨_, rfl, h⟩
    case fin =>
      rintro ⟨b1, b2⟩ s' ⟨hb', rfl, hR⟩
      simp only at hb'
      subst hb'
      have hR : r = decide (items.size ≥ items2.size) := hR
      subst hR
      wp_walk
      exact ⟨_, rfl, h⟩
    case h =>
      exact ⟨rfl, rfl, he⟩
section
variable {c : Cx} {X : Addr → Prop} {ρ : aN} {h : Heap} {A : Around} {s : Shared}
theorem mZ {l b : Addr} {items items2 : Array Value} {r : Bool} (hl : s.heap.IsTuple l items) (hb : s.heap.IsTuple b items2) (hu : A.units < cLine)
    (he : j9 A.in1 s .Gt (decide (items.size > items2.size)) (items.toList.zip items2.toList) r) : mf .Gt A s (.ref l) (.ref b) r := fun prog w E Q h => by
  obtain ⟨⟨cls, dd, data, sl⟩, ho, hc, n, hd⟩ := id hl
  obtain ⟨⟨cls2, dd2, data2, sl2⟩, ho2, hc2, n2, hd2⟩ := id hb
  simp only at hc hd hc2 hd2
  subst hc hd hc2 hd2
  exact richCompare_meets_room (op := .Gt) ⟨_, ho, rfl⟩ ⟨_, ho2, rfl⟩ F.slot_tuple_gt F.entry_tuple_gt (F.args_tuple_gt_2 _ _) (qN l b items items2 n n2 dd dd2 sl sl2 r)
    ⟨ho, ho2, he, show Value.bool r ≠ Value.notImplemented ∧ Q (.bool r) s from ⟨(fun x => nomatch x), h⟩⟩ hu
theorem mY {l b : Addr} {items items2 : Array Value} {r : Bool} (hl : s.heap.IsTuple l items) (hb : s.heap.IsTuple b items2) (hu : A.units < cLine)
    (he : j9 A.in1 s .GtE (decide (items.size ≥ items2.size)) (items.toList.zip items2.toList) r) : mf .GtE A s (.ref l) (.ref b) r := fun prog w E Q h => by
  obtain ⟨⟨cls, dd, data, sl⟩, ho, hc, n, hd⟩ := id hl
  obtain ⟨⟨cls2, dd2, data2, sl2⟩, ho2, hc2, n2, hd2⟩ := id hb
  simp only at hc hd hc2 hd2
  subst hc hd hc2 hd2
  exact richCompare_meets_room (op := .GtE) ⟨_, ho, rfl⟩ ⟨_, ho2, rfl⟩ F.slot_tuple_ge F.entry_tuple_ge (F.args_tuple_ge_2 _ _) (qM l b items items2 n n2 dd dd2 sl sl2 r)
    ⟨ho, ho2, he, show Value.bool r ≠ Value.notImplemented ∧ Q (.bool r) s from ⟨(fun x => nomatch x), h⟩⟩ hu
def qY (op : CmpOp) (fin : Bool) (m n : Nat) : Prop := ∀ s e : Bool, (s = decide (m < n)) → (e = decide (m = n)) → fin = fF op s e
theorem qY.cons {op : CmpOp} {fin : Bool} {m n : Nat} (h : qY op fin (m + 1) (n + 1)) : qY op fin m n := fun s e hs he => h s e (by rw [hs]; exact decide_eq_decide.mpr Nat.succ_lt_succ_iff.symm) (by rw [he]; exact decide_eq_decide.mpr Nat.succ_inj.symm)
def E4 (A : Around) (s : Shared) (op : CmpOp) (fin r : Bool) (vs ws : List Value) : Prop := qY op fin vs.length ws.length → j9 A s op fin (vs.zip ws) r
theorem qo {op : CmpOp} {fin : Bool} : ∀ {as bs : List V} {vs ws : List Value} {r : Bool}, dY op as bs = some r → VRs c X ρ h as vs → VRs c X ρ h bs ws → E4 A s op fin r vs ws
  | [], [], _, _, _, e, h1, h2 => aM h1 (aM h2 fun hf => ac e (hf _ _ rfl rfl).symm)
  | [], b :: bs, _, _, _, e, h1, h2 => aM h1 (au h2 fun w ws H H hf => ac e (hf true false (decide_eq_true (Nat.succ_pos _)).symm (decide_eq_false (nomatch ·)).symm).symm)
  | a :: as, [], _, _, _, e, h1, h2 => au h1 fun v vs H H => aM h2 fun hf => ac e (hf false false (decide_eq_false (Nat.not_lt_zero _)).symm (decide_eq_false (nomatch ·)).symm).symm
  | a :: as, b :: bs, _, _, r, e, h1, h2 => au h1 fun v vs a1 a2 => au h2 fun w ws b1 b2 hf => bS e fun k q e => ⟨k, (iL q a1 b1).2.1, by
      cases k with
      | true => exact qo e a2 b2 hf.cons
      | false => exact jH e a1 b1⟩
structure EqsO (A : Around) (s : Shared) (vs ws : List Value) (r : Bool) : Prop where
  at_ : ∀ (j : Nat) (v w : Value), vs[j]? = some v → ws[j]? = some w → EqAt A s v w (nV v w)
  eq : r = (((List.range (min vs.length ws.length)).all fun j => nV (vs.getD j .none) (ws.getD j .none)) && vs.length == ws.length)
theorem EqsO.none1 (w : Value) (ws : List Value) : EqsO A s [] (w :: ws) false := ⟨fun H H H h => (nomatch h), rfl⟩
theorem EqsO.none2 (w : Value) (ws : List Value) : EqsO A s (w :: ws) [] false := ⟨fun H H H H h => (nomatch h), rfl⟩
theorem EqsO.cons {v w : Value} {vs ws : List Value} {x y : Bool} (k1 : xD A s v w x) (k2 : EqsO A s vs ws y) : EqsO A s (v :: vs) (w :: ws) (x && y) := by
  refine ⟨fun j v' w' hv hw => ?_, ?_⟩
  · cases j with
    | zero => cases hv; cases hw; rw [k1.2.2.1]; exact k1.2.1
    | succ j => exact k2.1 j v' w' hv hw
  · rw [k2.2, ← k1.2.2.1, List.length_cons, List.length_cons, Nat.succ_min_succ, List.range_succ_eq_map, List.all_cons, List.all_map, Bool.and_assoc, show (vs.length + 1 == ws.length + 1) = (vs.length == ws.length) from by simp]
    rfl
theorem qb : ∀ {as bs : List V} {vs ws : List Value} {r : Bool}, pA as bs = some r → VRs c X ρ h as vs → VRs c X ρ h bs ws → EqsO A s vs ws r
  | [], [], _, _, _, e, h1, h2 => aM h1 (aM h2 (ac e ⟨fun H H H h => (nomatch h), rfl⟩))
  | [], _ :: _, _, _, _, e, h1, h2 => aM h1 (au h2 fun H H H H => ac e (EqsO.none1 _ _))
  | _ :: _, [], _, _, _, e, h1, h2 => au h1 fun H H H H => aM h2 (ac e (EqsO.none2 _ _))
  | a :: as, b :: bs, _, _, _, e, h1, h2 => au h1 fun H H a1 a2 => au h2 fun H H b1 b2 => bS e fun H q1 e => bS e fun H q2 e => ac e (EqsO.cons (iL q1 a1 b1) (qb q2 a2 b2))
theorem sx {as bs : List V} {vs ws : List Value} {r : Bool} {l b : Addr} (e : pA as bs = some r) (h1 : VRs c X ρ h as vs) (h2 : VRs c X ρ h bs ws) (hl : s.heap.IsList l vs.toArray) (hb : s.heap.IsList b ws.toArray) (hu : A.units < cLine) :
    RcAt A s (.ref l) (.ref b) r ∧ RcNeAt A s (.ref l) (.ref b) (!r) := by
  obtain ⟨k1, k2⟩ := qb (A := A.in1) (s := s) e h1 h2
  by_cases hz : vs.length = ws.length
  · have he : ∀ j (q1 : j < vs.toArray.size) (q2 : j < ws.toArray.size), EqAt A.in1 s vs.toArray[j] ws.toArray[j] ((fun j => nV (vs.getD j .none) (ws.getD j .none)) j) := fun j q1 q2 => by
      have q1' : j < vs.length := by simpa using q1
      have q2' : j < ws.length := by simpa using q2
      have := k1 j vs[j] ws[j] (by simp [q1']) (by simp [q2'])
      have e1 : vs.getD j .none = vs[j] := by simp [q1']
      have e2 : ws.getD j .none = ws[j] := by simp [q2']
      simpa [e1, e2, q1', q2'] using this
    have hr : r = (List.range vs.toArray.size).all (fun j => nV (vs.getD j .none) (ws.getD j .none)) := by
      rw [k2]; simp [hz]
    rw [hr]
    exact ⟨RcAt.lists hl hb (by simpa using hz) hu he, RcNeAt.lists hl hb (by simpa using hz) hu he⟩
  · have hr : r = false := by rw [k2]; simp [hz]
    subst hr
    exact ⟨RcAt.lists_lengths hl hb (by simpa using hz) hu, RcNeAt.lists_lengths hl hb (by simpa using hz) hu⟩
theorem qa {as bs : List V} {vs ws : List Value} {r : Bool} {l b : Addr} (e : pA as bs = some r) (h1 : VRs c X ρ h as vs) (h2 : VRs c X ρ h bs ws) (hl : s.heap.IsTuple l vs.toArray) (hb : s.heap.IsTuple b ws.toArray) (hu : A.units < cLine) :
    RcAt A s (.ref l) (.ref b) r ∧ RcNeAt A s (.ref l) (.ref b) (!r) := by
  obtain ⟨k1, k2⟩ := qb (A := A.in1) (s := s) e h1 h2
  have he : ∀ j (q1 : j < vs.toArray.size) (q2 : j < ws.toArray.size), EqAt A.in1 s vs.toArray[j] ws.toArray[j] ((fun j => nV (vs.getD j .none) (ws.getD j .none)) j) := fun j q1 q2 => by
    have q1' : j < vs.length := by simpa using q1
    have q2' : j < ws.length := by simpa using q2
    have := k1 j vs[j] ws[j] (by simp [q1']) (by simp [q2'])
    have e1 : vs.getD j .none = vs[j] := by simp [q1']
    have e2 : ws.getD j .none = ws[j] := by simp [q2']
    simpa [e1, e2, q1', q2'] using this
  have hr : r = ((List.range (min vs.toArray.size ws.toArray.size)).all (fun j => nV (vs.getD j .none) (ws.getD j .none)) && vs.toArray.size == ws.toArray.size) := by rw [k2]; simp
  rw [hr]
  exact ⟨RcAt.tuples hl hb hu he, RcNeAt.tuples hl hb hu he⟩
structure InO (A : Around) (s : Shared) (va : Value) (vs : List Value) (r : Bool) : Prop where
  at_ : ∀ y, y ∈ vs → EqAt A s y va (nV y va)
  eq : r = vs.any fun y => nV y va
theorem InO.cons {v va : Value} {vs : List Value} {x y : Bool} (k1 : xD A s v va x) (k2 : InO A s va vs y) : InO A s va (v :: vs) (x || y) :=
  ⟨fun y hy => (List.mem_cons.mp hy).elim (fun e => by rw [e, k1.2.2.1]; exact k1.2.1) (k2.1 y), by rw [k2.2, ← k1.2.2.1]; rfl⟩
theorem mN {a : V} {va : Value} (ha : VR c X ρ h a va) : ∀ {l : List V} {vs : List Value} {r : Bool}, sC a l = some r → VRs c X ρ h l vs → InO A s va vs r
  | [], _, _, e, h1 => aM h1 (ac e ⟨fun H h => (nomatch h), rfl⟩)
  | x :: l, _, _, e, h1 => au h1 fun H H a1 a2 => bS e fun H q1 e => bS e fun H q2 e => ac e (InO.cons (iL q1 a1 ha) (mN ha q2 a2))
def VD (c : Cx) (X : Addr → Prop) (ρ : aN) (h : Heap) (d : V) (v : Value) : Prop := match d with
  | .list l => ∃ p xs, v = .ref p ∧ h.IsList p xs.toArray ∧ VRs c X ρ h l xs
  | d => VR c X ρ h d v
set_option tactic.hygienic true in
theorem ch {FX : Addr → Prop} {σ : St} {a : V} {v : Value} (W : WR c ρ h FX σ) (ha : VR c (XX ρ FX) ρ h a v) : VD c (XX ρ FX) ρ h (bq σ a) v := by
  have hd : ∀ d, VR c (XX ρ FX) ρ h d v → VD c (XX ρ FX) ρ h d v := fun d q => by
    cases d <;> first | exact q | skip
    rw [VR] at q
    obtain ⟨p, xs, rfl, _, q1, q2⟩ := q
    exact ⟨p, xs, rfl, q1, q2⟩
  unfold bq
  split
  · rename_i k
    split
    · rename_i l e
      rw [VR] at ha
      obtain ⟨q, hq, rfl⟩ := ha
      obtain ⟨xs, n, _, ho, hx⟩ := W.at_ k q _ hq e
      exact ⟨q.1, xs, rfl, ⟨_, ho, rfl, n, rfl⟩, hx⟩
    · exact hd _ ha
  · exact hd _ ha
end
theorem ey (r : Addr) (a b i : Int) (t u v w' : Tok) :
    Meets (Builtin.«range.__contains__» ⟨[.ref r, .int i w'], []⟩)
      (fun A R s => IsRange s.heap r a b 1 t u v ∧ R (.ok (.ret (.bool (decide (a ≤ i) && decide (i < b))))) s) :=
  .of_wp fun prog w A R s h => by
    obtain ⟨hp, g, d, tk, os⟩ := s; obtain ⟨hl, h⟩ := h
    have e : (Builtin.Range.rangePlace? a b 1 i).isSome = (decide (a ≤ i) && decide (i < b)) := by
      unfold Builtin.Range.rangePlace?
      simp only [show (1 : Int) > 0 by decide, if_true, Int.emod_one, beq_self_eq_true, Bool.and_true]
      split <;> simp_all
    show wpAny _ _ (Builtin.Range.rangeFields (.ref r) >>= fun q => _) _ _ _
    refine wpAny_bind ?_
    unfold Builtin.Range.rangeFields
    refine wpAny_bind (wpAny_field (x := .int a t) hl rfl rfl (wpAny_bind (wpAny_of_eq (a := some a) rfl (wpAny_bind (wpAny_field (x := .int b u) hl rfl rfl (wpAny_bind (wpAny_of_eq (a := some b) rfl (wpAny_bind (wpAny_field (x := .int 1 v) hl rfl rfl (wpAny_bind (wpAny_of_eq (a := some 1) rfl (wpAny_pure ?_))))))))))))
    show wpAny _ _ (ret (.bool (Builtin.Range.rangePlace? a b 1 i).isSome)) _ _ _
    rw [e]
    exact wpAny_pure ⟨_, rfl, h⟩
section
variable {c : Cx} {FX : Addr → Prop} {ρ : aN} {σ : St} {s : Shared} {A : Around} {E : Value → Shared → Prop}
theorem vQ {a : V} {va : Value} {X : Addr → Prop} {h : Heap} (ha : VD c X ρ h a va) (n : ∀ l, a ≠ .list l) : VR c X ρ h a va := by
  cases a <;> first | exact ha | exact absurd rfl (n _)
theorem u8 {a b : V} {r : Bool} (e : pz a b = some r) : (∀ l, a ≠ .list l) ∧ ∀ l, b ≠ .list l := by
  cases a <;> first | exact ae e | exact ⟨fun H z => (nomatch z), fun l z => by rw [z] at e; exact ae e⟩
theorem Bg {a b : V} {r : Bool} {va vb : Value} {X : Addr → Prop} (e : pz a b = some r) (ha : VD c X ρ s.heap a va) (hb : VD c X ρ s.heap b vb) : RcAt A s va vb r ∧ RcNeAt A s va vb (!r) :=
  have k := iL (A := A) (s := s) e (vQ ha (u8 e).1) (vQ hb (u8 e).2)
  ⟨k.1, k.2.2.2⟩
@[elab_as_elim] theorem dh {l : List V} {v : Value} {X : Addr → Prop} {h : Heap} {C : Value → Prop} (ha : VD c X ρ h (.list l) v) (f : ∀ p xs, h.IsList p xs.toArray → VRs c X ρ h l xs → C (.ref p)) : C v := by
  obtain ⟨p, xs, rfl, hp, hx⟩ := ha; exact f p xs hp hx
theorem u9 {a b : V} {r : Bool} {va vb : Value} {X : Addr → Prop} (e : vX a b = some r) (hu : A.units < cLine) (ha : VD c X ρ s.heap a va) (hb : VD c X ρ s.heap b vb) :
    RcAt A s va vb r ∧ RcNeAt A s va vb (!r) := by
  cases a <;> first | (refine Bg (b := b) ?_ ha hb; exact e) | skip
  · exact oS (C := fun b => VD c X ρ s.heap b vb → _) e (fun bs e hb => bN (C := fun va => RcAt A s va vb r ∧ RcNeAt A s va vb (!r)) ha fun p xs H q1 q2 => bN (C := fun vb => RcAt A s _ vb r ∧ RcNeAt A s _ vb (!r)) hb fun p' xs' H q1' q2' => qa e q2 q2' q1 q1' hu) hb
  · exact rH (C := fun b => VD c X ρ s.heap b vb → _) e (fun bs e hb => dh (C := fun va => RcAt A s va vb r ∧ RcNeAt A s va vb (!r)) ha fun p xs q1 q2 => dh (C := fun vb => RcAt A s _ vb r ∧ RcNeAt A s _ vb (!r)) hb fun p' xs' q1' q2' => sx e q2 q2' q1 q1' hu) hb
theorem zG {op : CmpOp} {as bs : List V} {r : Bool} {p p' : Addr} {xs xs' : List Value} {X : Addr → Prop} (e : l5 op (.tup as) (.tup bs) = some r) (hu : A.units < cLine) (q1 : s.heap.IsTuple p xs.toArray) (q2 : VRs c X ρ s.heap as xs) (q1' : s.heap.IsTuple p' xs'.toArray) (q2' : VRs c X ρ s.heap bs xs') : mf op A s (.ref p) (.ref p') r := by
  cases op <;> first | exact ae e | skip
  · exact mZ q1 q1' hu (qo e q2 q2' fun s' e' hs he => by
      subst hs he
      simp only [fF, List.size_toArray]
      by_cases z1 : xs.length < xs'.length
      · simp [z1]; omega
      · by_cases z2 : xs.length = xs'.length
        · simp [z2]
        · simp [z1, z2]; omega)
  · exact mY q1 q1' hu (qo e q2 q2' fun s' e' hs he => by
      subst hs he
      simp only [fF, List.size_toArray]
      simp [← Nat.not_lt])
theorem x7 {op : CmpOp} {a b : V} {r : Bool} {va vb : Value} {X : Addr → Prop} (e : l5 op a b = some r) (hu : A.units < cLine) (ha : VR c X ρ s.heap a va) (hb : VR c X ρ s.heap b vb) :
    mf op A s va vb r := by
  cases a <;> first | (refine jH (b := b) ?_ ha hb; exact e) | skip
  exact bN ha fun p xs H q1 q2 => oS (C := fun b => VR c X ρ s.heap b vb → mf op A s (.ref p) vb r) e (fun bs e hb => bN hb fun p' xs' H q1' q2' => zG e hu q1 q2 q1' q2') hb
def Dz (A : Around) (s : Shared) (va vb : Value) (r : Bool) : Prop := ∀ (prog : Program) (w : World) (E Q : Value → Shared → Prop), (Q (.bool r) s → wpAny (model prog w) A (compareOp .In va vb) Q E s) ∧ (Q (.bool (!r)) s → wpAny (model prog w) A (compareOp .NotIn va vb) Q E s)
theorem EJ {va : Value} {xs : List Value} {p : Addr} {r : Bool} (k : InO A.in1 s va xs r) (hp : s.heap.IsTuple p xs.toArray) : Dz A s va (.ref p) r := by
  rw [k.2]
  exact fun prog w E Q => ⟨fun hq => in_tupleAt (fun y => nV y va) hp (by simpa using k.1) (by simpa using hq), fun hq => notIn_tupleAt (fun y => nV y va) hp (by simpa using k.1) (by simpa using hq)⟩
theorem EH {va : Value} {xs : List Value} {p : Addr} {r : Bool} (k : InO A.in1 s va xs r) (hp : s.heap.IsList p xs.toArray) : Dz A s va (.ref p) r := by
  rw [k.2]
  exact fun prog w E Q => ⟨fun hq => in_listAt (fun y => nV y va) hp (by simpa using k.1) (by simpa using hq), fun hq => notIn_listAt (fun y => nV y va) hp (by simpa using k.1) (by simpa using hq)⟩
theorem EI {i lo hi : Int} {w' t u v : Tok} {p : Addr} (hr : IsRange s.heap p lo hi 1 t u v) : Dz A s (.int i w') (.ref p) (decide (lo ≤ i) && decide (i < hi)) :=
  fun prog w E Q => ⟨fun hq => in_meets ⟨_, hr, rfl⟩ PySem.F.slot_range_contains PySem.F.entry_range_contains (PySem.F.args_range_contains_2 _ _) (ey p _ _ _ t u v w') ⟨hr, _, rfl, hq⟩,
    fun hq => notIn_meets ⟨_, hr, rfl⟩ PySem.F.slot_range_contains PySem.F.entry_range_contains (PySem.F.args_range_contains_2 _ _) (ey p _ _ _ t u v w') ⟨hr, _, rfl, hq⟩⟩
theorem uo {a b : V} {r : Bool} {va vb : Value} {X : Addr → Prop} (e : y8 a b = some r) (ha : VR c X ρ s.heap a va) (hb : VD c X ρ s.heap b vb) : Dz A s va vb r := by
  cases b <;> first | exact ae e | skip
  · exact bN hb fun p xs H q1 q2 => EJ (mN ha e q2) q1
  · exact dh hb fun p xs q1 q2 => EH (mN ha e q2) q1
  · have hb' := hb
    simp only [VD] at hb'
    rw [VR] at hb'
    obtain ⟨p, t, u, w, rfl, _, hr⟩ := hb'
    exact bZ e ha fun i t e => ac e (EI hr)
theorem rb {op : CmpOp} {a b : V} {r : Bool} {va vb : Value} {Q : Value → Shared → Prop} (W : WR c ρ s.heap FX σ) (hu : A.units < cLine) (e : f6 op a b σ = some r)
    (ha : VR c (XX ρ FX) ρ s.heap a va) (hb : VR c (XX ρ FX) ρ s.heap b vb) (hq : Q (.bool r) s) : wpAny c.M A (compareOp op va vb) Q E s := by
  cases op
  case Eq => exact (u9 e hu (ch W ha) (ch W hb)).1 c.prog c.w E Q hq
  case NotEq =>
    obtain ⟨r', e', rfl⟩ := Option.map_eq_some_iff.mp e
    exact (u9 e' hu (ch W ha) (ch W hb)).2 c.prog c.w E Q hq
  case In => exact (uo e ha (ch W hb) c.prog c.w E Q).1 hq
  case NotIn =>
    obtain ⟨r', e', rfl⟩ := Option.map_eq_some_iff.mp e
    exact (uo e' ha (ch W hb) c.prog c.w E Q).2 hq
  case Is => cases a <;> first | exact ae e | (cases b <;> exact ae e)
  case IsNot => cases a <;> first | exact ae e | (cases b <;> exact ae e)
  all_goals exact (show mf _ A s va vb r from x7 (a := a) (b := b) (by exact e) hu ha hb) c.prog c.w E Q hq
end
end Mine
end
section
namespace Mine
open PySem PySem.W PyProof.Rows PySem.Calls PySem.SeqAt
open AutoSeq1 (wpAny_loadPart')
open Builtin
section
variable {prog : Program} {w : World} {A : Around} {E : Value → Shared → Prop} {s : Shared}
theorem g6 {value slice : PySem.Expr} {o i : Value} {T id : String} {Q : Value → Shared → Prop} (hT : s.TypeIs o T)
    (hl : typeLookup (.type T) "__getitem__" = pure (some (.builtin id))) (h : wpAny (model prog w) A (getItem o i) Q E s) :
    wpAny (model prog w) A (subscriptTail value slice o i) Q E s := by
  unfold subscriptTail
  refine wpAny_bind ?_
  rw [getitemInPython_of_ne hT.not_modules]
  refine wpAny_bind (wpAny_specialOf hT hl ?_)
  have fin : wpAny (model prog w) A (subscripted slice false o i) (fun r s₃ => wpAny (model prog w) A (letTemporaryGo value o r >>= fun H => pure r) Q E s₃) E s := by
    have k : ∀ ops, wpAny (model prog w) A (operate ops (getItem o i)) (fun r s₃ => wpAny (model prog w) A (letTemporaryGo value o r >>= fun H => pure r) Q E s₃) E s := fun ops =>
      wpAny_operating (wpAny_mono h (fun r s₃ h₃ => wpAny_bind (wpAny_letTemporaryGo (wpAny_pure h₃))) fun H H x => x)
    unfold subscripted
    split
    · exact k _
    · rename_i e; cases e
    · exact k _
  first
    | exact wpAny_pure (wpAny_bind fin)
    | exact wpAny_bind (wpAny_pure (wpAny_bind fin))
    | exact wpAny_bind fin
theorem Dm {n : Nat} (h : n ≤ 1048576) : n ≤ 16777216 := Nat.le_trans h (by decide)
theorem vq {i : Int} {n : Nat} (h0 : 0 ≤ i) (h1 : i.toNat < n) : seqIndex? i n = some i.toNat := by
  have hn : ¬ i < 0 := Int.not_lt.mpr h0
  have h2 : i < n := (Int.toNat_lt h0).mp h1
  simp [seqIndex?, hn, h0, h2]
theorem kq (lo hi : Option Nat) (n : Nat) : sliceBounds (lo.map Int.ofNat) (hi.map Int.ofNat) none n = (((min (lo.getD 0) n : Nat) : Int), ((min (hi.getD n) n : Nat) : Int), (1 : Int)) := by
  have k : ∀ a : Nat, (if (1 : Int) > 0 then max 0 (min (if Int.ofNat a < 0 then Int.ofNat a + n else Int.ofNat a) (n : Int)) else max (-1) (min (if Int.ofNat a < 0 then Int.ofNat a + n else Int.ofNat a) ((n : Int) - 1))) = ((min a n : Nat) : Int) := fun a => by
    rw [if_pos (by decide), if_neg (by simp)]
    have e : min (a : Int) (n : Int) = ((min a n : Nat) : Int) := by
      by_cases h : a ≤ n
      · rw [Nat.min_eq_left h]; exact Int.min_eq_left (Int.ofNat_le.mpr h)
      · have h := Nat.le_of_not_le h
        rw [Nat.min_eq_right h]; exact Int.min_eq_right (Int.ofNat_le.mpr h)
    exact (congrArg (max 0) e).trans (Int.max_eq_right (Int.natCast_nonneg _))
  unfold sliceBounds
  refine Prod.ext ?_ (Prod.ext ?_ rfl)
  · cases lo with
    | none => simp
    | some a => exact k a
  · cases hi with
    | none => simp
    | some a => exact k a
theorem ww {α : Type} (l : List α) (a b : Nat) : (l.drop (min a l.length)).take (min b l.length - min a l.length) = (l.take b).drop a := by
  rw [List.drop_take]
  by_cases h1 : a ≤ l.length
  · rw [Nat.min_eq_left h1, List.take_eq_take_iff, List.length_drop, Nat.sub_min_sub_right, Nat.sub_min_sub_right, Nat.min_assoc, Nat.min_self]
  · have h1 := Nat.le_of_not_le h1
    rw [Nat.min_eq_right h1, List.drop_eq_nil_of_le (Nat.le_refl _), List.drop_eq_nil_of_le h1, List.take_nil, List.take_nil]
theorem tE {α : Type} (xs : Array α) (lo hi : Option Nat) :
    (sliceRange (sliceBounds (lo.map Int.ofNat) (hi.map Int.ofNat) none xs.size).1 (sliceBounds (lo.map Int.ofNat) (hi.map Int.ofNat) none xs.size).2.1 (sliceBounds (lo.map Int.ofNat) (hi.map Int.ofNat) none xs.size).2.2).filterMap (xs[·]?) = mw xs.toList lo hi := by
  rw [kq]
  simp only [sliceRange_one, pick_run]
  have h := ww xs.toList (lo.getD 0) (hi.getD xs.size)
  rw [Array.length_toList] at h
  unfold mw
  rw [Array.length_toList]
  exact h
theorem wO {c : Prop} [Decidable c] {X Y : Prop} (hc : c) (h : X) : if c then X else Y := by
  rw [if_pos hc]
  exact h
theorem oI (b : Array UInt8) (t : Tok) (a : Addr) {l u : Value} {lo hi : Option Int} (hl : IsPart l lo) (hu : IsPart u hi) (hne : KBy.whole b lo hi = true) :
    Meets («bytes.__getitem__» ⟨[.bytes b t, .ref a], []⟩) (fun H R s => s.heap.IsSliceOf a l u .none ∧ R (.ok (.ret (.bytes b t))) s) := by
  refine .of_wp fun prog w A R s hS => ?_
  obtain ⟨⟨o, ho, hc, hd⟩, h⟩ := hS
  have hT : s.TypeIs (.ref a) "slice" := ⟨o, ho, hc⟩
  show wpAny _ _ (Bytes.payload (.bytes b t) >>= fun r => _) _ _ s
  refine wpAny_bind (wpAny_of_eq (a := b) rfl ?_)
  show wpAny _ _ (Bytes.subscript? (.ref a) >>= fun r => _) _ _ s
  refine wpAny_bind ?_
  unfold Bytes.subscript?
  refine wpAny_bind (wpAny_specialOf hT slice_no_index (wpAny_pure ?_))
  refine wpAny_bind (wpAny_typeOf hT ?_)
  show wpAny _ _ (Bytes.sliceParts (.ref a) >>= fun r => _) _ _ s
  refine wpAny_bind ?_
  unfold Bytes.sliceParts
  refine wpAny_bind (wpAny_field (x := .none) ho hd rfl ?_)
  kby_none
  refine wpAny_ite (KBy.ite_no (show ¬ ((Value.none == rawInt 0) = true) from Bool.false_ne_true) ?_)
  refine wpAny_bind (wpAny_field (x := l) ho hd rfl ?_)
  have go : wpAny (model prog w) A.in1 (sliceIndices (rawPart lo) (rawPart hi) (rawPart none) b.size) (fun r s' => r = sliceBounds lo hi none b.size ∧ s' = s) (fun H H => False) s :=
    wpAny_of_eq (sliceIndices_raw lo hi none b.size (fun e => nomatch e)) ⟨rfl, rfl⟩
  cases hl <;> cases hu <;> (first
    | (kby_none; (refine wpAny_bind (wpAny_field (x := .none) ho hd rfl ?_)); kby_none)
    | (kby_none; (refine wpAny_bind (wpAny_field (x := .int _ _) ho hd rfl ?_)); kby_int)
    | (kby_int; (refine wpAny_bind (wpAny_field (x := .none) ho hd rfl ?_)); kby_none)
    | (kby_int; (refine wpAny_bind (wpAny_field (x := .int _ _) ho hd rfl ?_)); kby_int)) <;> refine wpAny_pure ?_
  all_goals
    refine wpAny_bind (wpAny_mono go (fun r s' hr => ?_) fun H H e => e.elim)
    obtain ⟨hr1, hr2⟩ := hr
    subst hr1 hr2
    refine wpAny_ite (wO hne ?_)
    refine wpAny_bind (wpAny_typeOf (typeIs_bytes _ b t) ?_)
    exact wpAny_bind (wpAny_rule (wpAny_pure ⟨_, rfl, h⟩))
theorem o5 {b : List UInt8} {t : Tok} {a : Addr} {l u : Value} {lo hi : Option Nat} {Q : Value → Shared → Prop} (hs : s.heap.IsSliceOf a l u .none) (hl : IsPart l (lo.map Int.ofNat)) (hu : IsPart u (hi.map Int.ofNat)) (hz : b.length ≤ 1048576)
    (h : ∀ t' k, Q (.bytes (mw b lo hi).toArray t') { s with toks := k }) : wpAny (model prog w) A (getItem (.bytes b.toArray t) (.ref a)) Q E s := by
  cases hw : KBy.whole b.toArray (lo.map Int.ofNat) (hi.map Int.ofNat) with
  | true =>
    refine getItem_meets (typeIs_bytes _ _ _) (by decide) FB.slot_bytes_getitem FB.entry_bytes_getitem (FB.args_bytes_getitem_2 _ _) (oI _ t _ hl hu hw) ⟨hs, ?_⟩
    have e : mw b lo hi = b := by
      unfold KBy.whole at hw
      rw [kq] at hw
      simp only [Bool.and_eq_true, beq_iff_eq, Bool.not_eq_true', Array.isEmpty_eq_false_iff, ne_eq] at hw
      obtain ⟨⟨⟨h1, _⟩, h2⟩, h3⟩ := hw
      have hz : 0 < b.length := by
        cases b with
        | nil => simp at h3
        | cons _ _ => simp
      simp only [List.size_toArray] at h1 h2
      have e1 : lo.getD 0 = 0 := by omega
      have e2 : b.length ≤ hi.getD b.length := by omega
      unfold mw
      rw [e1, List.drop_zero, List.take_of_length_le e2]
    have h' := h t s.toks
    rw [e] at h'
    exact h'
  | false =>
    have e : KBy.picked b.toArray (lo.map Int.ofNat) (hi.map Int.ofNat) = (mw b lo hi).toArray := by
      unfold KBy.picked Bytes.sliced
      rw [tE]
    refine getItem_meets (typeIs_bytes _ _ _) (by decide) FB.slot_bytes_getitem FB.entry_bytes_getitem (FB.args_bytes_getitem_2 _ _) (KBy.meets_slice _ t _ hl hu hw) ⟨hs, ?_, ?_⟩
    · rw [e, sizeLine_eq]
      have : (mw b lo hi).length ≤ b.length := by unfold mw; rw [List.length_drop, List.length_take]; exact Nat.le_trans (Nat.sub_le _ _) (Nat.min_le_right _ _)
      exact Nat.le_trans this (Dm hz)
    · rw [e]
      exact h _ _
theorem mL {l sl : Addr} {vs : List Value} {vu : Value} {k : Nat} {Q : Value → Shared → Prop} (hl : s.heap.IsList l vs.toArray) (hs : s.heap.IsSliceOf sl .none vu .none) (pu : IsPart vu (some (k : Int))) (hz : vs.length ≤ 1048576)
    (h : Q (.ref s.heap.objs.size) { s with heap := s.heap.push { cls := .type "list", data := .seq (vs.take k).toArray } }) : wpAny (model prog w) A (getItem (.ref l) (.ref sl)) Q E s := by
  refine wpAny_getItem_list_slice hl hs .none pu .none (by simp) ?_ (by rw [sizeLine_eq]; simp only [List.size_toArray]; omega)
  have e : slicePick vs.toArray none (some (k : Int)) none = (vs.take k).toArray := by
    unfold slicePick
    exact congrArg List.toArray ((tE vs.toArray none (some k)).trans (by simp [mw]))
  rw [e]
  exact h
theorem iz {sl : Addr} {k n : Nat} {u : Tok} {Q : Int × Int × Nat → Shared → Prop} (hs : s.heap.IsSliceOf sl .none (.int k u) .none) (ha : k ≤ n) (h : Q ((0 : Int), 1, k) s) :
    wpAny (model prog w) A (Builtin.Slice.sliceApplied (.ref sl) (pure (n : Int))) Q E s := by
  obtain ⟨os, hos, hcs, hds⟩ := id hs
  unfold Builtin.Slice.sliceApplied Builtin.Slice.sliceFields
  refine wpAny_bind (wpAny_bind (wpAny_field hos hds (x := .none) rfl (wpAny_bind (wpAny_field hos hds (x := .int k u) rfl (wpAny_bind (wpAny_field hos hds (x := .none) rfl (wpAny_pure ?_)))))))
  refine wpAny_bind (slicePart_none ?_)
  show wpAny _ _ (if ((1 : Int) == 0) = true then _ else _) _ _ s
  rw [if_neg (by decide)]
  refine wpAny_bind (slicePart_none (wpAny_bind (slicePart_int (wpAny_bind (wpAny_pure ?_)))))
  show wpAny _ _ (match Builtin.Slice.sliceAdjust none (some (k : Int)) 1 (n : Int) with | (lo, hi) => pure (lo, (1 : Int), Builtin.Slice.slicePlaces lo hi 1)) _ _ s
  have e1 : Builtin.Slice.sliceAdjust none (some (k : Int)) 1 (n : Int) = ((0 : Int), (k : Int)) := by
    unfold Builtin.Slice.sliceAdjust
    have h1 : ¬ ((1 : Int) < 0) := by decide
    have h2 : ¬ ((k : Int) < 0) := Int.not_lt.mpr (Int.natCast_nonneg k)
    simp only [h1, h2, if_false]
    congr 1
    omega
  have e2 : Builtin.Slice.slicePlaces (0 : Int) (k : Int) 1 = k := by
    unfold Builtin.Slice.slicePlaces
    have h1 : (1 : Int) > 0 := by decide
    simp only [h1, if_true, Int.ediv_one]
    split <;> omega
  rw [e1]
  show wpAny _ _ (pure ((0 : Int), (1 : Int), Builtin.Slice.slicePlaces (0 : Int) (k : Int) 1)) _ _ s
  rw [e2]
  exact wpAny_pure h
theorem iQ {t sl : Addr} {vs : List Value} {k : Nat} {u : Tok} {Q : Value → Shared → Prop} (ht : s.heap.IsTuple t vs.toArray) (hs : s.heap.IsSliceOf sl .none (.int k u) .none) (ha : k < vs.length)
    (h : Q (.ref s.heap.objs.size) { s with heap := s.heap.push { cls := .type "tuple", data := .seq (vs.take k).toArray } })
    (hsz : vs.length ≤ 1048576) : wpAny (model prog w) A (getItem (.ref t) (.ref sl)) Q E s := by
  have ht' : IsTup s.heap t vs.toArray := ht
  have hdrop : sizeOk (.seq (vs.take k).toArray) := by
    show (vs.take k).toArray.size ≤ sizeLine
    rw [List.size_toArray, List.length_take, sizeLine_eq]
    exact Nat.le_trans (Nat.min_le_right _ _) (Dm hsz)
  obtain ⟨os, hos, hcs, hds⟩ := id hs
  have hTs : s.TypeIs (.ref sl) "slice" := ⟨os, hos, hcs⟩
  unfold getItem
  try with_reducible refine wpAny_holding ?_
  first | refine wpAny_bind (wpAny_pure ?_) | skip
  refine wpAny_bind (wpAny_sequenceKey ht'.typeIs (by decide) ?_)
  refine wpAny_bind (wpAny_callSpecial?_slot (name := Str.ofString "__getitem__") ht'.typeIs slot_tuple_getitem
    (wpAny_call_entry slot_tuple_getitem ht'.typeIs entry_tuple_getitem ?_ (args_tuple_getitem _ _)))
  show wpAny _ _ (Builtin.Tuple.tupleItemsOf (.ref t) >>= _) _ _ s
  refine wpAny_bind (tupleItemsOf_ ht' ?_)
  refine wpAny_bind (wpAny_typeOf hTs ?_)
  rw [if_pos (by decide)]
  refine wpAny_bind (iz hs (n := vs.toArray.size) (by simp; omega) ?_)
  have hno : ¬ (((0 : Int) == 0 && (1 : Int) == 1 && k == vs.toArray.size) = true) := by
    simp; omega
  show wpAny _ _ (if ((0 : Int) == 0 && (1 : Int) == 1 && k == vs.toArray.size) = true then _ else _) _ _ s
  have e : ((List.range k).filterMap fun (j : Nat) => vs.toArray[((0 : Int) + (j : Int) * 1).toNat]?).toArray = (vs.take k).toArray := by
    have := pick_run vs.toArray 0 k
    rw [List.filterMap_map] at this
    simp only [List.drop_zero] at this
    rw [← this]
    congr 2
    funext j
    have : ((0 : Int) + (j : Int) * 1).toNat = 0 + j := by rw [Int.mul_one, Int.zero_add, Int.toNat_natCast, Nat.zero_add]
    rw [this]; rfl
  rw [if_neg hno, e]
  first
    | exact wpAny_bind (m := Builtin.Tuple.tupleExact _) (wpAny_newObj_type (wpAny_pure ⟨_, rfl, wpAny_pure h⟩) hdrop)
    | exact wpAny_bind (m := Builtin.Tuple.tupleExact _) (wpAny_newObj_type (wpAny_bind (wpAny_pure (wpAny_pure ⟨_, rfl, wpAny_pure h⟩))) hdrop)
    | exact wpAny_bind (wpAny_bind (m := Builtin.Tuple.tupleExact _) (wpAny_newObj_type (wpAny_pure (wpAny_pure ⟨_, rfl, wpAny_pure h⟩)) hdrop))
end
end Mine
end
section
namespace Mine
open PySem PySem.W PyProof.Rows PySem.Calls PySem.SeqAt
section
variable {c : Cx} {FX : Addr → Prop} {ρ : aN} {σ : St} {s : Shared} {A : Around} {E : Value → Shared → Prop} {X : Addr → Prop} {h : Heap}
theorem nK {l : List V} {xs : List Value} {i : Int} {d : V} (hx : VRs c X ρ h l xs) (e : jc l i = some d) : 0 ≤ i ∧ ∃ v, xs[i.toNat]? = some v ∧ VR c X ρ h d v :=
  aY e fun h0 e => ⟨h0, hx.get e⟩
theorem sK {xs : List Value} {i : Nat} {v : Value} (e : xs[i]? = some v) : i < xs.length := (List.getElem?_eq_some_iff.mp e).1
theorem rt {k : Nat} (hk' : k < 31) {d : V} : ∀ {ks : List Nat} {l : List V} {xs : List Value}, dW k ks l = some d → VRs c X ρ h l xs → (∀ k ∈ ks, k < 31) →
    ∃ v, valueAt ((ks.map dE).zip xs) (dE k) = some v ∧ VR c X ρ h d v
  | [], _, _, e, _, _ => ae e
  | _ :: _, [], _, e, _, _ => ae e
  | a :: ks, b :: l, _, e, hx, hk => au hx fun v xs h1 h2 => by
    have e : (if a = k then some b else dW k ks l) = some d := e
    by_cases q : a = k
    · rw [if_pos q] at e
      cases e
      exact ⟨v, by simp [valueAt, q], h1⟩
    · rw [if_neg q] at e
      obtain ⟨w, h3, h4⟩ := rt hk' e h2 fun k h => hk k (.tail _ h)
      have hne : dE a ≠ dE k := fun z => q (jM a (hk a (.head _)) k hk' z)
      exact ⟨w, by unfold valueAt at h3 ⊢; simp [hne, h3], h4⟩
theorem eN (k : Nat) (t : Tok) : (strKind c.prog c.w).is (dE k) (.str (dE k) t) = true := by
  show Value.isStrOf (dE k) (.str (dE k) t) = true
  simp [Value.isStrOf]
theorem jm : typeLookup (.type "list") "__getitem__" = pure (some (.builtin "list.__getitem__")) := list_getitem_lookup
theorem ib : typeLookup (.type "tuple") "__getitem__" = pure (some (.builtin "tuple.__getitem__")) := PySem.F.slot_tuple_getitem.lookup
theorem oA : typeLookup (.type "dict") "__getitem__" = pure (some (.builtin "dict.__getitem__")) := PySem.F.slot_dict_getitem.lookup
section
variable {value slice : PySem.Expr} {a i d : V} {va vi : Value} {l : List V} {xs : List Value} {p : Addr} {ks : List Nat}
theorem uj {k : Int} (e : jc l k = some d) (hz : l.length ≤ aF) : k < 2 ^ 63 :=
  aY e fun h0 e => Int.lt_trans ((Int.toNat_lt h0).mp (Nat.lt_of_lt_of_le (List.getElem?_eq_some_iff.mp e).1 hz)) (by decide)
theorem y6 (W : WR c ρ s.heap FX σ) (e : kK i l = some d) (hl : s.heap.IsList p xs.toArray) (hx : VRs c (XX ρ FX) ρ s.heap l xs) (hi : VR c (XX ρ FX) ρ s.heap i vi) : wpAny c.M A (subscriptTail value slice (.ref p) vi) (Po c FX ρ s d σ) aC s :=
  bZ e hi fun k t e => aY e fun hz e => by
    obtain ⟨h0, v, hv, hd⟩ := nK hx e
    exact g6 hl.typeIs jm (wpAny_getItem_list hl h0 (uj e hz) (by simpa using hv) (fY W hd))
theorem Cr (W : WR c ρ s.heap FX σ) (e : kK i l = some d) (hl : IsTup s.heap p xs.toArray) (hx : VRs c (XX ρ FX) ρ s.heap l xs) (hi : VR c (XX ρ FX) ρ s.heap i vi) : wpAny c.M A (subscriptTail value slice (.ref p) vi) (Po c FX ρ s d σ) aC s :=
  bZ e hi fun k t e => aY e fun hz e => by
    obtain ⟨h0, v, hv, hd⟩ := nK hx e
    exact g6 hl.typeIs ib (PyProof.Rows.getItem_tuple hl (by omega) (uj e hz) (vq h0 (by simpa using sK hv)) (by simpa using hv) (fY W hd))
theorem y5 (W : WR c ρ s.heap FX σ) (e : (uX i fun k => dW k ks l) = some d) (hd : s.heap.DictOf (strKind c.prog c.w) p ((ks.map dE).zip xs)) (hk : ∀ k ∈ ks, k < 31) (hx : VRs c (XX ρ FX) ρ s.heap l xs) (hi : VR c (XX ρ FX) ρ s.heap i vi) : wpAny c.M A (subscriptTail value slice (.ref p) vi) (Po c FX ρ s d σ) aC s :=
  mX e hi fun k t hk' e => by
    obtain ⟨v, hv, hr⟩ := rt hk' e hx hk
    exact g6 hd.typeIs oA (wpAny_getItem_of (eN _ _) hd.mapOf hv (ce W hr _))
theorem Cq (W : WR c ρ s.heap FX σ) {q : Addr × Option Addr} {m : M} (e : (match m with | .list l => kK i l | .dict ks l => uX i fun k => dW k ks l | _ => none) = some d) (R : MR c (XX ρ FX) ρ s.heap q m) (hi : VR c (XX ρ FX) ρ s.heap i vi) : wpAny c.M A (subscriptTail value slice (.ref q.1) vi) (Po c FX ρ s d σ) aC s := by
  cases m with
  | list l => obtain ⟨xs, n, _, ho, hx⟩ := R; exact y6 W e ⟨_, ho, rfl, n, rfl⟩ hx hi
  | dict ks l => obtain ⟨xs, _, hd, hk, _, hx⟩ := R; exact y5 W e hd hk hx hi
  | inst ks l => exact ae e
theorem wL (W : WR c ρ s.heap FX σ) (e : g8 a i σ = some d)
    (ha : VR c (XX ρ FX) ρ s.heap a va) (hi : VR c (XX ρ FX) ρ s.heap i vi) : wpAny c.M A (subscriptTail value slice va vi) (Po c FX ρ s d σ) aC s := by
  cases a <;> first | exact ae e | skip
  · exact bN ha fun p xs H hl hx => Cr W e hl hx hi
  · exact di ha fun p xs H hl hx => y6 W e hl hx hi
  · rw [VR] at ha
    obtain ⟨p, xs, rfl, _, hd, hk, _, hx⟩ := ha
    exact y5 W e hd hk hx hi
  · exact qx (k := some) rfl ha fun k q hq z => by cases z; exact gg e fun m hm e => Cq W e (W.at_ _ q _ hq hm) hi
theorem rM {d : V} {v : Value} {p : Option Nat} (e : part? d = some p) (hd : VR c X ρ h d v) : IsPart v (p.map Int.ofNat) := by
  cases d <;> first | exact ae e | skip
  · cases e
    rw [VR] at hd
    subst hd
    exact .none
  · exact aY e fun hz e => ac e (by
      rw [VR] at hd
      obtain ⟨t, rfl⟩ := hd
      rw [Option.map_some, Int.ofNat_eq_natCast, Int.toNat_of_nonneg hz.1]
      exact .int _ t)
noncomputable def AH (s : Shared) (vl vh : Value) : Shared := { s with heap := s.heap.push { cls := .type "slice", data := .fields #[vl, vh, .none] } }
theorem xe {vl vh : Value} {k : Nat} (W : WR c ρ s.heap FX σ) (k1 : IsPart vl none) (k2 : IsPart vh (some (k : Int))) (hz : k < l.length ∧ l.length ≤ aF) (ht : IsTup s.heap p xs.toArray) (hx : VRs c (XX ρ FX) ρ s.heap l xs) :
    wpAny c.M A (subscriptTail value slice (.ref p) (.ref s.heap.objs.size)) (Po c FX ρ s (.tup (l.take k)) σ) aC (AH s vl vh) := by
  have P := Ps.push W { cls := .type "slice", data := .fields #[vl, vh, .none] }
  cases k1
  cases k2 with | int _ u =>
  rw [hx.length] at hz
  have ht' : IsTup (AH s .none (.int k u)).heap p xs.toArray := by
    obtain ⟨o, ho, r⟩ := ht
    exact ⟨o, Heap.get?_push_of_some _ ho, r⟩
  refine g6 ht'.typeIs ib (iQ ht' (Heap.IsSliceOf.new _ _ _ _) hz.1 ?_ hz.2)
  obtain ⟨ρ', P', r⟩ := l6 (s := AH s .none (.int k u)) P.wr ((P.vrs hx).take k) 0
  exact ⟨ρ', P.trans P', r⟩
theorem vw {vl vh : Value} {k : Nat} (W : WR c ρ s.heap FX σ) (k1 : IsPart vl none) (k2 : IsPart vh (some (k : Int))) (hz : l.length ≤ aF) (ht : s.heap.IsList p xs.toArray) (hx : VRs c (XX ρ FX) ρ s.heap l xs) :
    wpAny c.M A (subscriptTail value slice (.ref p) (.ref s.heap.objs.size)) (Po c FX ρ s (.list (l.take k)) σ) aC (AH s vl vh) := by
  have P := Ps.push W { cls := .type "slice", data := .fields #[vl, vh, .none] }
  cases k1
  rw [hx.length] at hz
  have ht' : (AH s .none vh).heap.IsList p xs.toArray := by
    obtain ⟨o, ho, r⟩ := ht
    exact ⟨o, Heap.get?_push_of_some _ ho, r⟩
  refine g6 ht'.typeIs jm (mL ht' (Heap.IsSliceOf.new _ _ _ _) k2 hz ?_)
  obtain ⟨ρ', P', r⟩ := jI (s := AH s .none vh) P.wr ((P.vrs hx).take k) 0
  exact ⟨ρ', P.trans P', r⟩
theorem xd {lo hi : V} {vl vh : Value} (W : WR c ρ s.heap FX σ) (e : pc a lo hi = some d)
    (ha : VR c (XX ρ FX) ρ s.heap a va) (hl : VR c (XX ρ FX) ρ s.heap lo vl) (hh : VR c (XX ρ FX) ρ s.heap hi vh) :
    wpAny c.M A (subscriptTail value slice va (.ref s.heap.objs.size)) (Po c FX ρ s d σ) aC { s with heap := s.heap.push { cls := .type "slice", data := .fields #[vl, vh, .none] } } := by
  refine bS e fun p ep e => bS e fun q eq e => ?_
  have k1 := rM ep hl
  have k2 := rM eq hh
  cases a <;> first | exact ae e | skip
  · exact iV (k := some) rfl ha fun b t z => by
      cases z
      exact aY e fun hz e => ac e (g6 (typeIs_bytes _ _ _) FB.slot_bytes_getitem.lookup (o5 (Heap.IsSliceOf.new _ _ _ _) k1 k2 hz fun t' k => ⟨ρ, (Ps.push W _).toks k, iD⟩))
  · exact bN ha fun r xs H ht hx => aY e fun hp e => bS e fun k hk e => aY e fun hz e => ac e (xe W (by rw [hp] at k1; exact k1) (by rw [hk] at k2; exact k2) hz ht hx)
  · exact di ha fun r xs H ht hx => aY e fun hp e => bS e fun k hk e => aY e fun hz e => ac e (vw W (by rw [hp] at k1; exact k1) (by rw [hk] at k2; exact k2) hz ht hx)
end
end
def nj {α : Type} (n : Nat) (R : α → Prop) : KasT α → Prop
  | .ret a => R a
  | .ask i j k => i < n ∧ j < n ∧ ∀ b, nj n R (k b)
theorem uS {α : Type} {n : Nat} {R S : α → Prop} (k : ∀ a, R a → S a) : ∀ {t : KasT α}, nj n R t → nj n S t
  | .ret _, h => k _ h
  | .ask _ _ _, h => ⟨h.1, h.2.1, fun b => uS k (h.2.2 b)⟩
theorem el {α β : Type} {n : Nat} {R : α → Prop} {S : β → Prop} {f : α → KasT β} : ∀ {t : KasT α}, nj n R t → (∀ a, R a → nj n S (f a)) → nj n S (t.bind f)
  | .ret _, h, k => k _ h
  | .ask _ _ _, h, k => ⟨h.1, h.2.1, fun b => el (h.2.2 b) k⟩
def cp (n : Nat) (p : Array Nat) : Prop := p.Perm (List.range n).toArray
theorem cp.lt {n : Nat} {p : Array Nat} (h : cp n p) (hn : 0 < n) (i : Nat) : p.getD i 0 < n := by
  by_cases hi : i < p.size
  · have e : p.getD i 0 = p[i] := by simp [Array.getD, hi]
    rw [e]
    have hm : p[i] ∈ p := Array.getElem_mem hi
    have := (Array.Perm.mem_iff h).mp hm
    simpa using this
  · have e : p.getD i 0 = 0 := by simp [Array.getD, hi]
    rw [e]; exact hn
theorem cp.rev {n : Nat} {p : Array Nat} (h : cp n p) (i j : Nat) : cp n (kas_rev p i j) := (mirror_perm p i j _).trans h
section
variable {n : Nat} (hn : 0 < n)
include hn
theorem qu {p : Array Nat} (h : cp n p) : ∀ (f m : Nat), nj n (fun H => True) (kas_asc p f m)
  | 0, _ => trivial
  | f + 1, m => ⟨h.lt hn _, h.lt hn _, fun b => by
    cases b
    · exact qu h f (m + 1)
    · exact trivial⟩
theorem jG : ∀ (f : Nat) {p : Array Nat} (m q : Nat), cp n p → nj n (fun r : Array Nat × Nat × Nat => cp n r.1) (kas_desc f p m q)
  | 0, _, _, _, h => h
  | f + 1, p, m, q, h => ⟨h.lt hn _, h.lt hn _, fun b => by
    cases b
    · exact ⟨h.lt hn _, h.lt hn _, fun d => by
        cases d
        · exact jG f _ _ h
        · exact h⟩
    · show nj n _ (if q > 0 then _ else _)
      split
      · exact jG f _ _ (h.rev _ _)
      · exact jG f _ _ h⟩
theorem oM {p : Array Nat} (h : cp n p) (m k : Nat) : nj n (fun r : Nat × Array Nat => cp n r.2) (kas_tail3 m k p) :=
  el (qu hn (h.rev _ _) _ _) fun H H => h.rev _ _
theorem jo {p : Array Nat} (h : cp n p) (m k : Nat) : nj n (fun r : Nat × Array Nat => cp n r.2) (kas_descPart m k p) :=
  el (jG hn _ _ _ h) fun r hr => by
    split
    · exact oM hn (hr.rev _ _) _ _
    · exact oM hn hr _ _
theorem uU {p : Array Nat} (h : cp n p) (k : Nat) : nj n (fun r : Nat × Array Nat => cp n r.2) (kas_count k p) :=
  el (qu hn h _ _) fun m H => by
    split
    · exact h
    · split
      · refine ⟨h.lt hn _, h.lt hn _, fun b => ?_⟩
        cases b
        · exact jo hn (h.rev _ _) _ _
        · exact h
      · exact jo hn h _ _
theorem kY {p : Array Nat} (h : cp n p) (k : Nat) : ∀ (f l r : Nat), nj n (fun H => True) (kas_place p k f l r)
  | 0, _, _ => trivial
  | f + 1, l, r => by
    show nj n _ (if l ≥ r then _ else _)
    split
    · exact trivial
    · refine ⟨h.lt hn _, h.lt hn _, fun b => ?_⟩
      cases b
      · exact kY h k f _ _
      · exact kY h k f _ _
theorem uT : ∀ (f : Nat) {p : Array Nat} (k : Nat), cp n p → nj n (cp n) (kas_bin f p k)
  | 0, _, _, h => h
  | f + 1, p, k, h => el (kY hn h k _ _ _) fun l H => uT f _ ((bubble_perm p k _).trans h)
theorem rG : nj n (cp n) (kas_sort n) :=
  el (uU hn (show cp n (List.toArray (List.range n)) from Array.Perm.refl _) n) fun r hr => by
    split
    · exact uT hn _ _ hr
    · exact hr
end
theorem rO {α : Type} {n : Nat} {R : α → Prop} {c : Nat → Nat → Bool} : ∀ {t : KasT α}, nj n R t → R (jv c t)
  | .ret _, h => h
  | .ask i j k, h => by
    show R (jv c (k (c i j)))
    exact rO (h.2.2 (c i j))
theorem rP {α : Type} {n : Nat} {R : α → Prop} {c : Nat → Nat → Bool} {cmp : Nat → Nat → (Bool → Shared → Prop) → Shared → Prop} {s : Shared} {Q : α → Shared → Prop}
    (hc : ∀ i j C, i < n → j < n → C (c i j) s → cmp i j C s) : ∀ {t : KasT α}, nj n R t → Q (jv c t) s → t.kasWp cmp Q s
  | .ret _, _, h => h
  | .ask i j k, h, q => hc i j _ h.1 h.2.1 (rP hc (h.2.2 (c i j)) q)
theorem cQ {c : Nat → Nat → Bool} {n : Nat} (hn : 0 < n) : (fJ c n).Perm (List.range n) := by
  have h : cp n (jv c (kas_sort n)) := rO (rG hn)
  exact Array.perm_iff_toList_perm.mp h
section
variable {prog : Program} {w : World} {A : Around} {E : Value → Shared → Prop} {s : Shared} {a : Addr} {vs : List Value}
def ta (prog : Program) (w : World) (A : Around) (vs : List Value) (c : Nat → Nat → Bool) (s : Shared) : Prop :=
  wpAny (model prog w) A (keyKind' vs.toArray) (fun κ s' => s' = s ∧ ∀ i j C, i < vs.length → j < vs.length → C (c i j) s → kas_ask prog w A κ vs i j C s) (fun H H => False) s
theorem lq {n : Nat} {P : PySem.Fin → Shared → Prop} (c : Nat → Nat → Bool) (ho : s.heap.get? a = some (seqObj "list" vs.toArray n)) (h2 : 2 ≤ vs.length) (h64 : vs.length < 64)
    (hk : ∀ h', (∀ b o, b ≠ a → s.heap.get? b = some o → h'.get? b = some o) → ta prog w A vs c { s with heap := h' })
    (h : ∀ h' e', (∀ b o, b ≠ a → s.heap.get? b = some o → h'.get? b = some o) → s.heap.objs.size ≤ h'.objs.size → h'.get? a = some (seqObj "list" ((fJ c vs.length).map fun i => vs.getD i Value.none).toArray e') → P (.done (.ret .none)) { s with heap := h' }) :
    wpAny (model prog w) A (Builtin.«list.sort» ⟨[.ref a], []⟩) P E s := by
  have ha : a < s.heap.objs.size := Heap.lt_size ho
  obtain ⟨e1, ho1⟩ : ∃ e1, (s.heap.update a (Obj.mapSeq fun H => (#[] : Array Value))).get? a = some (seqObj "list" #[] e1) := ⟨_, get?_update_seq ho fun H => #[]⟩
  have K3 : ∀ b o, b ≠ a → s.heap.get? b = some o → (((s.heap.update a (Obj.mapSeq fun H => (#[] : Array Value))).push (seqObj "tuple" vs.toArray 0)).push (seqObj "list" #[] 0)).get? b = some o := fun b o hb e =>
    Heap.get?_push_of_some _ (Heap.get?_push_of_some _ ((Heap.get?_update_other _ _ (Ne.symm hb)).trans e))
  have ho3 : (((s.heap.update a (Obj.mapSeq fun H => (#[] : Array Value))).push (seqObj "tuple" vs.toArray 0)).push (seqObj "list" #[] 0)).get? a = some (seqObj "list" #[] e1) := Heap.get?_push_of_some _ (Heap.get?_push_of_some _ ho1)
  have ask := hk _ K3
  rw [list_sort_plain]
  refine wpAny_bind (listItems_at ho rfl ?_)
  refine wpAny_bind (listUpdate_at ho rfl ?_ (by rw [List.size_toArray, sizeLine_eq]; omega) (Nat.zero_le _))
  refine wpAny_bind (seqEpoch_at ho1 rfl ?_)
  refine wpAny_bind (wpAny_newTuple ?_ (by show vs.length ≤ _; rw [sizeLine_eq]; omega))
  refine wpAny_bind (wpAny_newList ?_ (Nat.zero_le _))
  refine wpAny_holding ?_
  show wpAny (model prog w) A _ P E { s with heap := ((s.heap.update a (Obj.mapSeq fun H => (#[] : Array Value))).push (seqObj "tuple" vs.toArray 0)).push (seqObj "list" #[] 0) }
  dsimp only
  have hn2 : ¬ vs.toArray.size < 2 := Nat.not_lt.mpr h2
  rw [if_neg hn2, if_neg hn2]
  refine wpAny_bind (wpAny_mono ask (fun κ s0 hk => ?_) fun H H x => x.elim)
  obtain ⟨rfl, hk⟩ := hk
  have hrun := rP (Q := fun p s' => p = jv c (kas_sort vs.length) ∧ s' = { s with heap := ((s.heap.update a (Obj.mapSeq fun H => (#[] : Array Value))).push (seqObj "tuple" vs.toArray 0)).push (seqObj "list" #[] 0) }) hk (rG (by omega : 0 < vs.length)) ⟨rfl, rfl⟩
  refine wpAny_bind (wpAny_mono (kat_run (Q := fun st' s' => ∃ p : Array Nat, p.size = vs.length ∧ arrOf st' = p.map (kas_item (vs.toArray.zip vs.toArray)) ∧ failedOf st' = none ∧ p = jv c (kas_sort vs.length) ∧ s' = { s with heap := ((s.heap.update a (Obj.mapSeq fun H => (#[] : Array Value))).push (seqObj "tuple" vs.toArray 0)).push (seqObj "list" #[] 0) })
    rfl h2 h64 (fun p' st' s' a1 a2 a3 a4 => ⟨p', a1, a2, a3, a4⟩) hrun) ?_ fun H H e => e)
  rintro ⟨⟨⟩, st'⟩ s' ⟨p, hp, har, hf, rfl, rfl⟩
  dsimp only
  have hout := kat_snds rfl har
  have hsz : (List.toArray ((jv c (kas_sort vs.length)).toList.map fun i => vs.getD i Value.none)).size = vs.length := by rw [List.size_toArray, List.length_map, Array.length_toList, hp]
  rw [hout]
  obtain ⟨c2, hc2⟩ : ∃ c2, ((((s.heap.update a (Obj.mapSeq fun H => (#[] : Array Value))).push (seqObj "tuple" vs.toArray 0)).push (seqObj "list" #[] 0)).update a (Obj.mapSeq fun H => List.toArray ((jv c (kas_sort vs.length)).toList.map fun i => vs.getD i Value.none))).get? a = some (seqObj "list" (List.toArray ((jv c (kas_sort vs.length)).toList.map fun i => vs.getD i Value.none)) c2) :=
    ⟨_, get?_update_seq ho3 fun H => List.toArray ((jv c (kas_sort vs.length)).toList.map fun i => vs.getD i Value.none)⟩
  refine wpAny_bind (seqEpoch_at ho3 rfl ?_)
  refine wpAny_bind (listUpdate_at ho3 rfl ?_ (Nat.zero_le _) (Nat.le_trans (Nat.le_of_eq hsz) (by rw [sizeLine_eq]; omega)))
  rw [hf]
  simp only [bne_self_eq_false, Bool.false_eq_true, if_false]
  refine wpAny_pure (h _ c2 (fun b o hb e => (Heap.get?_update_other _ _ (Ne.symm hb)).trans (K3 b o hb e)) ?_ hc2)
  rw [Heap.size_update, size_push', size_push', Heap.size_update]
  exact Nat.le_succ_of_le (Nat.le_succ _)
theorem qK {l : Addr} {Q : Value → Shared → Prop} (c : Nat → Nat → Bool) (hl : s.heap.IsList l vs.toArray) (h2 : 2 ≤ vs.length) (h64 : vs.length < 64)
    (hk : ∀ h', (∀ b o, s.heap.get? b = some o → h'.get? b = some o) → ta prog w A.in1.in1 vs c { s with heap := h' })
    (h : ∀ h' e' D, (∀ b o, s.heap.get? b = some o → h'.get? b = some o) → s.heap.objs.size ≤ h'.objs.size → s.heap.objs.size ≤ D → h'.get? D = some (seqObj "list" ((fJ c vs.length).map fun i => vs.getD i Value.none).toArray e') → Q (.ref D) { s with heap := h' }) :
    wpAny (model prog w) A (call (.builtin "sorted") [.ref l]) Q E s := by
  refine Calls.call_function_entry kind_sorted plain_sorted entry_sorted (args_sorted1 _) ?_
  unfold Builtin.«sorted»
  refine wpAny_bind (m := checkCount "sorted" 1 1 _) (wpAny_pure ?_)
  refine wpAny_bind (collect_list hl ?_ (by rw [sizeLine_eq]; omega))
  refine wpAny_bind (wpAny_newList ?_ (by rw [sizeLine_eq]; omega))
  have hsz : ((s.heap.push (seqObj "list" #[] 0)).update s.heap.objs.size (Obj.mapSeq (· ++ vs.toArray))).objs.size = s.heap.objs.size + 1 := by
    rw [Heap.size_update, size_push']
  have hoL : (((s.heap.push (seqObj "list" #[] 0)).update s.heap.objs.size (Obj.mapSeq (· ++ vs.toArray))).push (seqObj "list" vs.toArray 0)).get? (s.heap.objs.size + 1) = some (seqObj "list" vs.toArray 0) := by
    rw [← hsz]; exact Heap.get?_push_size _ rfl
  have keep : ∀ b o, s.heap.get? b = some o → (((s.heap.push (seqObj "list" #[] 0)).update s.heap.objs.size (Obj.mapSeq (· ++ vs.toArray))).push (seqObj "list" vs.toArray 0)).get? b = some o := fun b o q => by
    have hlt : b < s.heap.objs.size := Heap.lt_size q
    rw [Heap.get?_push_ne _ _ _ (by rw [hsz]; exact Nat.ne_of_lt (Nat.lt_succ_of_lt hlt)), Heap.get?_update_ne _ _ _ _ (Nat.ne_of_lt hlt), Heap.get?_push_ne _ _ _ (Nat.ne_of_lt hlt)]
    exact q
  have ne : ∀ b o, s.heap.get? b = some o → b ≠ s.heap.objs.size + 1 := fun b o q => Nat.ne_of_lt (Nat.lt_succ_of_lt (Heap.lt_size q))
  show wpAny _ _ _ _ _ { s with heap := ((s.heap.push (seqObj "list" #[] 0)).update s.heap.objs.size (Obj.mapSeq (· ++ vs.toArray))).push (seqObj "list" vs.toArray 0) }
  rw [hsz]
  refine wpAny_bind (wpAny_holding (wpAny_call_entry slot_list_sort ⟨_, hoL, rfl⟩ entry_list_sort ?body (args_list_sort _)))
  case body =>
    refine lq c (s := { s with heap := ((s.heap.push (seqObj "list" #[] 0)).update s.heap.objs.size (Obj.mapSeq (· ++ vs.toArray))).push (seqObj "list" vs.toArray 0) })
      hoL h2 h64 (fun h' k => hk h' fun b o q => k b o (ne b o q) (keep b o q)) fun h' e' k kz hD => ?_
    rw [size_push', hsz] at kz
    exact ⟨_, rfl, wpAny_pure ⟨_, rfl, h h' e' _ (fun b o q => k b o (ne b o q) (keep b o q)) (Nat.le_trans (Nat.le_succ_of_le (Nat.le_succ _)) kz) (Nat.le_succ _) hD⟩⟩
theorem lc {n : Nat} {P : PySem.Fin → Shared → Prop} (ho : s.heap.get? a = some (seqObj "list" vs.toArray n)) (h2 : vs.length < 2)
    (h : ∀ h' e', (∀ b o, b ≠ a → s.heap.get? b = some o → h'.get? b = some o) → s.heap.objs.size ≤ h'.objs.size → h'.get? a = some (seqObj "list" vs.toArray e') → P (.done (.ret .none)) { s with heap := h' }) :
    wpAny (model prog w) A (Builtin.«list.sort» ⟨[.ref a], []⟩) P E s := by
  have ha : a < s.heap.objs.size := Heap.lt_size ho
  obtain ⟨e1, ho1⟩ : ∃ e1, (s.heap.update a (Obj.mapSeq fun H => (#[] : Array Value))).get? a = some (seqObj "list" #[] e1) := ⟨_, get?_update_seq ho fun H => #[]⟩
  have K3 : ∀ b o, b ≠ a → s.heap.get? b = some o → (((s.heap.update a (Obj.mapSeq fun H => (#[] : Array Value))).push (seqObj "tuple" vs.toArray 0)).push (seqObj "list" #[] 0)).get? b = some o := fun b o hb e =>
    Heap.get?_push_of_some _ (Heap.get?_push_of_some _ ((Heap.get?_update_other _ _ (Ne.symm hb)).trans e))
  have ho3 : (((s.heap.update a (Obj.mapSeq fun H => (#[] : Array Value))).push (seqObj "tuple" vs.toArray 0)).push (seqObj "list" #[] 0)).get? a = some (seqObj "list" #[] e1) := Heap.get?_push_of_some _ (Heap.get?_push_of_some _ ho1)
  rw [list_sort_plain]
  refine wpAny_bind (listItems_at ho rfl ?_)
  refine wpAny_bind (listUpdate_at ho rfl ?_ (by rw [List.size_toArray, sizeLine_eq]; omega) (Nat.zero_le _))
  refine wpAny_bind (seqEpoch_at ho1 rfl ?_)
  refine wpAny_bind (wpAny_newTuple ?_ (by show vs.length ≤ _; rw [sizeLine_eq]; omega))
  refine wpAny_bind (wpAny_newList ?_ (Nat.zero_le _))
  refine wpAny_holding ?_
  show wpAny (model prog w) A _ P E { s with heap := ((s.heap.update a (Obj.mapSeq fun H => (#[] : Array Value))).push (seqObj "tuple" vs.toArray 0)).push (seqObj "list" #[] 0) }
  dsimp only
  have hn2 : vs.toArray.size < 2 := h2
  rw [if_pos hn2, if_pos hn2]
  refine wpAny_bind (wpAny_pure ?_)
  show wpAny _ _ (pure ((), SortSt.mk' general' (vs.toArray.zip vs.toArray) #[] 7 none) >>= _) _ _ _
  refine wpAny_bind (wpAny_pure ?_)
  dsimp only
  have hout : (arrOf (SortSt.mk' general' (vs.toArray.zip vs.toArray) #[] 7 none)).map (·.2) = vs.toArray := by
    show (vs.toArray.zip vs.toArray).map (·.2) = vs.toArray
    apply Array.toList_inj.mp
    rw [Array.toList_map, Array.toList_zip, List.map_snd_zip (Nat.le_refl _)]
  rw [hout]
  obtain ⟨c2, hc2⟩ : ∃ c2, ((((s.heap.update a (Obj.mapSeq fun H => (#[] : Array Value))).push (seqObj "tuple" vs.toArray 0)).push (seqObj "list" #[] 0)).update a (Obj.mapSeq fun H => vs.toArray)).get? a = some (seqObj "list" vs.toArray c2) :=
    ⟨_, get?_update_seq ho3 fun H => vs.toArray⟩
  refine wpAny_bind (seqEpoch_at ho3 rfl ?_)
  refine wpAny_bind (listUpdate_at ho3 rfl ?_ (Nat.zero_le _) (by rw [List.size_toArray, sizeLine_eq]; omega))
  simp only [bne_self_eq_false, Bool.false_eq_true, if_false]
  refine wpAny_pure (h _ c2 (fun b o hb e => (Heap.get?_update_other _ _ (Ne.symm hb)).trans (K3 b o hb e)) ?_ hc2)
  rw [Heap.size_update, size_push', size_push', Heap.size_update]
  exact Nat.le_succ_of_le (Nat.le_succ _)
theorem j0 {l : Addr} {Q : Value → Shared → Prop} (hl : s.heap.IsList l vs.toArray) (h2 : vs.length < 2)
    (h : ∀ h' e' D, (∀ b o, s.heap.get? b = some o → h'.get? b = some o) → s.heap.objs.size ≤ h'.objs.size → s.heap.objs.size ≤ D → h'.get? D = some (seqObj "list" vs.toArray e') → Q (.ref D) { s with heap := h' }) :
    wpAny (model prog w) A (call (.builtin "sorted") [.ref l]) Q E s := by
  refine Calls.call_function_entry kind_sorted plain_sorted entry_sorted (args_sorted1 _) ?_
  unfold Builtin.«sorted»
  refine wpAny_bind (m := checkCount "sorted" 1 1 _) (wpAny_pure ?_)
  refine wpAny_bind (collect_list hl ?_ (by rw [sizeLine_eq]; omega))
  refine wpAny_bind (wpAny_newList ?_ (by rw [sizeLine_eq]; omega))
  have hsz : ((s.heap.push (seqObj "list" #[] 0)).update s.heap.objs.size (Obj.mapSeq (· ++ vs.toArray))).objs.size = s.heap.objs.size + 1 := by
    rw [Heap.size_update, size_push']
  have hoL : (((s.heap.push (seqObj "list" #[] 0)).update s.heap.objs.size (Obj.mapSeq (· ++ vs.toArray))).push (seqObj "list" vs.toArray 0)).get? (s.heap.objs.size + 1) = some (seqObj "list" vs.toArray 0) := by
    rw [← hsz]; exact Heap.get?_push_size _ rfl
  have keep : ∀ b o, s.heap.get? b = some o → (((s.heap.push (seqObj "list" #[] 0)).update s.heap.objs.size (Obj.mapSeq (· ++ vs.toArray))).push (seqObj "list" vs.toArray 0)).get? b = some o := fun b o q => by
    have hlt : b < s.heap.objs.size := Heap.lt_size q
    rw [Heap.get?_push_ne _ _ _ (by rw [hsz]; exact Nat.ne_of_lt (Nat.lt_succ_of_lt hlt)), Heap.get?_update_ne _ _ _ _ (Nat.ne_of_lt hlt), Heap.get?_push_ne _ _ _ (Nat.ne_of_lt hlt)]
    exact q
  have ne : ∀ b o, s.heap.get? b = some o → b ≠ s.heap.objs.size + 1 := fun b o q => Nat.ne_of_lt (Nat.lt_succ_of_lt (Heap.lt_size q))
  show wpAny _ _ _ _ _ { s with heap := ((s.heap.push (seqObj "list" #[] 0)).update s.heap.objs.size (Obj.mapSeq (· ++ vs.toArray))).push (seqObj "list" vs.toArray 0) }
  rw [hsz]
  refine wpAny_bind (wpAny_holding (wpAny_call_entry slot_list_sort ⟨_, hoL, rfl⟩ entry_list_sort ?body (args_list_sort _)))
  case body =>
    refine lc (s := { s with heap := ((s.heap.push (seqObj "list" #[] 0)).update s.heap.objs.size (Obj.mapSeq (· ++ vs.toArray))).push (seqObj "list" vs.toArray 0) })
      hoL h2 fun h' e' k kz hD => ?_
    rw [size_push', hsz] at kz
    exact ⟨_, rfl, wpAny_pure ⟨_, rfl, h h' e' _ (fun b o q => k b o (ne b o q) (keep b o q)) (Nat.le_trans (Nat.le_succ_of_le (Nat.le_succ _)) kz) (Nat.le_succ _) hD⟩⟩
end
section
variable {prog : Program} {w : World} {A : Around} {E : Value → Shared → Prop} {s : Shared}
theorem oT {a b : List UInt8} {t u : Tok} {Q : Bool → Shared → Prop} (h : Q (bX a b) s) : wpAny (model prog w) A (oneLt' true (.bytes a.toArray t) (.bytes b.toArray u)) Q E s := by
  rw [oneLt'_eq]
  simp only [if_true]
  refine wpAny_bind (wpAny_cRoomFor_byValue rfl ?_)
  refine wpAny_bind (wpAny_callSpecialIfBound?_slot (typeIs_bytes s _ t) gK (wpAny_call_entry gK (typeIs_bytes s _ t) jf ?_ (ka _ _)))
  show wpAny _ _ (isInstance (.bytes b.toArray u) (.type "bytes") >>= fun r => _) _ E s
  refine wpAny_bind (wpAny_isInstance (typeIs_bytes s _ u) PySem.F.sub_bytes_bytes ?_)
  exact wpAny_pure ⟨_, rfl, by rw [← (er a b).1] at h; exact wpAny_truthy_bool h⟩
variable {c : Cx} {X : Addr → Prop} {ρ : aN}
def EL (a : V) : Prop := ∃ x, a = .bytes x
def AM (l : List V) : Prop := ∃ x r, l = .bytes x :: r
theorem AM.head {a : V} {l : List V} (h : AM (a :: l)) : EL a := by obtain ⟨x, r, e⟩ := h; cases e; exact ⟨x, rfl⟩
theorem uI {a b : V} {v w' : Value} {r : Bool} {C : Bool → Shared → Prop} (e : f8 .Lt a b = some r) (ha : VR c X ρ s.heap a v) (hb : VR c X ρ s.heap b w') (hc : C r s) : ∀ i : Nat, (i = 0 → EL a ∧ EL b) → wpAny (model c.prog c.w) A (oneLt' (true && i == 0) v w') C (fun H H => False) s
  | 0, h0 => by
    obtain ⟨⟨x, rfl⟩, ⟨y, rfl⟩⟩ := h0 rfl
    obtain ⟨t, rfl⟩ := lf ha
    obtain ⟨u, rfl⟩ := lf hb
    cases e
    exact oT hc
  | i + 1, _ => by
    rw [show (true && (i + 1 == 0)) = false by simp]
    exact kat_one _ _ (jH e ha hb c.prog c.w _ _ hc)
def E5 (c : Cx) (A : Around) (fin : Bool) (C : Bool → Shared → Prop) (i : Nat) (s : Shared) (r : Bool) (vs ws : List Value) : Prop := fin = decide (vs.length < ws.length) → C r s → KatLex c.prog c.w A true fin C (vs.zip ws) i s
theorem oy {fin : Bool} {C : Bool → Shared → Prop} : ∀ {as bs : List V} {vs ws : List Value} {r : Bool} {i : Nat}, dY .Lt as bs = some r → VRs c X ρ s.heap as vs → VRs c X ρ s.heap bs ws → (i = 0 → AM as ∧ AM bs) → E5 c A fin C i s r vs ws
  | [], [], _, _, _, _, e, h1, h2, _ => aM h1 (aM h2 (ac e fun hf hc => kat_nil (by rw [hf]; exact hc)))
  | [], _ :: _, _, _, _, _, e, h1, h2, _ => aM h1 (au h2 fun H H H H => ac e fun hf hc => kat_nil (by rw [hf]; exact hc))
  | _ :: _, [], _, _, _, _, e, h1, h2, _ => au h1 fun H H H H => aM h2 (ac e fun hf hc => kat_nil (by rw [hf]; exact hc))
  | a :: as, b :: bs, _, _, r, i, e, h1, h2, h0 => au h1 fun v vs a1 a2 => au h2 fun w' ws b1 b2 hf hc => bS e fun k q e => kat_cons ((iL q a1 b1).2.1 c.prog c.w _ _ (by
      cases k with
      | true => exact kat_yes (oy e a2 b2 (fun z => absurd z (Nat.succ_ne_zero _)) (hf.trans (decide_eq_decide.mpr Nat.succ_lt_succ_iff)) hc)
      | false => exact kat_no (uI e a1 b1 hc i fun z => ⟨(h0 z).1.head, (h0 z).2.head⟩)))
theorem Cp {d : V} (h : (hB d).isSome = true) : ∃ b r, d = .tup (.bytes b :: r) := by
  obtain ⟨u, h⟩ := Option.isSome_iff_exists.mp h
  exact oS (C := fun d => ∃ b r, d = .tup (.bytes b :: r)) h fun l h => eG (C := fun l => ∃ b r, V.tup l = .tup (.bytes b :: r)) h fun a r h => uY (C := fun a => ∃ b r', V.tup (a :: r) = .tup (.bytes b :: r')) h fun b H => ⟨b, r, rfl⟩
theorem gz : ∀ {l : List V} {i : Nat} {d : V}, iH l = true → l[i]? = some d → ∃ b r, d = .tup (.bytes b :: r)
  | [], _, _, _, e => nomatch e
  | v :: l, 0, d, h, e => by cases e; exact Cp (Bool.and_eq_true_iff.mp h).1
  | v :: l, i + 1, d, h, e => gz (l := l) (i := i) (Bool.and_eq_true_iff.mp h).2 e
def EM (v : Value) : Prop := ∃ b t, v = .bytes b t
structure Tps (h : Heap) (l : List V) (vs fs : List Value) : Prop where
  tu : KatTups h vs fs
  len : fs.length = l.length
  by_ : ∀ v ∈ fs, EM v
theorem Tps.cons {d : V} {l : List V} {v : Value} {vs fs : List Value} (k : Tps s.heap l vs fs) (hb : AM (t7 d)) (hd : VR c X ρ s.heap (.tup (t7 d)) v) : ∃ x, Tps s.heap (d :: l) (v :: vs) (x :: fs) := by
  obtain ⟨b, r, e⟩ := hb
  rw [e] at hd
  exact bN (C := fun v => ∃ x, Tps s.heap (d :: l) (v :: vs) (x :: fs)) hd fun p xs H ⟨o, ho, hc, n, hdt⟩ hx => au (CL := fun xs => o.data = .seq xs.toArray n → ∃ x, Tps s.heap (d :: l) (.ref p :: vs) (x :: fs)) hx (fun x xs hx1 H hdt => by
    obtain ⟨t, rfl⟩ := lf hx1
    exact ⟨.bytes b.toArray t, KatTups.cons ho hc hdt (by simp) k.tu, congrArg (· + 1) k.len, fun v hv => (List.mem_cons.mp hv).elim (fun e => ⟨_, _, e⟩) (k.by_ v)⟩) hdt
theorem rW : ∀ {l : List V} {vs : List Value}, iH l = true → VRs c X ρ s.heap l vs → ∃ fs, Tps s.heap l vs fs
  | [], _, _, h => aM h ⟨[], .nil, rfl, fun H h => nomatch h⟩
  | d :: l, _, ht, h => au h fun v vs h1 h2 => by
    obtain ⟨fs, k⟩ := rW (l := l) (Bool.and_eq_true_iff.mp ht).2 h2
    obtain ⟨b, r, rfl⟩ := Cp (Bool.and_eq_true_iff.mp ht).1
    obtain ⟨x, k⟩ := k.cons (d := .tup (.bytes b :: r)) ⟨b, r, rfl⟩ h1
    exact ⟨_, k⟩
theorem to {l : List V} {a b : V} {va vb : Value} (hya : ∃ x r, a = .tup (.bytes x :: r)) (hyb : ∃ x r, b = .tup (.bytes x :: r)) (ha : VR c X ρ s.heap a va) (hb : VR c X ρ s.heap b vb) (ho : (dY .Lt (t7 a) (t7 b)).isSome = true) {C : Bool → Shared → Prop} (hc : C (t9 a b) s) :
    wpAny (model c.prog c.w) A (keyLt' (tuples' true) va vb) C (fun H H => False) s := by
  obtain ⟨b1, r1, rfl⟩ := hya
  obtain ⟨b2, r2, rfl⟩ := hyb
  refine bN ha fun p xs H ⟨o, ho1, hc1, n1, hd1⟩ hx => bN hb fun p' xs' H ⟨o', ho2, hc2, n2, hd2⟩ hx' => ?_
  obtain ⟨r, hr⟩ := Option.isSome_iff_exists.mp ho
  have e : t9 (.tup (.bytes b1 :: r1)) (.tup (.bytes b2 :: r2)) = r := congrArg (Option.getD · false) hr
  rw [e] at hc
  exact kat_lt ho1 hd1 ho2 hd2 (oy hr hx hx' (fun H => ⟨⟨_, _, rfl⟩, ⟨_, _, rfl⟩⟩) (by simp) hc)
theorem yG {l : List V} {vs : List Value} (h2 : 2 ≤ l.length) (ht : iH l = true) (ho : rI l = true) (h : VRs c X ρ s.heap l vs) :
    ta c.prog c.w A vs (fun i j => t9 (l.getD i .none) (l.getD j .none)) s := by
  obtain ⟨fs, k1, k2, k3⟩ := rW ht h
  refine kat_kind (T := .type "bytes") k1 (by omega) (fun v hv => ?_) (by decide) ⟨rfl, fun i j C hi hj hc => ?_⟩
  · obtain ⟨b, t, rfl⟩ := k3 v hv
    exact fun A Q E s' H q => wpAny_typeOf (typeIs_bytes s' b t) q
  · rw [← h.length] at hi hj
    have ei : l[i]? = some l[i] := List.getElem?_eq_getElem hi
    have ej : l[j]? = some l[j] := List.getElem?_eq_getElem hj
    obtain ⟨vi, g1, g2⟩ := h.get ei
    obtain ⟨vj, g3, g4⟩ := h.get ej
    dsimp only at hc
    rw [List.getD_eq_getElem?_getD, List.getD_eq_getElem?_getD, ei, ej] at hc
    unfold kas_ask
    rw [List.getD_eq_getElem?_getD, List.getD_eq_getElem?_getD, g1, g3]
    exact to (l := l) (gz ht ei) (gz ht ej) g2 g4 (List.all_eq_true.mp (List.all_eq_true.mp ho l[i] (List.getElem_mem hi)) l[j] (List.getElem_mem hj)) hc
end
section
variable {c : Cx} {FX : Addr → Prop} {ρ : aN} {σ : St} {s : Shared} {A : Around} {E : Value → Shared → Prop}
theorem pr {X : Addr → Prop} {h : Heap} {l : List V} {vs : List Value} (x : VRs c X ρ h l vs) : ∀ (p : List Nat), (∀ i ∈ p, i < l.length) → VRs c X ρ h (p.map fun i => l.getD i .none) (p.map fun i => vs.getD i Value.none)
  | [], _ => by simp [VRs]
  | i :: p, hp => by
    have hi := hp i (.head _)
    rw [List.map_cons, List.map_cons, VRs]
    obtain ⟨v, h1, h2⟩ := x.get (List.getElem?_eq_getElem hi)
    have e1 : l.getD i .none = l[i] := by simp [hi]
    have e2 : vs.getD i Value.none = v := by simp [h1]
    rw [e1, e2]
    exact ⟨h2, pr x p fun j hj => hp j (.tail _ hj)⟩
theorem eU {l : List V} {vs : List Value} {h' : Heap} {D : Addr} {n t : Nat} (W : WR c ρ s.heap FX σ) (k : VRs c (XX ρ FX) ρ s.heap l vs) (K : ∀ b o, s.heap.get? b = some o → h'.get? b = some o)
    (hD : s.heap.get? D = none) (e : h'.get? D = some (seqObj "list" vs.toArray n)) : Po c FX ρ s (.list l) σ (.ref D) { s with heap := h', toks := t } := by
  have P : Ps c FX No ρ s ρ σ { s with heap := h', toks := t } := W.grow (Kp.of_all K) t
  refine ⟨ρ, P, ?_⟩
  rw [VR]
  exact ⟨_, vs, rfl, de W hD, ⟨_, e, rfl, n, rfl⟩, P.vrs k⟩
theorem oX {l : List V} {vs : List Value} {h' : Heap} {D : Addr} {n t : Nat} (W : WR c ρ s.heap FX σ) (k : VRs c (XX ρ FX) ρ s.heap l vs) (K : ∀ b o, s.heap.get? b = some o → h'.get? b = some o)
    (hD : s.heap.get? D = none) (e : h'.get? D = some { cls := .type "tuple", data := .seq vs.toArray n }) : Po c FX ρ s (.tup l) σ (.ref D) { s with heap := h', toks := t } := by
  have P : Ps c FX No ρ s ρ σ { s with heap := h', toks := t } := W.grow (Kp.of_all K) t
  refine ⟨ρ, P, ?_⟩
  rw [VR]
  exact ⟨_, vs, rfl, de W hD, ⟨_, e, rfl, n, rfl⟩, P.vrs k⟩
theorem vy {d' : V} {v : Value} (W : WR c ρ s.heap FX σ) {l : List V} (e : gn l = some d') (hd : VD c (XX ρ FX) ρ s.heap (.list l) v) (h2 : 2 ≤ l.length) :
    wpAny c.M A (call (.builtin "sorted") [v]) (Po c FX ρ s d' σ) aC s := by
  obtain ⟨p, xs, rfl, hl, hx⟩ := hd
  unfold gn at e
  rw [if_neg (Nat.not_lt.mpr h2)] at e
  exact aY e fun hc e => ac e (qK (fun i j => t9 (l.getD i .none) (l.getD j .none)) hl (hx.length ▸ h2) (hx.length ▸ hc.1) (fun h' k => yG (s := { s with heap := h' }) h2 hc.2.1 hc.2.2 (hx.mono (.of_keep fun b o q n => ⟨k b o q, n⟩) (List.prefix_refl _)))
    fun h' e' D k hz1 hD he => eU (t := s.toks) W (pr hx _ fun i hi => by
        have := (cQ (Nat.lt_of_lt_of_le (by decide) h2)).mem_iff.mp hi
        simpa using this) k (Heap.get?_none_of_le hD) (by rw [← hx.length] at he; exact he))
end
noncomputable def AW : BI → Value
  | .len => .builtin "len" | .range => .type "range" | .sorted => .builtin "sorted" | .max => .builtin "max" | .tuple => .type "tuple" | .list => .type "list" | .bytes => .type "bytes"
section
variable {c : Cx} {FX : Addr → Prop} {ρ : aN} {σ : St} {s : Shared} {A : Around} {E : Value → Shared → Prop}
theorem kQ {xs : List Value} (h : xs.length ≤ aF) : xs.toArray.size ≤ sizeLine := by rw [sizeLine_eq, List.size_toArray]; exact Nat.le_trans h (by decide)
noncomputable def cW (l : List V) : Nat → Nat → Bool := fun i j => ((f8 .Gt (l.getD i .none) (l.getD j .none)).getD false)
theorem lP {a x : V} {l : List V} {d : V} (e : kR a (x :: l) = some d) : ∃ b, f8 .Gt x a = some b ∧ kR (if b = true then x else a) l = some d := bS e fun b h1 h2 => ⟨b, h1, h2⟩
noncomputable def eX : V → Nat
  | .int _ => 1
  | .bytes _ => 2
  | _ => 0
theorem lS {a b : V} {r : Bool} (h : f8 .Gt a b = some r) : eX a = eX b ∧ eX a ≠ 0 := by
  exact oB (C := fun b a H => eX a = eX b ∧ eX a ≠ 0) h (fun H H => ⟨rfl, fun h => Nat.noConfusion h⟩) (fun H H => ⟨rfl, fun h => Nat.noConfusion h⟩)
theorem sI {a b : V} (h : eX a = eX b) (h0 : eX a ≠ 0) : ∃ r, f8 .Gt a b = some r := by
  cases a <;> first | exact absurd rfl h0 | (cases b <;> first | exact ⟨_, rfl⟩ | exact absurd h (Nat.succ_ne_zero _) | exact absurd h.symm (Nat.succ_ne_zero _) | exact absurd h (show (1 : Nat) ≠ 2 by decide) | exact absurd h (show (2 : Nat) ≠ 1 by decide))
theorem gF : ∀ {l : List V} {a d : V}, kR a l = some d → ∀ x ∈ (a :: l), eX x = eX a ∧ eX a ≠ 0
  | [], a, d, e, x, hx => bS e fun b h H => by
      cases List.mem_singleton.mp hx
      exact ⟨rfl, (lS h).2⟩
  | y :: l, a, d, e, x, hx => by
    obtain ⟨b, h1, h2⟩ := lP e
    obtain ⟨k1, k2⟩ := lS h1
    rcases List.mem_cons.mp hx with rfl | hx
    · exact ⟨rfl, by rw [← k1]; exact k2⟩
    · rcases List.mem_cons.mp hx with rfl | hx
      · exact ⟨k1, by rw [← k1]; exact k2⟩
      · have := gF h2 x (.tail _ hx)
        cases b <;> simp at this
        · exact ⟨this.1, by rw [← k1]; exact k2⟩
        · exact ⟨this.1.trans k1, by rw [← k1]; exact k2⟩
theorem oG {l : List V} : ∀ (r : List V) (k : Nat) (d : V), l.drop (k + 1) = r → k < l.length → kR (l.getD (argBest (cW l) k) .none) r = some d →
    l.getD (argBest (cW l) (l.length - 1)) .none = d
  | [], k, d, hr, hk, e => by
    have : l.length - 1 = k := by
      have := List.drop_eq_nil_iff.mp hr
      exact Nat.sub_eq_of_eq_add (Nat.le_antisymm this hk)
    rw [this]
    exact bS e fun b H e => Option.some.inj e
  | x :: r, k, d, hr, hk, e => by
    have hk1 : k + 1 < l.length := by
      rcases Nat.lt_or_ge (k + 1) l.length with h | h
      · exact h
      · rw [List.drop_of_length_le h] at hr; cases hr
    rw [List.drop_eq_getElem_cons hk1] at hr
    injection hr with hx hr
    obtain ⟨b, h1, h2⟩ := lP e
    have ex : l.getD (k + 1) .none = x := by simp [hk1, hx]
    have hb : cW l (k + 1) (argBest (cW l) k) = b := by
      show (f8 .Gt (l.getD (k + 1) .none) (l.getD (argBest (cW l) k) .none)).getD false = b
      rw [ex, h1]; rfl
    refine oG r (k + 1) d hr hk1 ?_
    have : argBest (cW l) (k + 1) = if b = true then k + 1 else argBest (cW l) k := by
      show (if cW l (k + 1) (argBest (cW l) k) = true then _ else _) = _
      rw [hb]
    rw [this]
    cases b
    · simpa using h2
    · simp only [if_true] at h2 ⊢
      rw [ex]; exact h2
theorem pM (bt : Nat → Nat → Bool) : ∀ k, argBest bt k ≤ k
  | 0 => Nat.le_refl _
  | k + 1 => by
    show (if _ then _ else _) ≤ _
    split
    · exact Nat.le_refl _
    · exact Nat.le_succ_of_le (pM bt k)
theorem zx {a d : V} {l : List V} {v : Value} (hh : A.handled = none) (W : WR c ρ s.heap FX σ) (e : kR a l = some d) (hd : VR c (XX ρ FX) ρ s.heap (.list (a :: l)) v) :
    wpAny c.M A (call (.builtin "max") [v]) (Po c FX ρ s d σ) aC s := by
  rw [VR] at hd
  obtain ⟨p, xs, rfl, _, hl, hx⟩ := hd
  have hlt : p < s.heap.objs.size := by obtain ⟨o, ho, _⟩ := hl; exact Heap.lt_size ho
  have hz := hx.length
  have K0 : ∀ b o, s.heap.get? b = some o → (s.heap.push { cls := .type "list_iterator", data := .fields #[.ref p, .int 0 0] }).get? b = some o := fun b o q => Heap.get?_push_of_some _ q
  refine call_max_walk (wpAny_pyIter_list hl ⟨s.heap.objs.size, [s.heap.objs.size, p], [s.heap.objs.size], xs.toArray.size,
    fun i v => ∃ x, (a :: l)[i]? = some x ∧ VR c (XX ρ FX) ρ s.heap x v, fun i h => h.IsListIter s.heap.objs.size p i ∧ h.IsList p xs.toArray, cW (a :: l), rfl, ?_, ?_, ?_, ?_, ?_, ?_⟩)
  · have W0 := Walks.list (prog := c.prog) (w := c.w) (A := A.in1) hh s.heap.objs.size p (Nat.ne_of_lt hlt) xs.toArray
    exact ⟨W0.sub, W0.frame, fun i s' Q E hi st hQ => W0.item i s' Q E hi st fun v h' t hp => hQ v h' t (by
      obtain ⟨x, h1, h2⟩ := hx.get' (by simpa using hp)
      exact ⟨x, h1, h2⟩), W0.done, W0.self⟩
  · exact ⟨⟨_, Heap.get?_push_size _ rfl, rfl, rfl⟩, by obtain ⟨o, ho, r⟩ := hl; exact ⟨o, K0 _ _ ho, r⟩⟩
  · intro b hb
    rw [Heap.size_push]
    rcases List.mem_cons.mp hb with rfl | hb
    · exact Nat.lt_succ_self _
    · rcases List.mem_cons.mp hb with rfl | hb
      · exact Nat.lt_succ_of_lt hlt
      · cases hb
  · simp only [List.size_toArray]; rw [← hz]; simp
  · intro i j vi vj s' Q E hi hj hQ
    obtain ⟨x, h1, h2⟩ := hi
    obtain ⟨y, h3, h4⟩ := hj
    have hxy : ∃ r, f8 .Gt x y = some r := by
      have k1 := gF e x (List.mem_of_getElem? h1)
      have k2 := gF e y (List.mem_of_getElem? h3)
      exact sI (k1.1.trans k2.1.symm) (by rw [k1.1]; exact k1.2)
    obtain ⟨r, hr⟩ := hxy
    have hb : cW (a :: l) i j = r := by
      unfold cW
      have e1 : (a :: l).getD i .none = x := by rw [List.getD_eq_getElem?_getD, h1]; rfl
      have e2 : (a :: l).getD j .none = y := by rw [List.getD_eq_getElem?_getD, h3]; rfl
      rw [e1, e2, hr]; rfl
    rw [hb] at hQ
    exact jH (s := s') hr h2 h4 c.prog c.w E Q hQ
  · rintro v h' tk ⟨x, h1, h2⟩ hk
    have hlen : xs.toArray.size - 1 = (a :: l).length - 1 := by simp only [List.size_toArray]; rw [hz]
    rw [hlen] at h1
    have hd : x = d := by
      have := oG (l := a :: l) l 0 d rfl (by simp) (by simpa [argBest] using e)
      rw [List.getD_eq_getElem?_getD, h1] at this
      simpa using this
    subst hd
    have K : ∀ b o, s.heap.get? b = some o → h'.get? b = some o := fun b o q => hk b o (by simp; exact Nat.ne_of_lt (Heap.lt_size q)) (K0 b o q)
    exact ⟨ρ, W.grow (Kp.of_all K) tk, h2.mono (.of_keep fun b o q n => ⟨K b o q, n⟩) (List.prefix_refl _)⟩
@[elab_as_elim] theorem uV {a : V} {v : Value} {α : Type} {X : Addr → Prop} {h : Heap} {C : Value → Prop} {r : α} {k : List V → Option α} (e : pB a k = some r) (ha : VD c X ρ h a v) (f : ∀ l p xs, h.IsList p xs.toArray → VRs c X ρ h l xs → k l = some r → C (.ref p)) : C v :=
  rH (C := fun a => VD c X ρ h a v → C v) e (fun l e ha => dh ha fun p xs hp hx => f l p xs hp hx e) ha
section
variable {b : BI} {a d : V} {v : Value} {l : List V} (W : WR c ρ s.heap FX σ)
include W
theorem zu (e : uH a = some d) (ha : VD c (XX ρ FX) ρ s.heap a v) : wpAny c.M A (call (.builtin "len") [v]) (Po c FX ρ s d σ) aC s := by
  cases a <;> first | exact ae e | skip
  · exact aY e fun hz e => ac e (iV (k := some) rfl (vQ ha fun H z => (nomatch z)) fun i t z => by
      cases z
      unfold aF at hz
      exact len_bytes (Nat.le_trans hz (by decide)) (ce W cM _))
  · exact aY e fun hz e => ac e (dh ha fun p xs hp hx => by
      rw [hx.length] at hz ⊢
      unfold aF at hz
      exact call_len_list hp (by rw [List.size_toArray]; first | exact hz | exact hx.length ▸ hz | omega) (ce W cM _))
theorem v7 (x y : Int) (t u w : Tok) (k : Nat) : Po c FX ρ s (.rng x y) σ (.ref s.heap.objs.size) { s with heap := s.heap.push { cls := .type "range", data := .fields #[.int x t, .int y u, .int 1 w] }, toks := k } :=
  ⟨ρ, W.grow (Kp.push _ _) _, by rw [VR]; exact ⟨_, _, _, _, rfl, jE W, IsRange.new _ _ _ _ _ _ _⟩⟩
theorem v9 {ds : List V} {vs : List Value} (e : py .range ds σ = some d) (hd : VRs c (XX ρ FX) ρ s.heap ds vs) : wpAny c.M A (call (.type "range") vs) (Po c FX ρ s d σ) aC s :=
  eH e hd fun a ds v vs e ha hd => bZ e ha fun i t e => by
    cases ds with
    | nil => exact aM hd (aY e fun H e => ac e (PySem.call_range_1 (v7 W _ _ _ _ _ _)))
    | cons b ds => exact au hd fun v2 vs hb hd => eQ e hd fun e => bZ e hb fun j u e => aY e fun H e => ac e (PySem.call_range_2 (v7 W _ _ _ _ _ _))
theorem sY (e : pB a gn = some d) (ha : VD c (XX ρ FX) ρ s.heap a v) : wpAny c.M A (call (.builtin "sorted") [v]) (Po c FX ρ s d σ) aC s :=
  uV e ha fun l p xs hp hx e => by
    by_cases h2 : l.length < 2
    · unfold gn at e
      rw [if_pos h2] at e
      exact ac e (j0 hp (by rw [← hx.length]; exact h2) fun h' e' D k hz1 hD he => eU (t := s.toks) W hx k (Heap.get?_none_of_le hD) he)
    · exact vy W e ⟨p, xs, rfl, hp, hx⟩ (Nat.le_of_not_lt h2)
theorem vK (e : (pB a fun l => if l.length ≤ aF then some (.tup l) else none) = some d) (ha : VD c (XX ρ FX) ρ s.heap a v) : wpAny c.M A (call (.type "tuple") [v]) (Po c FX ρ s d σ) aC s :=
  uV e ha fun l p xs hp hx e => aY e fun hz e => ac e (by
    rw [hx.length] at hz
    refine call_tuple_list hp (fun h' k => ?_) (kQ hz)
    have hn : s.heap.get? h'.objs.size = none := by
      cases q : s.heap.get? h'.objs.size with
      | none => rfl
      | some o => have := k _ _ q; rw [an] at this; cases this
    exact oX (t := s.toks) W hx (fun b o q => Heap.get?_push_of_some _ (k b o q)) hn (Heap.get?_push_size _ rfl))
theorem wW (e : oz a = some d) (ha : VD c (XX ρ FX) ρ s.heap a v) : wpAny c.M A (call (.type "list") [v]) (Po c FX ρ s d σ) aC s := by
  cases a <;> first | exact ae e | skip
  · exact aY e fun hz e => ac e (bN ha fun p xs H ⟨o, ho, hc, n, hdt⟩ hx => by
      rw [hx.length] at hz
      exact call_list_seq p (.inr rfl) ho hc hdt (fun h' c' k e => eU (n := c') (t := s.toks) W hx k (an _) e) (kQ hz))
  · exact aY e fun hz e => ac e (dh ha fun p xs ⟨o, ho, hc, n, hdt⟩ hx => by
      rw [hx.length] at hz
      exact call_list_seq p (.inl rfl) ho hc hdt (fun h' c' k e => eU (n := c') (t := s.toks) W hx k (an _) e) (kQ hz))
theorem tv (hh : A.handled = none) (e : (pB a fun l => one l fun x => iq x fun i => if i = 0 then some (.bytes [0]) else none) = some d) (ha : VR c (XX ρ FX) ρ s.heap a v) : wpAny c.M A (call (.type "bytes") [v]) (Po c FX ρ s d σ) aC s :=
  uW e ha fun l p xs hp hx e => dX (CL := fun xs => s.heap.IsList p xs.toArray → wpAny c.M A (call (.type "bytes") [.ref p]) (Po c FX ρ s d σ) aC s) e hx (fun x vx e hx1 hp => bZ (C := fun vx => s.heap.IsList p [vx].toArray → wpAny c.M A (call (.type "bytes") [.ref p]) (Po c FX ρ s d σ) aC s) e hx1 (fun i t e hp => aY e fun hi e => ac e (by
    subst hi
    refine call_bytes_ints (ns := [0]) hp (.cons 0 t .nil) (by simp) (by rw [sizeLine_eq]; simp) hh fun h' t k K => ?_
    exact ⟨ρ, (W.grow (Kp.of_all K) k : Ps c FX No ρ s ρ σ { s with heap := h', toks := k }), iD (b := [0])⟩)) hp) hp
theorem yH {ds : List V} {vs : List Value} (hh : A.handled = none) (e : py b ds σ = some d) (hd : VRs c (XX ρ FX) ρ s.heap ds vs) :
    wpAny c.M A (call (AW b) vs) (Po c FX ρ s d σ) aC s := by
  cases b
  · exact dX e hd fun a v e ha => zu W e (ch W ha)
  · exact v9 W e hd
  · exact dX e hd fun a v e ha => sY W e (ch W ha)
  · exact dX e hd fun a v e ha => rH (C := fun a => VR c (XX ρ FX) ρ s.heap a v → _) e (fun l e ha => eG (C := fun l => VR c (XX ρ FX) ρ s.heap (.list l) v → _) e (fun a l e ha => aY e fun H e => zx hh W e ha) ha) ha
  · exact dX e hd fun a v e ha => vK W e (ch W ha)
  · exact dX e hd fun a v e ha => wW W e (ch W ha)
  · exact dX e hd fun a v e ha => tv W hh e ha
end
end
abbrev DB (c : Cx) (FX : Addr → Prop) (ρ : aN) (s : Shared) (σ' : St) : Unit → Shared → Prop :=
  fun H s' => ∃ ρ', Ps c FX No ρ s ρ' σ' s'
section
variable {c : Cx} {FX O : Addr → Prop} {ρ : aN} {σ : St} {s : Shared} {A : Around} {E : Value → Shared → Prop}
theorem WR.stands_upd {h' : Heap} {k : Nat} {q : Addr × Option Addr} (hq : ρ[k]? = some q) (K : Kp (fun b => b = q.1 ∨ q.2 = some b) s.heap h') : aG (XX ρ FX) (XX ρ FX) s.heap h' :=
  .of_keep fun b o e n => ⟨K.keep b o e fun z => n (.inl (.inr (.inr (d9 (List.mem_of_getElem? hq) z)))), n⟩
theorem WR.updL {k : Nat} {q : Addr × Option Addr} {xs : Array Value} {n : Nat} {l' : List V} {f : Array Value → Array Value} (W : WR c ρ s.heap FX σ) (hq : ρ[k]? = some q) (hn : q.2 = none)
    (ho : s.heap.get? q.1 = some (seqObj "list" xs n)) (hl : VRs c (XX ρ FX) ρ s.heap l' (f xs).toList) (t : Nat) :
    Ps c FX O ρ s ρ (σ.set k (.list l')) { s with heap := s.heap.update q.1 (Obj.mapSeq f), toks := t } := by
  have e := get?_update_seq ho f
  have K : Kp (fun b => b = q.1 ∨ q.2 = some b) s.heap (s.heap.update q.1 (Obj.mapSeq f)) := Kp.of_same (Heap.SameBut.update ..) (.inl rfl) e
  exact W.upd hq K ⟨(f xs).toList, _, hn, by simpa using e, hl.mono (WR.stands_upd hq K) (List.prefix_refl _)⟩
theorem l7 {X : Addr → Prop} {h : Heap} {k : Nat} {d : V} {v : Value} (hv : VR c X ρ h d v) : ∀ {ks : List Nat} {l : List V} {xs : List Value}, VRs c X ρ h l xs → ks.length = xs.length → VRs c X ρ h (cV k d ks l) (cV k v ks xs)
  | [], _, _, _, _ => by show VRs c X ρ h [d] [v]; rw [VRs, VRs]; exact ⟨hv, trivial⟩
  | a :: ks, [], _, hx, hz => aM (CL := fun xs => (a :: ks).length = xs.length → VRs c X ρ h (cV k d (a :: ks) []) (cV k v (a :: ks) xs)) hx (fun hz => nomatch hz) hz
  | a :: ks, d' :: l, _, hx, hz => au (CL := fun xs => (a :: ks).length = xs.length → VRs c X ρ h (cV k d (a :: ks) (d' :: l)) (cV k v (a :: ks) xs)) hx (fun x xs h1 h2 hz => by
    rw [ew, ew]
    by_cases q : a = k
    · rw [if_pos q, if_pos q, VRs]; exact ⟨hv, h2⟩
    · rw [if_neg q, if_neg q, VRs]; exact ⟨h1, l7 hv h2 (Nat.succ.inj hz)⟩) hz
theorem iw {α : Type} {k : Nat} {v : α} : ∀ {ks : List Nat} {xs : List α}, ks.length = xs.length → (ca k ks).length = (cV k v ks xs).length
  | [], _, _ => rfl
  | _ :: _, [], h => nomatch h
  | a :: ks, x :: xs, h => by
    rw [ca, ew]
    by_cases q : a = k
    · rw [if_pos q, if_pos q]; exact h
    · rw [if_neg q, if_neg q]; exact congrArg (· + 1) (iw (Nat.succ.inj h))
theorem iY {k b : Nat} : ∀ {ks : List Nat}, b ∈ ca k ks → b ∈ ks ∨ b = k
  | [], h => by simp [ca] at h; exact .inr h
  | a :: ks, h => by
    simp only [ca] at h
    split at h
    · exact .inl h
    · rcases List.mem_cons.mp h with rfl | h
      · exact .inl (.head _)
      · exact (iY h).imp (.tail _) id
theorem oF {α : Type} {k : Str} {v : α} : ∀ {kvs : List (Str × α)}, k ∉ kvs.map (·.1) → kvs.map (fun kv => if kv.1 = k then (kv.1, v) else kv) = kvs
  | [], _ => rfl
  | kv :: r, h => by
    simp only [List.map_cons, List.mem_cons, not_or] at h
    rw [List.map_cons, oF h.2, if_neg (fun z => h.1 z.symm)]
theorem ld {k : Nat} {v : Value} (hk : k < 31) : ∀ {ks : List Nat} {xs : List Value}, ks.length = xs.length → (∀ k ∈ ks, k < 31) → (((ks.map dE).zip xs).map (·.1)).Nodup →
    stored ((ks.map dE).zip xs) (dE k) v = ((ca k ks).map dE).zip (cV k v ks xs)
  | [], [], _, _, _ => rfl
  | [], _ :: _, h, _, _ => nomatch h
  | _ :: _, [], h, _, _ => nomatch h
  | a :: ks, x :: xs, h, hl, hn => by
    rw [List.map_cons, List.zip_cons_cons, List.map_cons, List.nodup_cons] at hn
    rw [ca, ew, List.map_cons, List.zip_cons_cons]
    by_cases q : a = k
    · subst q
      rw [if_pos rfl, if_pos rfl, List.map_cons, List.zip_cons_cons]
      unfold stored
      rw [if_pos (by simp), List.map_cons, if_pos rfl, oF hn.1]
    · have hne : dE a ≠ dE k := fun z => q (jM a (hl a (.head _)) k hk z)
      rw [if_neg q, if_neg q, List.map_cons, List.zip_cons_cons, ← ld hk (v := v) (Nat.succ.inj h) (fun k hk => hl k (.tail _ hk)) hn.2]
      unfold stored
      rw [List.any_cons, decide_eq_false hne, Bool.false_or]
      split
      · rw [List.map_cons, if_neg hne]
      · rw [List.cons_append]
theorem jw {l : Addr} {items : Array Value} {n : Nat} {k : Int} {t : Tok} {v : Value} {Q : Unit → Shared → Prop} (ho : s.heap.get? l = some (seqObj "list" items n))
    (h0 : 0 ≤ k) (hfit : k < 2 ^ 63) (hn : k < items.size)
    (hQ : Q () { s with heap := s.heap.update l (Obj.mapSeq (·.setIfInBounds k.toNat v)) }) :
    wpAny c.M A (setItem (.ref l) (.int k t) v) Q E s := by
  have hl : s.heap.IsList l items := ⟨_, ho, rfl, n, rfl⟩
  unfold setItem
  try with_reducible refine wpAny_holding ?_
  first | refine wpAny_bind (wpAny_pure ?_) | skip
  refine wpAny_bind (wpAny_sequenceKey hl.typeIs (by decide) ?_)
  refine wpAny_bind (wpAny_callSpecial?_slot (name := Str.ofString "__setitem__") hl.typeIs slot_list_setitem
    (wpAny_call_entry slot_list_setitem hl.typeIs entry_list_setitem ?_ (args_list_setitem _ _ _)))
  show wpAny _ _ (Builtin.List.listSubscript? (.int k t) >>= _) _ _ s
  refine wpAny_bind (wpAny_listSubscript_int (fitsIndex_of h0 hfit) ?_)
  clear hfit
  obtain ⟨j, rfl⟩ := Int.eq_ofNat_of_zero_le h0
  have hj : j < items.size := Int.ofNat_lt.mp (by assumption)
  have hx' : items[j]? = some items[j] := Array.getElem?_eq_getElem hj
  show wpAny _ _ ((seqItemAt l j >>= fun r => pure (r.map (j, ·))) >>= _) _ _ s
  refine wpAny_bind (wpAny_bind (wpAny_seqItemAt ho rfl (wpAny_pure ?_)))
  rw [hx']
  show wpAny _ _ (setSeqItemAt l j v >>= _) _ _ s
  refine wpAny_bind (wpAny_setSeqItemAt ho rfl ?_)
  first
    | exact wpAny_bind (wpAny_pure (wpAny_pure ⟨.none, rfl, wpAny_pure hQ⟩))
    | exact wpAny_pure ⟨.none, rfl, wpAny_pure hQ⟩
section
variable {i d : V} {vi vd : Value} {q : Addr × Option Addr} {k : Nat} {xs : List Value} {n : Nat} {l : List V} {σ' : St} (W : WR c ρ s.heap FX σ) (hq : ρ[k]? = some q)
include W hq
theorem Db (hn : q.2 = none) (ho : s.heap.get? q.1 = some (seqObj "list" xs.toArray n)) (hx : VRs c (XX ρ FX) ρ s.heap l xs) (hd : VR c (XX ρ FX) ρ s.heap d vd) {i : Int} {t : Tok} (hz : 0 ≤ i ∧ i < l.length ∧ l.length ≤ aF) :
    wpAny c.M A (setItem (.ref q.1) (.int i t) vd) (DB c FX ρ s (σ.set k (.list (l.set i.toNat d)))) aC s := by
  rw [hx.length] at hz
  refine jw ho hz.1 (by unfold aF at hz; omega) (by simp only [List.size_toArray]; omega) ⟨ρ, W.updL hq hn ho ?_ s.toks⟩
  rw [show (xs.toArray.setIfInBounds i.toNat vd).toList = xs.set i.toNat vd by simp]
  exact hx.set _ hd
theorem Da {ks : List Nat} {k2 : Nat} {t : Tok} (hk : k2 < 31) (hn : q.2 = none) (hD : s.heap.DictOf (strKind c.prog c.w) q.1 ((ks.map dE).zip xs)) (hks : ∀ k ∈ ks, k < 31) (hlen : ks.length = xs.length) (hx : VRs c (XX ρ FX) ρ s.heap l xs) (hd : VR c (XX ρ FX) ρ s.heap d vd) (hz : ks.length ≤ 100) :
    wpAny c.M A (setItem (.ref q.1) (.str (dE k2) t) vd) (DB c FX ρ s (σ.set k (.dict (ca k2 ks) (cV k2 d ks l)))) aC s := by
  have hnd : (((ks.map dE).zip xs).map (·.1)).Nodup := by obtain ⟨_, _, _, _, _, _, _, _, z⟩ := hD; exact z
  refine wpAny_setItem_pairs (eN _ _) hD (fun h' hD' hs => ⟨ρ, ?_⟩) (by rw [sizeLine_eq]; simp; omega)
  rw [ld hk hlen hks hnd] at hD'
  have hlive : ∃ o', h'.get? q.1 = some o' := by obtain ⟨o, _, _, e, _⟩ := hD'; exact ⟨o, e⟩
  obtain ⟨o', eo⟩ := hlive
  have K : Kp (fun b => b = q.1 ∨ q.2 = some b) s.heap h' := Kp.of_same hs (.inl rfl) eo
  exact W.upd hq K ⟨cV k2 vd ks xs, hn, hD', fun k3 h2 => (iY h2).elim (hks _) fun z => by rw [z]; exact hk, iw hlen, (l7 hd hx hlen).mono (WR.stands_upd hq K) (List.prefix_refl _)⟩
end
theorem vv {o i d : V} {vo vi vd : Value} {σ' : St} (W : WR c ρ s.heap FX σ) (e : eY o i d σ = some σ') (ho : VR c (XX ρ FX) ρ s.heap o vo) (hi : VR c (XX ρ FX) ρ s.heap i vi) (hd : VR c (XX ρ FX) ρ s.heap d vd) :
    wpAny c.M A (setItem vo vi vd) (DB c FX ρ s σ') aC s :=
  qx e ho fun k q hq e => gg e fun m hm e => by
    have R := W.at_ _ q _ hq hm
    cases m with
    | list l => obtain ⟨xs, n, hn, ho, hx⟩ := R; exact bZ e hi fun i t e => aY e fun hz e => ac e (Db W hq hn ho hx hd hz)
    | dict ks l => obtain ⟨xs, hn, hD, hks, hlen, hx⟩ := R; exact mX e hi fun i t hk e => aY e fun hz e => ac e (Da W hq hk hn hD hks hlen hx hd hz)
    | inst ks l => exact ae e
noncomputable def wm : BM → String
  | .append => "list.append" | .pop => "list.pop" | .index => "list.index" | .clear => "list.clear"
noncomputable def pS : BM → Str
  | .append => Str.ofString "append" | .pop => Str.ofString "pop" | .index => Str.ofString "index" | .clear => Str.ofString "clear"
noncomputable def Gn : BM → Builtin
  | .append => Builtin.«list.append» | .pop => Builtin.«list.pop» | .index => Builtin.«list.index» | .clear => Builtin.«list.clear»
theorem tt (m : BM) : Slot "list" (pS m) (wm m) := by
  cases m
  · exact PySem.F.slot_list_append
  · exact PySem.F.slot_list_pop
  · exact PySem.F.slot_list_index
  · exact PySem.F.slot_list_clear
theorem wl (m : BM) : entryFor table (wm m) = some (Gn m) := by
  cases m
  · exact PySem.F.entry_list_append
  · exact PySem.F.entry_list_pop
  · exact PySem.F.entry_list_index
  · exact PySem.F.entry_list_clear
theorem yK (m : BM) : typeOf (.builtin (wm m)) = pure (.type "method_descriptor") := by
  cases m
  · exact PySem.F.type_list_append
  · exact PySem.F.type_list_pop
  · exact PySem.F.type_list_index
  · exact PySem.F.type_list_clear
def pD (c : Cx) (m : BM) (self : Value) (vs : List Value) (Q E : Value → Shared → Prop) (A : Around) (s : Shared) : Prop :=
  s.TypeIs self "list" ∧ argsOk (wm m) ⟨self :: vs, []⟩ ∧ ∃ S, Meets (Gn m ⟨self :: vs, []⟩) S ∧ S A (wants Q E) s
structure IxO (A : Around) (s : Shared) (va : Value) (vs : List Value) (n m : Nat) : Prop where
  all : ∀ y, y ∈ vs → EqAt A s y va (nV y va)
  at_ : ∃ j, m = n + j ∧ ∃ hj : j < vs.length, nV vs[j] va = true ∧ ∀ i (hi : i < vs.length), i < j → nV vs[i] va = false
theorem IxO.hit {v va : Value} {vs : List Value} {n : Nat} {r : Bool} (k1 : xD A s v va true) (k2 : InO A s va vs r) : IxO A s va (v :: vs) n n :=
  ⟨fun y hy => (List.mem_cons.mp hy).elim (fun e => by rw [e, k1.2.2.1]; exact k1.2.1) (k2.1 y), 0, rfl, Nat.succ_pos _, k1.2.2.1, fun i hi h0 => absurd h0 (Nat.not_lt_zero _)⟩
theorem IxO.next {v va : Value} {vs : List Value} {n m : Nat} (k1 : xD A s v va false) (k2 : IxO A s va vs (n + 1) m) : IxO A s va (v :: vs) n m := by
  obtain ⟨h1, j, hm, hj, hit, hno⟩ := k2
  refine ⟨fun y hy => (List.mem_cons.mp hy).elim (fun e => by rw [e, k1.2.2.1]; exact k1.2.1) (h1 y), j + 1, by omega, Nat.succ_lt_succ hj, hit, fun i hi hij => ?_⟩
  cases i with
  | zero => exact k1.2.2.1
  | succ i => exact hno i (Nat.lt_of_succ_lt_succ hi) (Nat.lt_of_succ_lt_succ hij)
theorem og {X : Addr → Prop} {h : Heap} {a : V} {va : Value} (ha : VR c X ρ h a va) : ∀ {l : List V} {vs : List Value} {n m : Nat}, jk a l n = some m → VRs c X ρ h l vs → IxO A s va vs n m
  | [], _, _, _, e, _ => ae e
  | x :: l, _, n, m, e, h1 => au h1 fun v vs a1 a2 => bS e fun k q e => by
    have k1 := iL (A := A) (s := s) q a1 ha
    cases k with
    | true => exact bS e fun r q2 e => ac e (IxO.hit k1 (mN ha q2 a2))
    | false => exact IxO.next k1 (og ha e a2)
section
variable {q : Addr × Option Addr} {k n : Nat} {xs : List Value} {l : List V} {d : V} {σ' : St} (W : WR c ρ s.heap FX σ) (hq : ρ[k]? = some q) (hn : q.2 = none) (hob : s.heap.get? q.1 = some (seqObj "list" xs.toArray n)) (hx : VRs c (XX ρ FX) ρ s.heap l xs)
include W hq hn hob hx
theorem sf {d : V} {v : Value} (hv : VR c (XX ρ FX) ρ s.heap d v) (hz : l.length < aF) : pD c .append (.ref q.1) [v] (Po c FX ρ s .none (σ.set k (.list (l ++ [d])))) aC A s := by
  rw [hx.length] at hz
  refine ⟨⟨_, hob, rfl⟩, PySem.F.args_list_append_2 _ _, _, list_append q.1 xs.toArray n v (by unfold aF at hz; rw [sizeLine_eq]; simp; omega), hob, ⟨ρ, W.updL hq hn hob ?_ s.toks, nb⟩⟩
  rw [show (xs.toArray.push v).toList = xs ++ [v] by simp]
  exact hx.append (by rw [VRs, VRs]; exact ⟨hv, trivial⟩)
theorem zN {i : Int} {t : Tok} (hz : 0 ≤ i ∧ i < l.length ∧ l.length ≤ aF) : pD c .pop (.ref q.1) [.int i t] (Po c FX ρ s (l.getD i.toNat .none) (σ.set k (.list (l.eraseIdx i.toNat)))) aC A s := by
  have hb : i.toNat < l.length := by omega
  obtain ⟨y, hy, hr⟩ := hx.get (List.getElem?_eq_getElem hb)
  rw [hx.length] at hz hb
  unfold aF at hz
  have hb' : i.toNat < xs.toArray.size := by simpa using hb
  refine ⟨⟨_, hob, rfl⟩, PySem.F.args_list_pop_2 _ _, _, MeetsSeq.list_pop_at q.1 xs.toArray n i t i.toNat y (fitsIndex_of hz.1 (by omega)) (vq hz.1 hb') (by simpa using hy) (by rw [sizeLine_eq]; simp; omega), hob, ⟨ρ, W.updL hq hn hob ?_ s.toks, ?_⟩⟩
  · rw [Array.eraseIdxIfInBounds, dif_pos hb', show (xs.toArray.eraseIdx i.toNat hb').toList = xs.eraseIdx i.toNat by simp]
    exact hx.eraseIdx _
  · rw [show l.getD i.toNat .none = l[i.toNat]'(by rw [hx.length]; exact hb) by simp [hx.length, hb]]
    exact hr.mono (WR.stands_upd hq (Kp.of_same (Heap.SameBut.update ..) (.inl rfl) (get?_update_seq hob _))) (List.prefix_refl _)
theorem tz (hz : l.length ≤ aF) : pD c .clear (.ref q.1) [] (Po c FX ρ s .none (σ.set k (.list []))) aC A s := by
  rw [hx.length] at hz
  exact ⟨⟨_, hob, rfl⟩, PySem.F.args_list_clear_1 _, _, AutoSeq1.list_clear_list_0 q.1 xs.toArray n (by unfold aF at hz; rw [sizeLine_eq]; simp; omega), hob, ⟨ρ, W.updL hq hn hob (by simp [VRs]) s.toks, nb⟩⟩
theorem uq {v : Value} {m : Nat} (I : IxO A.in1 s v xs 0 m) (hz : l.length ≤ aF) : pD c .index (.ref q.1) [v] (Po c FX ρ s (.int (m : Int)) σ) aC A s := by
  obtain ⟨k1, j, rfl, hj, hit, hno⟩ := I
  rw [hx.length] at hz
  unfold aF at hz
  rw [Nat.zero_add]
  exact ⟨⟨_, hob, rfl⟩, PySem.F.args_list_index_2 _ _, _, list_indexAt q.1 xs.toArray n none #[] v (fun y => nV y v) j (by simpa using hj) (by omega) (by simpa using hit) (fun i hi hij => by simpa using hno i (by simpa using hi) hij), hob, fun y hy => k1 y (by simpa using hy), ce W cM _⟩
theorem yJ {m : BM} {ds : List V} {vs : List Value} {r : V × St} (e : yI m k ds l σ = some r) (hd : VRs c (XX ρ FX) ρ s.heap ds vs) : pD c m (.ref q.1) vs (Po c FX ρ s r.1 r.2) aC A s := by
  cases m
  · exact dX e hd fun d v e hv => aY e fun hz e => ac e (sf W hq hn hob hx hv hz)
  · exact dX e hd fun d v e hv => bZ e hv fun i t e => aY e fun hz e => ac e (zN W hq hn hob hx hz)
  · exact dX e hd fun d v e hv => aY e fun hz e => bS e fun m em e => ac e (uq W hq hn hob hx (og hv em hx) hz)
  · exact eQ e hd fun e => aY e fun hz e => ac e (tz W hq hn hob hx hz)
end
theorem yL {m : BM} {o d : V} {ds : List V} {vo : Value} {vs : List Value} {σ' : St} (W : WR c ρ s.heap FX σ) (e : AY m o ds σ = some (d, σ')) (ho : VR c (XX ρ FX) ρ s.heap o vo) (hd : VRs c (XX ρ FX) ρ s.heap ds vs) :
    pD c m vo vs (Po c FX ρ s d σ') aC A s :=
  qx e ho fun k q hq e => gg e fun x hm e => l4 (C := fun x => MR c (XX ρ FX) ρ s.heap q x → pD c m (.ref q.1) vs (Po c FX ρ s d σ') aC A s) e (fun l e R => by
    obtain ⟨xs, n, hn, hob, hx⟩ := R
    exact yJ W hq hn hob hx e hd) (W.at_ _ q _ hq hm)
end
structure EnvOk (env : Env) : Prop where
  kind : env.scope.kind = .function
  glob : env.globals = mainGlobals
  bi : env.builtins = builtinsNs
theorem mW : ∀ i < 91, ∀ j < 91, ad i = ad j → i = j := by decide +kernel
theorem ij : ∀ i < 91, (ad i == ("__debug__" : Str)) = false := by decide +kernel
theorem mV : ∀ i < 91, (ad i == ("__classdict__" : Str)) = false := by decide +kernel
def bQ (env : Env) (wc : Bool) (b : Addr) : Prop := b = env.locals ∨ (wc = true ∧ ∃ n, env.cells.lookup n = some b)
def CM (env : Env) : Prop := ∀ x, env.kindOf x ≠ some .local
noncomputable def D0 : Str := ⟨#[75, 101, 121, 70, 105, 108, 101, 46, 114, 101, 119, 114, 105, 116, 101, 46, 60, 108, 111, 99, 97, 108, 115, 62, 46]⟩
def cN (env : Env) : Prop := CM env ∨ env.qual = D0
def AC (c : Cx) (ρ : aN) (h : Heap) (env : Env) : Prop := env.scope.kind ≠ .module ∧ ∃ L, env.frame = some L ∧ c.B.get? L = none ∧ ¬ MX ρ L ∧ ∃ o es n, h.get? L = some o ∧ o.data = .dict es n ∧ (es = #[] → cN env)
def gq (c : Cx) (A : Around) (ρ : aN) (h : Heap) : Prop := ∃ outer, A.frames = some outer ∧ ∀ env ∈ outer, AC c ρ h env
def bl (A : Around) (b : Addr) : Prop := ∃ outer, A.frames = some outer ∧ ∃ env ∈ outer, env.frame = some b
theorem gq.keep {c : Cx} {A : Around} {ρ ρ' : aN} {h h' : Heap} (x : gq c A ρ h) (k : ∀ L o es n, bl A L → c.B.get? L = none → ¬ MX ρ L → h.get? L = some o → o.data = .dict es n → ¬ MX ρ' L ∧ ∃ o' es' n', h'.get? L = some o' ∧ o'.data = .dict es' n' ∧ (es' = #[] → es = #[])) : gq c A ρ' h' := by
  obtain ⟨outer, e, a⟩ := x
  refine ⟨outer, e, fun env he => ?_⟩
  obtain ⟨h1, L, h2, h3, h4, o, es, n, h5, h6, h7⟩ := a env he
  obtain ⟨g1, o', es', n', g2, g3, g4⟩ := k L o es n ⟨outer, e, env, he, h2⟩ h3 h4 h5 h6
  exact ⟨h1, L, h2, h3, g1, o', es', n', g2, g3, fun z => h7 (g4 z)⟩
theorem gq.live {c : Cx} {A : Around} {ρ : aN} {h : Heap} (x : gq c A ρ h) {b : Addr} (z : bl A b) : (∃ o es n, h.get? b = some o ∧ o.data = .dict es n) ∧ ¬ MX ρ b := by
  obtain ⟨outer, e, a⟩ := x
  obtain ⟨outer', e', env, he, hf⟩ := z
  rw [e] at e'; cases e'
  obtain ⟨h1, L, h2, h3, h4, o, es, n, h5, h6, h7⟩ := a env he
  rw [hf] at h2; cases h2
  exact ⟨⟨o, es, n, h5, h6⟩, h4⟩
theorem gq.all {c : Cx} {A : Around} {ρ : aN} {h h' : Heap} (x : gq c A ρ h) (k : ∀ b o, h.get? b = some o → bl A b → h'.get? b = some o) : gq c A ρ h' :=
  x.keep fun L o es n hL H hm e hd => ⟨hm, o, es, n, k L o e hL, hd, id⟩
theorem xI {h : Heap} {a : Addr} {m : Str → Option Value} (x : h.Ns a m) {y : Str} {v : Value} (hy : m y = some v) : ∃ o es n, h.get? a = some o ∧ o.data = .dict es n ∧ es ≠ #[] := by
  obtain ⟨o, es, ep, e, hd, _, hm⟩ := x
  refine ⟨o, es, ep, e, hd, fun z => ?_⟩
  subst z
  have := hm y
  rw [hy] at this
  cases this
structure FR (c : Cx) (A : Around) (env : Env) (wc : Bool) (FX : Addr → Prop) (ρ : aN) (ℓ : aj) (h : Heap) : Prop where
  own : ∀ b, bQ env wc b → FX b
  nl : ∀ n a, env.cells.lookup n = some a → a ≠ env.locals ∧ ¬ MX ρ a
  live : ∀ n a, env.cells.lookup n = some a → ∃ v, h.IsCell a v
  cs : ∀ n, env.kindOf n = some .cell ∨ env.kindOf n = some .free → (env.cells.lookup n).isSome = true
  apart : wc = true → ∀ n n' a, env.cells.lookup n = some a → env.cells.lookup n' = some a → n = n'
  ns : ∃ m, h.Ns env.locals m ∧ ∀ x v, x < 91 → ℓ x = some v → env.kindOf (ad x) = some .local → ∃ w, m (ad x) = some w ∧ VR c (XX ρ FX) ρ h v w
  cl : ∀ x v, x < 91 → ℓ x = some v → (env.kindOf (ad x) = some .cell ∨ env.kindOf (ad x) = some .free) → ∃ a w, env.cells.lookup (ad x) = some a ∧ h.IsCell a (some w) ∧ VR c (XX ρ FX) ρ h v w
  fr : gq c A ρ h
  ff : ∀ b, bl A b → FX b
section
variable {c : Cx} {FX FY O : Addr → Prop} {ρ ρ' : aN} {σ σ' : St} {s s' : Shared} {h h' : Heap} {A : Around} {E : Value → Shared → Prop} {env : Env} {wc : Bool} {ℓ : aj}
theorem nH {p : Prop} {a : Addr} {m : Str → Option Value} (x : h.Ns a m) (k : ∀ o, h.get? a = some o → ∃ o', h'.get? a = some o' ∧ lj p o o') : h'.Ns a m := by
  obtain ⟨o, es, ep, ho, hd, r⟩ := x
  obtain ⟨o', e, u⟩ := k o ho
  exact ⟨o', es, ep, e, u.data.trans hd, r⟩
theorem fT {p : Prop} {a : Addr} {v : Option Value} (x : h.IsCell a v) (k : ∀ o, h.get? a = some o → ∃ o', h'.get? a = some o' ∧ lj p o o') : h'.IsCell a v := by
  obtain ⟨o, ho, hd⟩ := x
  obtain ⟨o', e, u⟩ := k o ho
  exact ⟨o', e, u.data.trans hd⟩
theorem Ps.mx (P : Ps c FX O ρ s ρ' σ' s') {a : Addr} (hl : ∃ o, s.heap.get? a = some o) (n : ¬ MX ρ a) : ¬ MX ρ' a := fun z => by
  rcases z with z | z | z
  · exact n (.inl z)
  · exact n (.inr (.inl z))
  · rcases P.newp a z with q | q
    · exact n (.inr (.inr q))
    · obtain ⟨o, e⟩ := hl; rw [q] at e; cases e
theorem gq.ps (P : Ps c FX O ρ s ρ' σ' s') (F : gq c A ρ s.heap) (hO : ∀ b, bl A b → ¬ O b) : gq c A ρ' s'.heap := F.keep fun L o es n hL hb hm e hd => by
  obtain ⟨o', e', u⟩ := P.old.keep L o e fun z => z.elim hm (hO L hL)
  exact ⟨P.mx ⟨o, e⟩ hm, o', es, n, e', u.data.trans hd, id⟩
theorem FR.ps (P : Ps c FX No ρ s ρ' σ' s') (W : WR c ρ s.heap FX σ) (F : FR c A env wc FX ρ ℓ s.heap) : FR c A env wc FX ρ' ℓ s'.heap := by
  have kc : ∀ n a, env.cells.lookup n = some a → ∀ o, s.heap.get? a = some o → ∃ o', s'.heap.get? a = some o' ∧ lj (FX a) o o' := fun n a q o e => P.old.keep a o e fun z => z.elim (F.nl n a q).2 fun z => z
  refine ⟨F.own, fun n a q => ⟨(F.nl n a q).1, P.mx ?_ (F.nl n a q).2⟩, fun n a q => ?_, F.cs, F.apart, ?_, fun x v hx hv hk => ?_, F.fr.ps P fun H H z => z.elim, F.ff⟩
  · obtain ⟨v, o, e, _⟩ := F.live n a q; exact ⟨o, e⟩
  · obtain ⟨v, z⟩ := F.live n a q; exact ⟨v, fT z (kc n a q)⟩
  · obtain ⟨m, hn, k⟩ := F.ns
    refine ⟨m, nH hn fun o e => P.old.keep _ o e fun z => z.elim (W.fx _ (F.own _ (.inl rfl))).2.2 fun z => z, fun x v hx hv hk => ?_⟩
    obtain ⟨w, h1, h2⟩ := k x v hx hv hk
    exact ⟨w, h1, P.vr h2⟩
  · obtain ⟨a, w, h1, h2, h3⟩ := F.cl x v hx hv hk
    exact ⟨a, w, h1, fT h2 (kc _ a h1), P.vr h3⟩
theorem FR.fewer {wd : Bool} (F : FR c A env wc FX ρ ℓ h) (k : ∀ b, FY b → FX b) (own : ∀ b, bQ env wd b → FY b) (ownF : ∀ b, bl A b → FY b) (hw : wd = true → wc = true) : FR c A env wd FY ρ ℓ h := by
  have S : aG (XX ρ FX) (XX ρ FY) h h := .of_keep fun b o e n => ⟨e, fun z => n (z.imp id (k b))⟩
  refine ⟨own, F.nl, F.live, F.cs, fun z => F.apart (hw z), ?_, fun x v hx hv hk => ?_, F.fr, ownF⟩
  · obtain ⟨m, hn, q⟩ := F.ns
    refine ⟨m, hn, fun x v hx hv hk => ?_⟩
    obtain ⟨w, h1, h2⟩ := q x v hx hv hk
    exact ⟨w, h1, h2.mono S (List.prefix_refl _)⟩
  · obtain ⟨a, w, h1, h2, h3⟩ := F.cl x v hx hv hk
    exact ⟨a, w, h1, h2, h3.mono S (List.prefix_refl _)⟩
theorem FR.store (eo : EnvOk env) (W : WR c ρ s.heap FX σ) (F : FR c A env wc FX ρ ℓ s.heap) {x : Nat} {d : V} {v : Value} (hx : x < 91)
    (hk : env.kindOf (ad x) = some .local ∨ (wc = true ∧ env.kindOf (ad x) = some .cell ∧ (env.cells.lookup (ad x)).isSome = true)) (hv : VR c (XX ρ FX) ρ s.heap d v) :
    wpAny c.M A (storeName env (ad x) v) (fun H s' => Ps c FX (bQ env wc) ρ s ρ σ s' ∧ FR c A env wc FX ρ (upd ℓ x d) s'.heap) E s := by
  rcases hk with hk | ⟨hw, hk, hs⟩
  · obtain ⟨m, hn, k⟩ := F.ns
    refine wpAny_storeName_local hk hn (fun h' hn' hs => ?_) (by rw [eo.kind]; rfl)
    have lv : ∃ o', h'.get? env.locals = some o' := by obtain ⟨o, _, _, e, _⟩ := hn'; exact ⟨o, e⟩
    obtain ⟨o', eo'⟩ := lv
    have P : Ps c FX (bQ env wc) ρ s ρ σ { s with heap := h', toks := s.toks + 1 } := W.stepP (S := fun b => b = env.locals) (Kp.of_same hs rfl eo') (fun b z => ⟨F.own b (.inl z), .inl z⟩) _
    have vr : ∀ {d : V} {v : Value}, VR c (XX ρ FX) ρ s.heap d v → VR c (XX ρ FX) ρ h' d v := fun z => P.vrO F.own z
    refine ⟨P, F.own, F.nl, fun n a q => ?_, F.cs, F.apart, ⟨_, hn', fun y v' hy hv' hk' => ?_⟩, fun y v' hy hv' hk' => ?_, (F.fr.keep fun L o es n H H hm e hd => ?_), F.ff⟩
    · obtain ⟨v, z⟩ := F.live n a q; exact ⟨v, z.sameBut hs (F.nl n a q).1⟩
    · unfold upd at hv'
      split at hv'
      · rename_i e
        subst e
        cases hv'
        exact ⟨v, by simp, vr hv⟩
      · rename_i e
        obtain ⟨w, h1, h2⟩ := k y v' hy hv' hk'
        exact ⟨w, by rw [if_neg fun z => e (mW y hy x hx z)]; exact h1, vr h2⟩
    · unfold upd at hv'
      split at hv'
      · rename_i e
        subst e
        rw [hk] at hk'; rcases hk' with z | z <;> cases z
      · obtain ⟨a, w, h1, h2, h3⟩ := F.cl y v' hy hv' hk'
        exact ⟨a, w, h1, h2.sameBut hs (F.nl _ a h1).1, vr h3⟩
    · by_cases z : L = env.locals
      · obtain ⟨o2, es2, n2, e2, d2, ne⟩ := xI hn' (y := ad x) (v := v) (by simp)
        exact ⟨hm, o2, es2, n2, by rw [z]; exact e2, d2, fun q => absurd q ne⟩
      · exact ⟨hm, o, es, n, (hs.2 L z).trans e, hd, id⟩
  · obtain ⟨a, ha⟩ := Option.isSome_iff_exists.mp hs
    obtain ⟨v₀, hc⟩ := F.live _ a ha
    refine wpAny_storeName_cell eo.kind hk ha hc fun h' hc' hs => ?_
    have lv : ∃ o', h'.get? a = some o' := by obtain ⟨o, e, _⟩ := hc'; exact ⟨o, e⟩
    obtain ⟨o', eo'⟩ := lv
    have P : Ps c FX (bQ env wc) ρ s ρ σ { s with heap := h', toks := s.toks } := W.stepP (S := fun b => b = a) (Kp.of_same hs rfl eo') (fun b z => by subst z; exact ⟨F.own _ (.inr ⟨hw, _, ha⟩), .inr ⟨hw, _, ha⟩⟩) _
    have vr : ∀ {d : V} {v : Value}, VR c (XX ρ FX) ρ s.heap d v → VR c (XX ρ FX) ρ h' d v := fun z => P.vrO F.own z
    refine ⟨P, F.own, F.nl, fun n b q => ?_, F.cs, F.apart, ?_, fun y v' hy hv' hk' => ?_, (F.fr.keep fun L o es n H H hm e hd => ?_), F.ff⟩
    · by_cases e : b = a
      · subst e; exact ⟨_, hc'⟩
      · obtain ⟨v, z⟩ := F.live n b q; exact ⟨v, z.sameBut hs e⟩
    · obtain ⟨m, hn, k⟩ := F.ns
      refine ⟨m, hn.sameBut hs (Ne.symm (F.nl _ a ha).1), fun y v' hy hv' hk' => ?_⟩
      unfold upd at hv'
      split at hv'
      · rename_i e
        subst e
        rw [hk] at hk'; cases hk'
      · obtain ⟨w, h1, h2⟩ := k y v' hy hv' hk'
        exact ⟨w, h1, vr h2⟩
    · unfold upd at hv'
      split at hv'
      · rename_i e
        subst e
        cases hv'
        exact ⟨a, v, ha, hc', vr hv⟩
      · rename_i e
        obtain ⟨b, w, h1, h2, h3⟩ := F.cl y v' hy hv' hk'
        have hne : b ≠ a := fun z => by
          subst z
          exact e (mW y hy x hx (F.apart hw _ _ _ h1 ha))
        exact ⟨b, w, h1, h2.sameBut hs hne, vr h3⟩
    · have ne : L ≠ a := fun z => by
        obtain ⟨oc, ec, dc⟩ := hc
        rw [z, ec] at e; cases e
        rw [dc] at hd; cases hd
      exact ⟨hm, o, es, n, (hs.2 L ne).trans e, hd, id⟩
theorem FR.load (eo : EnvOk env) (F : FR c A env wc FX ρ ℓ s.heap) {x : Nat} {d : V} {pos : Pos} {Q : Value → Shared → Prop} (hx : x < 91) (hd : ℓ x = some d)
    (hk : env.kindOf (ad x) = some .local ∨ env.kindOf (ad x) = some .cell ∨ env.kindOf (ad x) = some .free) (hq : ∀ w, VR c (XX ρ FX) ρ s.heap d w → Q w s) : wpAny c.M A (eval (.Name (ad x) pos) env) Q E s := by
  refine wpAny_Name ?_ (ij x hx)
  rcases hk with hk | hk
  · obtain ⟨m, hn, k⟩ := F.ns
    obtain ⟨w, h1, h2⟩ := k x d hx hd hk
    exact wpAny_loadName_local eo.kind hk hn h1 (hq w h2)
  · obtain ⟨a, w, h1, h2, h3⟩ := F.cl x d hx hd hk
    rcases hk with hk | hk
    · exact wpAny_loadName_cell eo.kind hk h1 h2 (hq w h3)
    · exact wpAny_loadName_free eo.kind hk h1 h2 (hq w h3) (mV x hx)
end
noncomputable def kh : BI → Str
  | .len => Str.ofString "len" | .range => Str.ofString "range" | .sorted => Str.ofString "sorted" | .max => Str.ofString "max" | .tuple => Str.ofString "tuple" | .list => Str.ofString "list" | .bytes => Str.ofString "bytes"
structure Bs (c : Cx) (K : Frag) (mb : Str → Option Value) : Prop where
  X : K.In c.B
  G : c.B.Ns mainGlobals c.mg
  NB : c.B.Ns builtinsNs mb
  lim : c.B.NoLimit
  bis : ∀ b, c.mg (kh b) = none ∧ mb (kh b) = some (AW b)
  en : c.mg (Str.ofString "enumerate") = none ∧ mb (Str.ofString "enumerate") = some (.type "enumerate")
  rd : ∃ p t t', c.mg (ad 30) = some (.ref p) ∧ p ≠ 284 ∧ p ≠ 298 ∧ c.B.IsTuple p #[.str (dE 26) t, .str (dE 13) t']
  pg : findIn K (.ref FC) "__getattribute__" = some (some (.builtin "object.__getattribute__")) ∧ findIn K (.ref FC) "__getattr__" = some none
  hd : hasDictIn K FC = true
  st : findIn K (.ref FC) "__setattr__" = some (some (.builtin "object.__setattr__"))
  po : plainOver K FC = true
  at_ : ∀ x, c9.contains x = true → findIn K (.ref FC) (ad x) = some none
structure AR (n : Nat) (A : Around) : Prop where
  handled : A.handled = none
  depth : A.depth + n < 1000
  units : A.units + 3 * n + 100 < 9900
  st : 20 ≤ n → ∀ outer, A.frames = some outer → ∀ env ∈ outer, ¬ cN env
theorem yn {d n : Nat} (h : d + (n + 1) < 1000) : d + 1 + n < 1000 := by rw [Nat.add_right_comm]; exact h
theorem yo {u n : Nat} (h : u + 3 * (n + 1) + 100 < 9900) : u + 3 + 3 * n + 100 < 9900 := by rw [Nat.add_right_comm u]; exact h
theorem AR.deeper {n : Nat} {A : Around} (h : AR (n + 1) A) (env : Env) (hs : 20 ≤ n → ¬ cN env) : AR n (A.deeper env) := ⟨h.handled, yn h.depth, yo h.units, fun hn outer ho e he => by
  have h1 : A.frames.map (env :: ·) = some outer := ho
  obtain ⟨fs, hf, rfl⟩ := Option.map_eq_some_iff.mp h1
  rcases List.mem_cons.mp he with rfl | he
  · exact hs hn
  · exact h.st (Nat.le_succ_of_le hn) fs hf e he⟩
theorem AR.mono {n m : Nat} {A : Around} (h : AR m A) (k : n ≤ m) : AR n A := ⟨h.handled, Nat.lt_of_le_of_lt (Nat.add_le_add_left k _) h.depth, Nat.lt_of_le_of_lt (Nat.add_le_add_right (Nat.add_le_add_left (Nat.mul_le_mul_left 3 k) _) _) h.units, fun q => h.st (Nat.le_trans q k)⟩
theorem AR.lt {n : Nat} {A : Around} (h : AR n A) : A.units < cLine := by have := h.units; unfold cLine; omega
section
variable {c : Cx} {K : Frag} {mb : Str → Option Value} {FX O : Addr → Prop} {ρ : aN} {σ : St} {s : Shared} {A : Around} {E : Value → Shared → Prop} {X : Addr → Prop} {h : Heap}
theorem Bs.in_ (B : Bs c K mb) (W : WR c ρ s.heap FX σ) : K.In s.heap := B.X.keeps W.base
theorem gW {m : Str → Option Value} {a : Addr} (x : c.B.Ns a m) (W : WR c ρ h FX σ) : h.Ns a m := x.at' fun o e => W.base a o e
theorem ze {d : V} {v : Value} (hv : VR c X ρ h d v) : handedIn v = true := by
  cases d <;> rw [VR] at hv
  case none => subst hv; rfl
  case bool => subst hv; rfl
  case int => obtain ⟨_, rfl⟩ := hv; rfl
  case str => obtain ⟨_, _, rfl⟩ := hv; rfl
  case bytes => obtain ⟨_, rfl⟩ := hv; rfl
  case tup => obtain ⟨_, _, rfl, _⟩ := hv; rfl
  case list => obtain ⟨_, _, rfl, _⟩ := hv; rfl
  case dct => obtain ⟨_, _, rfl, _⟩ := hv; rfl
  case rng => obtain ⟨_, _, _, _, rfl, _⟩ := hv; rfl
  case «mut» => obtain ⟨_, _, rfl⟩ := hv; rfl
  case clo => obtain ⟨_, D, _⟩ := hv; cases D; rfl
theorem sG {v : Value} {a b : Str} (h1 : v.isStr a = true) (h2 : v.isStr b = true) : a = b := by
  cases v <;> simp [Value.isStr] at h1 h2
  exact h1.symm.trans h2
theorem i0 {x : Nat} (h : c9.contains x = true) : x < 91 := by
  have : ∀ y ∈ c9, y < 91 := by decide
  exact this x (by simpa using h)
theorem kO {v : Value} {k x : Nat} (hk : k < 91) (hx : x < 91) (h1 : v.isStr (ad k) = true) (q : k ≠ x) : v.isStr (ad x) = false := by
  cases z : v.isStr (ad x) with
  | false => rfl
  | true => exact absurd (mW k hk x hx (sG h1 z)) q
theorem Al.len {ks : List Nat} {es : List DictEntry} {vs : List Value} (h : Al ks es vs) : es.length = ks.length ∧ ks.length = vs.length := by
  induction h with
  | nil => exact ⟨rfl, rfl⟩
  | cons _ _ ih => exact ⟨congrArg (· + 1) ih.1, congrArg (· + 1) ih.2⟩
theorem w0 {x : Nat} {d : V} (hx : x < 91) {ks : List Nat} {es : List DictEntry} {vs : List Value} (ha : Al ks es vs) : ∀ {l : List V}, (∀ k ∈ ks, k < 91) → dW x ks l = some d → VRs c X ρ h l vs →
    ∃ e : DictEntry, es.find? (·.key.isStr (ad x)) = some e ∧ VR c X ρ h d e.val := by
  induction ha with
  | nil => intro l _ e _; exact ae e
  | @cons k ks en es vs h1 h3 ih =>
    intro l hk e hv
    cases l with
    | nil => exact ae e
    | cons d' l =>
      rw [VRs] at hv
      by_cases q : k = x
      · rw [dW, tB, if_pos q] at e
        subst q
        exact ⟨_, List.find?_cons_of_pos h1, by rw [← Option.some.inj e]; exact hv.1⟩
      · rw [dW, tB, if_neg q] at e
        obtain ⟨e', g1, g2⟩ := ih (fun k hk' => hk k (.tail _ hk')) e hv.2
        exact ⟨e', by rw [List.find?_cons, kO (hk _ (.head _)) hx h1 q]; exact g1, g2⟩
theorem w3 {x : Nat} (hx : x < 91) {ks : List Nat} {es : List DictEntry} {vs : List Value} (ha : Al ks es vs) : (∀ k ∈ ks, k < 91) → x ∉ ks → es.find? (·.key.isStr (ad x)) = none := by
  induction ha with
  | nil => exact fun H H => rfl
  | cons h1 h3 ih =>
    intro hk hn
    rw [List.find?_cons, kO (hk _ (.head _)) hx h1 fun e => hn (by rw [e]; exact .head _)]
    exact ih (fun k hk' => hk k (.tail _ hk')) fun z => hn (.tail _ z)
theorem un (B : Bs c K mb) (W : WR c ρ s.heap FX σ) {k x : Nat} {v : Value} {d : V} {ks : List Nat} {l : List V} (hv : VR c (XX ρ FX) ρ s.heap (.mut k) v) (hm : σ[k]? = some (.inst ks l)) (hx : c9.contains x = true) (e : dW x ks l = some d) :
    wpAny c.M A (getAttr v (ad x) true) (Po c FX ρ s d σ) aC s := by
  rw [VR] at hv
  obtain ⟨q, hq, rfl⟩ := hv
  obtain ⟨dx, sl, es, n, xs, hd, e1, e2, hk, al, hr, hl⟩ := W.at_ _ q _ hq hm
  have I : InstAt s.heap q.1 ⟨.ref FC, some dx, .plain, sl⟩ FC (some (dictOf es n)) := ⟨e1, rfl, rfl, e2⟩
  obtain ⟨en, g1, g2⟩ := w0 (i0 hx) al (fun k hk' => i0 (hk k hk')) e hl
  have hL : getL (ad x) es = some (some en.val) := by unfold getL; rw [g1]
  exact get_value (B.in_ W) I B.pg.1 (findObj_own B.hd (B.at_ x hx) rfl (by rw [lookIn_dict]; exact hL)) (ze g2) (ce W g2 _)
theorem kI (B : Bs c K mb) (W : WR c ρ s.heap FX σ) {k m : Nat} {v : Value} {ks : List Nat} {l : List V} {f : Addr} {pl : Sem Bool} {Q : Value × List Value → Shared → Prop} (hv : VR c (XX ρ FX) ρ s.heap (.mut k) v) (hm : σ[k]? = some (.inst ks l))
    (h85 : m < 91) (hx : c9.contains m = false) (hf : findIn K (.ref FC) (ad m) = some (some (.ref f))) (ht : isFn K (.ref f) = true) (hQ : Q (.ref f, [v]) s) :
    wpAny c.M A (getMethod v (ad m) pl) Q E s := by
  rw [VR] at hv
  obtain ⟨q, hq, rfl⟩ := hv
  obtain ⟨dx, sl, es, n, xs, hd, e1, e2, hk, al, hr, hl⟩ := W.at_ _ q _ hq hm
  have I : InstAt s.heap q.1 ⟨.ref FC, some dx, .plain, sl⟩ FC (some (dictOf es n)) := ⟨e1, rfl, rfl, e2⟩
  have hL : getL (ad m) es = some none := by
    unfold getL
    rw [w3 h85 al (fun k hk' => i0 (hk k hk')) fun z => by rw [hk m z] at hx; cases hx]
    have : es.any (·.refKey) = false := by
      rw [List.any_eq_false]
      intro e he
      rw [hr e he]; decide
    dsimp only
    rw [this]; rfl
  exact method_fn (B.in_ W) I B.pg.1 B.pg.2 hf (beq_iff_eq.mp ht) (by show (lookIn (ad m) (dictOf es n)).map _ = _; rw [lookIn_dict, hL]; rfl) hQ
set_option tactic.hygienic true in
theorem x8 {R : Result → Shared → Prop} {x C dx : Addr} {ox : Obj} {es : List DictEntry} {n : Nat} {name : Str} {tk : Tok} {v : Value} (X : K.In s.heap) (I : InstAt s.heap x ox C (some (dictOf es n))) (hd : ox.dict = some dx) (hp : plainOver K C = true) (ht : takerIn K C name = some none) (hh : (clsIn K C).any (·.hasDict) = true)
    (hl : (getL name es).isSome = true) (hz : (putL name (PyData.keyHash c.w.params name) (.str name s.toks) v es).length ≤ 1000)
    (h : R (.ok (.ret .none)) { s with heap := s.heap.update dx (Obj.putName name (PyData.keyHash c.w.params name) (.str name s.toks) v), toks := s.toks + 1 }) :
    codeAny c.M A (.call (.builtin "object.__setattr__") ⟨[.ref x, .str name tk, v], []⟩) R s := by
  refine osa_open X I hp ht fun b => ?_
  obtain ⟨cd, hc, hd'⟩ := any_some hh
  obtain ⟨hx, hcl, hn, D⟩ := I
  obtain ⟨oc, odi, oda, osl⟩ := ox
  dsimp only at hcl hd
  subst hcl hd
  have D : s.heap.get? dx = some (dictOf es n) := D
  have D' : (s.heap.update dx (Obj.putName name (PyData.keyHash c.w.params name) (.str name s.toks) v)).get? dx = some (dictOf (putL name (PyData.keyHash c.w.params name) (.str name s.toks) v es) (putN name es n)) := by
    rw [Heap.get?_update_self _ D (by rw [putName_dict]; rfl), putName_dict]
  refine wpAny_bind (wpAny_pure (wpAny_bind (wpAny_bind (wpAny_loadPart hx (wpAny_bind ((looks_clsIn X hc).here ?_))))))
  rw [hd']
  refine wpAny_pure (a := some dx) (wpAny_bind (wpAny_pure (wpAny_bind ?_)))
  unfold nsSet
  refine wpAny_bind (wpAny_bind (wpAny_askSetting (wpAny_pure (wpAny_bind (wpAny_mkText (wpAny_bind (wpAny_loadPart D ?_)))))))
  have cc : (!es.toArray.any (·.key.isStr name) && es.toArray.any (·.refKey)) = false := by
    rw [← Array.any_toList, ← Array.any_toList]
    unfold getL at hl
    split at hl
    · rename_i en he
      rw [List.any_eq_true.mpr ⟨en, List.mem_of_find?_eq_some he, List.find?_some he⟩]; rfl
    · split at hl
      · cases hl
      · rename_i z; rw [Bool.not_eq_true] at z; rw [z, Bool.and_false]
  dsimp only
  rw [aRefKeyMayBeTheName_at, cc]
  refine wpAny_updatePart D ?_
  refine wpAny_bind (wpAny_lookBehind D' (pastItsLine_dict (by rw [List.size_toArray, sizeLine_eq]; omega)) ?_)
  exact wpAny_pure h
theorem oY {name : Str} {hs : Int} {key v : Value} : ∀ es : List DictEntry, (putL name hs key v es).length ≤ es.length + 1
  | [] => by simp [putL]
  | e :: r => by
    unfold putL
    split
    · simp
    · simpa using oY r
theorem oZ {name : Str} {hs : Int} {t : Tok} {v : Value} : ∀ {es : List DictEntry}, (∀ e ∈ es, DictEntry.refKey e = false) → ∀ e ∈ putL name hs (.str name t) v es, DictEntry.refKey e = false
  | [], _, e, he => by
    simp only [putL, List.mem_singleton] at he
    subst he; rfl
  | a :: r, h, e, he => by
    unfold putL at he
    split at he
    · rcases List.mem_cons.mp he with rfl | he
      · exact h a (.head _)
      · exact h e (.tail _ he)
    · rcases List.mem_cons.mp he with rfl | he
      · exact h _ (.head _)
      · exact oZ (fun e he => h e (.tail _ he)) e he
theorem yy {x : Nat} {hs : Int} {t : Tok} {v : Value} (hx : x < 91) {ks : List Nat} {es : List DictEntry} {vs : List Value} (ha : Al ks es vs) : (∀ k ∈ ks, k < 91) → Al (ca x ks) (putL (ad x) hs (.str (ad x) t) v es) (cV x v ks vs) := by
  induction ha with
  | nil => exact fun H => .cons (e := ⟨hs, .str (ad x) t, v⟩) (beq_self_eq_true _) .nil
  | @cons k ks en es vs h1 h3 ih =>
    intro hk
    rw [ca, putL, ew]
    by_cases q : k = x
    · subst q
      rw [if_pos rfl, if_pos rfl, if_pos h1]
      exact .cons (e := { en with val := v }) h1 h3
    · rw [if_neg q, if_neg q, kO (hk k (.head _)) hx h1 q, if_neg (by decide)]
      exact .cons h1 (ih fun k hk' => hk k (.tail _ hk'))
theorem vt (B : Bs c K mb) (W : WR c ρ s.heap FX σ) {k x : Nat} {v vd : Value} {d : V} {ks : List Nat} {l : List V} (hv : VR c (XX ρ FX) ρ s.heap (.mut k) v) (hm : σ[k]? = some (.inst ks l)) (hx : c9.contains x = true) (hz : ks.length ≤ 100)
    (hd : VR c (XX ρ FX) ρ s.heap d vd) : wpAny c.M A (setAttr v (ad x) vd) (DB c FX ρ s (σ.set k (.inst (ca x ks) (cV x d ks l)))) aC s := by
  rw [VR] at hv
  obtain ⟨q, hq, rfl⟩ := hv
  obtain ⟨dx, sl, es, n, xs, hdx, e1, e2, hk, A0, hr, hl⟩ := W.at_ _ q _ hq hm
  have I : InstAt s.heap q.1 ⟨.ref FC, some dx, .plain, sl⟩ FC (some (dictOf es n)) := ⟨e1, rfl, rfl, e2⟩
  have hL : (getL (ad x) es).isSome = true := by
    unfold getL
    split
    · rfl
    · have : es.any (·.refKey) = false := by
        rw [List.any_eq_false]
        intro e he
        rw [hr e he]; decide
      rw [this]; rfl
  refine set_plain (B.in_ W) I B.st ?_
  refine x8 (s := { s with toks := s.toks + 1 }) (B.in_ W) I rfl B.po (by unfold takerIn; rw [B.at_ x hx]; rfl) B.hd hL (Nat.le_trans (oY es) (by rw [A0.len.1]; omega)) ?_
  refine ⟨ρ, ?_⟩
  have e3 : (s.heap.update dx (Obj.putName (ad x) (PyData.keyHash c.w.params (ad x)) (.str (ad x) (s.toks + 1)) vd)).get? dx = some (dictOf (putL (ad x) (PyData.keyHash c.w.params (ad x)) (.str (ad x) (s.toks + 1)) vd es) (putN (ad x) es n)) := by
    rw [Heap.get?_update_self _ e2 (by rw [putName_dict]; rfl), putName_dict]
  have hne : q.1 ≠ dx := by
    have := W.nd
    intro z
    have hi := (List.getElem?_eq_some_iff.mp hq)
    obtain ⟨hi, ei⟩ := hi
    have nd := (List.pairwise_flatMap.mp this).1 q (List.mem_of_getElem? hq)
    rw [hdx] at nd
    simp at nd
    exact nd z
  have K' : Kp (fun b => b = q.1 ∨ q.2 = some b) s.heap (s.heap.update dx (Obj.putName (ad x) (PyData.keyHash c.w.params (ad x)) (.str (ad x) (s.toks + 1)) vd)) := Kp.of_same (Heap.SameBut.update ..) (.inr hdx) e3
  have A1 := yy (hs := PyData.keyHash c.w.params (ad x)) (t := s.toks + 1) (v := vd) (i0 hx) A0 fun k hk' => i0 (hk k hk')
  refine W.upd hq K' ⟨dx, sl, _, _, cV x vd ks xs, hdx, (Heap.get?_update_other _ _ (Ne.symm hne)).trans e1, e3, fun k2 h2 => ?_, A1, oZ hr, (l7 hd hl A0.len.2).mono (WR.stands_upd hq K') (List.prefix_refl _)⟩
  rcases iY h2 with h2 | rfl
  · exact hk _ h2
  · exact hx
end
theorem ba {a b : Bool} (h : (a && b) = true) : a = true ∧ b = true := Bool.and_eq_true_iff.mp h
theorem bo {a b : Bool} (h : (a || b) = true) : a = true ∨ b = true := Bool.or_eq_true_iff.mp h
theorem bn {a : Bool} (h : (!a) = true) : a = false := by cases a with | false => rfl | true => cases h
section
variable {C : PySem.Expr → Prop} {x : PySem.Expr}
noncomputable def dK : PySem.Expr → Option (Const) | .Constant c _ _ => some c | _ => none
theorem pX {f : Const → Bool} (h : (dK x).any f = true) (k : ∀ c a b, f c = true → C (.Constant c a b)) : C x := by cases x <;> first | exact k _ _ _ h | exact Bool.noConfusion h
noncomputable def Ee : PySem.Expr → Option (UnaryOp × PySem.Expr) | .UnaryOp o y _ => some (o, y) | _ => none
theorem tN {f : UnaryOp × PySem.Expr → Bool} (h : (Ee x).any f = true) (k : ∀ o y a, f (o, y) = true → C (.UnaryOp o y a)) : C x := by cases x <;> first | exact k _ _ _ h | exact Bool.noConfusion h
noncomputable def rf : PySem.Expr → Option (Str) | .Name n _ => some n | _ => none
theorem eV {f : Str → Bool} (h : (rf x).any f = true) (k : ∀ n p, f n = true → C (.Name n p)) : C x := by cases x <;> first | exact k _ _ h | exact Bool.noConfusion h
noncomputable def pY : PySem.Expr → Option (List PySem.Expr) | .Tuple es _ _ => some es | _ => none
theorem mB {f : List PySem.Expr → Bool} (h : (pY x).any f = true) (k : ∀ es a b, f es = true → C (.Tuple es a b)) : C x := by cases x <;> first | exact k _ _ _ h | exact Bool.noConfusion h
noncomputable def wx : PySem.Expr → Option (List PySem.Expr) | .List es _ => some es | _ => none
theorem tL {f : List PySem.Expr → Bool} (h : (wx x).any f = true) (k : ∀ es a, f es = true → C (.List es a)) : C x := by cases x <;> first | exact k _ _ h | exact Bool.noConfusion h
noncomputable def yW : PySem.Expr → Option (List (Option PySem.Expr) × List PySem.Expr) | .Dict kx es _ => some (kx, es) | _ => none
theorem tH {f : List (Option PySem.Expr) × List PySem.Expr → Bool} (h : (yW x).any f = true) (k : ∀ kx es a, f (kx, es) = true → C (.Dict kx es a)) : C x := by cases x <;> first | exact k _ _ _ h | exact Bool.noConfusion h
noncomputable def B4 : PySem.Expr → Option (PySem.Expr × Operator × PySem.Expr) | .BinOp x op y _ => some (x, op, y) | _ => none
theorem yU {f : PySem.Expr × Operator × PySem.Expr → Bool} (h : (B4 x).any f = true) (k : ∀ y op z a, f (y, op, z) = true → C (.BinOp y op z a)) : C x := by cases x <;> first | exact k _ _ _ _ h | exact Bool.noConfusion h
noncomputable def B9 : PySem.Expr → Option (PySem.Expr × PySem.Expr × PySem.Expr) | .IfExp c x y _ => some (c, x, y) | _ => none
theorem tJ {f : PySem.Expr × PySem.Expr × PySem.Expr → Bool} (h : (B9 x).any f = true) (k : ∀ c y z a, f (c, y, z) = true → C (.IfExp c y z a)) : C x := by cases x <;> first | exact k _ _ _ _ h | exact Bool.noConfusion h
noncomputable def B5 : PySem.Expr → Option (PySem.Expr × List CmpOp × List PySem.Expr) | .Compare x op y _ => some (x, op, y) | _ => none
theorem yV {f : PySem.Expr × List CmpOp × List PySem.Expr → Bool} (h : (B5 x).any f = true) (k : ∀ y op z a, f (y, op, z) = true → C (.Compare y op z a)) : C x := by cases x <;> first | exact k _ _ _ _ h | exact Bool.noConfusion h
noncomputable def Eb : PySem.Expr → Option (BoolOp × List PySem.Expr) | .BoolOp o es _ => some (o, es) | _ => none
theorem re {f : BoolOp × List PySem.Expr → Bool} (h : (Eb x).any f = true) (k : ∀ o es a, f (o, es) = true → C (.BoolOp o es a)) : C x := by cases x <;> first | exact k _ _ _ h | exact Bool.noConfusion h
noncomputable def tM : PySem.Expr → Option (PySem.Expr × PySem.Expr) | .Subscript x y _ => some (x, y) | _ => none
theorem mz {f : PySem.Expr × PySem.Expr → Bool} (h : (tM x).any f = true) (k : ∀ y z a, f (y, z) = true → C (.Subscript y z a)) : C x := by cases x <;> first | exact k _ _ _ h | exact Bool.noConfusion h
noncomputable def Bd : PySem.Expr → Option (Option PySem.Expr × Option PySem.Expr × Option PySem.Expr) | .Slice lo hi st _ => some (lo, hi, st) | _ => none
theorem yZ {f : Option PySem.Expr × Option PySem.Expr × Option PySem.Expr → Bool} (h : (Bd x).any f = true) (k : ∀ lo hi st a, f (lo, hi, st) = true → C (.Slice lo hi st a)) : C x := by cases x <;> first | exact k _ _ _ _ h | exact Bool.noConfusion h
noncomputable def tG : PySem.Expr → Option (PySem.Expr × Str × Pos) | .Attribute x n q => some (x, n, q) | _ => none
theorem my {f : PySem.Expr × Str × Pos → Bool} (h : (tG x).any f = true) (k : ∀ y n q, f (y, n, q) = true → C (.Attribute y n q)) : C x := by cases x <;> first | exact k _ _ _ h | exact Bool.noConfusion h
noncomputable def pW : PySem.Expr → Option (PySem.Expr × List PySem.Expr × List Keyword × Pos) | .Call fn es kw p => some (fn, es, kw, p) | _ => none
theorem iK {f : PySem.Expr × List PySem.Expr × List Keyword × Pos → Bool} (h : (pW x).any f = true) (k : ∀ fn es kw p, f (fn, es, kw, p) = true → C (.Call fn es kw p)) : C x := by cases x <;> first | exact k _ _ _ _ h | exact Bool.noConfusion h
noncomputable def Ed : PySem.Expr → Option (PySem.Expr × List Comprehension × Scope × Pos) | .ListComp e g sc p => some (e, g, sc, p) | _ => none
theorem xO {f : PySem.Expr × List Comprehension × Scope × Pos → Bool} (h : (Ed x).any f = true) (k : ∀ e g sc p, f (e, g, sc, p) = true → C (.ListComp e g sc p)) : C x := by cases x <;> first | exact k _ _ _ _ h | exact Bool.noConfusion h
end
noncomputable def bT {α : Type} : List α → Option (α × List α) | a :: l => some (a, l) | [] => none
theorem aP {α : Type} {C : List α → Prop} {f : α × List α → Bool} : ∀ {l : List α}, (bT l).any f = true → (∀ a l, f (a, l) = true → C (a :: l)) → C l
  | a :: l, h, k => k a l h
theorem br {α : Type} {C : List α → Prop} : ∀ {l : List α}, l.isEmpty = true → C [] → C l
  | [], _, k => k
theorem uQ {α : Type} {C : Option α → Prop} : ∀ {l : Option α}, l.isNone = true → C none → C l
  | none, _, k => k
theorem qJ {α : Type} {C : Option α → Prop} {f : α → Bool} : ∀ {l : Option α}, l.any f = true → (∀ a, f a = true → C (some a)) → C l
  | some a, h, k => k a h
noncomputable def Cv : UnaryOp → Bool | .USub => true | _ => false
noncomputable def zl : UnaryOp → Bool | .Not => true | _ => false
noncomputable def wM : BoolOp → Bool | .And => true | _ => false
theorem zo {C : UnaryOp → Prop} {o : UnaryOp} (h : Cv o = true) (k : C .USub) : C o := by cases o <;> first | exact k | cases h
theorem zm {C : UnaryOp → Prop} {o : UnaryOp} (h : zl o = true) (k : C .Not) : C o := by cases o <;> first | exact k | cases h
theorem zh {C : BoolOp → Prop} {o : BoolOp} (h : wM o = true) (k : C .And) : C o := by cases o <;> first | exact k | cases h
theorem zn {C : BoolOp → Prop} {o : BoolOp} (h : wM o = false) (k : C .Or) : C o := by cases o <;> first | exact k | cases h
noncomputable def cI (f : Int → Bool) : Const → Bool | .int j => f j | _ => false
noncomputable def cB (f : Bool → Bool) : Const → Bool | .bool j => f j | _ => false
noncomputable def cS (f : Str → Bool) : Const → Bool | .str j => f j | _ => false
noncomputable def cY (f : List UInt8 → Bool) : Const → Bool | .bytes j => f j | _ => false
section
variable {C : Const → Prop} {c : Const}
theorem AZ {f : Int → Bool} (h : cI f c = true) (k : ∀ j, f j = true → C (.int j)) : C c := by cases c <;> first | exact k _ h | exact Bool.noConfusion h
theorem E8 {f : Bool → Bool} (h : cB f c = true) (k : ∀ j, f j = true → C (.bool j)) : C c := by cases c <;> first | exact k _ h | exact Bool.noConfusion h
theorem yM {f : Str → Bool} (h : cS f c = true) (k : ∀ j, f j = true → C (.str j)) : C c := by cases c <;> first | exact k _ h | exact Bool.noConfusion h
theorem Ea {f : List UInt8 → Bool} (h : cY f c = true) (k : ∀ j, f j = true → C (.bytes j)) : C c := by cases c <;> first | exact k _ h | exact Bool.noConfusion h
end
noncomputable abbrev NL := List (Str × NameKind)
noncomputable def oj (ns : NL) (x : Nat) : Bool := decide (x < 91) && (match ns.lookup (ad x) with
  | some .local => true | some .cell => true | some .free => true | _ => false)
noncomputable def cU (ns : NL) (n : Str) : Bool := ns.lookup n == some .globalImplicit && !(n == ("__debug__" : Str))
noncomputable def cf (ns names : NL) : NL := names.map fun (n, k) => if (k == .free && ns.lookup n == some .cell) then (n, .cell) else (n, k)
noncomputable def du : PySem.Expr → Bool
  | .Starred _ _ => true
  | _ => false
noncomputable def eM : PySem.Expr → Bool
  | .Call _ _ _ _ => true
  | _ => false
noncomputable def fu : PySem.Expr → Bool
  | .Set _ _ _ => true
  | _ => false
noncomputable def qz (x : PySem.Expr) : Bool := match x with
  | .UnaryOp o _ _ => !zl o
  | .BoolOp _ _ _ => false
  | .IfExp _ _ _ _ => false
  | .Compare _ _ _ _ => false
  | _ => true
noncomputable def DI (sn : NL) (x : Nat) (n : Str) : Bool := decide (x < 91) && (n == ad x && sn.lookup n == some .local)
noncomputable def Hl (sn : NL) (x y : Nat) (es : List PySem.Expr) : Bool := (bT es).any fun e => (rf e.1).any fun n => DI sn x n && (bT e.2).any fun e2 => e2.2.isEmpty && (rf e2.1).any (DI sn y)
noncomputable def fK (sn : NL) (xs : List Nat) (t : PySem.Expr) : Bool := (bT xs).any fun x => if x.2.isEmpty = true then (rf t).any (DI sn x.1) else (bT x.2).any fun y => y.2.isEmpty && (pY t).any (Hl sn x.1 y.1)
theorem rV {sn : NL} {C : List Nat → PySem.Expr → Prop} {xs : List Nat} {t : PySem.Expr} (h : fK sn xs t = true) (k1 : ∀ x p, x < 91 → sn.lookup (ad x) = some .local → C [x] (.Name (ad x) p))
    (k2 : ∀ x y p q k r, x < 91 → sn.lookup (ad x) = some .local → y < 91 → sn.lookup (ad y) = some .local → C [x, y] (.Tuple [.Name (ad x) p, .Name (ad y) q] k r)) : C xs t :=
  aP (C := fun xs => C xs t) h fun x l h => by
    have t1 : ∀ {x : Nat} {n : Str} {P : Str → Prop}, DI sn x n = true → (x < 91 → sn.lookup (ad x) = some .local → P (ad x)) → P n := fun h k => by
      have e := eq_of_beq (ba (ba h).2).1
      subst e
      exact k (of_decide_eq_true (ba h).1) (eq_of_beq (ba (ba h).2).2)
    by_cases z : l.isEmpty = true
    · rw [if_pos z] at h
      exact br (C := fun l => C (x :: l) t) z (eV (C := fun t => C [x] t) h fun n p h => t1 (P := fun n => C [x] (.Name n p)) h fun a b => k1 x p a b)
    · rw [if_neg z] at h
      exact aP (C := fun l => C (x :: l) t) h fun y l h => br (C := fun l => C (x :: y :: l) t) (ba h).1 (mB (C := fun t => C [x, y] t) (ba h).2 fun es k r h => aP (C := fun es => C [x, y] (.Tuple es k r)) h fun e l h => eV (C := fun e => C [x, y] (.Tuple (e :: l) k r)) h fun n p h =>
        t1 (P := fun n => C [x, y] (.Tuple (.Name n p :: l) k r)) (ba h).1 fun a1 b1 => aP (C := fun l => C [x, y] (.Tuple (.Name (ad x) p :: l) k r)) (ba h).2 fun e l h => br (C := fun l => C [x, y] (.Tuple (.Name (ad x) p :: e :: l) k r)) (ba h).1 (eV (C := fun e => C [x, y] (.Tuple [.Name (ad x) p, e] k r)) (ba h).2 fun m q h =>
          t1 (P := fun m => C [x, y] (.Tuple [.Name (ad x) p, .Name m q] k r)) h fun a2 b2 => k2 x y p q k r a1 b1 a2 b2))
noncomputable def pa (ns : NL) (xs : List Nat) (sc : Scope) : Bool :=
  sc.kind == .function && sc.names.all (fun y => y.2 != .cell && (y.2 != .local || sc.names.lookup y.1 == some .local) && (y.2 != .free || (sc.names.lookup y.1 == some .free && (ns.lookup y.1 == some .cell || ns.lookup y.1 == some .free)))) &&
    (List.range 91).all (fun x => sc.names.lookup (ad x) != some .local || xs.contains x)
def bC (c : Cx) (n : Nat) (D : aB) (a : Addr) : Prop := ∃ o fd, c.B.get? a = some o ∧ o.data = .func fd ∧
  ∀ (A : Around) (FX : Addr → Prop) (ρ : aN) (σ σ' : St) (s : Shared) (ds : List V) (vs : List Value) (d : V), AR n A → gq c A ρ s.heap → (∀ b, bl A b → FX b) → WR c ρ s.heap FX σ → VRs c (XX ρ FX) ρ s.heap ds vs → D ds σ = some (some d, σ') →
    wpAny c.M A (call (.ref a) vs) (Po c FX ρ s d σ') aC s
structure GOk (c : Cx) (K : Frag) (Γ : Gam) (n : Nat) : Prop where
  f : ∀ f ds σ r, Γ.f f ds σ = some r → f < 91 ∧ ∃ a, c.mg (ad f) = some (.ref a) ∧ bC c n (Γ.f f) a
  m : ∀ m ds σ r, Γ.m m ds σ = some r → ∃ a, findIn K (.ref FC) (ad m) = some (some (.ref a)) ∧ isFn K (.ref a) = true ∧ bC c n (Γ.m m) a
structure Fm where
  env : Env
  wc : Bool
  FX : Addr → Prop
structure At (c : Cx) (A : Around) (f : Fm) (ns : NL) (ℓ : aj) (ρ : aN) (σ : St) (s : Shared) : Prop where
  eo : EnvOk f.env
  nm : f.env.scope.names = ns
  wr : WR c ρ s.heap f.FX σ
  fr : FR c A f.env f.wc f.FX ρ ℓ s.heap
def yC (c : Cx) (FX : Addr → Prop) (ρ : aN) (s : Shared) (b : Bool) (σ' : St) : Bool → Shared → Prop := fun r s' => r = b ∧ ∃ ρ', Ps c FX No ρ s ρ' σ' s'
def Gm (c : Cx) (FX : Addr → Prop) (ρ : aN) (s : Shared) (vs : List V) (σ' : St) : List Value → Shared → Prop := fun ws s' => ∃ ρ', Ps c FX No ρ s ρ' σ' s' ∧ VRs c (XX ρ' FX) ρ' s'.heap vs ws
structure PoPw (c : Cx) (FX : Addr → Prop) (ρ : aN) (s : Shared) (ks : List Nat) (vs : List V) (σ' : St) (ps : List (Value × Value)) (s' : Shared) (ρ' : aN) (ws : List Value) : Prop where
  P : Ps c FX No ρ s ρ' σ' s'
  v : VRs c (XX ρ' FX) ρ' s'.heap vs ws
  c : Carries (strKind c.prog c.w) ps ((ks.map dE).zip ws)
noncomputable def jb (es : List PySem.Expr) (b : Bool) (env : Env) : Sem Bool := forIn es b fun x r => if r = true then do let ok ← isTrue x env (eval x env); pure (ForInStep.yield ok) else pure (ForInStep.yield r)
section
variable (c : Cx) (Γ : Gam) (A : Around) (ns : NL)
def SV (d : E) (e : PySem.Expr) : Prop := ∀ (f : Fm) (ℓ : aj) (ρ : aN) (σ σ' : St) (s : Shared) (v : V), At c A f ns ℓ ρ σ s → a9 Γ d ℓ σ = some (v, σ') → wpAny c.M A (eval e f.env) (Po c f.FX ρ s v σ') aC s
def SB (d : E) (e : PySem.Expr) : Prop := ∀ (f : Fm) (ℓ : aj) (ρ : aN) (σ σ' : St) (s : Shared) (b : Bool), At c A f ns ℓ ρ σ s → a9 Γ d ℓ σ = some (.bool b, σ') → wpAny c.M A (isTrue e f.env (eval e f.env)) (yC c f.FX ρ s b σ') aC s
structure SL (ds : List E) (es : List PySem.Expr) : Prop where
  st : ∀ e ∈ es, du e = false
  ok : ∀ (f : Fm) (ℓ : aj) (ρ : aN) (σ σ' : St) (s : Shared) (vs : List V) (p : Pos), At c A f ns ℓ ρ σ s → evEs Γ ds ℓ σ = some (vs, σ') → wpAny c.M A (spliced (backTo p (starEach es f.env))) (Gm c f.FX ρ s vs σ') aC s
structure SA (ds : List E) (es : List PySem.Expr) : Prop where
  all : ∀ (f : Fm) (ℓ : aj) (ρ : aN) (σ σ' : St) (s : Shared) (b : Bool), At c A f ns ℓ ρ σ s → evAnd Γ ds ℓ σ = some (b, σ') → wpAny c.M A (allTrue .And es f.env) (yC c f.FX ρ s b σ') aC s
  it : ∀ (f : Fm) (ℓ : aj) (ρ : aN) (σ σ' : St) (s : Shared) (b : Bool), At c A f ns ℓ ρ σ s → evAnd Γ ds ℓ σ = some (b, σ') → wpAny c.M A (jb es true f.env) (yC c f.FX ρ s b σ') aC s
def SO (ds : List E) (es : List PySem.Expr) : Prop := ∀ (f : Fm) (ℓ : aj) (ρ : aN) (σ σ' : St) (s : Shared) (b : Bool), At c A f ns ℓ ρ σ s → evOr Γ ds ℓ σ = some (b, σ') → wpAny c.M A (allTrue .Or es f.env) (yC c f.FX ρ s b σ') aC s
structure SP (ks : List Nat) (ds : List E) (kx : List (Option PySem.Expr)) (es : List PySem.Expr) : Prop where
  some_ : kx.all (·.isSome) = true
  len1 : kx.length = es.length
  len2 : ks.length = kx.length
  lt : ∀ k ∈ ks, k < 31
  len3 : ks.length = ds.length
  ok : ∀ (f : Fm) (ℓ : aj) (ρ : aN) (σ σ' : St) (s : Shared) (vs : List V) (p : Pos), At c A f ns ℓ ρ σ s → evEs Γ ds ℓ σ = some (vs, σ') → wpAny c.M A (evalPairs (pairTrees kx es f.env p)) (fun ps s' => ∃ ρ' ws, PoPw c f.FX ρ s ks vs σ' ps s' ρ' ws) aC s
end
section
variable {c : Cx} {Γ : Gam} {A : Around} {ns : NL} {f : Fm} {ℓ : aj} {ρ ρ' : aN} {σ σ' : St} {s s' : Shared} {d : E} {e : PySem.Expr} {v : V} {b : Bool} {Ex : Value → Shared → Prop}
theorem At.ps (T : At c A f ns ℓ ρ σ s) (P : Ps c f.FX No ρ s ρ' σ' s') : At c A f ns ℓ ρ' σ' s' := ⟨T.eo, T.nm, P.wr, T.fr.ps P T.wr⟩
theorem SV.use (h : SV c Γ A ns d e) (T : At c A f ns ℓ ρ σ s) (e1 : a9 Γ d ℓ σ = some (v, σ')) {Q : Value → Shared → Prop} (k : ∀ u ρ' s', At c A f ns ℓ ρ' σ' s' → Ps c f.FX No ρ s ρ' σ' s' → VR c (XX ρ' f.FX) ρ' s'.heap v u → Q u s') : wpAny c.M A (eval e f.env) Q Ex s :=
  wpAny_mono (h f ℓ ρ σ σ' s v T e1) (fun u s' ⟨ρ', P, hv⟩ => k u ρ' s' (T.ps P) P hv) fun H H x => x.elim
theorem SB.use (h : SB c Γ A ns d e) (T : At c A f ns ℓ ρ σ s) (e1 : a9 Γ d ℓ σ = some (.bool b, σ')) {Q : Bool → Shared → Prop} (k : ∀ ρ' s', At c A f ns ℓ ρ' σ' s' → Ps c f.FX No ρ s ρ' σ' s' → Q b s') : wpAny c.M A (isTrue e f.env (eval e f.env)) Q Ex s :=
  wpAny_mono (h f ℓ ρ σ σ' s b T e1) (fun r s' ⟨e, ρ', P⟩ => by rw [e]; exact k ρ' s' (T.ps P) P) fun H H x => x.elim
theorem SL.use {ds : List E} {es : List PySem.Expr} {vs : List V} {p : Pos} (h : SL c Γ A ns ds es) (T : At c A f ns ℓ ρ σ s) (e1 : evEs Γ ds ℓ σ = some (vs, σ')) {Q : List Value → Shared → Prop} (k : ∀ us ρ' s', At c A f ns ℓ ρ' σ' s' → Ps c f.FX No ρ s ρ' σ' s' → VRs c (XX ρ' f.FX) ρ' s'.heap vs us → Q us s') : wpAny c.M A (spliced (backTo p (starEach es f.env))) Q Ex s :=
  wpAny_mono (h.ok f ℓ ρ σ σ' s vs p T e1) (fun u s' ⟨ρ', P, hv⟩ => k u ρ' s' (T.ps P) P hv) fun H H x => x.elim
theorem SA.use {ds : List E} {es : List PySem.Expr} (h : SA c Γ A ns ds es) (T : At c A f ns ℓ ρ σ s) (e1 : evAnd Γ ds ℓ σ = some (b, σ')) {Q : Bool → Shared → Prop} (k : ∀ ρ' s', At c A f ns ℓ ρ' σ' s' → Ps c f.FX No ρ s ρ' σ' s' → Q b s') : wpAny c.M A (jb es true f.env) Q Ex s :=
  wpAny_mono (h.it f ℓ ρ σ σ' s b T e1) (fun r s' ⟨e, ρ', P⟩ => by rw [e]; exact k ρ' s' (T.ps P) P) fun H H x => x.elim
end
section
variable {c : Cx} {K : Frag} {mb : Str → Option Value} {Γ : Gam} {n : Nat} {A : Around} {FX : Addr → Prop} {ρ ρ₁ : aN} {σ σ1 σ₂ : St} {s s₁ : Shared}
theorem Po.then {d : V} {v : Value} (P : Ps c FX No ρ s ρ₁ σ1 s₁) (x : Po c FX ρ₁ s₁ d σ₂ v s₂) : Po c FX ρ s d σ₂ v s₂ := by
  obtain ⟨ρ₂, P₂, h⟩ := x
  exact ⟨ρ₂, P.trans P₂, h⟩
theorem cj {m : Sem Value} {d : V} {t : Shared} (P : Ps c FX No ρ s ρ₁ σ1 s₁) (h : wpAny c.M A m (Po c FX ρ₁ s₁ d σ₂) aC t) : wpAny c.M A m (Po c FX ρ s d σ₂) aC t := wpAny_mono h (fun H H x => Po.then P x) fun H H x => x
theorem i3 (B : Bs c K mb) (W : WR c ρ s.heap FX σ) {env : Env} {x : Str} {pos : Pos} {v : Value} {E : Value → Shared → Prop} {Q : Value → Shared → Prop} (eo : EnvOk env) (hk : cU env.scope.names x = true) (hv : c.mg x = some v) (h : Q v s) :
    wpAny c.M A (eval (.Name x pos) env) Q E s := by
  unfold cU at hk
  simp only [Bool.and_eq_true, beq_iff_eq, Bool.not_eq_true'] at hk
  exact Name_function_global eo.kind hk.1 (loadGlobal_global (by rw [eo.glob]; exact gW B.G W) hv h) hk.2
theorem kr (B : Bs c K mb) (W : WR c ρ s.heap FX σ) {env : Env} {x : Str} {pos : Pos} {v : Value} {E : Value → Shared → Prop} {Q : Value → Shared → Prop} (eo : EnvOk env) (hk : cU env.scope.names x = true) (hv : c.mg x = none ∧ mb x = some v) (h : Q v s) :
    wpAny c.M A (eval (.Name x pos) env) Q E s := by
  unfold cU at hk
  simp only [Bool.and_eq_true, beq_iff_eq, Bool.not_eq_true'] at hk
  exact Name_function_global eo.kind hk.1 (loadGlobal_builtin (by rw [eo.glob]; exact gW B.G W) hv.1 (by rw [eo.bi]; exact gW B.NB W) hv.2 h) hk.2
theorem D1 (B : Bs c K mb) (W : WR c ρ s.heap FX σ) : ∃ p, c.mg (ad 30) = some (.ref p) ∧ VR c (XX ρ FX) ρ s.heap (.tup [.str 26, .str 13]) (.ref p) := by
  obtain ⟨p, t, t', h1, n1, n2, ⟨o, ho, r⟩⟩ := B.rd
  refine ⟨p, h1, ?_⟩
  rw [VR]
  refine ⟨p, [.str (dE 26) t, .str (dE 13) t'], rfl, fun z => ?_, ⟨o, W.base p o ho, r⟩, ?_⟩
  · rcases z with (z | z | z) | z
    · exact n1 z
    · exact n2 z
    · have := (W.new p z).1; rw [ho] at this; cases this
    · have := (W.fx p z).2.1; rw [ho] at this; cases this
  · rw [VRs, VRs, VRs]
    exact ⟨ng (by decide), ng (by decide), trivial⟩
theorem bb {p : Pos} {e : PySem.Expr} {es : List PySem.Expr} {env : Env} (h : du e = false) : backTo p (starEach (e :: es) env) = (false, eval e env) :: backTo p (starEach es env) := by
  cases e <;> first | rfl | exact Bool.noConfusion h
theorem pR {p : Pos} {env : Env} : backTo p (starEach [] env) = [] := rfl
set_option tactic.hygienic true in
theorem n4 {e : PySem.Expr} {env : Env} {whole : Sem Value} (h : qz e = true) : isTrue e env whole = (do let v ← whole; standAt e.pos; holding [v] (truthy v)) := by
  cases e <;> first | rfl | exact Bool.noConfusion h | skip
  rename_i op x p
  cases op <;> first | rfl | exact Bool.noConfusion h
theorem lU {op : CmpOp} {e : PySem.Expr} (h : fu e = false) : behindInMarks op e = false := by
  cases e <;> first | rfl | exact Bool.noConfusion h
theorem kF {e : PySem.Expr} {env : Env} (h : fu e = false) (x : Value) : foldedSetIterable e env x = pure x := by
  cases e <;> first | rfl | exact Bool.noConfusion h
theorem si {e : PySem.Expr} {env : Env} {a : Str} {p : Pos} (h : eM e = false) : eval (.Attribute e a p) env = (do
      let o ← eval e env
      standAt p.atName
      let r ← holding [o] (getAttr o a true)
      letTemporaryGo e o r
      pure r) := by
  cases e <;> first | rfl | exact Bool.noConfusion h
theorem sj {e : PySem.Expr} {env : Env} {a : Str} {w : Sem Value} (h : eM e = false) : attributeBase e a env w = w := by
  cases e <;> first | rfl | exact Bool.noConfusion h
theorem dg {p : Pos} {env : Env} : ∀ {es : List PySem.Expr}, (∀ e ∈ es, du e = false) → (backTo p (starEach es env)).all (fun x => !x.1) = true ∧ (backTo p (starEach es env)).any (·.1) = false
  | [], _ => ⟨rfl, rfl⟩
  | e :: es, h => by
    rw [bb (h e (.head _))]
    have := dg (p := p) (env := env) fun e he => h e (.tail _ he)
    exact ⟨by simpa using this.1, by simpa using this.2⟩
theorem cP {env : Env} {o : PySem.Expr} {name : Str} {apos pos : Pos} {args : List PySem.Expr} {E : Value → Shared → Prop} {Q : Value → Shared → Prop} (ho : eM o = false) (hst : ∀ e ∈ args, du e = false) (hlen : args.length < 30) (hline : (apos.endLine == pos.line) = true)
    (h : ∀ pl, wpAny c.M A (eval o env) (fun ov s₁ => wpAny c.M A (getMethod ov name pl) (fun fx s₂ => wpAny c.M A (callWith pos fx.1 fx.2 (backTo pos (starEach args env)) []) Q E s₂) E s₁) E s) :
    wpAny c.M A (eval (.Call (.Attribute o name apos) args [] pos) env) Q E s := by
  rw [arm_eval_Call, sj ho]
  have hform : methodCallForm (args.length + ([] : List Keyword).length) (backTo pos (starEach args env)) (backToKw pos (keywordEach [] env)) = true := by
    unfold methodCallForm
    rw [(dg hst).1]
    have : backToKw pos (keywordEach [] env) = [] := rfl
    rw [this]
    simp; omega
  have hpos : methodCallPos true o env apos pos = pure pos := by unfold methodCallPos; simp [hline]
  refine wpAny_bind (wpAny_mono (h (do return (← importBound o env).getD true)) (fun ov s₁ h₁ => ?_) fun H H e => e)
  refine wpAny_bind (wpAny_standAt ?_)
  unfold methodCall
  rw [hform]
  refine wpAny_bind (wpAny_holding ?_)
  refine wpAny_mono (show wpAny c.M A (calleeOf true o env ov name) _ E s₁ from h₁) (fun fx s₂ h₂ => ?_) fun H H e => e
  exact wpAny_bind (wpAny_of_eq hpos h₂)
theorem aQ {f : Value} {p : Pos} {es : List PySem.Expr} {env : Env} {E : Value → Shared → Prop} {Q : Args → Shared → Prop} (hst : ∀ e ∈ es, du e = false) (h : wpAny c.M A (spliced (backTo p (starEach es env))) (fun vs s' => Q ⟨vs, []⟩ s') E s) :
    wpAny c.M A (evalArgs f true (backTo p (starEach es env)) []) Q E s := by
  cases es with
  | nil =>
    unfold evalArgs
    show wpAny c.M A (spliced [] >>= _) Q E s
    refine wpAny_bind (wpAny_mono (show wpAny c.M A (spliced []) (fun vs s' => Q ⟨vs, []⟩ s') E s from h) (fun vs s' h' => ?_) fun H H x => x)
    refine wpAny_bind (wpAny_pure ?_)
    refine wpAny_holding ?_
    exact wpAny_bind (wpAny_pure (wpAny_bind (wpAny_pure (wpAny_pure h'))))
  | cons e es =>
    rw [bb (hst e (.head _))] at h ⊢
    exact Calls.evalArgs_plain h
theorem jr {b : Bool} {E : Value → Shared → Prop} {Q : Bool → Shared → Prop} (h : Q b s) : wpAny c.M A (truthy (.bool b)) Q E s := wpAny_truthy_bool h
end
section
variable {c : Cx} {FX FY O : Addr → Prop} {ρ ρ₁ ρ₂ : aN} {σ σ1 σ₂ : St} {s s₀ s₁ s₂ : Shared} {h h' : Heap} {env : Env} {wc : Bool} {ℓ : aj}
theorem WR.adopt {q : Addr × Option Addr} {m : M} (W : WR c ρ h FY σ) (k : ∀ b, FX b → FY b) (hq : ∀ b, (b = q.1 ∨ q.2 = some b) → FY b ∧ ¬ FX b) (hd : q.2 ≠ some q.1) (hm : MR c (XX (ρ ++ [q]) FX) (ρ ++ [q]) h q m) :
    WR c (ρ ++ [q]) h FX (σ ++ [m]) := by
  have hp : ρ <+: ρ ++ [q] := List.prefix_append _ _
  have ha : ∀ b, b ∈ f0 (ρ ++ [q]) → b ∈ f0 ρ ∨ (b = q.1 ∨ q.2 = some b) := fun b hb => by
    obtain ⟨r, hr, z⟩ := cn hb
    rcases List.mem_append.mp hr with hr | hr
    · exact .inl (d9 hr z)
    · cases List.mem_singleton.mp hr; exact .inr z
  have T : aG (XX ρ FY) (XX (ρ ++ [q]) FX) h h := .of_keep fun b o e n => ⟨e, fun z => by
    rcases z with (z | z | z) | z
    · exact n (.inl (.inl z))
    · exact n (.inl (.inr (.inl z)))
    · rcases ha b z with y | y
      · exact n (.inl (.inr (.inr y)))
      · exact n (.inr (hq b y).1)
    · exact n (.inr (k b z))⟩
  refine ⟨W.base, by rw [List.length_append, List.length_append, W.len]; rfl, ?_, fun i r m' hr hm' => ?_, fun b hb => ?_, W.t1.mono T rfl, W.t2.mono T rfl, fun b hb => ⟨(W.fx b (k b hb)).1, (W.fx b (k b hb)).2.1, fun z => ?_⟩⟩
  · rw [dn]
    refine List.nodup_append.mpr ⟨W.nd, ?_, fun a h1 b h2 e => ?_⟩
    · rw [nJ]
      cases e : q.2 with
      | none => simp [f0]
      | some d => simp [f0]; rintro rfl; exact hd e
    · subst e
      obtain ⟨r, hr, z⟩ := cn h2
      cases List.mem_singleton.mp hr
      exact (W.fx a (hq a z).1).2.2 (.inr (.inr h1))
  · by_cases hi : i < ρ.length
    · have hi' : i < σ.length := by rw [← W.len]; exact hi
      rw [List.getElem?_append_left hi] at hr
      rw [List.getElem?_append_left hi'] at hm'
      exact (W.at_ i r m' hr hm').mono T hp rfl fun H H => rfl
    · have e : i = ρ.length := by
        have := (List.getElem?_eq_some_iff.mp hr).1
        rw [List.length_append] at this
        exact Nat.le_antisymm (Nat.le_of_lt_succ this) (Nat.le_of_not_lt hi)
      subst e
      rw [List.getElem?_append_right (Nat.le_refl _)] at hr
      rw [W.len, List.getElem?_append_right (Nat.le_refl _)] at hm'
      simp at hr hm'
      subst hr hm'
      exact hm
  · rcases ha b hb with y | y
    · exact W.new b y
    · have z := W.fx b (hq b y).1
      exact ⟨z.2.1, fun e => z.2.2 (.inl e), fun e => z.2.2 (.inr (.inl e))⟩
  · rcases z with z | z | z
    · exact (W.fx b (k b hb)).2.2 (.inl z)
    · exact (W.fx b (k b hb)).2.2 (.inr (.inl z))
    · rcases ha b z with y | y
      · exact (W.fx b (k b hb)).2.2 (.inr (.inr y))
      · exact (hq b y).2 hb
theorem Ps.shut (K : Kp No s.heap s₀.heap) (hr : s₀ = { s with heap := s₀.heap, toks := s₀.toks }) (P : Ps c FY O ρ s₀ ρ₁ σ1 s₁) (hO : ∀ b, O b → s.heap.get? b = none) (hF : ∀ b, FY b → FX b ∨ s.heap.get? b = none) (pre : ρ₁ <+: ρ₂) (W : WR c ρ₂ s₁.heap FX σ₂)
    (hn : ∀ b ∈ f0 ρ₂, b ∈ f0 ρ₁ ∨ s.heap.get? b = none) : Ps c FX No ρ s ρ₂ σ₂ s₁ := by
  refine ⟨P.pre.trans pre, W, ((K.old.mono fun b z => z.elim).trans' P.old fun b z => ?_).fewer fun b z => (hF b z).imp id .inr, fun b hb => ?_, ?_⟩
  · rcases z with z | z
    · exact .inl (.inl z)
    · exact .inr (hO b z)
  · rcases hn b hb with q | q
    · rcases P.newp b q with q | q
      · exact .inl q
      · right
        cases e : s.heap.get? b with
        | none => rfl
        | some o => have := K.keep b o e fun z => z; rw [q] at this; cases this
    · exact .inr q
  · have := P.rest
    rw [this, hr]
theorem FR.aside (F : FR c A env wc FX ρ ℓ s.heap) (K : Kp No s.heap s₀.heap) (k : ∀ b, FY b → FX b ∨ s.heap.get? b = none) (kb : ∀ b, FX b → FY b) : FR c A env wc FY ρ ℓ s₀.heap := by
  have all : ∀ b o, s.heap.get? b = some o → s₀.heap.get? b = some o := fun b o e => K.keep b o e fun z => z
  have S : aG (XX ρ FX) (XX ρ FY) s.heap s₀.heap := .of_keep fun b o e n => ⟨all b o e, fun z => z.elim (fun z => n (.inl z)) fun z => (k b z).elim (fun z => n (.inr z)) fun z => by rw [z] at e; cases e⟩
  refine ⟨fun b z => kb b (F.own b z), F.nl, fun n a q => ?_, F.cs, F.apart, ?_, fun x v hx hv hk => ?_, (F.fr.all fun b o e H => all b o e), fun b z => kb b (F.ff b z)⟩
  · obtain ⟨v, o, e, hd⟩ := F.live n a q; exact ⟨v, o, all a o e, hd⟩
  · obtain ⟨m, hn, q⟩ := F.ns
    refine ⟨m, hn.at' fun o e => all _ o e, fun x v hx hv hk => ?_⟩
    obtain ⟨w, h1, h2⟩ := q x v hx hv hk
    exact ⟨w, h1, h2.mono S (List.prefix_refl _)⟩
  · obtain ⟨a, w, h1, ⟨o, e, hd⟩, h3⟩ := F.cl x v hx hv hk
    exact ⟨a, w, h1, ⟨o, all a o e, hd⟩, h3.mono S (List.prefix_refl _)⟩
theorem hU {q : Addr × Option Addr} (k : ∀ b, FX b → FY b) (hq : ∀ b, (b = q.1 ∨ q.2 = some b) → FY b) : aG (XX ρ FY) (XX (ρ ++ [q]) FX) h h := .of_keep fun b o e n => ⟨e, fun z => by
  rcases z with (z | z | z) | z
  · exact n (.inl (.inl z))
  · exact n (.inl (.inr (.inl z)))
  · obtain ⟨r, hr, z⟩ := cn z
    rcases List.mem_append.mp hr with hr | hr
    · exact n (.inl (.inr (.inr (d9 hr z))))
    · cases List.mem_singleton.mp hr
      exact n (.inr (hq b z))
  · exact n (.inr (k b z))⟩
theorem cE (k : ∀ b, FX b → FY b) : aG (XX ρ FY) (XX ρ FX) h h := .of_keep fun b o e n => ⟨e, fun z => n (z.imp id (k b))⟩
theorem Ps.weakF (P : Ps c FY O ρ s ρ₁ σ1 s₁) (k : ∀ b, FX b → FY b) (kn : ∀ b, FY b → FX b ∨ O b ∨ s.heap.get? b = none) : Ps c FX O ρ s ρ₁ σ1 s₁ := ⟨P.pre, P.wr.weak k, P.old.fewer fun b z => (kn b z).imp id fun z => z.imp .inr id, P.newp, P.rest⟩
end
inductive ItK (c : Cx) (FX : Addr → Prop) (ρ : aN) (σ : St) (h : Heap) (I : Addr) (IS : Addr → Prop) (l : List V) (i : Nat) : Bool → Option Nat → Prop where
  | li {ax : Addr} {xs : List Value} : h.IsListIter I ax i → ¬ XX ρ FX ax → h.IsList ax xs.toArray → VRs c (XX ρ FX) ρ h l xs → ItK c FX ρ σ h I IS l i false none
  | tu {ax : Addr} {xs : List Value} : h.IsTupleIter I ax i → ¬ XX ρ FX ax → h.IsTuple ax xs.toArray → VRs c (XX ρ FX) ρ h l xs → ItK c FX ρ σ h I IS l i false none
  | rn {a : Int} : l = aR a l.length → IsRangeIter h I (a + i) (l.length - i) 1 → ItK c FX ρ σ h I IS l i false none
  | ml {k : Nat} {q : Addr × Option Addr} : h.IsListIter I q.1 i → ρ[k]? = some q → σ[k]? = some (.list l) → ItK c FX ρ σ h I IS l i false (some k)
  | en {k : Nat} {q : Addr × Option Addr} {it : Addr} {old : Value} : IsEnum h I it i old → IS it → I ≠ it → h.IsListIter it q.1 i → ρ[k]? = some q → σ[k]? = some (.list l) → ItK c FX ρ σ h I IS l i true (some k)
structure ItR (c : Cx) (FX : Addr → Prop) (ρ : aN) (σ : St) (h : Heap) (I : Addr) (IS : Addr → Prop) (en : Bool) (o : Option Nat) (l : List V) (i : Nat) : Prop where
  sub : ∀ b, IS b → FX b
  own : IS I
  it : ItK c FX ρ σ h I IS l i en o
theorem mO (n : Nat) : ∀ (a : Int) (i : Nat), (aR a n)[i]? = if i < n then some (.int (a + i)) else none := by
  induction n with
  | zero => intro a i; simp [aR]
  | succ n ih =>
    intro a i
    cases i with
    | zero => simp [aR]
    | succ i =>
      simp only [aR, List.getElem?_cons_succ, ih]
      by_cases h : i < n
      · rw [if_pos h, if_pos (Nat.succ_lt_succ h), Int.natCast_succ, Int.add_assoc, Int.add_comm 1]
      · rw [if_neg h, if_neg fun z => h (Nat.lt_of_succ_lt_succ z)]
theorem d8 : ∀ (n : Nat) (a : Int), (aR a n).length = n
  | 0, _ => rfl
  | n + 1, a => by simp [aR, d8 n]
theorem ik : ∀ (l : List V) (n : Int) (i : Nat), (aL l n)[i]? = (l[i]?).map fun v => .tup [.int (n + i), v]
  | [], n, i => by simp [aL]
  | v :: l, n, 0 => by simp [aL]
  | v :: l, n, i + 1 => by
    simp only [aL, List.getElem?_cons_succ, ik l]
    rw [Int.natCast_succ, Int.add_assoc, Int.add_comm 1]
theorem im : ∀ (l : List V) (n : Int), (aL l n).length = l.length
  | [], _ => rfl
  | v :: l, n => by simp [aL, im l]
section
variable {c : Cx} {FX FY O IS : Addr → Prop} {ρ ρ' : aN} {σ σ' : St} {s s' : Shared} {A : Around} {I : Addr} {en : Bool} {o : Option Nat} {l : List V} {i : Nat}
theorem pi {h h' : Heap} {b : Addr} {x : Obj} (e : h.get? b = some x) {p : Prop} (k : ∃ o', h'.get? b = some o' ∧ lj p x o') (hc : ∀ es n, x.data ≠ .dict es n) : h'.get? b = some x := by
  obtain ⟨o', e', u⟩ := k
  rcases u with rfl | ⟨_, ⟨_, _, z, _⟩, _⟩
  · exact e'
  · exact absurd z (hc _ _)
theorem mR {ax : Addr} {h h' : Heap} (k : ∀ x, h.get? I = some x → (∀ es n, x.data ≠ .dict es n) → h'.get? I = some x) (z : h.IsListIter I ax i) : h'.IsListIter I ax i := by
  obtain ⟨x, a1, a2, a3⟩ := z; exact ⟨x, k x a1 (by rw [a3]; intro _ _ z; cases z), a2, a3⟩
theorem xx {ax : Addr} {h h' : Heap} (k : ∀ x, h.get? I = some x → (∀ es n, x.data ≠ .dict es n) → h'.get? I = some x) (z : h.IsTupleIter I ax i) : h'.IsTupleIter I ax i := by
  obtain ⟨x, a1, a2, a3⟩ := z; exact ⟨x, k x a1 (by rw [a3]; intro _ _ z; cases z), a2, a3⟩
theorem fy {X X' : Addr → Prop} {h h' : Heap} {ax : Addr} {xs : Array Value} (S : aG X X' h h') (n : ¬ X ax) (z : h.IsList ax xs) : ¬ X' ax ∧ h'.IsList ax xs := by
  obtain ⟨y, b1, b2⟩ := z; exact ⟨(S ax y b1 n).2, y, (S ax y b1 n).1, b2⟩
theorem fA {X X' : Addr → Prop} {h h' : Heap} {ax : Addr} {xs : Array Value} (S : aG X X' h h') (n : ¬ X ax) (z : h.IsTuple ax xs) : ¬ X' ax ∧ h'.IsTuple ax xs := by
  obtain ⟨y, b1, b2⟩ := z; exact ⟨(S ax y b1 n).2, y, (S ax y b1 n).1, b2⟩
theorem ItK.keep {h h' : Heap} (S : aG (XX ρ FX) (XX ρ' FY) h h') (hp : ρ <+: ρ') (k : ∀ b x, IS b → h.get? b = some x → (∀ es n, x.data ≠ .dict es n) → h'.get? b = some x) (hI : IS I) (hs : ∀ k, o = some k → σ[k]? = some (.list l) → σ'[k]? = some (.list l)) (R : ItK c FX ρ σ h I IS l i en o) : ItK c FY ρ' σ' h' I IS l i en o := by
  have pq : ∀ {k : Nat} {q : Addr × Option Addr}, ρ[k]? = some q → ρ'[k]? = some q := fun e => by
    obtain ⟨r, hr⟩ := hp
    rw [← hr, List.getElem?_append_left (List.getElem?_eq_some_iff.mp e).1]; exact e
  cases R with
  | li a0 n b a5 => exact .li (mR (fun x => k I x hI) a0) (fy S n b).1 (fy S n b).2 (a5.mono S hp)
  | tu a0 n b a5 => exact .tu (xx (fun x => k I x hI) a0) (fA S n b).1 (fA S n b).2 (a5.mono S hp)
  | rn a1 a2 => exact .rn a1 (k I _ hI a2 fun H H z => nomatch z)
  | ml a0 a4 a5 => exact .ml (mR (fun x => k I x hI) a0) (pq a4) (hs _ rfl a5)
  | en a0 a6 a7 a8 a4 a5 => exact .en (k I _ hI a0 fun H H z => nomatch z) a6 a7 (mR (fun x => k _ x a6) a8) (pq a4) (hs _ rfl a5)
theorem ItR.ps (P : Ps c FX O ρ s ρ' σ' s') (hO : ∀ b, O b → FX b ∧ ¬ IS b) (W : WR c ρ s.heap FX σ) (R : ItR c FX ρ σ s.heap I IS en o l i) (hs : stays o l σ' = true) : ItR c FX ρ' σ' s'.heap I IS en o l i :=
  ⟨R.sub, R.own, R.it.keep (P.stands fun b z => (hO b z).1) P.pre (fun b x hb e hc => pi e (P.old.keep b x e fun z => z.elim (W.fx b (R.sub b hb)).2.2 fun z => (hO b z).2 hb) hc) R.own fun k e H => cL.mp hs k e⟩
theorem kP {target : PySem.Expr} {x : Obj} {n : String} {v : Value} {E : Value → Shared → Prop} {Q : Unit → Shared → Prop} (ho : s.heap.get? I = some x) (hc : x.cls = .type n)
    (hn : ["enumerate", "zip", "dict_itemiterator", "dict_reverseitemiterator", "odict_iterator", "itertools.zip_longest", "itertools.pairwise"].contains n = false) (h : Q () s) :
    wpAny c.M A (letOwnedTupleGo target (.ref I) v) Q E s := by
  unfold letOwnedTupleGo
  have key : wpAny c.M A (do
      let (.ref r, .ref a) := (Value.ref I, v) | return
      let o ← load r
      match o.cls, o.data with
      | .type n, .fields vs =>
        if ["enumerate", "zip", "dict_itemiterator", "dict_reverseitemiterator", "odict_iterator", "itertools.zip_longest", "itertools.pairwise"].contains n && vs[0]? == some (rawInt a) then
          rule "for.unpacks-the-owned-tuple"
          updateField r 0 .none
      | _, _ => pure ()) Q E s := by
    cases v <;> first | exact wpAny_pure h | skip
    refine wpAny_bind (wpAny_load ho ?_)
    rw [hc]
    split
    · rename_i e _
      injection e with e
      subst e
      rw [hn]
      exact wpAny_pure h
    · exact wpAny_pure h
  cases target <;> first | exact wpAny_pure h | exact key
theorem vB (W : WR c ρ s.heap FX σ) (hI : IS I → FX I) (hi : IS I) {h' : Heap} {x : Obj} (hs : Heap.SameBut I s.heap h') (he : h'.get? I = some x) (t : Nat) : Ps c FX IS ρ s ρ σ { s with heap := h', toks := t } :=
  W.stepP (S := fun b => b = I) (Kp.of_same hs rfl he) (fun b z => by subst z; exact ⟨hI hi, hi⟩) t
structure NxS (c : Cx) (FX : Addr → Prop) (ρ : aN) (σ : St) (s : Shared) (I : Addr) (IS : Addr → Prop) (en : Bool) (o : Option Nat) (l : List V) (i : Nat) (d : V) (v : Value) (s₂ : Shared) : Prop where
  P : Ps c FX IS ρ s ρ σ s₂
  v : VR c (XX ρ FX) ρ s₂.heap d v
  R : ItR c FX ρ σ s₂.heap I IS en o l (i + 1)
def yB (c : Cx) (A : Around) (FX : Addr → Prop) (ρ : aN) (σ : St) (s : Shared) (I : Addr) (IS : Addr → Prop) (en : Bool) (o : Option Nat) (l : List V) (i : Nat) (target : PySem.Expr) (d : V) (r : Option Value) (s₁ : Shared) : Prop :=
  ∃ v, r = some v ∧ wpAny c.M A (letOwnedTupleGo target (.ref I) v) (fun H s₂ => NxS c FX ρ σ s I IS en o l i d v s₂) aC s₁
section
variable {target : PySem.Expr} {d : V} {k : Nat} {q : Addr × Option Addr} {xs : List Value} {ax : Addr} (W : WR c ρ s.heap FX σ) (h1 : ∀ b, IS b → FX b) (h2 : IS I)
include W h1 h2
theorem io {h' : Heap} {x : Obj} {n : String} {v : Value} {t : Nat} (hs : Heap.SameBut I s.heap h') (c1 : h'.get? I = some x) (c2 : x.cls = .type n) (hn : ["enumerate", "zip", "dict_itemiterator", "dict_reverseitemiterator", "odict_iterator", "itertools.zip_longest", "itertools.pairwise"].contains n = false)
    (k : aG (XX ρ FX) (XX ρ FX) s.heap h' → VR c (XX ρ FX) ρ h' d v ∧ ItK c FX ρ σ h' I IS l (i + 1) en o) : yB c A FX ρ σ s I IS en o l i target d (some v) { s with heap := h', toks := t } := by
  have P := vB (IS := IS) W (h1 I) h2 hs c1 t
  have K := k (P.stands h1)
  exact ⟨v, rfl, kP c1 c2 hn ⟨P, K.1, h1, h2, K.2⟩⟩
theorem CO (a0 : s.heap.IsListIter I ax i) (a4 : ¬ XX ρ FX ax) (b0 : s.heap.IsList ax xs.toArray) (a5 : VRs c (XX ρ FX) ρ s.heap l xs) (hd : l[i]? = some d) : wpAny c.M A (pyNext (.ref I)) (yB c A FX ρ σ s I IS false none l i target d) aC s := by
  obtain ⟨v, g1, g2⟩ := a5.get hd
  refine wpAny_pyNext_list_item a0 b0 (by simpa using g1) fun h' hit hs => ?_
  obtain ⟨x, c1, c2, c3⟩ := id hit
  exact io W h1 h2 hs c1 c2 (by decide) fun S => ⟨g2.mono S (List.prefix_refl _), .li hit a4 (fy S a4 b0).2 (a5.mono S (List.prefix_refl _))⟩
theorem CR (a0 : s.heap.IsTupleIter I ax i) (a4 : ¬ XX ρ FX ax) (b0 : s.heap.IsTuple ax xs.toArray) (a5 : VRs c (XX ρ FX) ρ s.heap l xs) (hd : l[i]? = some d) : wpAny c.M A (pyNext (.ref I)) (yB c A FX ρ σ s I IS false none l i target d) aC s := by
  obtain ⟨v, g1, g2⟩ := a5.get hd
  refine wpAny_pyNext_tuple_item a0 b0 (by simpa using g1) fun h' hit hs => ?_
  obtain ⟨x, c1, c2, c3⟩ := id hit
  exact io W h1 h2 hs c1 c2 (by decide) fun S => ⟨g2.mono S (List.prefix_refl _), .tu hit a4 (fA S a4 b0).2 (a5.mono S (List.prefix_refl _))⟩
theorem CQ {a : Int} (a1 : l = aR a l.length) (a2 : IsRangeIter s.heap I (a + i) (l.length - i) 1) (hd : l[i]? = some d) : wpAny c.M A (pyNext (.ref I)) (yB c A FX ρ σ s I IS false none l i target d) aC s := by
  have hlt := (List.getElem?_eq_some_iff.mp hd).1
  have hd2 := hd
  rw [a1, mO, if_pos hlt] at hd2
  cases hd2
  refine wpAny_pyNext_range_item a2 (by omega) fun h' hit hs => io W h1 h2 hs hit rfl (by decide) fun S => ⟨cM, .rn a1 ?_⟩
  rw [show a + ((i + 1 : Nat) : Int) = a + i + 1 by omega, show (l.length : Int) - ((i + 1 : Nat) : Int) = l.length - i - 1 by omega]
  exact hit
theorem CP (a0 : s.heap.IsListIter I q.1 i) (a4 : ρ[k]? = some q) (a5 : σ[k]? = some (.list l)) (hd : l[i]? = some d) : wpAny c.M A (pyNext (.ref I)) (yB c A FX ρ σ s I IS false (some k) l i target d) aC s := by
  obtain ⟨xs, n, _, g0, g3⟩ := W.at_ k q _ a4 a5
  obtain ⟨v, g1, g2⟩ := g3.get hd
  refine wpAny_pyNext_list_item a0 ⟨_, g0, rfl, n, rfl⟩ (by simpa using g1) fun h' hit hs => ?_
  obtain ⟨x, c1, c2, c3⟩ := id hit
  exact io W h1 h2 hs c1 c2 (by decide) fun S => ⟨g2.mono S (List.prefix_refl _), .ml hit a4 a5⟩
theorem CN {it : Addr} {old : Value} (a0 : IsEnum s.heap I it i old) (a6 : IS it) (a7 : I ≠ it) (a8 : s.heap.IsListIter it q.1 i) (a4 : ρ[k]? = some q) (a5 : σ[k]? = some (.list l)) (hen : ∃ es k p, target = .Tuple es k p) (hd : l[i]? = some d) :
    wpAny c.M A (pyNext (.ref I)) (yB c A FX ρ σ s I IS true (some k) l i target (.tup [.int i, d])) aC s := by
  obtain ⟨xs, n, _, g0, g3⟩ := W.at_ k q _ a4 a5
  obtain ⟨v, g1, g2⟩ := g3.get hd
  obtain ⟨es, kk, p, rfl⟩ := hen
  obtain ⟨y0, y1, _⟩ := id a8
  refine wpAny_pyNext_enum_item a0 a8 ⟨_, g0, rfl, n, rfl⟩ (by simpa using g1) a7 fun h' c1 c2 c3 c4 c5 => ⟨_, rfl, wpAny_letOwnedTupleGo_enum c1 fun h'' d1 d2 => ?_⟩
  obtain ⟨y, z1, z2⟩ := c2
  have frI : s.heap.objs.size ≠ I := fun z => by have e : s.heap.get? I = _ := a0; rw [← z, an] at e; cases e
  have hT : h''.get? s.heap.objs.size = some { cls := .type "tuple", data := .seq #[.int i s.toks, v] } := (d2.2 _ frI).trans c3
  have K : Kp (fun b => b = I ∨ b = it) s.heap h'' := by
    refine ⟨fun b x e => ?_, fun b x e n => (d2.2 b fun z => n (.inl z)).trans (c5 b x (fun z => n (.inl z)) (fun z => n (.inr z)) e)⟩
    by_cases z1 : b = I
    · exact ⟨_, by rw [z1]; exact d1⟩
    · by_cases z2 : b = it
      · exact ⟨y, by rw [z2] at z1 ⊢; exact (d2.2 _ z1).trans ‹_›⟩
      · exact ⟨x, (d2.2 b z1).trans (c5 b x z1 z2 e)⟩
  have P : Ps c FX IS ρ s ρ σ { s with heap := h'', toks := s.toks + 1 } := W.stepP K (fun b z => z.elim (fun z => by rw [z]; exact ⟨h1 _ h2, h2⟩) fun z => by rw [z]; exact ⟨h1 _ a6, a6⟩) _
  refine ⟨P, ?_, h1, h2, .en (it := it) (old := v) ?_ a6 a7 ⟨y, (d2.2 _ (Ne.symm a7)).trans z1, z2⟩ a4 a5⟩
  · rw [VR]
    refine ⟨_, [.int i s.toks, v], rfl, de W (an _), ⟨_, hT, rfl, 0, rfl⟩, ?_⟩
    rw [VRs, VRs, VRs]
    exact ⟨cM, g2.mono (P.stands h1) P.pre, trivial⟩
  · rw [Int.natCast_succ i]; exact d1
end
theorem lQ (W : WR c ρ s.heap FX σ) (R : ItR c FX ρ σ s.heap I IS en o l i) (target : PySem.Expr) (hen : en = true → ∃ es k p, target = .Tuple es k p) {d : V} (hd : (if en = true then aL l 0 else l)[i]? = some d) :
    wpAny c.M A (pyNext (.ref I)) (yB c A FX ρ σ s I IS en o l i target d) aC s := by
  obtain ⟨h1, h2, h3⟩ := R
  cases h3 with
  | li a0 n b a5 => exact CO W h1 h2 a0 n b a5 hd
  | tu a0 n b a5 => exact CR W h1 h2 a0 n b a5 hd
  | rn a1 a2 => exact CQ W h1 h2 a1 a2 hd
  | ml a0 a4 a5 => exact CP W h1 h2 a0 a4 a5 hd
  | en a0 a6 a7 a8 a4 a5 =>
    rw [if_pos rfl, ik] at hd
    obtain ⟨d', hd', rfl⟩ := Option.map_eq_some_iff.mp hd
    rw [Int.zero_add]
    exact CN W h1 h2 a0 a6 a7 a8 a4 a5 (hen rfl) hd'
def Gl (s : Shared) (IS : Addr → Prop) (r : Option Value) (s₁ : Shared) : Prop := r = none ∧ ∃ h', s₁ = { s with heap := h' } ∧ ∀ b x, ¬ IS b → s.heap.get? b = some x → h'.get? b = some x
theorem kW {h' : Heap} {j : Addr} (hj : IS j) (he : Heap.ExtBut j s.heap h') : Gl s IS none { s with heap := h' } := ⟨rfl, h', rfl, fun b x n e => he b x (fun z => n (z ▸ hj)) e⟩
theorem jF {xs : List Value} (hz : l.length = xs.length) (hi : l[i]? = none) : xs.toArray[i]? = none := by rw [Array.getElem?_eq_none_iff, List.size_toArray, ← hz]; exact List.getElem?_eq_none_iff.mp hi
theorem oK (hh : A.handled = none) (W : WR c ρ s.heap FX σ) (R : ItR c FX ρ σ s.heap I IS en o l i) (hi : l[i]? = none) : wpAny c.M A (pyNext (.ref I)) (Gl s IS) aC s := by
  obtain ⟨h1, h2, h3⟩ := R
  cases h3 with
  | li a0 n b a5 => exact wpAny_pyNext_list_end hh a0 b (jF a5.length hi) fun h' he => kW h2 he
  | tu a0 n b a5 => exact wpAny_pyNext_tuple_end hh a0 b (jF a5.length hi) fun h' he => kW h2 he
  | rn a1 a2 => exact wpAny_pyNext_range_end hh a2 (by have := List.getElem?_eq_none_iff.mp hi; omega) fun h' he => kW h2 he
  | ml a0 a4 a5 =>
    obtain ⟨xs, n, _, g0, g3⟩ := W.at_ _ _ _ a4 a5
    exact wpAny_pyNext_list_end hh a0 ⟨_, g0, rfl, n, rfl⟩ (jF g3.length hi) fun h' he => kW h2 he
  | en a0 a6 a7 a8 a4 a5 =>
    obtain ⟨xs, n, _, g0, g3⟩ := W.at_ _ _ _ a4 a5
    exact wpAny_pyNext_enum_end hh a0 a8 ⟨_, g0, rfl, n, rfl⟩ (jF g3.length hi) fun h' he => kW a6 he
end
noncomputable def ed (cells : List (Str × Addr)) : NL → List (Str × Addr) → List (Str × Addr)
  | [], acc => acc
  | (n, k) :: r, acc => if k == .free then ed cells r ((n, (cells.lookup n).getD 0) :: acc) else ed cells r acc
theorem so {env : Env} {n : Str} (h : (env.cells.lookup n).isSome = true) : cellOf env n = pure ((env.cells.lookup n).getD 0) := by
  unfold cellOf
  obtain ⟨a, e⟩ := Option.isSome_iff_exists.mp h
  rw [e]; rfl
theorem dU {env : Env} (f : Str × NameKind → List (Str × Addr) → Sem (ForInStep (List (Str × Addr)))) (hf : ∀ n k acc, f (n, k) acc = if k == .free then (do let a ← cellOf env n; pure (.yield ((n, a) :: acc))) else pure (.yield acc)) :
    ∀ (names : NL) (acc : List (Str × Addr)), (∀ y ∈ names, y.2 = .free → (env.cells.lookup y.1).isSome = true) → forIn names acc f = pure (ed env.cells names acc)
  | [], acc, _ => by rw [List.forIn_nil]; rfl
  | (n, k) :: r, acc, h => by
    rw [List.forIn_cons, hf]
    have hr : ∀ y ∈ r, y.2 = .free → (env.cells.lookup y.1).isSome = true := fun y hy => h y (.tail _ hy)
    by_cases hk : k = .free
    · subst hk
      simp only [beq_self_eq_true, if_true]
      rw [so (h (n, .free) (.head _) rfl)]
      simp only [pure_bind]
      rw [dU f hf r _ hr]
      simp [ed]
    · have : (k == NameKind.free) = false := by simpa using hk
      simp only [this, Bool.false_eq_true, if_false, pure_bind]
      rw [dU f hf r _ hr]
      simp [ed, this]
theorem cg {sc : Scope} {env : Env} (h : ∀ y ∈ sc.names, y.2 = .free → (env.cells.lookup y.1).isSome = true) : closureFor sc env = pure (ed env.cells sc.names []) := by
  unfold closureFor
  simp only []
  rw [dU (env := env) _ (fun n k acc => ?_) sc.names [] h]
  · rfl
  · by_cases hk : k = .free
    · subst hk; rfl
    · have : (k == NameKind.free) = false := by simpa using hk
      simp only [this, Bool.false_eq_true, if_false]
theorem i4 {cells : List (Str × Addr)} {n : Str} {a : Addr} : ∀ {names : NL} {acc : List (Str × Addr)}, (∀ y ∈ names, y.2 = .free → (cells.lookup y.1).isSome = true) → (ed cells names acc).lookup n = some a → cells.lookup n = some a ∨ acc.lookup n = some a
  | [], acc, _, h => .inr h
  | (m, k) :: r, acc, hs, h => by
    unfold ed at h
    have hr : ∀ y ∈ r, y.2 = .free → (cells.lookup y.1).isSome = true := fun y hy => hs y (.tail _ hy)
    split at h
    · rename_i hk
      rcases i4 hr h with h | h
      · exact .inl h
      · rw [List.lookup_cons] at h
        cases e : n == m with
        | true =>
          rw [e] at h
          have hnm := beq_iff_eq.mp e
          obtain ⟨b, hb⟩ := Option.isSome_iff_exists.mp (hs (m, k) (.head _) (by simpa using hk))
          rw [hb] at h
          cases h
          exact .inl (by rw [hnm]; exact hb)
        | false => rw [e] at h; exact .inr h
    · exact i4 hr h
theorem fp {cells : List (Str × Addr)} {n : Str} : ∀ {names : NL} {acc : List (Str × Addr)}, ((n, NameKind.free) ∈ names ∨ (acc.lookup n).isSome = true) → ((ed cells names acc).lookup n).isSome = true
  | [], acc, h => by
    rcases h with h | h
    · cases h
    · exact h
  | (m, k) :: r, acc, h => by
    unfold ed
    split
    · refine fp ?_
      rw [List.lookup_cons]
      rcases h with h | h
      · rcases List.mem_cons.mp h with h | h
        · injection h with h1 h2
          subst h1
          right; simp
        · exact .inl h
      · right
        cases n == m
        · exact h
        · rfl
    · rename_i hk
      refine fp ?_
      rcases h with h | h
      · rcases List.mem_cons.mp h with h | h
        · injection h with h1 h2
          subst h2
          simp at hk
        · exact .inl h
      · exact .inr h
theorem dN (ns : NL) (n : Str) : ∀ names : NL, (cf ns names).lookup n = if names.lookup n = some .free ∧ ns.lookup n = some .cell then some .cell else names.lookup n
  | [] => by simp [cf]
  | (m, k) :: r => by
    have ih := dN ns n r
    have e : cf ns ((m, k) :: r) = (if (k == .free && ns.lookup m == some .cell) then (m, .cell) else (m, k)) :: cf ns r := rfl
    rw [e]
    cases h : n == m with
    | true =>
      have hnm := beq_iff_eq.mp h
      subst hnm
      by_cases hc : (k == .free && ns.lookup n == some .cell) = true
      · rw [if_pos hc]
        simp only [Bool.and_eq_true, beq_iff_eq] at hc
        simp [List.lookup_cons, hc.1, hc.2]
      · rw [if_neg hc]
        simp only [Bool.and_eq_true, beq_iff_eq] at hc
        simp only [List.lookup_cons, beq_self_eq_true, Option.some.injEq]
        rw [if_neg hc]
    | false =>
      have : List.lookup n ((if (k == .free && ns.lookup m == some .cell) = true then (m, NameKind.cell) else (m, k)) :: cf ns r) = (cf ns r).lookup n := by
        split <;> simp [List.lookup_cons, h]
      rw [this, ih]
      simp [List.lookup_cons, h]
theorem gj {env : Env} {sc : Scope} (eo : EnvOk env) : (relabel sc env).names = cf env.scope.names sc.names := by
  unfold relabel cf
  simp only [eo.kind, beq_self_eq_true, Bool.and_true, Env.kindOf]
structure ScF (ns : NL) (xs : List Nat) (sc : Scope) : Prop where
  kind : sc.kind = .function
  nocell : ∀ y ∈ sc.names, y.2 ≠ .cell
  locals : ∀ y ∈ sc.names, y.2 = .local → sc.names.lookup y.1 = some .local
  free : ∀ y ∈ sc.names, y.2 = .free → ns.lookup y.1 = some .cell ∨ ns.lookup y.1 = some .free
  tg : ∀ x < 91, sc.names.lookup (ad x) = some .local → x ∈ xs
theorem qE {ns : NL} {xs : List Nat} {sc : Scope} (h : pa ns xs sc = true) : ScF ns xs sc := by
  unfold pa at h
  simp only [Bool.and_eq_true, beq_iff_eq, List.all_eq_true, Bool.or_eq_true, bne_iff_ne, ne_eq, List.mem_range, List.contains_iff_mem] at h
  obtain ⟨⟨h1, h2⟩, h3⟩ := h
  refine ⟨h1, fun y hy => (h2 y hy).1.1, fun y hy e => ?_, fun y hy e => ?_, fun x hx e => ?_⟩
  · rcases (h2 y hy).1.2 with z | z
    · exact absurd e z
    · exact z
  · rcases (h2 y hy).2 with z | z
    · exact absurd e z
    · exact z.2
  · rcases h3 x hx with z | z
    · exact absurd e z
    · exact z
section
variable {c : Cx} {K : Frag} {mb : Str → Option Value} {Γ : Gam} {n : Nat} {A : Around} {FX FY O : Addr → Prop} {ρ ρ' : aN} {σ σ' : St} {s s' : Shared} {h : Heap} {env : Env} {wc : Bool} {ℓ ℓ' : aj}
theorem FR.psO (P : Ps c FX O ρ s ρ' σ' s') (W : WR c ρ s.heap FX σ) (hO : ∀ b, O b → FX b ∧ b ≠ env.locals ∧ (∀ n, env.cells.lookup n ≠ some b) ∧ ¬ bl A b) (F : FR c A env wc FX ρ ℓ s.heap) : FR c A env wc FX ρ' ℓ s'.heap := by
  have S := P.stands fun b z => (hO b z).1
  have kc : ∀ n a, env.cells.lookup n = some a → ∀ o, s.heap.get? a = some o → ∃ o', s'.heap.get? a = some o' ∧ lj (FX a) o o' := fun n a q o e => P.old.keep a o e fun z => z.elim (F.nl n a q).2 fun z => (hO a z).2.2.1 n q
  refine ⟨F.own, fun n a q => ⟨(F.nl n a q).1, P.mx ?_ (F.nl n a q).2⟩, fun n a q => ?_, F.cs, F.apart, ?_, fun x v hx hv hk => ?_, (F.fr.ps P fun b z y => (hO b y).2.2.2 z), F.ff⟩
  · obtain ⟨v, o, e, _⟩ := F.live n a q; exact ⟨o, e⟩
  · obtain ⟨v, z⟩ := F.live n a q; exact ⟨v, fT z (kc n a q)⟩
  · obtain ⟨m, hn, k⟩ := F.ns
    refine ⟨m, nH hn fun o e => P.old.keep _ o e fun z => z.elim (W.fx _ (F.own _ (.inl rfl))).2.2 fun z => (hO _ z).2.1 rfl, fun x v hx hv hk => ?_⟩
    obtain ⟨w, h1, h2⟩ := k x v hx hv hk
    exact ⟨w, h1, h2.mono S P.pre⟩
  · obtain ⟨a, w, h1, h2, h3⟩ := F.cl x v hx hv hk
    exact ⟨a, w, h1, fT h2 (kc _ a h1), h3.mono S P.pre⟩
theorem FR.congr (F : FR c A env wc FX ρ ℓ h) (k : ∀ x v, x < 91 → ℓ' x = some v → (env.kindOf (ad x) = some .local ∨ env.kindOf (ad x) = some .cell ∨ env.kindOf (ad x) = some .free) → ℓ x = some v) : FR c A env wc FX ρ ℓ' h := by
  refine ⟨F.own, F.nl, F.live, F.cs, F.apart, ?_, fun x v hx hv hk => F.cl x v hx (k x v hx hv (.inr hk)) hk, F.fr, F.ff⟩
  obtain ⟨m, hn, q⟩ := F.ns
  exact ⟨m, hn, fun x v hx hv hk => q x v hx (k x v hx hv (.inl hk)) hk⟩
noncomputable def pe (ns : NL) (ℓ : aj) : aj := fun x => if ns.lookup (ad x) = some .local then none else ℓ x
theorem FR.inner {ns : NL} {xs : List Nat} {sc : Scope} {C : Addr} {m : Str → Option Value} (eo : EnvOk env) (hn : env.scope.names = ns) (S : ScF ns xs sc) (F : FR c A env wc FX ρ ℓ h) (hC : FX C) (hne : ∀ n a, env.cells.lookup n = some a → a ≠ C) (hm : h.Ns C m) :
    FR c A (compEnvC sc (ed env.cells sc.names []) C env) false FX ρ (pe (cf ns sc.names) ℓ) h := by
  have hfree : ∀ y ∈ sc.names, y.2 = .free → (env.cells.lookup y.1).isSome = true := fun y hy e => by
    refine F.cs _ ?_
    rcases S.free y hy e with z | z
    · exact .inl (by unfold Env.kindOf; rw [hn]; exact z)
    · exact .inr (by unfold Env.kindOf; rw [hn]; exact z)
  have hk : ∀ x, (compEnvC sc (ed env.cells sc.names []) C env).kindOf x = (cf ns sc.names).lookup x := fun x => by
    show (relabel sc env).names.lookup x = _
    rw [gj eo, hn]
  have sub : ∀ n a, (ed env.cells sc.names []).lookup n = some a → env.cells.lookup n = some a := fun n a q => by
    rcases i4 hfree q with z | z
    · exact z
    · simp at z
  have fr : ∀ x, (cf ns sc.names).lookup x = some .cell ∨ (cf ns sc.names).lookup x = some .free → (x, NameKind.free) ∈ sc.names := fun x z => by
    rw [dN] at z
    by_cases q : sc.names.lookup x = some .free ∧ ns.lookup x = some .cell
    · exact mem_of_lookup q.1
    · rw [if_neg q] at z
      rcases z with z | z
      · exact absurd rfl (S.nocell _ (mem_of_lookup z))
      · exact mem_of_lookup z
  refine ⟨fun b z => ?_, fun n a q => ⟨hne n a (sub n a q), (F.nl n a (sub n a q)).2⟩, fun n a q => F.live n a (sub n a q), fun n z => ?_, (fun z => by cases z), ⟨m, hm, fun x v hx hv hk' => ?_⟩, fun x v hx hv hk' => ?_, F.fr, F.ff⟩
  · rcases z with z | ⟨z, _⟩
    · rw [z]; exact hC
    · cases z
  · rw [hk] at z
    exact fp (.inl (fr n z))
  · rw [hk] at hk'
    unfold pe at hv
    rw [if_pos hk'] at hv; cases hv
  · rw [hk] at hk'
    have hv' : ℓ x = some v := by
      unfold pe at hv
      split at hv
      · cases hv
      · exact hv
    have hmem := fr _ hk'
    have ho : env.kindOf (ad x) = some .cell ∨ env.kindOf (ad x) = some .free := by
      unfold Env.kindOf
      rw [hn]
      exact S.free _ hmem rfl
    obtain ⟨a, w, h1, h2, h3⟩ := F.cl x v hx hv' ho
    refine ⟨a, w, ?_, h2, h3⟩
    obtain ⟨b, hb⟩ := Option.isSome_iff_exists.mp (fp (cells := env.cells) (acc := []) (.inl hmem))
    have := sub _ b hb
    rw [h1] at this; cases this
    exact hb
def E1 (c : Cx) (A : Around) (ifs : List PySem.Expr) (elt : PySem.Expr) (acc : Value) (env : Env) (N : Shared → Prop) (s : Shared) : Prop :=
  wpAny c.M A (jb ifs true env) (fun ok s₃ => if ok = true then wpAny c.M A (eval elt env) (fun x s₄ => wpAny c.M A (call (.builtin "list.append") [acc, x]) (fun H s₅ => N s₅) aC s₄) aC s₃ else N s₃) aC s
def E2 (c : Cx) (A : Around) (target : PySem.Expr) (it : Value) (env : Env) (K R : Shared → Prop) (r : Option Value) (s : Shared) : Prop := match r with
  | none => R s
  | some v => wpAny c.M A (letOwnedTupleGo target it v) (fun H s₁ => wpAny c.M A (assign target env v) (fun H s₂ => K s₂) aC s₁) aC s
def ow (I : Nat → Shared → Prop) (n : Nat) (s : Shared) : Prop := ∃ m, m < n ∧ I m s
theorem mv {elt target iter : PySem.Expr} {ifs : List PySem.Expr} {scope : Scope} {pos : Pos} {it acc : Value} {env : Env} {R : Result → Shared → Prop} (I : Nat → Shared → Prop)
    (turn : ∀ n s, I n s → wpAny c.M A (pyNext it) (E2 c A target it env (E1 c A ifs elt acc env (ow I n)) (R (.ok .next))) aC s) (n : Nat) (h : I n s) :
    codeAny c.M A (.compLoop (.ListComp elt [⟨target, iter, ifs, 0⟩] scope pos) 0 it acc env) R s := by
  have no : ∀ {E : Value → Shared → Prop} (e : Value) (s : Shared), aC e s → E e s := fun H H z => z.elim
  refine codeAny_loop rfl I (fun n s hI => ?_) n h
  show wpAny _ A ((compTurn (.ListComp elt [⟨target, iter, ifs, 0⟩] scope pos) 0 it acc env).onRaise (fun x => do noteFrame x env; theTreesLotGoes x)) _ _ s
  refine wpAny_noted ?_
  rw [compTurn_list]
  refine wpAny_bind (wpAny_standAt (wpAny_bind (wpAny_mono (turn n s hI) (fun r s₁ h₁ => ?_) no)))
  cases r with
  | none => exact wpAny_pure h₁
  | some v =>
    refine wpAny_bind (wpAny_mono h₁ (fun H s₁' h₁' => wpAny_bind (wpAny_mono h₁' (fun H s₂ h₂ => wpAny_bind (wpAny_mono h₂ (fun ok s₃ h₃ => ?_) no)) no)) no)
    cases ok with
    | false => exact wpAny_pure ⟨rfl, h₃⟩
    | true => exact wpAny_bind (wpAny_bind (wpAny_mono h₃ (fun x s₄ h₄ => wpAny_bind (wpAny_mono h₄ (fun H s₅ h₅ => wpAny_pure (wpAny_pure ⟨rfl, h₅⟩)) no)) no))
def wg (c : Cx) (A : Around) (cenv : Env) (FX : Addr → Prop) (ρ : aN) (σ : St) (s : Shared) (ℓ' : aj) (_ : Unit) (s' : Shared) : Prop := Ps c FX (bQ cenv false) ρ s ρ σ s' ∧ FR c A cenv false FX ρ ℓ' s'.heap
theorem xy (hh : A.handled = none) {cenv : Env} (eo : EnvOk cenv) {x y : Nat} {p1 p2 r : Pos} {k : Nat} {a b : V} {p : Addr} {wa wb : Value} (h1 : x < 91) (h3 : cenv.kindOf (ad x) = some .local) (h4 : y < 91) (h6 : cenv.kindOf (ad y) = some .local)
    (W : WR c ρ s.heap FX σ) (F : FR c A cenv false FX ρ ℓ s.heap) (hT : s.heap.IsTuple p #[wa, wb]) (ha : VR c (XX ρ FX) ρ s.heap a wa) (hb : VR c (XX ρ FX) ρ s.heap b wb) :
    wpAny c.M A (assign (.Tuple [.Name (ad x) p1, .Name (ad y) p2] k r) cenv (.ref p)) (wg c A cenv FX ρ σ s (upd (upd ℓ x a) y b)) aC s := by
  refine PySem.wpAny_assign_Tuple hh hT rfl rfl fun h' he => ?_
  have P0 : Ps c FX No ρ s ρ σ { s with heap := h' } := W.grow (Kp.of_all fun b o e => he b o (Nat.ne_of_lt (Heap.lt_size e)) e) s.toks
  have F0 := F.ps P0 W
  show wpAny c.M A (do holding [wb] (assign (.Name _ _) cenv wa); assignInOrder [assign (.Name _ _) cenv] [wb]) _ _ _
  refine wpAny_bind (wpAny_holding (wpAny_mono (wpAny_assign_Name (F0.store eo P0.wr h1 (.inl h3) (P0.vr ha))) (fun H s₁ ⟨P1, F1⟩ => ?_) fun H H x => x))
  show wpAny c.M A (do holding [] (assign (.Name _ _) cenv wb); assignInOrder [] []) _ _ _
  exact wpAny_bind (wpAny_holding (wpAny_mono (wpAny_assign_Name (F1.store eo P1.wr h4 (.inl h6) (P1.vrO F.own (P0.vr hb)))) (fun H s₂ ⟨P2, F2⟩ => wpAny_pure ⟨((P0.weak fun b z => z.elim).trans P1).trans P2, F2⟩) fun H H x => x))
theorem pQ (hh : A.handled = none) {cenv : Env} (eo : EnvOk cenv) {sn : NL} (hk : ∀ x, sn.lookup x = some .local → cenv.kindOf x = some .local) {xs : List Nat} {tgt : PySem.Expr} (ht : fK sn xs tgt = true) {d : V} {v : Value} (hb : dT xs d ℓ = some ℓ')
    (W : WR c ρ s.heap FX σ) (F : FR c A cenv false FX ρ ℓ s.heap) (hv : VR c (XX ρ FX) ρ s.heap d v) : wpAny c.M A (assign tgt cenv v) (wg c A cenv FX ρ σ s ℓ') aC s :=
  rV (C := fun xs tgt => dT xs d ℓ = some ℓ' → wpAny c.M A (assign tgt cenv v) (wg c A cenv FX ρ σ s ℓ') aC s) ht (fun x p hx h3 hb => ac (C := fun ℓ' => wpAny c.M A (assign (.Name (ad x) p) cenv v) (wg c A cenv FX ρ σ s ℓ') aC s) hb (wpAny_assign_Name (F.store eo W hx (.inl (hk _ h3)) hv)))
    (fun x y p q k r hx h3 hy h6 hb => qy (C := fun v => wpAny c.M A (assign (.Tuple [.Name (ad x) p, .Name (ad y) q] k r) cenv v) (wg c A cenv FX ρ σ s ℓ') aC s) (show (oR d fun vs => ak [x, y] vs ℓ) = some ℓ' from hb) hv fun l a ws hT hw e =>
      eH (CL := fun ws => s.heap.IsTuple a ws.toArray → wpAny c.M A (assign (.Tuple [.Name (ad x) p, .Name (ad y) q] k r) cenv (.ref a)) (wg c A cenv FX ρ σ s ℓ') aC s) e hw (fun va l va' ws e h1 hw hT => eH (CL := fun ws => s.heap.IsTuple a (va' :: ws).toArray → wpAny c.M A (assign (.Tuple [.Name (ad x) p, .Name (ad y) q] k r) cenv (.ref a)) (wg c A cenv FX ρ σ s ℓ') aC s) e hw (fun vb l vb' ws e h2 hw hT =>
        eQ (CL := fun ws => s.heap.IsTuple a (va' :: vb' :: ws).toArray → wpAny c.M A (assign (.Tuple [.Name (ad x) p, .Name (ad y) q] k r) cenv (.ref a)) (wg c A cenv FX ρ σ s ℓ') aC s) e hw (fun e hT => ac (C := fun ℓ' => wpAny c.M A (assign (.Tuple [.Name (ad x) p, .Name (ad y) q] k r) cenv (.ref a)) (wg c A cenv FX ρ σ s ℓ') aC s) e (xy hh eo hx (hk _ h3) hy (hk _ h6) W F hT h1 h2)) hT) hT) hT) hb
end
def we (xs : List Nat) (ℓ ℓ' ℓ2 ℓ2' : aj) : Prop := ∀ x, (ℓ2' x = ℓ' x) ∨ (x ∉ xs ∧ ℓ2' x = ℓ2 x ∧ ℓ' x = ℓ x)
theorem we.upd {xs : List Nat} {x : Nat} {v : V} {ℓ ℓ' ℓ2 ℓ2' : aj} (h : we xs (upd ℓ x v) ℓ' (upd ℓ2 x v) ℓ2') : we (x :: xs) ℓ ℓ' ℓ2 ℓ2' := fun y => by
  by_cases e : y = x
  · exact .inl ((h y).elim id fun z => by rw [z.2.1, z.2.2, e]; exact (if_pos rfl).trans (if_pos rfl).symm)
  · exact (h y).imp id fun z => ⟨fun q => (List.mem_cons.mp q).elim e z.1, z.2.1.trans (if_neg e), z.2.2.trans (if_neg e)⟩
theorem gh : ∀ {xs : List Nat} {vs : List V} {ℓ ℓ' : aj} (ℓ2 : aj), ak xs vs ℓ = some ℓ' → ∃ ℓ2', ak xs vs ℓ2 = some ℓ2' ∧ we xs ℓ ℓ' ℓ2 ℓ2'
  | [], vs, ℓ, ℓ', ℓ2, h => gH (C := fun vs => ∃ ℓ2', ak [] vs ℓ2 = some ℓ2' ∧ we [] ℓ ℓ' ℓ2 ℓ2') h fun e => ⟨ℓ2, rfl, fun x => .inr ⟨List.not_mem_nil, rfl, congrFun (Option.some.inj e).symm x⟩⟩
  | x :: xs, vs, ℓ, ℓ', ℓ2, h => eG (C := fun vs => ∃ ℓ2', ak (x :: xs) vs ℓ2 = some ℓ2' ∧ we (x :: xs) ℓ ℓ' ℓ2 ℓ2') h fun v vs e => by
    obtain ⟨ℓ2', h1, h2⟩ := gh (upd ℓ2 x v) e
    exact ⟨ℓ2', h1, h2.upd⟩
theorem mt {xs : List Nat} {d : V} {ℓ ℓ' : aj} (ℓ2 : aj) (h : dT xs d ℓ = some ℓ') : ∃ ℓ2', dT xs d ℓ2 = some ℓ2' ∧ we xs ℓ ℓ' ℓ2 ℓ2' := by
  unfold dT at h ⊢
  by_cases hx : xs.length = 1
  · rw [if_pos hx] at h ⊢
    obtain ⟨x, rfl⟩ := List.length_eq_one_iff.mp hx
    refine ⟨_, rfl, we.upd fun y => .inr ⟨List.not_mem_nil, rfl, ?_⟩⟩
    exact congrFun (Option.some.inj h).symm y
  · rw [if_neg hx] at h ⊢
    exact oS (C := fun d => ∃ ℓ2', (oR d fun vs => ak xs vs ℓ2) = some ℓ2' ∧ we xs ℓ ℓ' ℓ2 ℓ2') h fun vs e => gh ℓ2 e
section
variable {c : Cx} {K : Frag} {mb : Str → Option Value} {Γ : Gam} {n : Nat} {A : Around} {FX FY O IS : Addr → Prop} {ρ ρ' : aN} {σ σ' σE : St} {s s' s₁ s₂ : Shared} {h h' : Heap} {env : Env} {wc : Bool} {ℓ ℓ' : aj} {I : Addr} {en : Bool} {o : Option Nat} {l : List V} {i : Nat}
theorem ItR.aside (Kk : Kp No h h') (k : ∀ b, FY b → FX b ∨ h.get? b = none) (kb : ∀ b, FX b → FY b) (R : ItR c FX ρ σ h I IS en o l i) : ItR c FY ρ σ h' I IS en o l i := by
  have all : ∀ b x, h.get? b = some x → h'.get? b = some x := fun b x e => Kk.keep b x e fun z => z
  exact ⟨fun b z => kb b (R.sub b z), R.own, R.it.keep (.of_keep fun b x e n => ⟨all b x e, fun z => z.elim (fun z => n (.inl z)) fun z => (k b z).elim (fun z => n (.inr z)) fun z => by rw [z] at e; cases e⟩) (List.prefix_refl _) (fun b x H e H => all b x e) R.own fun H H e => e⟩
theorem ItR.stays (R : ItR c FX ρ σ h I IS en o l i) : stays o l σ = true := by
  obtain ⟨_, _, R⟩ := R
  refine cL.mpr fun k e => ?_
  cases R with
  | li | tu | rn => cases e
  | ml _ _ a5 => cases e; exact a5
  | en _ _ _ _ _ a5 => cases e; exact a5
theorem ItR.self {E : Value → Shared → Prop} {Q : Value → Shared → Prop} (R : ItR c FX ρ σ s.heap I IS en o l i) (h : Q (.ref I) s) : wpAny c.M A (pyIter (.ref I)) Q E s := by
  obtain ⟨_, _, R⟩ := R
  cases R with
  | li a0 => exact wpAny_pyIter_listiter a0 h
  | tu a0 => exact wpAny_pyIter_tupleiter a0 h
  | rn _ a2 => exact wpAny_pyIter_rangeiter a2 h
  | ml a0 => exact wpAny_pyIter_listiter a0 h
  | en a0 => exact wpAny_pyIter_enum a0 h
theorem WR.drop (W : WR c ρ h FX σ) (ke : ∀ b x, ¬ IS b → h.get? b = some x → h'.get? b = some x) (hIS : ∀ b, IS b → FX b) (k : ∀ b, FY b → FX b ∧ ¬ IS b) : WR c ρ h' FY σ := by
  have S : aG (XX ρ FX) (XX ρ FY) h h' := .of_keep fun b x e n => ⟨ke b x (fun z => n (.inr (hIS b z))) e, fun z => n (z.imp id fun z => (k b z).1)⟩
  have km : ∀ b x, h.get? b = some x → MX ρ b → h'.get? b = some x := fun b x e z => ke b x (fun y => (W.fx b (hIS b y)).2.2 z) e
  refine ⟨fun b x e => ke b x (fun z => ?_) (W.base b x e), W.len, W.nd, fun i q m hq hm => ?_, W.new, ?_, ?_, fun b hb => ?_⟩
  · have := (W.fx b (hIS b z)).2.1; rw [e] at this; cases this
  · have z := W.at_ i q m hq hm
    have y := z.stays (h' := h') fun b o e y => km b o e (.inr (.inr (d9 (List.mem_of_getElem? hq) y)))
    exact z.mono S (List.prefix_refl _) y.1 y.2
  · obtain ⟨x, e⟩ := W.T1; exact W.t1.mono S ((km _ _ e (.inr (.inl rfl))).trans e.symm)
  · obtain ⟨x, e⟩ := W.T2; exact W.t2.mono S ((km _ _ e (.inl rfl)).trans e.symm)
  · obtain ⟨⟨x, e⟩, r⟩ := W.fx b (k b hb).1
    exact ⟨⟨x, ke b x (k b hb).2 e⟩, r⟩
theorem dJ (ke : ∀ b x, ¬ IS b → h.get? b = some x → h'.get? b = some x) (hIS : ∀ b, IS b → FX b) (k : ∀ b, FY b → FX b ∧ ¬ IS b) : aG (XX ρ FX) (XX ρ FY) h h' :=
  .of_keep fun b x e n => ⟨ke b x (fun z => n (.inr (hIS b z))) e, fun z => n (z.imp id fun z => (k b z).1)⟩
theorem wV (a : Array Value) (n : Nat) : ∀ es k, (seqObj "list" a n).data ≠ .dict es k := fun H H z => by cases z
theorem kt {elt : aj → St → Option (V × St)} {ifs : aj → St → Option (Bool × St)} {xs : List Nat} {o : Option Nat} {l₀ : List V} {ρ : aj} : ∀ {L : List V} {σ σ' : St} {vs : List V}, cA elt ifs xs o l₀ ρ L σ = some (vs, σ') → vs.length ≤ L.length
  | [], σ, σ', vs, h => by cases h; exact Nat.le_refl _
  | v :: L, σ, σ', vs, h => bS h fun ρ' H h => aA h fun c σ1 H h => y7 h (fun H h => aA h fun y σ₂ H h => aY h fun H h => aA h fun ys σ3 e h => by cases h; exact Nat.succ_le_succ (kt e)) fun H h => aY h fun H h => Nat.le_succ_of_le (kt h)
def dH (FX IS : Addr → Prop) (D C : Addr) : Addr → Prop := fun b => (FX b ∨ IS b) ∨ b = D ∨ b = C
def tl (IS : Addr → Prop) (D C : Addr) : Addr → Prop := fun b => IS b ∨ b = D ∨ b = C
structure CoG (IS : Addr → Prop) (D C : Addr) (h : Heap) : Prop where
  fI : ∀ b, IS b → h.get? b = none
  fD : h.get? D = none
  fC : h.get? C = none
  ne : D ≠ C
  is_ : ∀ b, IS b → b ≠ D ∧ b ≠ C
variable {D C : Addr}
theorem CoG.old (g : CoG IS D C h) {b : Addr} {x : Obj} (e : h.get? b = some x) : ¬ tl IS D C b := fun z => by
  have : h.get? b = none := z.elim (g.fI b) fun z => z.elim (fun z => by rw [z]; exact g.fD) fun z => by rw [z]; exact g.fC
  rw [this] at e; cases e
theorem CoG.fx (g : CoG IS D C h) (W : WR c ρ h FX σ) {b : Addr} (z : FX b) : ¬ tl IS D C b := by obtain ⟨x, e⟩ := (W.fx b z).1; exact g.old e
theorem CoG.new (g : CoG IS D C h) {b : Addr} (z : dH FX IS D C b) : FX b ∨ h.get? b = none :=
  z.elim (fun z => z.imp id (g.fI b)) fun z => .inr (z.elim (fun z => by rw [z]; exact g.fD) fun z => by rw [z]; exact g.fC)
theorem tl.sub {b : Addr} (z : tl IS D C b) : dH FX IS D C b := z.elim (fun z => .inl (.inr z)) .inr
theorem CoG.out (g : CoG IS D C h) (W : WR c ρ h FX σ) (F : FR c A env wc FX ρ ℓ h) (b : Addr) (z : tl IS D C b) : dH FX IS D C b ∧ b ≠ env.locals ∧ (∀ m, env.cells.lookup m ≠ some b) ∧ ¬ bl A b :=
  ⟨z.sub, fun e => g.fx W (F.own _ (.inl rfl)) (e ▸ z), fun m q => by obtain ⟨v, x, e, _⟩ := F.live m b q; exact g.old e z, fun y => by obtain ⟨⟨o, _, _, e, _⟩, _⟩ := F.fr.live y; exact g.old e z⟩
noncomputable def t8 (sc : Scope) (env : Env) (FX : Addr → Prop) (C : Addr) : Fm := ⟨compEnvC sc (ed env.cells sc.names []) C env, false, FX⟩
inductive CoI (c : Cx) (FY IS : Addr → Prop) (D C : Addr) (ρ : aN) (s : Shared) (I : Addr) (en : Bool) (o : Option Nat) (l L : List V) (go : List V → St → Option (List V × St)) (vs : List V) (σE : St) (i : Nat) (s' : Shared) : Prop where
  | mk {ρ' : aN} {σ' : St} {done : List V} {dw : List Value} {nn : Nat} {m : Str → Option Value} {rest : List V} : Ps c FY (tl IS D C) ρ s ρ' σ' s' → ItR c FY ρ' σ' s'.heap I IS en o l i → go (L.drop i) σ' = some (rest, σE) → vs = done ++ rest →
      s'.heap.get? D = some (seqObj "list" (List.toArray dw) nn) → VRs c (XX ρ' FY) ρ' s'.heap done dw → s'.heap.Ns C m → done.length ≤ i → CoI c FY IS D C ρ s I en o l L go vs σE i s'
def vV (N : Nat) (J : Nat → Shared → Prop) (k : Nat) (s : Shared) : Prop := ∃ i, i ≤ N ∧ k = N + 1 - i ∧ J i s
theorem vV.step {N i : Nat} {J : Nat → Shared → Prop} {s : Shared} (hi : i < N) (h : J (i + 1) s) : ow (vV N J) (N + 1 - i) s := ⟨N + 1 - (i + 1), Nat.sub_lt_sub_left (Nat.lt_succ_of_lt hi) (Nat.lt_succ_self i), i + 1, hi, rfl, h⟩
theorem Ps.list (P : Ps c FX O ρ s ρ' σ' s') (W : WR c ρ s.heap FX σ) {a : Array Value} {n : Nat} (hF : FX D) (n1 : ¬ O D) (e : s.heap.get? D = some (seqObj "list" a n)) : s'.heap.get? D = some (seqObj "list" a n) :=
  pi e (P.old.keep D _ e fun z => z.elim (W.fx D hF).2.2 n1) (wV _ _)
section
variable {ns : NL} {xs : List Nat} {sc : Scope} {tgt eelt : PySem.Expr} {eifs : List PySem.Expr} {elt : E} {ifs : List E} {m : Str → Option Value} {d : V} {L : List V}
theorem wt (hA : AR n A) (eo : EnvOk env) (hn : env.scope.names = ns) (h2 : fK sc.names xs tgt = true) (S : ScF ns xs sc) (g : CoG IS D C h) (W1 : WR c ρ h FX σ) (F₁ : FR c A env wc FX ρ ℓ h) (F : FR c A env wc (dH FX IS D C) ρ' ℓ s.heap) (W : WR c ρ' s.heap (dH FX IS D C) σ')
    (R : ItR c (dH FX IS D C) ρ' σ' s.heap I IS en o l i) (hns : s.heap.Ns C m) (hen : en = true → ∃ es k p, tgt = .Tuple es k p) (hd : (if en = true then aL l 0 else l)[i]? = some d) (hb : dT xs d ℓ = some ℓ') {K Rn : Shared → Prop}
    (k : ∀ t, Ps c (dH FX IS D C) (fun b => IS b ∨ b = C) ρ' s ρ' σ' t → At c A (t8 sc env (dH FX IS D C) C) (cf ns sc.names) ℓ' ρ' σ' t → ItR c (dH FX IS D C) ρ' σ' t.heap I IS en o l (i + 1) → K t) :
    wpAny c.M A (pyNext (.ref I)) (E2 c A tgt (.ref I) (t8 sc env (dH FX IS D C) C).env K Rn) aC s := by
  have eoC : EnvOk (t8 sc env (dH FX IS D C) C).env := ⟨S.kind, eo.glob, eo.bi⟩
  have hnC : (t8 sc env (dH FX IS D C) C).env.scope.names = cf ns sc.names := by rw [← hn]; exact gj eo
  have kC : ∀ x, sc.names.lookup x = some .local → (t8 sc env (dH FX IS D C) C).env.kindOf x = some .local := fun x q => by
    unfold Env.kindOf
    rw [hnC, dN, if_neg (fun z => by rw [q] at z; cases z.1), q]
  have out := g.out W1 F₁
  obtain ⟨ℓs, hbs, hsame⟩ := mt (pe (cf ns sc.names) ℓ) hb
  refine wpAny_mono (lQ W R tgt hen hd) (fun r t₁ ⟨v, hr, hx⟩ => ?_) fun H H x => x
  rw [hr]
  refine wpAny_mono hx (fun H t₂ ⟨P1, hv, R1⟩ => ?_) fun H H x => x
  have F1 := F.psO P1 W fun b z => out b (.inl z)
  have hns1 : t₂.heap.Ns C m := nH hns fun x e => P1.old.keep C x e fun z => z.elim (W.fx C (.inr (.inr rfl))).2.2 fun z => (g.is_ C z).2 rfl
  have Fi := F1.inner (C := C) eo hn S (.inr (.inr rfl)) (fun m a q e => (out a (.inr (.inr e))).2.2.1 m q) hns1
  refine wpAny_mono (pQ hA.handled eoC kC h2 hbs P1.wr Fi hv) (fun H t₃ ⟨P2, Fi2⟩ => ?_) fun H H x => x
  have oC : ∀ b, bQ (t8 sc env (dH FX IS D C) C).env false b → b = C := fun b z => z.elim id fun z => by cases z.1
  refine k t₃ ((P1.weak fun b z => .inl z).trans (P2.weak fun b z => .inr (oC b z))) ⟨eoC, hnC, P2.wr, Fi2.congr fun x v hx hv hk => ?_⟩ (R1.ps P2 (fun b z => by rw [oC b z]; exact ⟨.inr (.inr rfl), fun q => (g.is_ _ q).2 rfl⟩) P1.wr R1.stays)
  rcases hsame x with z | ⟨z1, z2, z3⟩
  · rw [z]; exact hv
  · rw [z2]
    rw [z3] at hv
    unfold pe
    unfold Env.kindOf at hk
    rw [hnC] at hk
    rw [if_neg fun q => z1 (S.tg x hx (by
      rw [dN] at q
      by_cases w : sc.names.lookup (ad x) = some .free ∧ ns.lookup (ad x) = some .cell
      · rw [if_pos w] at q; cases q
      · rw [if_neg w] at q; exact q))]
    exact hv
theorem wq (ihe : SV c Γ A (cf ns sc.names) elt eelt) (ihf : SA c Γ A (cf ns sc.names) ifs eifs) (g : CoG IS D C h) (T : At c A (t8 sc env (dH FX IS D C) C) (cf ns sc.names) ℓ' ρ' σ' s) (R : ItR c (dH FX IS D C) ρ' σ' s.heap I IS en o l (i + 1))
    {dw : List Value} {nn : Nat} {rest : List V} (hD : s.heap.get? D = some (seqObj "list" (List.toArray dw) nn)) (hdw : dw.length ≤ aF) {go : List V → St → Option (List V × St)}
    (e : (mp (evAnd Γ ifs ℓ' σ') fun b σ1 => if b = true then mp (a9 Γ elt ℓ' σ1) fun y σ₂ => if stays o l σ₂ = true then mp (go L σ₂) fun ys σ3 => some (y :: ys, σ3) else none else if stays o l σ1 = true then go L σ1 else none) = some (rest, σE)) {N : Shared → Prop}
    (k1 : ∀ ρ4 σ1 t, Ps c (dH FX IS D C) (tl IS D C) ρ' s ρ4 σ1 t → ItR c (dH FX IS D C) ρ4 σ1 t.heap I IS en o l (i + 1) → go L σ1 = some (rest, σE) → t.heap.get? D = some (seqObj "list" (List.toArray dw) nn) → (∃ m, t.heap.Ns C m) → N t)
    (k2 : ∀ ρ4 σ1 t y yv ys n2, Ps c (dH FX IS D C) (tl IS D C) ρ' s ρ4 σ1 t → ItR c (dH FX IS D C) ρ4 σ1 t.heap I IS en o l (i + 1) → go L σ1 = some (ys, σE) → rest = y :: ys → t.heap.get? D = some (seqObj "list" (List.toArray (dw ++ [yv])) n2) → VR c (XX ρ4 (dH FX IS D C)) ρ4 t.heap y yv → (∃ m, t.heap.Ns C m) → N t) :
    E1 c A eifs eelt (.ref D) (t8 sc env (dH FX IS D C) C).env N s := by
  have nsC : ∀ {ρ₂ : aN} {σ₂ : St} {t : Shared}, At c A (t8 sc env (dH FX IS D C) C) (cf ns sc.names) ℓ' ρ₂ σ₂ t → ∃ m, t.heap.Ns C m := fun T => by obtain ⟨m, hm, _⟩ := T.fr.ns; exact ⟨m, hm⟩
  have no : ∀ b, No b → dH FX IS D C b ∧ ¬ IS b := fun b z => z.elim
  have fD : dH FX IS D C D := .inr (.inl rfl)
  refine aA e fun b σ1 hf e => ?_
  cases b with
  | false =>
    rw [if_neg Bool.false_ne_true] at e
    exact aY e fun hs e => ihf.use (Q := fun ok s₃ => if ok = true then _ else N s₃) T hf fun ρ4 t T4 P4 => k1 ρ4 σ1 t (P4.weak fun b z => z.elim) (R.ps P4 no T.wr hs) e (P4.list T.wr fD id hD) (nsC T4)
  | true =>
    rw [if_pos rfl] at e
    refine aA e fun y σ₂ he e => aY e fun hs e => aA e fun ys σ3 hgo e => ?_
    refine ihf.use (Q := fun ok s₃ => if ok = true then _ else N s₃) T hf fun ρ4 t T4 P4 => ihe.use T4 he fun yv ρ5 t₅ T5 P5 hy => ?_
    have P45 := P4.trans P5
    refine wpAny_list_append_plain ⟨nn, P45.list T.wr fD id hD⟩ (fun h' hp hs' => ?_) (by unfold aF at hdw; rw [sizeLine_eq]; simp; omega)
    obtain ⟨nn', hD6⟩ := hp
    have hD6 : h'.get? D = some (seqObj "list" (List.toArray (dw ++ [yv])) nn') := by simpa using hD6
    have P6 : Ps c (dH FX IS D C) (fun b => b = D) ρ5 t₅ ρ5 σ₂ { t₅ with heap := h', toks := t₅.toks } := P5.wr.stepP (S := fun b => b = D) (Kp.of_same hs' rfl hD6) (fun b z => ⟨.inr (.inl z), z⟩) _
    obtain ⟨m5, hm5⟩ := nsC T5
    cases e
    exact k2 ρ5 σ₂ { t₅ with heap := h' } y yv ys nn' ((P45.weak fun b z => z.elim).trans (P6.weak fun b z => .inr (.inl z))) ((R.ps P45 no T.wr hs).ps P6 (fun b z => by rw [z]; exact ⟨fD, fun q => (g.is_ _ q).1 rfl⟩) P5.wr hs) hgo rfl hD6 (hy.mono (P6.stands fun b z => by rw [z]; exact fD) P6.pre) ⟨m5, hm5.sameBut hs' (Ne.symm g.ne)⟩
structure CoR (c : Cx) (FX : Addr → Prop) (ρ : aN) (s : Shared) (vs : List V) (σE : St) (D C : Addr) (ρ' : aN) (s' : Shared) (dw : List Value) (m : Str → Option Value) (nn : Nat) : Prop where
  fD : s.heap.get? D = none
  fC : s.heap.get? C = none
  ne : D ≠ C
  P : Ps c (fun b => FX b ∨ b = D ∨ b = C) No ρ s ρ' σE s'
  at_ : s'.heap.get? D = some (seqObj "list" (List.toArray dw) nn)
  v : VRs c (XX ρ' fun b => FX b ∨ b = D ∨ b = C) ρ' s'.heap vs dw
  ns : s'.heap.Ns C m
theorem yS (g : CoG IS D C s₁.heap) (W1 : WR c ρ s₁.heap FX σ) {s₄ : Shared} (K1 : Kp No s₁.heap s₄.heap) (hr : s₄ = { s₁ with heap := s₄.heap, toks := s₄.toks }) (P : Ps c (dH FX IS D C) (tl IS D C) ρ s₄ ρ' σE s) {dw : List Value} {nn : Nat} {vs : List V} (hD : s.heap.get? D = some (seqObj "list" (List.toArray dw) nn))
    (hv : VRs c (XX ρ' (dH FX IS D C)) ρ' s.heap vs dw) (hns : s.heap.Ns C m) (ke : ∀ b x, ¬ IS b → s.heap.get? b = some x → h'.get? b = some x) : CoR c FX ρ s₁ vs σE D C ρ' { s with heap := h' } dw m nn := by
  have kk : ∀ b, (FX b ∨ b = D ∨ b = C) → dH FX IS D C b ∧ ¬ IS b := fun b z => z.elim (fun z => ⟨.inl (.inl z), fun q => g.fx W1 z (.inl q)⟩) fun z => ⟨.inr z, fun q => z.elim (g.is_ b q).1 (g.is_ b q).2⟩
  have hI2 : ∀ b, IS b → dH FX IS D C b := fun b z => .inl (.inr z)
  have o4 : ∀ {b x}, s₁.heap.get? b = some x → s₄.heap.get? b = some x := fun e => K1.keep _ _ e id
  have nI : ∀ {b x}, s₁.heap.get? b = some x → ¬ IS b := fun e z => g.old e (.inl z)
  refine ⟨g.fD, g.fC, g.ne, ⟨P.pre, P.wr.drop ke hI2 kk, ⟨fun b x e => ?_, fun b x e nn' => ?_⟩, fun b hb => (P.newp b hb).imp id fun q => ?_, by have := P.rest; rw [this, hr]⟩, ke D _ (fun z => (g.is_ D z).1 rfl) hD, hv.mono (dJ ke hI2 kk) (List.prefix_refl _), hns.at' fun x e => ke C x (fun z => (g.is_ C z).2 rfl) e⟩
  · obtain ⟨x', e'⟩ := P.old.live b x (o4 e)
    exact ⟨x', ke b x' (nI e) e'⟩
  · obtain ⟨x', e', u⟩ := P.old.keep b x (o4 e) fun z => z.elim (fun z => nn' (.inl z)) fun z => g.old e z
    exact ⟨x', ke b x' (nI e) e', u.imp fun z => z.elim (fun z => z.elim .inl fun z => absurd z (nI e)) .inr⟩
  · cases e : s₁.heap.get? b with
    | none => rfl
    | some x => rw [o4 e] at q; cases q
noncomputable def AD (Γ : Gam) (elt : E) (ifs : List E) (xs : List Nat) (o : Option Nat) (l : List V) (ℓ : aj) : List V → St → Option (List V × St) := cA (fun ρ' σ' => a9 Γ elt ρ' σ') (fun ρ' σ' => evAnd Γ ifs ρ' σ') xs o l ℓ
theorem wu (hA : AR n A) (eo : EnvOk env) (hn : env.scope.names = ns) (h2 : fK sc.names xs tgt = true) (S : ScF ns xs sc) (ihe : SV c Γ A (cf ns sc.names) elt eelt) (ihf : SA c Γ A (cf ns sc.names) ifs eifs) (g : CoG IS D C s₁.heap) (W1 : WR c ρ s₁.heap FX σ) (F₁ : FR c A env wc FX ρ ℓ s₁.heap)
    {s₄ : Shared} (K1 : Kp No s₁.heap s₄.heap) (hr : s₄ = { s₁ with heap := s₄.heap, toks := s₄.toks }) (W4 : WR c ρ s₄.heap (dH FX IS D C) σ) (F₄ : FR c A env wc (dH FX IS D C) ρ ℓ s₄.heap) (hen : en = true → ∃ es k p, tgt = .Tuple es k p) (hl : l.length ≤ aF) {vs : List V} {RR : Value → Addr → Result → Shared → Prop}
    (hRR : ∀ ρ' s' dw m nn, CoR c FX ρ s₁ vs σE D C ρ' s' dw m nn → RR (.ref D) C (.ok .next) s') (hLd : L = if en = true then aL l 0 else l) (hL : L.length = l.length) {s' : Shared} {i : Nat} (hi : i ≤ L.length)
    (J : CoI c (dH FX IS D C) IS D C ρ s₄ I en o l L (AD Γ elt ifs xs o l ℓ) vs σE i s') :
    wpAny c.M A (pyNext (.ref I)) (E2 c A tgt (.ref I) (t8 sc env (dH FX IS D C) C).env (E1 c A eifs eelt (.ref D) (t8 sc env (dH FX IS D C) C).env (ow (vV L.length (CoI c (dH FX IS D C) IS D C ρ s₄ I en o l L (AD Γ elt ifs xs o l ℓ) vs σE)) (L.length + 1 - i))) (RR (.ref D) C (.ok .next))) aC s' := by
  obtain @⟨ρ', σ', done, dw, nn, m, rest, P, R, hgo, hvs, hD, hdone, hns, hdi⟩ := J
  have out := g.out W1 F₁
  have sub : ∀ b, tl IS D C b → dH FX IS D C b := fun b z => z.sub
  by_cases hlt : i < L.length
  · have hd : L[i]? = some L[i] := List.getElem?_eq_getElem hlt
    rw [List.drop_eq_getElem_cons hlt] at hgo
    refine bS hgo fun ℓ' hb hgo => ?_
    refine wt hA eo hn h2 S g W1 F₁ (F₄.psO P W4 out) P.wr R hns hen (by rw [← hLd]; exact hd) hb fun t P1 T R1 => ?_
    have P1' : Ps c (dH FX IS D C) (tl IS D C) _ s' _ _ t := P1.weak fun b z => z.imp id .inr
    have hdw : dw.length ≤ aF := by rw [← hdone.length]; exact Nat.le_trans hdi (Nat.le_trans hi (by rw [hL]; exact hl))
    refine wq ihe ihf g T R1 (P1.list P.wr (.inr (.inl rfl)) (fun z => z.elim (fun z => (g.is_ D z).1 rfl) g.ne) hD) hdw hgo (fun ρ4 σ1 t' P2 R2 e hD2 hm => ?_) fun ρ4 σ1 t' y yv ys n2 P2 R2 e hrest hD2 hy hm => ?_
    · obtain ⟨m, hm⟩ := hm
      have P3 := P1'.trans P2
      exact vV.step hlt ⟨P.trans P3, R2, e, hvs, hD2, hdone.mono (P3.stands sub) P3.pre, hm, Nat.le_succ_of_le hdi⟩
    · obtain ⟨m, hm⟩ := hm
      have P3 := P1'.trans P2
      exact vV.step hlt ⟨P.trans P3, R2, e, (hvs.trans (congrArg _ hrest)).trans (List.append_assoc done [y] ys).symm, hD2, (hdone.mono (P3.stands sub) P3.pre).append (show VRs c _ ρ4 t'.heap [y] [yv] by rw [VRs, VRs]; exact ⟨hy, trivial⟩), hm, by rw [List.length_append]; exact Nat.succ_le_succ hdi⟩
  · rw [List.drop_eq_nil_iff.mpr (Nat.le_of_not_lt hlt)] at hgo
    cases hgo
    refine wpAny_mono (oK hA.handled P.wr R (by rw [List.getElem?_eq_none_iff, ← hL]; exact Nat.le_of_not_lt hlt)) (fun r t₁ ⟨h0, h', ht, ke⟩ => ?_) fun H H x => x
    rw [h0, ht]
    rw [List.append_nil] at hvs
    exact hRR _ _ _ _ _ (yS g W1 K1 hr P hD (by rw [hvs]; exact hdone) hns ke)
theorem iI (hA : AR n A) (eo : EnvOk env) (hn : env.scope.names = ns) {iter : PySem.Expr} {p : Pos} (h2 : fK sc.names xs tgt = true) (S : ScF ns xs sc) (ihe : SV c Γ A (cf ns sc.names) elt eelt) (ihf : SA c Γ A (cf ns sc.names) ifs eifs)
    (W1 : WR c ρ s₁.heap FX σ) (F₁ : FR c A env wc FX ρ ℓ s₁.heap) (K1 : Kp No s₁.heap s₂.heap) (hr : s₂ = { s₁ with heap := s₂.heap, toks := s₂.toks }) (hIS : ∀ b, IS b → s₁.heap.get? b = none ∧ ∃ x, s₂.heap.get? b = some x)
    (R : ItR c (fun b => FX b ∨ IS b) ρ σ s₂.heap I IS en o l 0) (hen : en = true → ∃ es k p, tgt = .Tuple es k p) (hl : l.length ≤ aF) {vs : List V} (hgo : AD Γ elt ifs xs o l ℓ (if en = true then aL l 0 else l) σ = some (vs, σE))
    {RR : Value → Addr → Result → Shared → Prop} (hRR : ∀ D C ρ' s' dw m nn, CoR c FX ρ s₁ vs σE D C ρ' s' dw m nn → RR (.ref D) C (.ok .next) s') :
    wpAny c.M A (newList []) (fun acc s₃ => wpAny c.M A (newFunctionEnv sc env.globals (ed env.cells sc.names []) [] env.qual none .none (some env)) (fun cenv s₄ =>
      codeAny c.M A (.compStart (.ListComp eelt [⟨tgt, iter, eifs, 0⟩] sc p) 0 (.ref I) acc { cenv with scope := relabel sc env }) (RR acc cenv.locals) s₄) aC s₃) aC s₂ := by
  refine wpAny_newObj_type (wpAny_newFunctionEnv S.nocell (by intro y hy; simp at hy) (fun h₁ hns₁ hsb1 => ?_) S.kind)
  dsimp only at hns₁ hsb1 ⊢
  generalize hH2 : s₂.heap.push { cls := .type "list", dict := none, data := .seq ([] : List Value).toArray } = H2 at hns₁ hsb1 ⊢
  have hC : H2.objs.size = s₂.heap.objs.size + 1 := by rw [← hH2, Heap.size_push]
  have hDC : s₂.heap.objs.size ≠ H2.objs.size := by rw [hC]; exact Nat.ne_of_lt (Nat.lt_succ_self _)
  have old : ∀ b x, s₂.heap.get? b = some x → h₁.get? b = some x := fun b x e => hsb1.extBut b x (by rw [hC]; exact Nat.ne_of_lt (Nat.lt_succ_of_lt (Heap.lt_size e))) (Heap.get?_push_of_some _ (hH2 ▸ Heap.get?_push_of_some _ e))
  have hD1 : h₁.get? s₂.heap.objs.size = some (seqObj "list" (List.toArray []) 0) := hsb1.extBut _ _ hDC (Heap.get?_push_of_some _ (hH2 ▸ Heap.get?_push_size _ rfl))
  have n1 : ∀ b, s₂.heap.objs.size ≤ b → s₂.heap.get? b = none ∧ s₁.heap.get? b = none := fun b hb => by
    have e2 : s₂.heap.get? b = none := Heap.get?_none_of_le hb
    refine ⟨e2, ?_⟩
    cases e : s₁.heap.get? b with
    | none => rfl
    | some x => have := K1.keep b x e id; rw [e2] at this; cases this
  have fD := n1 s₂.heap.objs.size (Nat.le_refl _)
  have fC := n1 H2.objs.size (by rw [hC]; exact Nat.le_succ _)
  clear n1 hC
  generalize s₂.heap.objs.size = D at *
  generalize H2.objs.size = C at *
  have g : CoG IS D C s₁.heap := ⟨fun b z => (hIS b z).1, fD.2, fC.2, hDC, fun b z => by
    obtain ⟨x, e⟩ := (hIS b z).2
    exact ⟨fun q => (by rw [q, fD.1] at e; cases e), fun q => (by rw [q, fC.1] at e; cases e)⟩⟩
  have K2 : Kp No s₂.heap h₁ := Kp.of_all old
  have K := K1.trans K2
  have live : ∀ b, dH FX IS D C b → FX b ∨ (s₁.heap.get? b = none ∧ ∃ o, h₁.get? b = some o) := fun b z => (g.new z).elim .inl fun n => z.elim (fun z => z.imp id fun z => ⟨n, by obtain ⟨x, e⟩ := (hIS b z).2; exact ⟨x, old b x e⟩⟩) fun z => .inr ⟨n, z.elim (fun z => (by rw [z]; exact ⟨_, hD1⟩)) fun z => by obtain ⟨x, _, _, e, _⟩ := hns₁; exact ⟨x, by rw [z]; exact e⟩⟩
  have W4 : WR c ρ h₁ (dH FX IS D C) σ := W1.enter K live fun b z => .inl (.inl z)
  have F₄ : FR c A env wc (dH FX IS D C) ρ ℓ h₁ := F₁.aside (s₀ := { s₁ with heap := h₁ }) K (fun b => g.new) fun b z => .inl (.inl z)
  have R4 : ItR c (dH FX IS D C) ρ σ h₁ I IS en o l 0 := R.aside K2 (fun b z => z.imp id fun z => z.elim (fun z => by rw [z]; exact fD.1) fun z => by rw [z]; exact fC.1) fun b z => .inl z
  have lp := mv (c := c) (A := A) (elt := eelt) (target := tgt) (iter := iter) (ifs := eifs) (scope := sc) (pos := p) (it := .ref I) (acc := .ref D) (env := (t8 sc env (dH FX IS D C) C).env) (R := RR (.ref D) C) (s := { s₂ with heap := h₁, toks := s₂.toks + ([] : List (Str × Value)).length })
    (vV (if en = true then aL l 0 else l).length (CoI c (dH FX IS D C) IS D C ρ { s₂ with heap := h₁, toks := s₂.toks + ([] : List (Str × Value)).length } I en o l (if en = true then aL l 0 else l) (AD Γ elt ifs xs o l ℓ) vs σE))
    (fun k s' ⟨i, hi, hk, J⟩ => by
      rw [hk]
      exact wu hA eo hn h2 S ihe ihf g W1 F₁ K (by rw [hr]) W4 F₄ hen hl (hRR D C) rfl (by split; exact im l 0; rfl) hi J) _
    ⟨0, Nat.zero_le _, rfl, ⟨Ps.rfl' W4, R4, hgo, rfl, hD1, by rw [VRs]; trivial, hns₁, Nat.le_refl _⟩⟩
  exact codeAny_compStart_list lp (R4.self (s := { s₂ with heap := h₁, toks := s₂.toks + ([] : List (Str × Value)).length }) lp)
end
end
section
variable {c : Cx} {K : Frag} {mb : Str → Option Value} {Γ : Gam} {n : Nat} {A : Around} {FX : Addr → Prop} {ρ ρ₁ : aN} {σ σ1 : St} {s s₁ : Shared}
theorem fE {v : V} {r : Option Nat × List V} (e : aS v σ = some r) : r.2.length ≤ aF := by
  cases v <;> first | exact ae e | skip
  · exact aY e fun h e => ac (C := fun r : Option Nat × List V => r.2.length ≤ aF) e h
  · exact aY e fun h e => ac (C := fun r : Option Nat × List V => r.2.length ≤ aF) e h
  · exact aY e fun h e => ac (C := fun r : Option Nat × List V => r.2.length ≤ aF) e (by rw [d8]; omega)
  · exact gg e fun m H e => l4 (C := fun H => r.2.length ≤ aF) e fun l e => aY e fun h e => ac (C := fun r : Option Nat × List V => r.2.length ≤ aF) e h
inductive IterQ (c : Cx) (FX : Addr → Prop) (ρ : aN) (σ : St) (s : Shared) (r : Option Nat × List V) : Value → Shared → Prop where
  | mk {I : Addr} {IS : Addr → Prop} {s₂ : Shared} : Kp No s.heap s₂.heap → s₂ = { s with heap := s₂.heap, toks := s₂.toks } → (∀ b, IS b → s.heap.get? b = none ∧ ∃ x, s₂.heap.get? b = some x) → ItR c (fun b => FX b ∨ IS b) ρ σ s₂.heap I IS false r.1 r.2 0 → IterQ c FX ρ σ s r (.ref I) s₂
def xF (FX : Addr → Prop) (s : Shared) : Addr → Prop := fun b => FX b ∨ b = s.heap.objs.size
theorem AI {x : Obj} : aG (XX ρ FX) (XX ρ (xF FX s)) s.heap (s.heap.push x) := .of_keep fun b y e n => ⟨Heap.get?_push_of_some _ e, fun z => z.elim (fun z => n (.inl z)) fun z => z.elim (fun z => n (.inr z)) fun z => by rw [z, an] at e; cases e⟩
theorem i9 {x : Obj} {r : Option Nat × List V} (hf : x.isFreed = false) (t : Nat) (k : (s.heap.push x).get? s.heap.objs.size = some x → ItK c (xF FX s) ρ σ (s.heap.push x) s.heap.objs.size (fun b => b = s.heap.objs.size) r.2 0 false r.1) :
    IterQ c FX ρ σ s r (.ref s.heap.objs.size) { s with heap := s.heap.push x, toks := t } :=
  .mk (IS := fun b => b = s.heap.objs.size) (Kp.push _ _) rfl (fun b hb => by rw [hb]; exact ⟨an _, _, Heap.get?_push_size _ hf⟩) ⟨fun b z => .inr z, rfl, k (Heap.get?_push_size _ hf)⟩
set_option tactic.hygienic true in
theorem mQ {iv : V} {xv : Value} {r : Option Nat × List V} (W : WR c ρ s.heap FX σ) (hv : VR c (XX ρ FX) ρ s.heap iv xv) (e : aS iv σ = some r) : wpAny c.M A (pyIter xv) (IterQ c FX ρ σ s r) aC s := by
  cases iv <;> first | exact ae e | skip
  · refine bN hv fun p xs hp hl hx => aY e fun hz e => ac e (wpAny_pyIter_tuple hl (i9 rfl s.toks fun h => .tu ⟨_, h, rfl, rfl⟩ (fA (AI (x := ⟨.none, none, .plain, #[]⟩)) hp hl).1 (fA AI hp hl).2 (hx.mono AI (List.prefix_refl _))))
  · refine di hv fun p xs hp hl hx => aY e fun hz e => ac e (wpAny_pyIter_list hl (i9 rfl s.toks fun h => .li ⟨_, h, rfl, rfl⟩ (fy (AI (x := ⟨.none, none, .plain, #[]⟩)) hp hl).1 (fy AI hp hl).2 (hx.mono AI (List.prefix_refl _))))
  · rename_i a b
    refine aY e fun hb e => ac e ?_
    rw [VR] at hv
    obtain ⟨p, t, u, w, rfl, hp, hr⟩ := hv
    unfold aF at hb
    refine wpAny_pyIter_range hr (small_one (by omega) (by omega) (by omega) (by omega)) (i9 rfl _ fun h => .rn (a := a) (by rw [d8]) ?_)
    show (s.heap.push _).get? _ = _
    rw [h, d8, rangeSize_one, show a + ((0 : Nat) : Int) = a from Int.add_zero a, show (if a < b then b - a else 0) = (((b - a).toNat : Nat) : Int) - ((0 : Nat) : Int) by split <;> omega]
  · rename_i k
    rw [VR] at hv
    obtain ⟨q, hq, rfl⟩ := hv
    exact gg e fun m hm e => l4 (C := fun m => σ[k]? = some m → MR c (XX ρ FX) ρ s.heap q m → wpAny c.M A (pyIter (.ref q.1)) (IterQ c FX ρ σ s r) aC s) e (fun l e hm R => aY e fun hz e => ac e (by
      obtain ⟨xs, nn, _, ho, _⟩ := R
      exact wpAny_pyIter_list ⟨_, ho, rfl, nn, rfl⟩ (i9 rfl s.toks fun h => .ml ⟨_, h, rfl, rfl⟩ hq hm))) hm (W.at_ _ q _ hq hm)
theorem CoR.hF {D C : Addr} {vs : List V} {σE : St} {ρ' : aN} {s' : Shared} {dw : List Value} {m : Str → Option Value} {nn : Nat} (r : CoR c FX ρ s vs σE D C ρ' s' dw m nn) (W : WR c ρ s.heap FX σ) {b : Addr} (z : FX b) : b ≠ D ∧ b ≠ C := by
  obtain ⟨x, e⟩ := (W.fx b z).1
  exact ⟨fun q => (by rw [q, r.fD] at e; cases e), fun q => (by rw [q, r.fC] at e; cases e)⟩
theorem rD {D : Addr} {FY FZ : Addr → Prop} {σE : St} {ρ' : aN} {h : Heap} {dw : List Value} {nn : Nat} {vs : List V} {mu : Bool} (W : WR c ρ' h FY σE) (hD : h.get? D = some (seqObj "list" (List.toArray dw) nn)) (hv : VRs c (XX ρ' FY) ρ' h vs dw) (k : ∀ b, FZ b → FY b) (hY : FY D) (hZ : ¬ FZ D) :
    ∃ ρ₂, ρ' <+: ρ₂ ∧ (∀ b ∈ f0 ρ₂, b ∈ f0 ρ' ∨ b = D) ∧ WR c ρ₂ h FZ (vY mu vs σE).2 ∧ VR c (XX ρ₂ FZ) ρ₂ h (vY mu vs σE).1 (.ref D) := by
  cases mu with
  | false =>
    refine ⟨ρ', List.prefix_refl _, fun b hb => .inl hb, W.weak k, ?_⟩
    show VR c (XX ρ' FZ) ρ' h (.list vs) (.ref D)
    rw [VR]
    exact ⟨D, dw, rfl, fun z => z.elim (W.fx D hY).2.2 hZ, ⟨_, hD, rfl, nn, rfl⟩, hv.mono (cE k) (List.prefix_refl _)⟩
  | true =>
    have hq : ∀ b, (b = (D, (none : Option Addr)).1 ∨ (D, (none : Option Addr)).2 = some b) → b = D := fun b z => z.elim id fun z => by cases z
    refine ⟨ρ' ++ [(D, none)], List.prefix_append _ _, fun b hb => ?_, W.adopt k (fun b z => by rw [hq b z]; exact ⟨hY, hZ⟩) (by simp) ⟨dw, nn, rfl, hD, hv.mono (hU k fun b z => by rw [hq b z]; exact hY) (List.prefix_append _ _)⟩, ?_⟩
    · rw [dn] at hb
      rcases List.mem_append.mp hb with hb | hb
      · exact .inl hb
      · exact .inr (by simpa [f0] using hb)
    · show VR c _ _ h (.mut σE.length) (.ref D)
      rw [VR]
      exact ⟨(D, none), by rw [← W.len]; simp, rfl⟩
theorem lz {mu : Bool} {D C : Addr} {ρ' : aN} {σE : St} {s' : Shared} {h' : Heap} {dw : List Value} {nn : Nat} {vs : List V} {m : Str → Option Value} (W : WR c ρ s.heap FX σ) (r : CoR c FX ρ s vs σE D C ρ' s' dw m nn)
    (ke : ∀ b x, ¬ b = C → s'.heap.get? b = some x → h'.get? b = some x) (t : Nat) : Po c FX ρ s (vY mu vs σE).1 (vY mu vs σE).2 (.ref D) { s' with heap := h', toks := t } := by
  have k1 : ∀ b, (FX b ∨ b = D) → (FX b ∨ b = D ∨ b = C) ∧ ¬ b = C := fun b z => z.elim (fun z => ⟨.inl z, (r.hF W z).2⟩) fun z => ⟨.inr (.inl z), fun q => r.ne (z ▸ q)⟩
  obtain ⟨ρ₂, hp, hn, W', hv⟩ := rD (mu := mu) (FY := fun b => FX b ∨ b = D) (FZ := FX) (r.P.wr.drop ke (fun b z => .inr (.inr z)) k1) (ke D _ r.ne r.at_) (r.v.mono (dJ ke (fun b z => .inr (.inr z)) k1) (List.prefix_refl _)) (fun b z => .inl z) (.inr rfl) fun z => (r.hF W z).1 rfl
  have nC : ∀ {b x}, s.heap.get? b = some x → ¬ b = C := fun e z => by rw [z, r.fC] at e; cases e
  refine ⟨ρ₂, ⟨r.P.pre.trans hp, W', ⟨fun b x e => ?_, fun b x e z => ?_⟩, fun b hb => ?_, by have := r.P.rest; rw [this]⟩, hv⟩
  · obtain ⟨x', e'⟩ := r.P.old.live b x e; exact ⟨x', ke b x' (nC e) e'⟩
  · obtain ⟨x', e', u⟩ := r.P.old.keep b x e z
    exact ⟨x', ke b x' (nC e) e', u.imp fun q => q.elim id fun q => q.elim (fun q => (by rw [q, r.fD] at e; cases e)) fun q => absurd q (nC e)⟩
  · exact (hn b hb).elim (r.P.newp b) fun q => .inr (by rw [q]; exact r.fD)
theorem iJ {ns : NL} {xs : List Nat} {sc : Scope} {env : Env} {wc : Bool} {ℓ : aj} {h : Heap} (hn : env.scope.names = ns) (S : ScF ns xs sc) (F : FR c A env wc FX ρ ℓ h) : ∀ y ∈ sc.names, y.2 = .free → (env.cells.lookup y.1).isSome = true := fun y hy e => by
  refine F.cs _ ?_
  rcases S.free y hy e with z | z
  · exact .inl (by unfold Env.kindOf; rw [hn]; exact z)
  · exact .inr (by unfold Env.kindOf; rw [hn]; exact z)
theorem ku {xs : List Nat} {elt it : E} {ifs : List E} {mu en : Bool} {ℓ : aj} {r : V × St} {C : V × St → Prop} (e : a9 Γ (.comp xs elt it ifs mu en) ℓ σ = some r)
    (k : ∀ iv σ1 o l vs σ₂, a9 Γ it ℓ σ = some (iv, σ1) → aS iv σ1 = some (o, l) → (!en || o.isSome) = true → AD Γ elt ifs xs o l ℓ (if en = true then aL l 0 else l) σ1 = some (vs, σ₂) → C (vY mu vs σ₂)) : C r := by
  rw [jC] at e
  exact aA e fun iv σ1 h1 e => aA e fun o l h2 e => aY e fun h3 e => aA e fun vs σ₂ h4 e => ac e (k iv σ1 o l vs σ₂ h1 h2 h3 h4)
theorem wv (hA : AR n A) {ns : NL} {xs : List Nat} {elt it : E} {ifs : List E} {mu : Bool} {eelt tgt eit : PySem.Expr} {eifs : List PySem.Expr} {sc : Scope} {p : Pos} (h1 : fu eit = false) (h2 : fK sc.names xs tgt = true) (h3 : pa ns xs sc = true)
    (ihi : SV c Γ A ns it eit) (ihe : SV c Γ A (cf ns sc.names) elt eelt) (ihf : SA c Γ A (cf ns sc.names) ifs eifs) : SV c Γ A ns (.comp xs elt it ifs mu false) (.ListComp eelt [⟨tgt, eit, eifs, 0⟩] sc p) := by
  have S := qE h3
  intro f ℓ ρ σ σ' s v T e
  refine ku (C := fun r => wpAny c.M A (eval (.ListComp eelt [⟨tgt, eit, eifs, 0⟩] sc p) f.env) (Po c f.FX ρ s r.1 r.2) aC s) e fun iv σ1 o l vs σ₂ hi hit H hgo => ?_
  rw [eval_ListComp]
  refine wpAny_comprehension_free (use := none) rfl (kF h1) (cg (iJ T.nm S T.fr)) S.kind S.locals (ihi.use T hi fun xv ρ₁ s₁ T1 P hv => wpAny_mono (mQ T1.wr hv hit) (fun it' s₂ h => ?_) fun H H x => x)
  obtain ⟨hK, hr, hIS, hR⟩ := h
  exact iI hA T.eo T.nm h2 S ihe ihf T1.wr T1.fr hK hr hIS hR (fun z => nomatch z) (fE hit) hgo (RR := fun acc C => compPost c.M A aC none _ acc C) fun D C ρ' s' dw m nn r =>
    ⟨m, r.ns, fun h' hs => Po.then P (lz T1.wr r (fun b x hb e => (hs.2 b hb).trans e) s'.toks)⟩
theorem u7 {iv : V} {o : Option Nat} {l : List V} {C : V → Option Nat → Prop} (e : aS iv σ = some (o, l)) (h : (!true || o.isSome) = true) (k : ∀ j, σ[j]? = some (.list l) → C (.mut j) (some j)) : C iv o := by
  have no : ∀ {l' : List V}, (if l'.length ≤ aF then some ((none : Option Nat), l') else none) = some (o, l) → False := fun e => aY e fun H e => by cases e; cases h
  cases iv <;> first | exact ae e | skip
  · exact (no e).elim
  · exact (no e).elim
  · exact aY e fun H e => by cases e; cases h
  · exact gg e fun m hm e => l4 (C := fun m => σ[_]? = some m → _) e (fun l' e hm => aY e fun H e => by cases e; exact k _ hm) hm
theorem wB (B : Bs c K mb) (hA : AR n A) {ns : NL} {x y : Nat} {elt it : E} {ifs : List E} {mu : Bool} {eelt tgt eit : PySem.Expr} {eifs : List PySem.Expr} {sc : Scope} {p q r : Pos} (h1 : cU ns (Str.ofString "enumerate") = true) (h2 : fK sc.names [x, y] tgt = true) (h3 : pa ns [x, y] sc = true)
    (hst : du eit = false) (ihi : SV c Γ A ns it eit) (ihe : SV c Γ A (cf ns sc.names) elt eelt) (ihf : SA c Γ A (cf ns sc.names) ifs eifs) :
    SV c Γ A ns (.comp [x, y] elt it ifs mu true) (.ListComp eelt [⟨tgt, .Call (.Name (Str.ofString "enumerate") q) [eit] [] r, eifs, 0⟩] sc p) := by
  have S := qE h3
  intro f ℓ ρ σ σ' s v T e
  refine ku (C := fun rr => wpAny c.M A (eval (.ListComp eelt [⟨tgt, .Call (.Name (Str.ofString "enumerate") q) [eit] [] r, eifs, 0⟩] sc p) f.env) (Po c f.FX ρ s rr.1 rr.2) aC s) e fun iv σ1 o l vs σ₂ hi hit hen hgo => ?_
  have htup : ∃ es k p, tgt = .Tuple es k p := rV (C := fun xs t => xs = [x, y] → ∃ es k p, t = .Tuple es k p) h2 (fun H H H H z => nomatch z) (fun H H H H H H H H H H H => ⟨_, _, _, rfl⟩) rfl
  rw [eval_ListComp]
  refine wpAny_comprehension_free (use := none) rfl (fun x => rfl) (cg (iJ T.nm S T.fr)) S.kind S.locals ?_
  show wpAny c.M A (eval (.Call (.Name (Str.ofString "enumerate") q) [eit] [] r) f.env) _ aC s
  refine wpAny_bind (kr B T.wr T.eo (by rw [T.nm]; exact h1) B.en ?_)
  refine PySem.callWith_type (dg (es := [eit]) (by simpa using hst)).2 (aQ (by simpa using hst) ?_)
  rw [bb hst]
  refine Calls.spliced_cons (ihi.use T hi fun xv ρ₁ s₁ T1 P hv => Calls.spliced_nil ?_)
  refine u7 (C := fun iv o => VR c (XX ρ₁ f.FX) ρ₁ s₁.heap iv xv → AD Γ elt ifs [x, y] o l ℓ (if true = true then aL l 0 else l) σ1 = some (vs, σ₂) → wpAny c.M A (call (.type "enumerate") [xv]) _ aC s₁) hit hen (fun k hm hv hgo => ?_) hv hgo
  rw [VR] at hv
  obtain ⟨qq, hq, rfl⟩ := hv
  obtain ⟨xs', nn', _, ho, _⟩ := T1.wr.at_ k qq _ hq hm
  refine call_enumerate_list ⟨_, ho, rfl, nn', rfl⟩ fun h₂ g1 g2 g3 g4 => wpAny_pyIter_enum g1 ?_
  refine iI (s₂ := { s₁ with heap := h₂ }) (IS := fun b => b = s₁.heap.objs.size ∨ b = s₁.heap.objs.size + 1) hA T.eo T.nm h2 S ihe ihf T1.wr T1.fr (Kp.of_all g4) rfl (fun b z => ?_) ⟨fun b z => .inr z, .inr rfl, .en g1 (.inl rfl) (Nat.succ_ne_self _) g2 hq hm⟩ (fun H => htup) (fE hit) hgo (RR := fun acc C => compPost c.M A aC none _ acc C) fun D C ρ' s' dw m nn r =>
    ⟨m, r.ns, fun h' hs => Po.then P (lz T1.wr r (fun b x hb e => (hs.2 b hb).trans e) s'.toks)⟩
  obtain ⟨x, e, _⟩ := g2
  exact z.elim (fun z => by rw [z]; exact ⟨an _, x, e⟩) fun z => by rw [z]; exact ⟨Heap.get?_none_of_le (Nat.le_succ _), _, g1⟩
end
theorem fq {Γ : Gam} : ∀ {ds : List E} {ℓ : aj} {σ σ' : St} {vs : List V}, evEs Γ ds ℓ σ = some (vs, σ') → vs.length = ds.length
  | [], _, _, _, _, e => by cases e; rfl
  | d :: ds, ℓ, σ, σ', vs, e => by rw [eI] at e; exact aA e fun v σ1 H e => aA e fun vs σ₂ h e => by cases e; exact congrArg (· + 1) (fq h)
section
variable {c : Cx} {K : Frag} {mb : Str → Option Value} {Γ : Gam} {n : Nat} {A : Around} {ns : NL}
theorem qF {value : PySem.Expr} {l u : Option PySem.Expr} {p : Pos} {env : Env} {s : Shared} {o : Value} {Q : Value → Shared → Prop} {E : Value → Shared → Prop}
    (h : wpAny c.M A (valueOrNone (evalOpt l env)) (fun vl s₁ => wpAny c.M A (valueOrNone (evalOpt u env)) (fun vu s₂ =>
      wpAny c.M A (subscriptTail value (.Slice l u none p) o (.ref s₂.heap.objs.size)) Q E { s₂ with heap := s₂.heap.push { cls := .type "slice", data := .fields #[vl, vu, .none] } }) E s₁) E s) :
    wpAny c.M A (eval (.Slice l u none p) env) (fun i s₂ => wpAny c.M A (subscriptTail value (.Slice l u none p) o i) Q E s₂) E s := by
  show wpAny c.M A (do
    let l ← valueOrNone (evalOpt l env)
    let u ← holding [l] (valueOrNone (evalOpt u env))
    let s ← holding [l, u] (valueOrNone (evalOpt none env))
    newFields "slice" [l, u, s]) _ E s
  refine wpAny_bind (wpAny_mono h (fun vl s₁ h₁ => ?_) fun H H x => x)
  refine wpAny_bind (wpAny_holding (wpAny_mono h₁ (fun vu s₂ h₂ => ?_) fun H H x => x))
  refine wpAny_bind (wpAny_holding (wpAny_pure ?_))
  exact wpAny_newObj_type h₂
theorem jg {env : Env} {s : Shared} {Q : Bool → Shared → Prop} {E : Value → Shared → Prop} (h : Q false s) : ∀ {es : List PySem.Expr}, wpAny c.M A (jb es false env) Q E s
  | [] => by unfold jb; rw [List.forIn_nil]; exact wpAny_pure h
  | e :: es => by
    unfold jb
    rw [List.forIn_cons, if_neg (by decide)]
    exact wpAny_bind (wpAny_pure (jg h))
structure DcR (c : Cx) (FX : Addr → Prop) (ρ : aN) (s : Shared) (ks : List Nat) (vs : List V) (σ1 : St) (ρ₁ : aN) (s₂ : Shared) (ws : List Value) : Prop where
  P : Ps c (xF FX s) (fun b => b = s.heap.objs.size) ρ { s with heap := s.heap.push { cls := .type "dict", data := .dict #[] } } ρ₁ σ1 s₂
  v : VRs c (XX ρ₁ (xF FX s)) ρ₁ s₂.heap vs ws
  len : ks.length = ws.length
  D : s₂.heap.DictOf (strKind c.prog c.w) s.heap.objs.size ((ks.map dE).zip ws)
def H5 (c : Cx) (D : Addr) (Q : Value → Shared → Prop) (ps : List (Value × Value)) (s₁ : Shared) : Prop :=
  ∃ kvs, Carries (strKind c.prog c.w) ps kvs ∧ s₁.heap.DictOf (strKind c.prog c.w) D [] ∧ ∀ h', h'.DictOf (strKind c.prog c.w) D (merged [] kvs) → Heap.SameBut D s₁.heap h' → Q (.ref D) { s₁ with heap := h', toks := s₁.toks + ps.length }
theorem sr {f : Fm} {ρ : aN} {σ σ1 : St} {s : Shared} {ℓ : aj} {ks : List Nat} {ds : List E} {kx : List (Option PySem.Expr)} {es : List PySem.Expr} {vs : List V} {p : Pos} {Q : Value → Shared → Prop} (T : At c A f ns ℓ ρ σ s) (ih : SP c Γ A ns ks ds kx es) (h1 : evEs Γ ds ℓ σ = some (vs, σ1)) (hnd : ks.Nodup)
    (h : ∀ ρ₁ s₂ ws, DcR c f.FX ρ s ks vs σ1 ρ₁ s₂ ws → Q (.ref s.heap.objs.size) s₂) :
    wpAny c.M A (evalPairs (pairTrees kx es f.env p)) (H5 c s.heap.objs.size Q) aC { s with heap := s.heap.push { cls := .type "dict", data := .dict #[] } } := by
  have K0 : Kp No s.heap (s.heap.push { cls := .type "dict", data := .dict #[] }) := Kp.push _ _
  have W0 : WR c ρ (s.heap.push { cls := .type "dict", data := .dict #[] }) (xF f.FX s) σ := T.wr.enter K0 (fun b z => z.elim .inl fun z => .inr (by rw [z]; exact ⟨an _, _, Heap.get?_push_size _ rfl⟩)) fun b z => .inl z
  have F0 : FR c A f.env f.wc (xF f.FX s) ρ ℓ (s.heap.push { cls := .type "dict", data := .dict #[] }) := T.fr.aside (s₀ := { s with heap := s.heap.push { cls := .type "dict", data := .dict #[] } }) K0 (fun b z => z.imp id fun z => by rw [z]; exact an _) fun b z => .inl z
  have hD0 : (s.heap.push { cls := .type "dict", data := .dict #[] }).DictOf (strKind c.prog c.w) s.heap.objs.size [] := Heap.DictOf.new _
  refine wpAny_mono (ih.ok ⟨f.env, f.wc, xF f.FX s⟩ ℓ ρ σ _ { s with heap := s.heap.push { cls := .type "dict", data := .dict #[] } } vs p ⟨T.eo, T.nm, W0, F0⟩ h1) (fun ps s₁ ⟨ρ₁, ws, P, hv, hc⟩ => ?_) fun H H x => x
  have hlw : ks.length = ws.length := by rw [ih.len3, ← fq h1, hv.length]
  refine ⟨_, hc, hD0.at fun o e => ?_, fun h' hD' hs => ?_⟩
  · have hdat : o.data = .dict #[] := by
      have : (s.heap.push { cls := .type "dict", data := .dict #[] }).get? s.heap.objs.size = _ := Heap.get?_push_size _ rfl
      rw [this] at e; cases e; rfl
    obtain ⟨o', e', u⟩ := P.old.keep _ o e fun z => z.elim (W0.fx _ (.inr rfl)).2.2 fun z => z
    rcases u with rfl | ⟨_, ⟨es, n, z, z2⟩, _⟩
    · exact e'
    · rw [hdat] at z; cases z; exact absurd rfl z2
  · have hnn : (((ks.map dE).zip ws).map (·.1)).Nodup := by
      rw [List.map_fst_zip (by simp [hlw])]
      exact List.pairwise_map.mpr (List.Pairwise.imp_of_mem (fun {a b} ha hb hne e => hne (jM a (ih.lt a ha) b (ih.lt b hb) e)) hnd)
    rw [merged_nil_of_nodup _ hnn] at hD'
    obtain ⟨o', _, _, eo', _⟩ := id hD'
    have P2 : Ps c (xF f.FX s) (fun b => b = s.heap.objs.size) ρ₁ s₁ ρ₁ σ1 { s₁ with heap := h', toks := s₁.toks + ps.length } := P.wr.stepP (S := fun b => b = s.heap.objs.size) (Kp.of_same hs rfl eo') (fun b z => ⟨.inr z, z⟩) _
    exact h ρ₁ _ ws ⟨(P.weak fun b z => z.elim).trans P2, hv.mono (P2.stands fun b z => .inr z) (List.prefix_refl _), hlw, hD'⟩
theorem Aj {i : Int} {k p} : SV c Γ A ns (.lit (.int i)) (.Constant (.int i) k p) := fun f ℓ ρ σ σ' s v T e => bE (show some (V.int i, σ) = some (v, σ') from e) (wpAny_Constant_int (ce T.wr cM _))
theorem An {i : Int} {k p q} : SV c Γ A ns (.lit (.int (-i))) (.UnaryOp .USub (.Constant (.int i) k p) q) := fun f ℓ ρ σ σ' s v T e => bE (show some (V.int (-i), σ) = some (v, σ') from e) (UnaryOp_ (wpAny_Constant_int (PyProof.Rows.neg_int (ce T.wr cM _))))
theorem xn {b : Bool} {k p} : SV c Γ A ns (.lit (.bool b)) (.Constant (.bool b) k p) := fun f ℓ ρ σ σ' s v T e => bE (show some (V.bool b, σ) = some (v, σ') from e) (PyProof.Rows.Constant_bool (fY T.wr rZ))
theorem Ap {i : Nat} {k p} (hi : i < 31) : SV c Γ A ns (.lit (.str i)) (.Constant (.str (dE i)) k p) := fun f ℓ ρ σ σ' s v T e => bE (show some (V.str i, σ) = some (v, σ') from e) (Calls.Constant_str (ce T.wr (ng hi) _))
theorem vF {b : List UInt8} {k p} : SV c Γ A ns (.lit (.bytes b)) (.Constant (.bytes b) k p) := fun f ℓ ρ σ σ' s v T e => bE (show some (V.bytes b, σ) = some (v, σ') from e) (Constant_bytes (ce T.wr iD _))
theorem iC {f : Fm} {ℓ : aj} {ρ : aN} {σ : St} {s : Shared} {x : Nat} (T : At c A f ns ℓ ρ σ s) (h : oj ns x = true) : x < 91 ∧ (f.env.kindOf (ad x) = some .local ∨ f.env.kindOf (ad x) = some .cell ∨ f.env.kindOf (ad x) = some .free) := by
  unfold Env.kindOf
  rw [T.nm]
  refine ⟨of_decide_eq_true (ba h).1, ?_⟩
  have h2 := (ba h).2
  cases e : ns.lookup (ad x) with
  | none => rw [e] at h2; cases h2
  | some k =>
    rw [e] at h2
    cases k <;> first | exact .inl rfl | exact .inr (.inl rfl) | exact .inr (.inr rfl) | exact Bool.noConfusion h2
theorem Ak {x : Nat} {p} (hx : oj ns x = true) : SV c Γ A ns (.loc x) (.Name (ad x) p) := fun f ℓ ρ σ σ' s v T e =>
  kX (show lg (ℓ x) σ = some (v, σ') from e) fun hd => T.fr.load T.eo (iC T hx).1 hd (iC T hx).2 fun w h => fY T.wr h
theorem xp (B : Bs c K mb) {p} (hg : cU ns (ad 30) = true) : SV c Γ A ns (.glob 30) (.Name (ad 30) p) := fun f ℓ ρ σ σ' s v T e => bE (show some (V.tup [.str 26, .str 13], σ) = some (v, σ') from e) (by
  obtain ⟨p, h1, h2⟩ := D1 B T.wr
  exact i3 B T.wr T.eo (by rw [T.nm]; exact hg) h1 (fY T.wr h2))
theorem la {ds : List E} {vs : List V} {ws : List Value} {ℓ : aj} {σ σ' : St} {X : Addr → Prop} {ρ : aN} {h : Heap} (hz : ds.length ≤ 100) (h1 : evEs Γ ds ℓ σ = some (vs, σ')) (hv : VRs c X ρ h vs ws) : ws.toArray.size ≤ sizeLine := by
  rw [List.size_toArray, ← hv.length, fq h1, sizeLine_eq]; exact Nat.le_trans hz (by decide)
theorem Aq {ds : List E} {es : List PySem.Expr} {k p} (hz : ds.length ≤ 100) (ih : SL c Γ A ns ds es) : SV c Γ A ns (.tup ds) (.Tuple es k p) := fun f ℓ ρ σ σ' s v T e => by
  rw [q7] at e
  exact aA e fun vs σ1 h1 e => bE e (Tuple_ (ih.use T h1 fun ws ρ₁ s₁ T1 P hv => wpAny_newObj_type (Po.then P (l6 T1.wr hv 0)) (la hz h1 hv)))
theorem Am {ds : List E} {es : List PySem.Expr} {p} (hz : ds.length ≤ 100) (ih : SL c Γ A ns ds es) : SV c Γ A ns (.lst ds) (.List es p) := fun f ℓ ρ σ σ' s v T e => by
  rw [tW] at e
  exact aA e fun vs σ1 h1 e => bE e (List_ (ih.use T h1 fun ws ρ₁ s₁ T1 P hv => wpAny_newObj_type (Po.then P (jI T1.wr hv 0)) (la hz h1 hv)))
theorem xt {ds : List E} {es : List PySem.Expr} {p} (hz : ds.length ≤ 100) (ih : SL c Γ A ns ds es) : SV c Γ A ns (.mlst ds) (.List es p) := fun f ℓ ρ σ σ' s v T e => by
  rw [rj] at e
  exact aA e fun vs σ1 h1 e => bE e (List_ (ih.use T h1 fun ws ρ₁ s₁ T1 P hv => wpAny_newObj_type (Po.then P (v6 T1.wr hv)) (la hz h1 hv)))
theorem Ae {op : Operator} {a b : E} {x y : PySem.Expr} {p} (ih1 : SV c Γ A ns a x) (ih2 : SV c Γ A ns b y) : SV c Γ A ns (.bin op a b) (.BinOp x op y p) := fun f ℓ ρ σ σ' s v T e => by
  rw [tR] at e
  exact aA e fun x σ1 h1 e => aA e fun y σ₂ h2 e => kX e fun h3 => wpAny_BinOp (ih1.use T h1 fun va ρ₁ s₁ T1 P hv => ih2.use T1 h2 fun vb ρ₂ s₂ T2 P2 hw => cj (P.trans P2) (wj T2.wr h3 (P2.vr hv) hw))
theorem Ai {t a b : E} {tx x y : PySem.Expr} {p} (ih1 : SB c Γ A ns t tx) (ih2 : SV c Γ A ns a x) (ih3 : SV c Γ A ns b y) : SV c Γ A ns (.ifx t a b) (.IfExp tx x y p) := fun f ℓ ρ σ σ' s v T e => by
  rw [mD] at e
  refine aA e fun u σ1 h1 e => gI (C := fun u => a9 Γ t ℓ σ = some (u, σ1) → _) e (fun b e h1 => IfExp_ (ih1.use T h1 fun ρ₁ s₁ T1 P => ?_)) h1
  cases b with
  | true => rw [if_pos rfl] at e ⊢; exact cj P (ih2 f ℓ ρ₁ σ1 σ' s₁ v T1 e)
  | false => rw [if_neg Bool.false_ne_true] at e ⊢; exact cj P (ih3 f ℓ ρ₁ σ1 σ' s₁ v T1 e)
theorem xM {op : CmpOp} {a b : E} {ℓ : aj} {σ σ' : St} {v : V} {C : V → St → Prop} (e : a9 Γ (.cmp op a b) ℓ σ = some (v, σ')) (k : ∀ x σ1 y σ₂ r, a9 Γ a ℓ σ = some (x, σ1) → a9 Γ b ℓ σ1 = some (y, σ₂) → f6 op x y σ₂ = some r → C (.bool r) σ₂) : C v σ' := by
  rw [tS] at e
  exact aA e fun x σ1 h1 e => aA e fun y σ₂ h2 e => bS e fun r h3 e => bE e (k x σ1 y σ₂ r h1 h2 h3)
theorem Af (hA : AR n A) {op : CmpOp} {a b : E} {x y : PySem.Expr} {p} (hs : fu y = false) (ih1 : SV c Γ A ns a x) (ih2 : SV c Γ A ns b y) : SV c Γ A ns (.cmp op a b) (.Compare x [op] [y] p) := fun f ℓ ρ σ σ' s v T e =>
  xM (C := fun v σ' => wpAny c.M A (eval (.Compare x [op] [y] p) f.env) (Po c f.FX ρ s v σ') aC s) e fun x σ1 y σ₂ r h1 h2 h3 => wpAny_Compare1 (ih1.use T h1 fun va ρ₁ s₁ T1 P hv => ih2.use T1 h2 fun vb ρ₂ s₂ T2 P2 hw => rb T2.wr hA.lt h3 (P2.vr hv) hw ⟨ρ₂, P.trans P2, rZ⟩) (lU hs)
theorem zY (hA : AR n A) {op : CmpOp} {a b : E} {x y : PySem.Expr} {p} (hs : fu y = false) (ih1 : SV c Γ A ns a x) (ih2 : SV c Γ A ns b y) : SB c Γ A ns (.cmp op a b) (.Compare x [op] [y] p) := fun f ℓ ρ σ σ' s v T e =>
  xM (C := fun w σ' => w = .bool v → wpAny c.M A (isTrue (.Compare x [op] [y] p) f.env (eval (.Compare x [op] [y] p) f.env)) (yC c f.FX ρ s v σ') aC s) e (fun x σ1 y σ₂ r h1 h2 h3 q => by
    cases q
    exact wpAny_isTrue_Compare1 (ih1.use T h1 fun va ρ₁ s₁ T1 P hv => ih2.use T1 h2 fun vb ρ₂ s₂ T2 P2 hw => rb T2.wr hA.lt h3 (P2.vr hv) hw (jr ⟨rfl, ρ₂, P.trans P2⟩)) (lU hs)) rfl
theorem Ah {a i : E} {x y : PySem.Expr} {p} (ih1 : SV c Γ A ns a x) (ih2 : SV c Γ A ns i y) : SV c Γ A ns (.idx a i) (.Subscript x y p) := fun f ℓ ρ σ σ' s v T e => by
  rw [tU] at e
  exact aA e fun x σ1 h1 e => aA e fun y σ₂ h2 e => kX e fun h3 => Subscript_ (ih1.use T h1 fun va ρ₁ s₁ T1 P hv => ih2.use T1 h2 fun vb ρ₂ s₂ T2 P2 hw => cj (P.trans P2) (wL T2.wr h3 (P2.vr hv) hw))
def SN (c : Cx) (Γ : Gam) (A : Around) (ns : NL) (d : E) (e : Option PySem.Expr) : Prop := ∀ (f : Fm) (ℓ : aj) (ρ : aN) (σ σ' : St) (s : Shared) (v : V), At c A f ns ℓ ρ σ s → a9 Γ d ℓ σ = some (v, σ') → wpAny c.M A (valueOrNone (evalOpt e f.env)) (Po c f.FX ρ s v σ') aC s
theorem SV.sn {d : E} {e : PySem.Expr} (h : SV c Γ A ns d e) : SN c Γ A ns d (some e) := h
theorem rR : SN c Γ A ns (.lit .none) none := fun f ℓ ρ σ σ' s v T e => bE (show some (V.none, σ) = some (v, σ') from e) (wpAny_pure (fY T.wr nb))
theorem Ao {a l h : E} {x : PySem.Expr} {y z : Option PySem.Expr} {p q} (ih1 : SV c Γ A ns a x) (ih2 : SN c Γ A ns l y) (ih3 : SN c Γ A ns h z) : SV c Γ A ns (.slc a l h) (.Subscript x (.Slice y z none q) p) := fun f ℓ ρ σ σ' s v T e => by
  rw [tY] at e
  exact aA e fun x σ1 h1 e => aA e fun y σ₂ h2 e => aA e fun z σ3 h3 e => kX e fun h4 => Subscript_ (ih1.use T h1 fun va ρ₁ s₁ T1 P hv => qF (wpAny_mono (ih2 f ℓ ρ₁ σ1 σ₂ s₁ y T1 h2) (fun vb s₂ ⟨ρ₂, P2, hw⟩ => wpAny_mono (ih3 f ℓ ρ₂ σ₂ σ3 s₂ z (T1.ps P2) h3) (fun vc s₃ ⟨ρ₃, P3, hw3⟩ =>
    cj ((P.trans P2).trans P3) (xd P3.wr h4 (P3.vr (P2.vr hv)) (P3.vr hw) hw3)) fun H H x => x) fun H H x => x))
theorem ur {o : E} {ℓ : aj} {σ σ' : St} {r : V} {k : Nat → St → List Nat → List V → Option (V × St)} (e : (mp (a9 Γ o ℓ σ) fun v σ1 => oN v fun j => kg σ1 j fun m => l0 m fun ks l => k j σ1 ks l) = some (r, σ')) {C : Prop} (f : ∀ j σ1 ks l, a9 Γ o ℓ σ = some (.mut j, σ1) → σ1[j]? = some (.inst ks l) → k j σ1 ks l = some (r, σ') → C) : C :=
  aA e fun v σ1 h1 e => oP (C := fun v => a9 Γ o ℓ σ = some (v, σ1) → C) e (fun j e h1 => gg e fun m hm e => qv (C := fun m => σ1[j]? = some m → C) e (fun ks l e hm => f j σ1 ks l h1 hm e) hm) h1
theorem xm (B : Bs c K mb) {a : E} {x : Nat} {e' : PySem.Expr} {p} (ha : c9.contains x = true) (hcl : eM e' = false) (ih : SV c Γ A ns a e') : SV c Γ A ns (.attr a x) (.Attribute e' (ad x) p) := fun f ℓ ρ σ σ' s v T e => by
  rw [rg] at e
  exact ur e fun j σ1 ks l h1 h2 e => kX e fun h3 => Attribute_any_ (ih.use T h1 fun va ρ₁ s₁ T1 P hv => cj P (un B T1.wr hv h2 ha h3)) (si hcl)
theorem uR {β : Type} {x : Option (Option V × St)} {v : V} {σ' : St} {C : Prop} (h : mp x lg = some (v, σ')) (k : x = some (some v, σ') → C) : C :=
  aA h fun o σ₂ h2 h => kX (C := fun σ' => x = some (o, σ₂) → (x = some (some v, σ') → C) → C) h (fun ho h2 k => k (by rw [h2, ho])) h2 k
theorem xo (B : Bs c K mb) (G : GOk c K Γ n) (hA : AR n A) {g : Nat} {ds : List E} {es : List PySem.Expr} {p q} (hg : cU ns (ad g) = true) (ih : SL c Γ A ns ds es) : SV c Γ A ns (.call g ds) (.Call (.Name (ad g) q) es [] p) := fun f ℓ ρ σ σ' s v T e => by
  rw [mC] at e
  exact aA e fun vs σ1 h1 e => uR (β := Unit) e fun h2 => by
    obtain ⟨_, a, hm, o, fd, ho, hd, hf⟩ := G.f _ _ _ _ h2
    refine wpAny_bind (i3 B T.wr T.eo (by rw [T.nm]; exact hg) hm (Calls.callWith_function (o := o) (fd := fd) (aQ ih.st (ih.use T h1 fun ws ρ₁ s₁ T1 P hv => ?_))))
    exact ⟨⟨T1.wr.base _ _ ho, hd⟩, cj P (hf A f.FX ρ₁ σ1 σ' s₁ vs ws v hA T1.fr.fr T1.fr.ff T1.wr hv h2)⟩
theorem xr (B : Bs c K mb) (G : GOk c K Γ n) (hA : AR n A) {o : E} {m : Nat} {ds : List E} {eo : PySem.Expr} {es : List PySem.Expr} {p q} (h85 : m < 91) (hat : c9.contains m = false) (hcl : eM eo = false) (hz : es.length < 30) (hl : (q.endLine == p.line) = true) (ih1 : SV c Γ A ns o eo) (ih2 : SL c Γ A ns ds es) :
    SV c Γ A ns (.meth o m ds) (.Call (.Attribute eo (ad m) q) es [] p) := fun f ℓ ρ σ σ' s v T e => by
  rw [ri] at e
  exact ur e fun k σ1 ks l h1 hi e => aA e fun vs σ₂ h3 e => uR (β := Unit) e fun h4 => by
    obtain ⟨a, hm, hfn, o, fd, ho, hd, hf⟩ := G.m _ _ _ _ h4
    refine cP hcl ih2.st hz hl fun pl => ih1.use T h1 fun va ρ₁ s₁ T1 P hv => kI B T1.wr hv hi h85 hat hm hfn ?_
    refine Calls.callWith_function (o := o) (fd := fd) (aQ ih2.st (ih2.use T1 h3 fun ws ρ₂ s₂ T2 P2 hw => ?_))
    exact ⟨⟨T2.wr.base _ _ ho, hd⟩, cj (P.trans P2) (hf A f.FX ρ₂ σ₂ σ' s₂ (.mut k :: vs) (va :: ws) v hA T2.fr.fr T2.fr.ff T2.wr (by rw [VRs]; exact ⟨P2.vr hv, hw⟩) h4)⟩
theorem wi {b : BI} {bs : List (Bool × Sem Value)} {p : Pos} {Q : Value → Shared → Prop} {s : Shared} (hb : bs.any (·.1) = false) (key : wpAny c.M A (evalArgs (AW b) true bs []) (fun a s₁ => wpAny c.M A (call (AW b) a.pos a.kw) Q aC s₁) aC s) : wpAny c.M A (callWith p (AW b) [] bs []) Q aC s := by
  cases b
  case len => exact Calls.callWith_builtin hb key
  case sorted => exact Calls.callWith_builtin hb key
  case max => exact Calls.callWith_builtin hb key
  all_goals exact PySem.callWith_type hb key
theorem Di (B : Bs c K mb) (hA : AR n A) {b : BI} {ds : List E} {es : List PySem.Expr} {p q} (hg : cU ns (kh b) = true) (ih : SL c Γ A ns ds es) : SV c Γ A ns (.bi b ds) (.Call (.Name (kh b) q) es [] p) := fun f ℓ ρ σ σ' s v T e => by
  rw [xQ] at e
  exact aA e fun vs σ1 h1 e => kX e fun h2 => wpAny_bind (kr B T.wr T.eo (by rw [T.nm]; exact hg) (B.bis b) (wi (dg ih.st).2 (aQ ih.st (ih.use T h1 fun ws ρ₁ s₁ T1 P hv => cj P (yH T1.wr hA.handled h2 hv)))))
theorem Dj {o : E} {m : BM} {ds : List E} {eo : PySem.Expr} {es : List PySem.Expr} {p q} (hcl : eM eo = false) (hz : es.length < 30) (hl : (q.endLine == p.line) = true) (ih1 : SV c Γ A ns o eo) (ih2 : SL c Γ A ns ds es) : SV c Γ A ns (.bm o m ds) (.Call (.Attribute eo (pS m) q) es [] p) := fun f ℓ ρ σ σ' s v T e => by
  rw [xR] at e
  refine aA e fun u σ1 h1 e => oP (C := fun u => a9 Γ o ℓ σ = some (u, σ1) → _) e (fun k e h1 => gg e fun x hm e => l4 (C := fun x => σ1[k]? = some x → _) e (fun l e hm => aA e fun vs σ₂ h3 e => ?_) hm) h1
  refine cP hcl ih2.st hz hl fun pl => ih1.use T h1 fun va ρ₁ s₁ T1 P hv => ?_
  have hv' := hv
  rw [VR] at hv'
  obtain ⟨q, hq, rfl⟩ := hv'
  obtain ⟨xs, nn, _, ho, _⟩ := T1.wr.at_ _ q _ hq hm
  refine getMethod_builtin (T := "list") ⟨_, ho, rfl⟩ PySem.F.plainAttrs_list (tt m) (yK m) (fun a e => by cases e; exact ⟨_, ho, rfl⟩) ?_
  refine Calls.callWith_builtin (dg ih2.st).2 (aQ ih2.st (ih2.use T1 h3 fun ws ρ₂ s₂ T2 P2 hw => ?_))
  obtain ⟨k1, k2, S, k3, k4⟩ := yL (A := A) T2.wr e (P2.vr hv) hw
  exact cj (P.trans P2) (call_meets (tt m) k1 (wl m) k2 k3 k4)
theorem lA {f : Fm} {ℓ : aj} {ρ : aN} {σ σ1 : St} {s : Shared} {ks : List Nat} {ds : List E} {kx : List (Option PySem.Expr)} {es : List PySem.Expr} {vs : List V} {p : Pos} {Q : Value → Shared → Prop} (h15 : ks.length ≤ 15) (h0 : ks ≠ []) (hnd : ks.Nodup) (ih : SP c Γ A ns ks ds kx es) (T : At c A f ns ℓ ρ σ s) (h1 : evEs Γ ds ℓ σ = some (vs, σ1))
    (h : ∀ ρ₁ s₂ ws, DcR c f.FX ρ s ks vs σ1 ρ₁ s₂ ws → ¬ f.FX s.heap.objs.size → Q (.ref s.heap.objs.size) s₂) : wpAny c.M A (eval (.Dict kx es p) f.env) Q aC s :=
  wpAny_Dict_walk (knd := strKind c.prog c.w) ih.some_ ih.len1 (fun z => h0 (by have g := ih.len2; rw [z] at g; exact List.length_eq_zero_iff.mp g)) (by have g := ih.len2; omega) (sr T ih h1 hnd fun ρ₁ s₁ ws r => h ρ₁ s₁ ws r fun z => by obtain ⟨o, e⟩ := (T.wr.fx _ z).1; rw [an] at e; cases e)
theorem Ag {ks : List Nat} {ds : List E} {kx : List (Option PySem.Expr)} {es : List PySem.Expr} {p} (h15 : ks.length ≤ 15) (h0 : ks ≠ []) (hnd : ks.Nodup) (ih : SP c Γ A ns ks ds kx es) : SV c Γ A ns (.dct ks ds) (.Dict kx es p) := fun f ℓ ρ σ σ' s v T e => by
  rw [tT] at e
  exact aA e fun vs σ1 h1 e => bE e (lA h15 h0 hnd ih T h1 fun ρ₁ s₁ ws r hF => ⟨ρ₁, Ps.shut (Kp.push _ _) rfl r.P (fun b z => by rw [z]; exact an _) (fun b z => z.imp id fun z => by rw [z]; exact an _) (List.prefix_refl _) (r.P.wr.weak fun b z => .inl z) (fun b hb => .inl hb), by
    rw [VR]
    exact ⟨_, ws, rfl, fun z => z.elim (r.P.wr.fx _ (.inr rfl)).2.2 hF, r.D, ih.lt, r.len, r.v.mono (cE fun b z => .inl z) (List.prefix_refl _)⟩⟩)
theorem xq {ks : List Nat} {ds : List E} {kx : List (Option PySem.Expr)} {es : List PySem.Expr} {p} (h15 : ks.length ≤ 15) (h0 : ks ≠ []) (hnd : ks.Nodup) (ih : SP c Γ A ns ks ds kx es) : SV c Γ A ns (.mdct ks ds) (.Dict kx es p) := fun f ℓ ρ σ σ' s v T e => by
  rw [rh] at e
  refine aA e fun vs σ1 h1 e => bE e (lA h15 h0 hnd ih T h1 fun ρ₁ s₁ ws r hF => ?_)
  have hq : ∀ b, (b = (s.heap.objs.size, (none : Option Addr)).1 ∨ (s.heap.objs.size, (none : Option Addr)).2 = some b) → b = s.heap.objs.size := fun b z => z.elim id fun z => by cases z
  have W' : WR c (ρ₁ ++ [(s.heap.objs.size, none)]) s₁.heap f.FX (σ1 ++ [.dict ks vs]) :=
    r.P.wr.adopt (fun b z => .inl z) (fun b z => by rw [hq b z]; exact ⟨.inr rfl, hF⟩) (by simp) ⟨ws, rfl, r.D, ih.lt, r.len, r.v.mono (hU (fun b z => .inl z) fun b z => .inr (hq b z)) (List.prefix_append _ _)⟩
  refine ⟨_, Ps.shut (Kp.push _ _) rfl r.P (fun b z => by rw [z]; exact an _) (fun b z => z.imp id fun z => by rw [z]; exact an _) (List.prefix_append _ _) W' (fun b hb => ?_), ?_⟩
  · rw [dn] at hb
    rcases List.mem_append.mp hb with hb | hb
    · exact .inl hb
    · exact .inr (by rw [show b = s.heap.objs.size by simpa [f0] using hb]; exact an _)
  · rw [VR]
    exact ⟨(s.heap.objs.size, none), by rw [← r.P.wr.len]; simp, rfl⟩
theorem A5 : SP c Γ A ns [] [] [] [] := ⟨rfl, rfl, rfl, fun H h => (nomatch h), rfl, fun f ℓ ρ σ σ' s vs p T e => bE (show some ([], σ) = some (vs, σ') from e) (pairTrees_nil_walk ⟨ρ, [], Ps.rfl' T.wr, by rw [VRs]; trivial, trivial⟩)⟩
theorem xh {k : Nat} {ks : List Nat} {d : E} {ds : List E} {e' : PySem.Expr} {kx : List (Option PySem.Expr)} {es : List PySem.Expr} {q r} (hk : k < 31) (ih1 : SV c Γ A ns d e') (ih2 : SP c Γ A ns ks ds kx es) : SP c Γ A ns (k :: ks) (d :: ds) (some (.Constant (.str (dE k)) q r) :: kx) (e' :: es) := by
  refine ⟨ih2.some_, congrArg (· + 1) ih2.len1, congrArg (· + 1) ih2.len2, List.forall_mem_cons.mpr ⟨hk, ih2.lt⟩, congrArg (· + 1) ih2.len3, fun f ℓ ρ σ σ' s vs p T e => ?_⟩
  rw [eI] at e
  refine aA e fun x σ1 h1 e => aA e fun ys σ₂ h2 e => bE e (pairTrees_cons_walk (Calls.Constant_str ?_))
  have P0 : Ps c f.FX No ρ s ρ σ { s with toks := s.toks + 1 } := (Ps.rfl' T.wr).toks _
  refine ih1.use (T.ps P0) h1 fun va ρ₁ s₁ T1 P hv => wpAny_mono (ih2.ok f ℓ ρ₁ σ1 σ₂ s₁ ys p T1 h2) (fun ws s₂ ⟨ρ₂, us, P2, hw, hc⟩ => ?_) fun H H x => x
  exact ⟨ρ₂, va :: us, (P0.trans P).trans P2, by rw [VRs]; exact ⟨P2.vr hv, hw⟩, eN _ _, rfl, hc⟩
theorem A2 {a : E} {x : PySem.Expr} {p} (ih : SB c Γ A ns a x) : SB c Γ A ns (.not a) (.UnaryOp .Not x p) := fun f ℓ ρ σ σ' s b T e => by
  rw [tX] at e
  exact aA e fun u σ1 h1 e => gI (C := fun u => a9 Γ a ℓ σ = some (u, σ1) → _) e (fun r e h1 => by cases e; exact isTrue_not (ih.use T h1 fun ρ₁ s₁ T1 P => ⟨rfl, ρ₁, P⟩)) h1
theorem zW {ds : List E} {es : List PySem.Expr} {p} (ih : SA c Γ A ns ds es) : SB c Γ A ns (.and ds) (.BoolOp .And es p) := fun f ℓ ρ σ σ' s b T e => by
  rw [tO] at e
  exact aA e fun r σ1 h1 e => by cases e; exact wpAny_isTrue_BoolOp (ih.all f ℓ ρ σ σ' s b T h1)
theorem D9 {ds : List E} {es : List PySem.Expr} {p} (ih : SO c Γ A ns ds es) : SB c Γ A ns (.or ds) (.BoolOp .Or es p) := fun f ℓ ρ σ σ' s b T e => by
  rw [xS] at e
  exact aA e fun r σ1 h1 e => by cases e; exact wpAny_isTrue_BoolOp (ih f ℓ ρ σ σ' s b T h1)
theorem et {m : Sem Bool} {FX : Addr → Prop} {ρ ρ₁ : aN} {s s₁ : Shared} {σ1 σ' : St} {b : Bool} (P : Ps c FX No ρ s ρ₁ σ1 s₁) (h : wpAny c.M A m (yC c FX ρ₁ s₁ b σ') aC s₁) : wpAny c.M A m (yC c FX ρ s b σ') aC s₁ := wpAny_mono h (fun H H ⟨e, ρ₂, P2⟩ => ⟨e, ρ₂, P.trans P2⟩) fun H H x => x
theorem zZ {t a b : E} {tx x y : PySem.Expr} {p} (ih1 : SB c Γ A ns t tx) (ih2 : SB c Γ A ns a x) (ih3 : SB c Γ A ns b y) : SB c Γ A ns (.ifx t a b) (.IfExp tx x y p) := fun f ℓ ρ σ σ' s v T e => by
  rw [mD] at e
  refine aA e fun u σ1 h1 e => gI (C := fun u => a9 Γ t ℓ σ = some (u, σ1) → _) e (fun b e h1 => isTrue_IfExp (ih1.use T h1 fun ρ₁ s₁ T1 P => ?_)) h1
  cases b with
  | true => rw [if_pos rfl] at e ⊢; exact et P (ih2 f ℓ ρ₁ σ1 σ' s₁ v T1 e)
  | false => rw [if_neg Bool.false_ne_true] at e ⊢; exact et P (ih3 f ℓ ρ₁ σ1 σ' s₁ v T1 e)
theorem SV.sb {a : E} {x : PySem.Expr} (hp : qz x = true) (ih : SV c Γ A ns a x) : SB c Γ A ns a x := fun f ℓ ρ σ σ' s b T e => isTrue_plain (ih.use T e fun u ρ₁ s₁ T1 P hv => by
  rw [VR] at hv
  rw [hv]
  exact jr ⟨rfl, ρ₁, P⟩) (n4 hp)
theorem A3 : SL c Γ A ns [] [] := ⟨fun H h => (nomatch h), fun f ℓ ρ σ σ' s vs p T e => bE (show some ([], σ) = some (vs, σ') from e) (Calls.spliced_nil ⟨ρ, Ps.rfl' T.wr, by rw [VRs]; trivial⟩)⟩
theorem xc {d : E} {ds : List E} {e' : PySem.Expr} {es : List PySem.Expr} (hs : du e' = false) (ih1 : SV c Γ A ns d e') (ih2 : SL c Γ A ns ds es) : SL c Γ A ns (d :: ds) (e' :: es) := ⟨List.forall_mem_cons.mpr ⟨hs, ih2.st⟩, fun f ℓ ρ σ σ' s vs p T e => by
  rw [eI] at e
  rw [bb hs]
  exact aA e fun x σ1 h1 e => aA e fun ys σ₂ h2 e => bE e (Calls.spliced_cons (ih1.use T h1 fun va ρ₁ s₁ T1 P hv => ih2.use T1 h2 fun ws ρ₂ s₂ T2 P2 hw => ⟨ρ₂, P.trans P2, by rw [VRs]; exact ⟨P2.vr hv, hw⟩⟩))⟩
theorem zR : SA c Γ A ns [] [] := ⟨fun f ℓ ρ σ σ' s b T e => bE (show some (true, σ) = some (b, σ') from e) (wpAny_allTrue_And_nil ⟨rfl, ρ, Ps.rfl' T.wr⟩), fun f ℓ ρ σ σ' s b T e => bE (show some (true, σ) = some (b, σ') from e) (by unfold jb; rw [List.forIn_nil]; exact wpAny_pure ⟨rfl, ρ, Ps.rfl' T.wr⟩)⟩
theorem xL {d : E} {ds : List E} {ℓ : aj} {σ σ' : St} {b : Bool} {C : Prop} (e : evAnd Γ (d :: ds) ℓ σ = some (b, σ')) (k1 : ∀ σ1, a9 Γ d ℓ σ = some (.bool true, σ1) → evAnd Γ ds ℓ σ1 = some (b, σ') → C) (k2 : a9 Γ d ℓ σ = some (.bool false, σ') → b = false → C) : C := by
  rw [jB] at e
  exact aA e fun u σ1 h1 e => gI (C := fun u => a9 Γ d ℓ σ = some (u, σ1) → C) e (fun r e h1 => y7 e (fun hr e => k1 σ1 (by rw [← hr]; exact h1) e) fun hr e => by cases e; cases hr; exact k2 h1 rfl) h1
theorem xa {d : E} {ds : List E} {x : PySem.Expr} {es : List PySem.Expr} (ih1 : SB c Γ A ns d x) (ih2 : SA c Γ A ns ds es) : SA c Γ A ns (d :: ds) (x :: es) := by
  refine ⟨fun f ℓ ρ σ σ' s b T e => ?_, fun f ℓ ρ σ σ' s b T e => ?_⟩
  · refine xL e (fun σ1 h1 e => wpAny_allTrue_And_cons (ih1.use T h1 fun ρ₁ s₁ T1 P => ?_)) fun h1 hb => wpAny_allTrue_And_cons (ih1.use T h1 fun ρ₁ s₁ T1 P => ?_)
    · rw [if_pos rfl]; exact et P (ih2.all f ℓ ρ₁ σ1 σ' s₁ b T1 e)
    · rw [if_neg Bool.false_ne_true, hb]; exact ⟨rfl, ρ₁, P⟩
  · unfold jb
    rw [List.forIn_cons, if_pos rfl]
    refine xL e (fun σ1 h1 e => wpAny_bind (wpAny_bind (ih1.use T h1 fun ρ₁ s₁ T1 P => wpAny_pure ?_))) fun h1 hb => wpAny_bind (wpAny_bind (ih1.use T h1 fun ρ₁ s₁ T1 P => wpAny_pure ?_))
    · exact et P (ih2.it f ℓ ρ₁ σ1 σ' s₁ b T1 e)
    · exact jg ⟨hb.symm, ρ₁, P⟩
theorem A4 : SO c Γ A ns [] [] := fun f ℓ ρ σ σ' s b T e => bE (show some (false, σ) = some (b, σ') from e) (wpAny_allTrue_Or_nil ⟨rfl, ρ, Ps.rfl' T.wr⟩)
theorem xg {d : E} {ds : List E} {x : PySem.Expr} {es : List PySem.Expr} (ih1 : SB c Γ A ns d x) (ih2 : SO c Γ A ns ds es) : SO c Γ A ns (d :: ds) (x :: es) := fun f ℓ ρ σ σ' s b T e => by
  rw [mE] at e
  refine aA e fun u σ1 h1 e => gI (C := fun u => a9 Γ d ℓ σ = some (u, σ1) → _) e (fun r e h1 => wpAny_allTrue_Or_cons (ih1.use T h1 fun ρ₁ s₁ T1 P => ?_)) h1
  cases r with
  | true => rw [if_pos rfl] at e ⊢; cases e; exact ⟨rfl, ρ₁, P⟩
  | false => rw [if_neg Bool.false_ne_true] at e ⊢; exact et P (ih2 f ℓ ρ₁ σ1 σ' s₁ b T1 e)
end
noncomputable def iS : PySem.Expr → Bool
  | .ListComp _ _ _ _ => true
  | .SetComp _ _ _ _ => true
  | .DictComp _ _ _ _ _ => true
  | _ => false
noncomputable def qm : PySem.Expr → Bool
  | .Name _ _ => true
  | _ => false
noncomputable def ju (ns : NL) (w : Bool) (x : Nat) : Bool := decide (x < 91) && (ns.lookup (ad x) == some .local || (w && ns.lookup (ad x) == some .cell))
noncomputable abbrev lk := Env → (Addr → Prop) → aN → St → Shared → Value → Shared → Prop
inductive FlO (c : Cx) (X : Addr → Prop) (ρ : aN) (h : Heap) : Fl → Flow → Prop where
  | next : FlO c X ρ h .next .next
  | cont : FlO c X ρ h .cont .cont
  | ret {d : V} {v : Value} : VR c X ρ h d v → FlO c X ρ h (.ret d) (.ret v)
section
variable (c : Cx) (A : Around) (f : Fm) (ns : NL) (ρ : aN) (s : Shared)
structure StS (r : Fl × aj × St) (fl : Flow) (s' : Shared) (ρ' : aN) : Prop where
  P : Ps c f.FX (bQ f.env f.wc) ρ s ρ' r.2.2 s'
  T : At c A f ns r.2.1 ρ' r.2.2 s'
  fl : FlO c (XX ρ' f.FX) ρ' s'.heap r.1 fl
def ni (r : Fl × aj × St) (fl : Flow) (s' : Shared) : Prop := ∃ ρ', StS c A f ns ρ s r fl s' ρ'
structure StF (XP : lk) (r : Fl × aj × St) (e : Value) (s' : Shared) (ρ₁ : aN) (s₁ : Shared) : Prop where
  exc : r.1 = .exc
  P : Ps c f.FX (bQ f.env f.wc) ρ s ρ₁ r.2.2 s₁
  T : At c A f ns r.2.1 ρ₁ r.2.2 s₁
  x : XP f.env f.FX ρ₁ r.2.2 s₁ e s'
def pv (XP : lk) (xf : Bool) (r : Fl × aj × St) (e : Value) (s' : Shared) : Prop := xf = true ∧ ∃ ρ₁ s₁, StF c A f ns ρ s XP r e s' ρ₁ s₁
def t6 (ℓ' : aj) (σ' : St) (_ : Unit) (s' : Shared) : Prop := ∃ ρ', Ps c f.FX (bQ f.env f.wc) ρ s ρ' σ' s' ∧ At c A f ns ℓ' ρ' σ' s'
end
def aW (c : Cx) (XP : lk) (Γ : Gam) (A : Around) (EC : Env → (Addr → Prop) → Prop) (ns : NL) (w xf : Bool) (d : S) (st : Stmt) : Prop := ∀ (f : Fm) (ℓ : aj) (ρ : aN) (σ : St) (s : Shared) (r : Fl × aj × St), EC f.env f.FX → (w = true → f.wc = true) → At c A f ns ℓ ρ σ s → ub Γ d ℓ σ = some r →
  wpAny c.M A (exec st f.env) (ni c A f ns ρ s r) (pv c A f ns ρ s XP xf r) s
def g7 (c : Cx) (XP : lk) (Γ : Gam) (A : Around) (EC : Env → (Addr → Prop) → Prop) (ns : NL) (w xf : Bool) (ds : List S) (sts : List Stmt) : Prop := ∀ (f : Fm) (ℓ : aj) (ρ : aN) (σ : St) (s : Shared) (r : Fl × aj × St), EC f.env f.FX → (w = true → f.wc = true) → At c A f ns ℓ ρ σ s → evSs Γ ds ℓ σ = some r →
  wpAny c.M A (execs sts f.env) (ni c A f ns ρ s r) (pv c A f ns ρ s XP xf r) s
structure SndT (c : Cx) (Γ : Gam) (A : Around) (ns : NL) (w : Bool) (t : T) (tx : PySem.Expr) : Prop where
  each : ∀ env, (assignEach [tx] env).map (·.2) = [assign tx env]
  ok : ∀ (f : Fm) (ℓ : aj) (ρ : aN) (σ : St) (s : Shared) (d : V) (v : Value) (r : aj × St), (w = true → f.wc = true) → At c A f ns ℓ ρ σ s → VR c (XX ρ f.FX) ρ s.heap d v → nW Γ t d ℓ σ = some r → wpAny c.M A (assign tx f.env v) (t6 c A f ns ρ s r.1 r.2) aC s
def DA (c : Cx) (FX : Addr → Prop) (ρ : aN) (s : Shared) (σ' : St) : Unit → Shared → Prop := fun H s' => ∃ ρ', Ps c FX No ρ s ρ' σ' s'
structure EachOk (es : List PySem.Expr) (n : Nat) : Prop where
  len : ∀ env, (assignEach es env).length = n
  star : ∀ env, (assignEach es env).findIdx? (·.1) = none
structure SndU (c : Cx) (Γ : Gam) (A : Around) (ns : NL) (os is : List E) (es : List PySem.Expr) : Prop where
  each : EachOk es os.length
  ok : ∀ (f : Fm) (ℓ : aj) (ρ : aN) (σ σ' : St) (s : Shared) (vs : List V) (us : List Value), At c A f ns ℓ ρ σ s → VRs c (XX ρ f.FX) ρ s.heap vs us → cC Γ os is vs ℓ σ = some σ' → wpAny c.M A (assignInOrder ((assignEach es f.env).map (·.2)) us) (DA c f.FX ρ s σ') aC s
def se (c : Cx) (XP : lk) (A : Around) : Prop := ∀ (env : Env) (wc : Bool) (FX : Addr → Prop) (ρ : aN) (σ : St) (s : Shared) (ℓ : aj) (txt : Str) (k : Nat) (p q r u : Pos), EnvOk env → cU env.scope.names (ad 82) = true → WR c ρ s.heap FX σ → FR c A env wc FX ρ ℓ s.heap →
  wpAny c.M A (exec (.Raise (some (.Call (.Name (ad 82) q) [.Constant (.str txt) k p] [] r)) none u) env) (fun H H => False) (fun e s' => XP env FX ρ σ s e s') s
section
variable {c : Cx} {K : Frag} {mb : Str → Option Value} {Γ : Gam} {n : Nat} {A : Around} {XP : lk} {f : Fm} {ρ ρ₁ : aN} {σ σ1 σ' : St} {s s₁ : Shared} {w : Bool} {ℓ ℓ' : aj} {ns : NL}
def tm (f : Fm) (x : Nat) : Prop := f.env.kindOf (ad x) = some .local ∨ (f.wc = true ∧ f.env.kindOf (ad x) = some .cell ∧ (f.env.cells.lookup (ad x)).isSome = true)
theorem jD (hw : w = true → f.wc = true) (T : At c A f ns ℓ ρ σ s) {x : Nat} (h : ju ns w x = true) : x < 91 ∧ tm f x := by
  refine ⟨of_decide_eq_true (ba h).1, ?_⟩
  have hk : f.env.kindOf (ad x) = ns.lookup (ad x) := by unfold Env.kindOf; rw [T.nm]
  refine (bo (ba h).2).imp (fun z => hk.trans (eq_of_beq z)) fun z => ?_
  have e := hk.trans (eq_of_beq (ba z).2)
  exact ⟨hw (ba z).1, e, T.fr.cs _ (.inl e)⟩
theorem ii (T : At c A f ns ℓ ρ σ s) {x : Nat} {p : Pos} {d : V} {v : Value} (h : x < 91 ∧ tm f x) (hv : VR c (XX ρ f.FX) ρ s.heap d v) {Q : Unit → Shared → Prop} {E : Value → Shared → Prop} (k : ∀ s', Ps c f.FX (bQ f.env f.wc) ρ s ρ σ s' → At c A f ns (upd ℓ x d) ρ σ s' → Q () s') : wpAny c.M A (assign (.Name (ad x) p) f.env v) Q E s :=
  wpAny_assign_Name (wpAny_mono (T.fr.store (E := aC) T.eo T.wr h.1 h.2 hv) (fun H s' ⟨P, F⟩ => k s' P ⟨T.eo, T.nm, P.wr, F⟩) fun H H x => x.elim)
theorem oJ (hw : w = true → f.wc = true) : ∀ (xs : List (Nat × Pos)) (vs : List V) (us : List Value) (s : Shared) (ℓ ℓ' : aj), (∀ x ∈ xs, ju ns w x.1 = true) → ak (xs.map (·.1)) vs ℓ = some ℓ' → At c A f ns ℓ ρ σ s → VRs c (XX ρ f.FX) ρ s.heap vs us →
    wpAny c.M A (assignInOrder ((assignEach (xs.map (fun x => PySem.Expr.Name (ad x.1) x.2)) f.env).map (·.2)) us) (t6 c A f ns ρ s ℓ' σ) aC s
  | [], vs, us, s, ℓ, ℓ', _, hb, T, hv => eQ (CL := fun us => wpAny c.M A (assignInOrder ((assignEach ([].map (fun x : Nat × Pos => PySem.Expr.Name (ad x.1) x.2)) f.env).map (·.2)) us) (t6 c A f ns ρ s ℓ' σ) aC s) (show g9 vs (some ℓ) = some ℓ' from hb) hv fun e => by
    cases e; exact wpAny_pure ⟨ρ, Ps.rfl' T.wr, T⟩
  | x :: xs, vs, us, s, ℓ, ℓ', hx, hb, T, hv => eH (CL := fun us => wpAny c.M A (assignInOrder ((assignEach ((x :: xs).map (fun x : Nat × Pos => PySem.Expr.Name (ad x.1) x.2)) f.env).map (·.2)) us) (t6 c A f ns ρ s ℓ' σ) aC s) (show (f7 vs fun v vs => ak (xs.map (·.1)) vs (upd ℓ x.1 v)) = some ℓ' from hb) hv fun v vs u us hb h1 h2 => by
    show wpAny c.M A (do holding us (assign (.Name (ad x.1) x.2) f.env u); assignInOrder _ us) _ aC s
    exact wpAny_bind (wpAny_holding (ii T (jD hw T (hx x (.head _))) h1 fun s₁ P T1 => wpAny_mono (oJ hw xs vs us s₁ _ ℓ' (fun y hy => hx y (.tail _ hy)) hb T1 (h2.mono (P.stands T.fr.own) P.pre)) (fun H s₂ ⟨ρ₂, P2, T2⟩ => ⟨ρ₂, P.trans P2, T2⟩) fun H H x => x))
theorem vE {o i : E} {eo ei : PySem.Expr} {p : Pos} {x y d : V} {v : Value} {σ₂ : St} (t1 : SV c Γ A ns o eo) (t2 : SV c Γ A ns i ei) (T : At c A f ns ℓ ρ σ s) (h1 : a9 Γ o ℓ σ = some (x, σ1)) (h2 : a9 Γ i ℓ σ1 = some (y, σ₂)) (h3 : eY x y d σ₂ = some σ') (hv : VR c (XX ρ f.FX) ρ s.heap d v) :
    wpAny c.M A (assign (.Subscript eo ei p) f.env v) (DA c f.FX ρ s σ') aC s := by
  rw [assign_Subscript]
  exact wpAny_bind (wpAny_holding (t1.use T h1 fun va ρ₁ s₁ T1 P ha => wpAny_bind (wpAny_holding (t2.use T1 h2 fun vb ρ₂ s₂ T2 P2 hb => wpAny_bind (wpAny_standAt (wpAny_bind (wpAny_holding (wpAny_mono (vv T2.wr h3 (P2.vr ha) hb ((P.trans P2).vr hv)) (fun H s₃ ⟨ρ₃, P3⟩ => PySem.wpAny_release ⟨ρ₃, (P.trans P2).trans P3⟩) fun H H x => x))))))))
theorem Ad : SndU c Γ A ns [] [] [] := ⟨⟨fun H => rfl, fun H => rfl⟩, fun f ℓ ρ σ σ' s vs us T hv e => eQ (CL := fun us => wpAny c.M A (assignInOrder [] us) (DA c f.FX ρ s σ') aC s) (show g9 vs (some σ) = some σ' from e) hv fun e => by cases e; exact wpAny_pure ⟨ρ, Ps.rfl' T.wr⟩⟩
theorem xl {o i : E} {os is : List E} {eo ei : PySem.Expr} {es : List PySem.Expr} {p : Pos} (t1 : SV c Γ A ns o eo) (t2 : SV c Γ A ns i ei) (t3 : SndU c Γ A ns os is es) : SndU c Γ A ns (o :: os) (i :: is) (.Subscript eo ei p :: es) := by
  refine ⟨⟨fun env => congrArg (· + 1) (t3.each.len env), fun env => ?_⟩, fun f ℓ ρ σ σ' s vs us T hv e => ?_⟩
  · rw [show assignEach (.Subscript eo ei p :: es) env = (false, assign (.Subscript eo ei p) env) :: assignEach es env from rfl, List.findIdx?_cons, t3.each.star env]; rfl
  · exact eH (CL := fun us => wpAny c.M A (assignInOrder ((assignEach (.Subscript eo ei p :: es) f.env).map (·.2)) us) (DA c f.FX ρ s σ') aC s) (show (f7 vs fun v vs => mp (a9 Γ o ℓ σ) fun x σ1 => mp (a9 Γ i ℓ σ1) fun y σ₂ => (eY x y v σ₂).bind fun σ3 => cC Γ os is vs ℓ σ3) = some σ' from e) hv fun v vs u us e h1 h2 => aA e fun x σ1 e1 e => aA e fun y σ₂ e2 e => bS e fun σ3 e3 e => by
      show wpAny c.M A (do holding us (assign (.Subscript eo ei p) f.env u); assignInOrder _ us) _ aC s
      exact wpAny_bind (wpAny_holding (wpAny_mono (vE t1 t2 T e1 e2 e3 h1) (fun H s₁ ⟨ρ₁, P⟩ => wpAny_mono (t3.ok f ℓ ρ₁ σ3 σ' s₁ vs us (T.ps P) (P.vrs h2) e) (fun H s₂ ⟨ρ₂, P2⟩ => ⟨ρ₂, P.trans P2⟩) fun H H x => x) fun H H x => x))
theorem qc {os : List E} : ∀ {is : List E} {vs : List V} {σ σ' : St}, cC Γ os is vs ℓ σ = some σ' → vs.length = os.length := by
  induction os with
  | nil => exact fun {is vs σ σ'} e => gH (C := fun H => vs.length = 0) (show g9 is (g9 vs (some σ)) = some σ' from e) fun e => gH (C := fun vs => vs.length = 0) e fun H => rfl
  | cons o os ih => exact fun {is vs σ σ'} e => eG (C := fun H => vs.length = os.length + 1) (show (f7 is fun i is => f7 vs fun v vs => mp (a9 Γ o ℓ σ) fun x σ1 => mp (a9 Γ i ℓ σ1) fun y σ₂ => (eY x y v σ₂).bind fun σ3 => cC Γ os is vs ℓ σ3) = some σ' from e) fun i is e => eG (C := fun vs => vs.length = os.length + 1) e fun v vs e => aA e fun x σ1 H e => aA e fun y σ₂ H e => bS e fun σ3 H e => congrArg (· + 1) (ih e)
theorem gG : ∀ (xs : List (Nat × Pos)), EachOk (xs.map fun x => PySem.Expr.Name (ad x.1) x.2) xs.length
  | [] => ⟨fun H => rfl, fun H => rfl⟩
  | x :: xs => ⟨fun env => congrArg (· + 1) ((gG xs).len env), fun env => by
    rw [show assignEach ((x :: xs).map fun x => PySem.Expr.Name (ad x.1) x.2) env = (false, assign (.Name (ad x.1) x.2) env) :: assignEach (xs.map fun x => PySem.Expr.Name (ad x.1) x.2) env from rfl, List.findIdx?_cons, (gG xs).star env]; rfl⟩
theorem dI : ∀ {xs : List Nat} {vs : List V} {ℓ ℓ' : aj}, ak xs vs ℓ = some ℓ' → vs.length = xs.length
  | [], vs, ℓ, ℓ', e => gH (C := fun vs => vs.length = 0) (show g9 vs (some ℓ) = some ℓ' from e) fun H => rfl
  | x :: xs, vs, ℓ, ℓ', e => eG (C := fun vs => vs.length = xs.length + 1) (show (f7 vs fun v vs => ak xs vs (upd ℓ x v)) = some ℓ' from e) fun v vs e => congrArg (· + 1) (dI e)
theorem Dl {x : Nat} {p : Pos} (h : ju ns w x = true) : SndT c Γ A ns w (.nm x) (.Name (ad x) p) := ⟨fun H => rfl, fun f ℓ ρ σ s d v r hw T hv e => ac (C := fun r : aj × St => wpAny c.M A (assign (.Name (ad x) p) f.env v) (t6 c A f ns ρ s r.1 r.2) aC s) (show some (upd ℓ x d, σ) = some r from e) (ii T (jD hw T h) hv fun s' P T' => ⟨ρ, P, T'⟩)⟩
theorem Ar (B : Bs c K mb) {o : E} {x : Nat} {eo : PySem.Expr} {p : Pos} (t1 : SV c Γ A ns o eo) : SndT c Γ A ns w (.att o x) (.Attribute eo (ad x) p) := ⟨fun H => rfl, fun f ℓ ρ σ s d v r hw T hv e => by
  refine aA (show (mp (a9 Γ o ℓ σ) fun w σ1 => oN w fun k => kg σ1 k fun m => l0 m fun ks l => if ks.length ≤ 100 ∧ c9.contains x = true then some (ℓ, σ1.set k (.inst (ca x ks) (cV x d ks l))) else none) = some r from e) fun u σ1 h1 e => oP (C := fun u => a9 Γ o ℓ σ = some (u, σ1) → _) e (fun k e h1 => gg e fun m hm e => qv (C := fun m => σ1[k]? = some m → _) e (fun ks l e hm => aY e fun hc e => ac (C := fun r : aj × St => wpAny c.M A (assign (.Attribute eo (ad x) p) f.env v) (t6 c A f ns ρ s r.1 r.2) aC s) e ?_) hm) h1
  rw [assign_Attribute]
  exact wpAny_bind (wpAny_holding (t1.use T h1 fun va ρ₁ s₁ T1 P ha => wpAny_bind (wpAny_standAt (wpAny_bind (wpAny_holding (wpAny_mono (vt B T1.wr ha hm hc.2 hc.1 (P.vr hv)) (fun H s₂ ⟨ρ₂, P2⟩ => PySem.wpAny_release ⟨ρ₂, (P.trans P2).weak fun b z => z.elim, T.ps (P.trans P2)⟩) fun H H x => x))))))⟩
theorem Au {o i : E} {eo ei : PySem.Expr} {p : Pos} (t1 : SV c Γ A ns o eo) (t2 : SV c Γ A ns i ei) : SndT c Γ A ns w (.sub o i) (.Subscript eo ei p) := ⟨fun H => rfl, fun f ℓ ρ σ s d v r hw T hv e =>
  aA (show (mp (a9 Γ o ℓ σ) fun x σ1 => mp (a9 Γ i ℓ σ1) fun y σ₂ => (eY x y d σ₂).bind fun σ3 => some (ℓ, σ3)) = some r from e) fun x σ1 h1 e => aA e fun y σ₂ h2 e => bS e fun σ3 h3 e => ac (C := fun r : aj × St => wpAny c.M A (assign (.Subscript eo ei p) f.env v) (t6 c A f ns ρ s r.1 r.2) aC s) e (wpAny_mono (vE t1 t2 T h1 h2 h3 hv) (fun H s' ⟨ρ', P⟩ => ⟨ρ', P.weak fun b z => z.elim, T.ps P⟩) fun H H x => x)⟩
theorem vJ (hA : AR n A) {es : List PySem.Expr} {k : Nat} {p : Pos} {m : Nat} (he : EachOk es m) (T : At c A f ns ℓ ρ σ s) {a : Addr} {us : List Value} {vs : List V} (ht : s.heap.IsTuple a us.toArray) (hx : VRs c (XX ρ f.FX) ρ s.heap vs us) (hm : vs.length = m) {ℓ' : aj} {σ' : St}
    (h : ∀ t, Ps c f.FX No ρ s ρ σ t → At c A f ns ℓ ρ σ t → VRs c (XX ρ f.FX) ρ t.heap vs us → wpAny c.M A (assignInOrder ((assignEach es f.env).map (·.2)) us) (t6 c A f ns ρ t ℓ' σ') aC t) : wpAny c.M A (assign (.Tuple es k p) f.env (.ref a)) (t6 c A f ns ρ s ℓ' σ') aC s := by
  refine PySem.wpAny_assign_Tuple hA.handled ht (by rw [he.len, List.size_toArray, ← hx.length, hm]) (he.star _) fun h' hb => ?_
  have P : Ps c f.FX No ρ s ρ σ { s with heap := h', toks := s.toks } := T.wr.grow (Kp.of_all fun b o e => hb b o (Nat.ne_of_lt (Heap.lt_size e)) e) _
  exact wpAny_mono (h { s with heap := h' } P (T.ps P) (P.vrs hx)) (fun H s' ⟨ρ', P2, T2⟩ => ⟨ρ', (P.weak fun b z => z.elim).trans P2, T2⟩) fun H H x => x
theorem nR {es : List PySem.Expr} {k : Nat} {p : Pos} (env : Env) : (assignEach [.Tuple es k p] env).map (·.2) = [assign (.Tuple es k p) env] := rfl
theorem zA (hA : AR n A) (hw : w = true → f.wc = true) {xs : List (Nat × Pos)} {es : List PySem.Expr} {k : Nat} {p : Pos} (he : es = xs.map fun x => PySem.Expr.Name (ad x.1) x.2) (h : ∀ x ∈ xs, ju ns w x.1 = true) (T : At c A f ns ℓ ρ σ s) {a : Addr} {us : List Value} {vs : List V} (ht : s.heap.IsTuple a us.toArray) (hx : VRs c (XX ρ f.FX) ρ s.heap vs us) (hb : ak (xs.map (·.1)) vs ℓ = some ℓ') :
    wpAny c.M A (assign (.Tuple es k p) f.env (.ref a)) (t6 c A f ns ρ s ℓ' σ) aC s :=
  vJ hA (m := xs.length) (by rw [he]; exact gG xs) T ht hx ((dI hb).trans (List.length_map ..)) fun t P T1 hx1 => by rw [he]; exact oJ hw xs vs us t ℓ ℓ' h hb T1 hx1
theorem As (hA : AR n A) {xs : List (Nat × Pos)} {es : List PySem.Expr} {k : Nat} {p : Pos} (he : es = xs.map fun x => PySem.Expr.Name (ad x.1) x.2) (h : ∀ x ∈ xs, ju ns w x.1 = true) : SndT c Γ A ns w (.nms (xs.map (·.1))) (.Tuple es k p) :=
  ⟨nR, fun f ℓ ρ σ s d v r hw T hv e => qy (C := fun v => wpAny c.M A (assign (.Tuple es k p) f.env v) (t6 c A f ns ρ s r.1 r.2) aC s) (show (oR d fun vs => (ak (xs.map (·.1)) vs ℓ).bind fun ρ' => some (ρ', σ)) = some r from e) hv fun l a us ht hx e => bS e fun ℓ₂ hb e => by cases e; exact zA hA hw he h T ht hx hb⟩
theorem xu (hA : AR n A) {os is : List E} {es : List PySem.Expr} {k : Nat} {p : Pos} (h : SndU c Γ A ns os is es) : SndT c Γ A ns w (.subs os is) (.Tuple es k p) := ⟨nR, fun f ℓ ρ σ s d v r hw T hv e =>
  qy (C := fun v => wpAny c.M A (assign (.Tuple es k p) f.env v) (t6 c A f ns ρ s r.1 r.2) aC s) (show (oR d fun vs => (cC Γ os is vs ℓ σ).bind fun σ' => some (ℓ, σ')) = some r from e) hv fun l a us ht hx e => bS e fun σ₂ hb e => by
    cases e
    exact vJ hA h.each T ht hx (qc hb) fun t P T1 hx1 => wpAny_mono (h.ok f ℓ ρ σ σ₂ t l us T1 hx1 hb) (fun H s' ⟨ρ', P2⟩ => ⟨ρ', P2.weak fun b z => z.elim, T1.ps P2⟩) fun H H x => x⟩
end
section
variable {c : Cx} {K : Frag} {mb : Str → Option Value} {Γ : Gam} {n : Nat} {A : Around} {XP : lk} {FX FY IS : Addr → Prop} {ρ ρ₁ ρ' : aN} {σ σ1 σ' : St} {s s₁ s' : Shared} {h h' : Heap} {env : Env} {wc w xf : Bool} {ℓ ℓ' : aj} {ns : NL} {EC : Env → (Addr → Prop) → Prop} {f : Fm}
theorem FR.drop (F : FR c A env wc FX ρ ℓ h) (ke : ∀ b x, ¬ IS b → h.get? b = some x → h'.get? b = some x) (hIS : ∀ b, IS b → FX b) (k : ∀ b, FY b → FX b ∧ ¬ IS b) (own : ∀ b, bQ env wc b → FY b) (hc : ∀ n a, env.cells.lookup n = some a → ¬ IS a) (hfr : ∀ b, bl A b → ¬ IS b) (ownF : ∀ b, bl A b → FY b) :
    FR c A env wc FY ρ ℓ h' := by
  have S := dJ (ρ := ρ) ke hIS k
  have cl : ∀ n a v, env.cells.lookup n = some a → h.IsCell a v → h'.IsCell a v := fun n a v q z => by
    obtain ⟨o, e, hd⟩ := z
    exact ⟨o, ke a o (hc n a q) e, hd⟩
  refine ⟨own, F.nl, fun n a q => ?_, F.cs, F.apart, ?_, fun x v hx hv hk => ?_, (F.fr.all fun b o e z => ke b o (hfr b z) e), ownF⟩
  · obtain ⟨v, z⟩ := F.live n a q; exact ⟨v, cl n a v q z⟩
  · obtain ⟨m, hn, q⟩ := F.ns
    refine ⟨m, hn.at' fun o e => ke _ o (k _ (own _ (.inl rfl))).2 e, fun x v hx hv hk => ?_⟩
    obtain ⟨w, h1, h2⟩ := q x v hx hv hk
    exact ⟨w, h1, h2.mono S (List.prefix_refl _)⟩
  · obtain ⟨a, w, h1, h2, h3⟩ := F.cl x v hx hv hk
    exact ⟨a, w, h1, cl _ _ _ h1 h2, h3.mono S (List.prefix_refl _)⟩
noncomputable def Fm.and (f : Fm) (IS : Addr → Prop) : Fm := ⟨f.env, f.wc, fun b => f.FX b ∨ IS b⟩
theorem iT {s₂ : Shared} (T₁ : At c A f ns ℓ ρ σ s₁) (hK : Kp No s₁.heap s₂.heap) (hr : s₂ = { s₁ with heap := s₂.heap, toks := s₂.toks }) (hIS : ∀ b, IS b → s₁.heap.get? b = none)
    (P : Ps c (f.and IS).FX (fun b => IS b ∨ bQ f.env f.wc b) ρ s₂ ρ' σ' s') (T : At c A (f.and IS) ns ℓ' ρ' σ' s') (ke : ∀ b x, ¬ IS b → s'.heap.get? b = some x → h'.get? b = some x) :
    Ps c f.FX (bQ f.env f.wc) ρ s₁ ρ' σ' { s' with heap := h' } ∧ At c A f ns ℓ' ρ' σ' { s' with heap := h' } ∧ aG (XX ρ' (f.and IS).FX) (XX ρ' f.FX) s'.heap h' := by
  have nI : ∀ {b x}, s₁.heap.get? b = some x → ¬ IS b := fun e z => by have := hIS _ z; rw [e] at this; cases this
  have kk : ∀ b, f.FX b → (f.and IS).FX b ∧ ¬ IS b := fun b z => ⟨.inl z, by obtain ⟨x, e⟩ := (T₁.wr.fx b z).1; exact nI e⟩
  have k1 : ∀ {b x}, s₁.heap.get? b = some x → s₂.heap.get? b = some x := fun e => hK.keep _ _ e id
  have W := P.wr.drop ke (fun b z => .inr z) kk
  refine ⟨⟨P.pre, W, ⟨fun b x e => ?_, fun b x e z => ?_⟩, fun b hb => (P.newp b hb).imp id fun q => ?_, by have := P.rest; rw [this, hr]⟩, ⟨T₁.eo, T₁.nm, W, T.fr.drop ke (fun b z => .inr z) kk T₁.fr.own (fun m a q => ?_) (fun b y => ?_) T₁.fr.ff⟩, dJ ke (fun b z => .inr z) kk⟩
  · obtain ⟨x', e'⟩ := P.old.live b x (k1 e); exact ⟨x', ke b x' (nI e) e'⟩
  · obtain ⟨x', e', u⟩ := P.old.keep b x (k1 e) fun y => y.elim (fun y => z (.inl y)) fun y => y.elim (nI e) fun y => z (.inr y)
    exact ⟨x', ke b x' (nI e) e', u.imp fun y => y.elim id fun y => absurd y (nI e)⟩
  · cases e : s₁.heap.get? b with
    | none => rfl
    | some o => rw [k1 e] at q; cases q
  · obtain ⟨v, x, e, _⟩ := T₁.fr.live m a q; exact nI e
  · obtain ⟨⟨o, _, _, e, _⟩, _⟩ := T₁.fr.fr.live y; exact nI e
def H6 (R : Result → Shared → Prop) (N : Shared → Prop) : Flow → Shared → Prop
  | .next, s => N s
  | .cont, s => N s
  | .brk, s => R (.ok .next) s
  | .ret v, s => R (.ok (.ret v)) s
def Gk (c : Cx) (A : Around) (target : PySem.Expr) (it : Value) (body : List Stmt) (env : Env) (R : Result → Shared → Prop) (N : Shared → Prop) (r : Option Value) (s : Shared) : Prop := match r with
  | none => R (.ok .next) s
  | some v => wpAny c.M A (letOwnedTupleGo target it v) (fun H s₁ => wpAny c.M A (assign target env v) (fun H s₂ => wpAny c.M A (execs body env) (H6 R N) aC s₂) aC s₁) aC s
theorem o3 {R : Result → Shared → Prop} {target : PySem.Expr} {it : Value} {body : List Stmt} (I : Nat → Shared → Prop) (turn : ∀ n s, I n s → wpAny c.M A (pyNext it) (Gk c A target it body env R (ow I n)) aC s) (n : Nat) (h : I n s) : codeAny c.M A (.forLoop target it body [] env) R s := by
  have no : ∀ {E : Value → Shared → Prop} (e : Value) (s : Shared), aC e s → E e s := fun H H z => z.elim
  refine codeAny_forLoop_any I (fun n s hI => wpAny_mono (turn n s hI) (fun r s₁ h => ?_) no) n h
  cases r with
  | none => exact wpAny_execs_nil h
  | some v => exact wpAny_mono h (fun H s₁' h => wpAny_mono h (fun H s₂ h => wpAny_mono h (fun f s₃ h => by cases f <;> exact h) no) no) no
inductive FoI (c : Cx) (A : Around) (f : Fm) (ns : NL) (IS : Addr → Prop) (ρ : aN) (s : Shared) (I : Addr) (l : List V) (go : List V → aj → St → Option (Fl × aj × St)) (r : Fl × aj × St) (i : Nat) (s' : Shared) : Prop where
  | mk {ρ' : aN} {σ' : St} {ℓ' : aj} : Ps c (f.and IS).FX (fun b => IS b ∨ bQ f.env f.wc b) ρ s ρ' σ' s' → At c A (f.and IS) ns ℓ' ρ' σ' s' → ItR c (f.and IS).FX ρ' σ' s'.heap I IS false none l i → go (l.drop i) ℓ' σ' = some r → FoI c A f ns IS ρ s I l go r i s'
noncomputable def DE (Γ : Gam) (b : List S) (x : Nat) : List V → aj → St → Option (Fl × aj × St) := cR (fun ρ' σ' => evSs Γ b ρ' σ') x
theorem ul (hA : AR n A) (hw : w = true → f.wc = true) {x : Nat} {b : List S} {bx : List Stmt} {q : Pos} (h2 : ju ns w x = true) (ih : g7 c XP Γ A (fun H H => True) ns w false b bx) {s₂ : Shared} {I : Addr} {l : List V} (T₁ : At c A f ns ℓ ρ σ s₁) (hK : Kp No s₁.heap s₂.heap) (hr : s₂ = { s₁ with heap := s₂.heap, toks := s₂.toks })
    (hIS : ∀ b, IS b → s₁.heap.get? b = none) {R : Result → Shared → Prop} {r : Fl × aj × St} (hR : ∀ fl s', ni c A f ns ρ s₁ r fl s' → R (.ok fl) s') {i : Nat} (hi : i ≤ l.length) (J : FoI c A f ns IS ρ s₂ I l (DE Γ b x) r i s') :
    wpAny c.M A (pyNext (.ref I)) (Gk c A (.Name (ad x) q) (.ref I) bx f.env R (ow (vV l.length (FoI c A f ns IS ρ s₂ I l (DE Γ b x) r)) (l.length + 1 - i))) aC s' := by
  obtain @⟨ρ', σ', ℓ', P, T, Rr, e⟩ := J
  have nI : ∀ {b x}, s₁.heap.get? b = some x → ¬ IS b := fun e z => by have := hIS _ z; rw [e] at this; cases this
  have ownI : ∀ b, bQ f.env f.wc b → (f.and IS).FX b ∧ ¬ IS b := fun b z => by
    obtain ⟨x, e⟩ := (T₁.wr.fx b (T₁.fr.own b z)).1
    exact ⟨.inl (T₁.fr.own b z), nI e⟩
  by_cases hlt : i < l.length
  · rw [List.drop_eq_getElem_cons hlt] at e
    refine aA (show mp (evSs Γ b (upd ℓ' x l[i]) σ') (fun f p => sz f p (DE Γ b x (l.drop (i + 1)) p.1 p.2)) = some r from e) fun fl p hb e => wpAny_mono (lQ T.wr Rr (.Name (ad x) q) (fun z => nomatch z) (d := l[i]) (List.getElem?_eq_getElem hlt)) (fun v? t₁ ⟨v, hv, hx⟩ => ?_) fun H H x => x
    rw [hv]
    refine wpAny_mono hx (fun H t₂ ⟨P1, hv1, R1⟩ => ?_) fun H H x => x
    have T1 : At c A (f.and IS) ns ℓ' ρ' σ' t₂ := ⟨T.eo, T.nm, P1.wr, T.fr.psO P1 T.wr fun b z => ⟨.inr z, fun y => (ownI _ (.inl rfl)).2 (y ▸ z), fun m y => by obtain ⟨v, o, e, _⟩ := T₁.fr.live m b y; exact nI e z, fun y => by obtain ⟨⟨o, _, _, e, _⟩, _⟩ := T₁.fr.fr.live y; exact nI e z⟩⟩
    refine ii T1 (jD (f := f.and IS) hw T1 h2) hv1 fun t₃ P2 T2 => ?_
    have R2 := R1.ps P2 ownI P1.wr (cL.mpr fun k z => nomatch z)
    have P3 : Ps c (f.and IS).FX (fun b => IS b ∨ bQ f.env f.wc b) ρ s₂ ρ' σ' t₃ := (P.trans (P1.weak fun b z => .inl z)).trans (P2.weak fun b z => .inr z)
    refine wpAny_mono (ih (f.and IS) _ ρ' σ' t₃ (fl, p) trivial hw T2 hb) (fun fw t₄ ⟨ρ4, P4, T4, hf⟩ => ?_) fun H H x => nomatch x.1
    have P5 := P3.trans (P4.weak fun b z => .inr z)
    cases hf with
    | next => exact vV.step hlt ⟨P5, T4, R2.ps P4 ownI T2.wr (cL.mpr fun k z => nomatch z), e⟩
    | cont => exact vV.step hlt ⟨P5, T4, R2.ps P4 ownI T2.wr (cL.mpr fun k z => nomatch z), e⟩
    | ret hv' =>
      cases e
      obtain ⟨a1, a2, a3⟩ := iT T₁ hK hr hIS P5 T4 (h' := t₄.heap) fun b x H e => e
      exact hR _ _ ⟨ρ4, a1, a2, .ret (hv'.mono a3 (List.prefix_refl _))⟩
  · rw [List.drop_eq_nil_iff.mpr (Nat.le_of_not_lt hlt)] at e
    cases e
    refine wpAny_mono (oK hA.handled T.wr Rr (List.getElem?_eq_none_iff.mpr (Nat.le_of_not_lt hlt))) (fun v? t₁ ⟨h0, h', ht, ke⟩ => ?_) fun H H x => x
    rw [h0, ht]
    obtain ⟨a1, a2, a3⟩ := iT T₁ hK hr hIS P T ke
    exact hR _ _ ⟨ρ', a1, a2, .next⟩
theorem ni.then {r : Fl × aj × St} {fl : Flow} (P : Ps c f.FX (bQ f.env f.wc) ρ s ρ₁ σ1 s₁) (x : ni c A f ns ρ₁ s₁ r fl s') : ni c A f ns ρ s r fl s' := by
  obtain ⟨ρ', P', F, z⟩ := x
  exact ⟨ρ', P.trans P', F, z⟩
theorem pv.then {r : Fl × aj × St} {e : Value} (P : Ps c f.FX (bQ f.env f.wc) ρ s ρ₁ σ1 s₁) (x : pv c A f ns ρ₁ s₁ XP xf r e s') : pv c A f ns ρ s XP xf r e s' := by
  obtain ⟨h1, ρ', s'', h2, P', F, z⟩ := x
  exact ⟨h1, ρ', s'', h2, P.trans P', F, z⟩
theorem Ps.ownW {c : Cx} (P : Ps c f.FX No ρ s ρ₁ σ1 s₁) : Ps c f.FX (bQ f.env f.wc) ρ s ρ₁ σ1 s₁ := P.weak fun H z => z.elim
theorem A9 (hA : AR n A) {x : Nat} {it : E} {b : List S} {ix : PySem.Expr} {bx : List Stmt} {p q : Pos} (h2 : ju ns w x = true) (h3 : fu ix = false) (t : SV c Γ A ns it ix) (ih : g7 c XP Γ A (fun H H => True) ns w false b bx) : aW c XP Γ A EC ns w xf (.for_ x it b) (.For (.Name (ad x) q) ix bx [] p) := by
  intro f ℓ ρ σ s r ec hw T e
  rw [q8] at e
  refine aA e fun iv σ1 hi e => aA e fun o l hit e => aY e fun ho e => wpAny_For (t.use T hi fun xv ρ₁ s₁ T₁ P hv => wpAny_mono (mQ T₁.wr hv hit) (fun it' s₂ hq => ?_) fun H H x => x.elim) (kF h3)
  cases o with
  | some k => cases ho
  | none =>
    obtain @⟨I, IS, _, hK, hr, hIS, hR⟩ := hq
    have T₂ : At c A (f.and IS) ns ℓ ρ₁ σ1 s₂ := ⟨T.eo, T.nm, T₁.wr.enter hK (fun b z => z.imp id fun z => hIS b z) fun b z => .inl z, T₁.fr.aside hK (fun b z => z.imp id fun z => (hIS b z).1) fun b z => .inl z⟩
    exact o3 (vV l.length (FoI c A f ns IS ρ₁ s₂ I l (DE Γ b x) r)) (fun k s' ⟨i, hi, hk, J⟩ => by rw [hk]; exact ul hA hw h2 ih T₁ hK hr (fun b z => (hIS b z).1) (fun fl s' z => z.then P.ownW) hi J) _ ⟨0, Nat.zero_le _, rfl, ⟨Ps.rfl' T₂.wr, T₂, hR, e⟩⟩
theorem FR.psM (P : Ps c FX No ρ s ρ' σ' s') (hm : ¬ MX ρ env.locals) (F : FR c A env wc FX ρ ℓ s.heap) : FR c A env wc FX ρ' ℓ s'.heap := by
  have kc : ∀ n a, env.cells.lookup n = some a → ∀ o, s.heap.get? a = some o → ∃ o', s'.heap.get? a = some o' ∧ lj (FX a) o o' := fun n a q o e => P.old.keep a o e fun z => z.elim (F.nl n a q).2 fun z => z
  refine ⟨F.own, fun n a q => ⟨(F.nl n a q).1, P.mx ?_ (F.nl n a q).2⟩, fun n a q => ?_, F.cs, F.apart, ?_, fun x v hx hv hk => ?_, F.fr.ps P fun H H z => z.elim, F.ff⟩
  · obtain ⟨v, o, e, _⟩ := F.live n a q; exact ⟨o, e⟩
  · obtain ⟨v, z⟩ := F.live n a q; exact ⟨v, fT z (kc n a q)⟩
  · obtain ⟨m, hn, k⟩ := F.ns
    refine ⟨m, nH hn fun o e => P.old.keep _ o e fun z => z.elim hm fun z => z, fun x v hx hv hk => ?_⟩
    obtain ⟨w, h1, h2⟩ := k x v hx hv hk
    exact ⟨w, h1, P.vr h2⟩
  · obtain ⟨a, w, h1, h2, h3⟩ := F.cl x v hx hv hk
    exact ⟨a, w, h1, fT h2 (kc _ a h1), P.vr h3⟩
theorem pV {mu : Bool} {D C : Addr} {ρ' : aN} {σE : St} {s' : Shared} {dw : List Value} {nn : Nat} {vs : List V} {m : Str → Option Value} (W : WR c ρ s.heap FX σ) (r : CoR c FX ρ s vs σE D C ρ' s' dw m nn) :
    ∃ ρ₂, Ps c (fun b => FX b ∨ b = C) No ρ s ρ₂ (vY mu vs σE).2 s' ∧ VR c (XX ρ₂ fun b => FX b ∨ b = C) ρ₂ s'.heap (vY mu vs σE).1 (.ref D) := by
  obtain ⟨ρ₂, hp, hn, W', hv⟩ := rD (mu := mu) (FZ := fun b => FX b ∨ b = C) r.P.wr r.at_ r.v (fun b z => z.imp id .inr) (.inr (.inl rfl)) fun z => z.elim (fun z => (r.hF W z).1 rfl) r.ne
  refine ⟨ρ₂, ⟨r.P.pre.trans hp, W', r.P.old.fewer fun b z => ?_, fun b hb => (hn b hb).elim (r.P.newp b) fun q => .inr (by rw [q]; exact r.fD), r.P.rest⟩, hv⟩
  exact z.elim (fun z => .inl (.inl z)) fun z => z.elim (fun z => .inr (.inr (by rw [z]; exact r.fD))) fun z => .inl (.inr z)
theorem t4 {y : Nat} {eelt tgt eit : PySem.Expr} {eifs : List PySem.Expr} {sc : Scope} {p q : Pos} {l : Nat} (T : At c A f ns ℓ ρ σ s) (hl : ns.lookup (ad y) = some .local) (hsc : sc.names.all (fun z => !(z.1 == ad y && (z.2 == .local || z.2 == .cell))) = true) (hline : (q.line == p.line) = true) :
    swapsWith (.ListComp eelt [⟨tgt, eit, eifs, 0⟩] sc p) (some (.Name (ad y) q)) l f.env = pure true := by
  have hb : f.env.blockKind = .function := by unfold Env.blockKind; rw [T.eo.kind]; rfl
  have kl : f.env.kindOf (ad y) = some .local := by unfold Env.kindOf; rw [T.nm]; exact hl
  show (pure _ : Sem Bool) = pure true
  have ha : (sc.names.any fun z => z.1 == ad y && (z.2 == .local || z.2 == .cell)) = false := List.any_eq_false.mpr fun z hz => by rw [Bool.not_eq_true]; exact bn (List.all_eq_true.mp hsc z hz)
  exact congrArg pure (show (f.env.blockKind == .function && f.env.kindOf (ad y) == some .local && q.line == p.line && !(sc.names.any fun z => z.1 == ad y && (z.2 == .local || z.2 == .cell))) = true by rw [hb, kl, hline, ha]; rfl)
theorem Ac (hA : AR n A) {y : Nat} {xs : List Nat} {elt it : E} {ifs : List E} {mu : Bool} {eelt tgt eit : PySem.Expr} {eifs : List PySem.Expr} {sc : Scope} {p q r : Pos} (hy : y < 91) (hl : ns.lookup (ad y) = some .local)
    (hsc : sc.names.all (fun z => !(z.1 == ad y && (z.2 == .local || z.2 == .cell))) = true) (hline : (q.line == p.line) = true) (h1 : fu eit = false) (h2 : fK sc.names xs tgt = true) (h3 : pa ns xs sc = true)
    (ihi : SV c Γ A ns it eit) (ihe : SV c Γ A (cf ns sc.names) elt eelt) (ihf : SA c Γ A (cf ns sc.names) ifs eifs) :
    aW c XP Γ A EC ns w xf (.asg (.nm y) (.comp xs elt it ifs mu false)) (.Assign [.Name (ad y) q] (.ListComp eelt [⟨tgt, eit, eifs, 0⟩] sc p) r) := by
  have S := qE h3
  intro f ℓ ρ σ s r' ec hw T e
  rw [mF] at e
  refine aA e fun v σ' e1 e => ac (C := fun r' => wpAny c.M A (exec (.Assign [.Name (ad y) q] (.ListComp eelt [⟨tgt, eit, eifs, 0⟩] sc p) r) f.env) (ni c A f ns ρ s r') (pv c A f ns ρ s XP xf r') s) (show some (Fl.next, upd ℓ y v, σ') = some r' from e) ?_
  refine ku (C := fun vr => wpAny c.M A (exec (.Assign [.Name (ad y) q] (.ListComp eelt [⟨tgt, eit, eifs, 0⟩] sc p) r) f.env) (ni c A f ns ρ s (Fl.next, upd ℓ y vr.1, vr.2)) (pv c A f ns ρ s XP xf (Fl.next, upd ℓ y vr.1, vr.2)) s) e1 fun iv σ1 o l vs σ₂ hi hit H hgo => ?_
  have kl : tm f y := .inl (by unfold Env.kindOf; rw [T.nm]; exact hl)
  rw [exec_Assign_Name_used _ _ _ _ (t4 T hl hsc hline)]
  obtain ⟨vr, hvr⟩ : ∃ vr, vY mu vs σ₂ = vr := ⟨_, rfl⟩
  rw [hvr]
  refine wpAny_bind (wpAny_standAt (wpAny_bind ?_))
  show wpAny _ A (do let _ ← comprehension (.ListComp eelt [⟨tgt, eit, eifs, 0⟩] sc p) sc f.env _ (newList []) false (eval eit f.env) (some (assign (.Name (ad y) q) f.env))) _ _ s
  refine wpAny_bind (wpAny_mono (wpAny_comprehension_free (use := some (assign (.Name (ad y) q) f.env)) (Q := fun H s' => ni c A f ns ρ s (Fl.next, upd ℓ y vr.1, vr.2) .next s') rfl (kF h1) (cg (iJ T.nm S T.fr)) S.kind S.locals
    (ihi.use T hi fun xv ρ₁ s₁ T₁ P hv => wpAny_mono (mQ T₁.wr hv hit) (fun it' s₂ hq => ?_) fun H H x => x.elim)) (fun H s' hq => wpAny_pure (wpAny_pure hq)) fun H H e => e)
  obtain ⟨hK, hr, hIS, hR⟩ := hq
  refine wpAny_mono (iI hA T.eo T.nm h2 S ihe ihf T₁.wr T₁.fr hK hr hIS hR (fun z => nomatch z) (fE hit) hgo (iter := eit) (p := p)
    (RR := fun acc C => compPost c.M A (pv c A f ns ρ s XP xf (Fl.next, upd ℓ y vr.1, vr.2)) (some (assign (.Name (ad y) q) f.env)) (fun H s' => ni c A f ns ρ s (Fl.next, upd ℓ y vr.1, vr.2) .next s') acc C) fun D C ρ' s' dw m nn R => ?_) (fun H H x => wpAny_mono x (fun H H x => x) fun H H x => x.elim) fun H H x => x.elim
  obtain ⟨ρ₂, P2, hv2⟩ := pV (mu := mu) T₁.wr R
  rw [hvr] at P2 hv2
  have F2 : FR c A f.env f.wc (fun b => f.FX b ∨ b = C) ρ₂ ℓ s'.heap := (T₁.fr.aside (s₀ := s₁) Kp.rfl' (FY := fun b => f.FX b ∨ b = C) (fun b z => z.imp id fun z => by rw [z]; exact R.fC) fun b z => .inl z).psM P2 (T₁.wr.fx _ (T₁.fr.own _ (.inl rfl))).2.2
  refine ii (f := f.and fun b => b = C) ⟨T.eo, T.nm, P2.wr, F2⟩ ⟨hy, kl⟩ hv2 fun s₃ P3 T3 => ?_
  have hC3 : s₃.heap.Ns C m := nH R.ns fun x e => P3.old.keep C x e fun z => z.elim (P2.wr.fx C (.inr rfl)).2.2 fun z => by
    obtain ⟨x', e'⟩ := (T₁.wr.fx C (T₁.fr.own C z)).1
    rw [R.fC] at e'; cases e'
  refine ⟨m, hC3, fun h' hs => ?_⟩
  obtain ⟨a1, a2, a3⟩ := iT (IS := fun b => b = C) T₁ (s₂ := s₁) Kp.rfl' rfl (fun b z => by rw [z]; exact R.fC) ((P2.weak fun b z => z.elim).trans (P3.weak fun b z => .inr z)) T3 (h' := h') fun b x n e => (hs.2 b n).trans e
  exact ⟨ρ₂, P.ownW.trans a1, a2, .next⟩
end
section
variable {c : Cx} {K : Frag} {mb : Str → Option Value} {Γ : Gam} {n : Nat} {A : Around} {XP : lk} {ρ ρ₁ ρ' : aN} {σ σ1 σ' : St} {s s₁ s' : Shared} {env : Env} {w xf : Bool} {ns : NL} {EC : Env → (Addr → Prop) → Prop}
theorem le {x : PySem.Expr} {l : Nat} (h : iS x = false) : swapsWith x none l env = pure false := by
  cases x <;> first | rfl | exact Bool.noConfusion h
theorem qL {x t : PySem.Expr} {l : Nat} (h : iS x = false ∨ qm t = false) : swapsWith x (some t) l env = pure false := by
  rcases h with h | h
  · cases x <;> first | rfl | exact Bool.noConfusion h
  · cases x <;> first | rfl | (cases t <;> first | rfl | exact Bool.noConfusion h)
theorem Dg {d : E} {x : PySem.Expr} {p} (h1 : iS x = false) (t : SV c Γ A ns d x) : aW c XP Γ A EC ns w xf (.ex d) (.Expr x p) := fun f ℓ ρ σ s r ec hw T e => by
  rw [xT] at e
  exact aA e fun v σ1 h e => ac (C := fun r => wpAny c.M A (exec (.Expr x p) f.env) (ni c A f ns ρ s r) (pv c A f ns ρ s XP xf r) s) e (wpAny_Expr_any (t.use T h fun H ρ₁ s₁ T₁ P H => ⟨ρ₁, P.ownW, T₁, .next⟩) (by unfold interactive; rw [T.eo.kind]; rfl) (le h1))
theorem Aa {d : E} {x : PySem.Expr} {p} (t : SV c Γ A ns d x) : aW c XP Γ A EC ns w xf (.ret d) (.Return (some x) p) := fun f ℓ ρ σ s r ec hw T e => by
  rw [q9] at e
  exact aA e fun v σ1 h e => ac (C := fun r => wpAny c.M A (exec (.Return (some x) p) f.env) (ni c A f ns ρ s r) (pv c A f ns ρ s XP xf r) s) e (wpAny_Return_some (t.use T h fun H ρ₁ s₁ T₁ P hv => ⟨ρ₁, P.ownW, T₁, .ret hv⟩))
theorem A8 {t : T} {d : E} {tx x : PySem.Expr} {p} (h1 : iS x = false ∨ qm tx = false) (h2 : ∀ env : Env, env.scope.names = ns → swappedStores [tx] x env = pure none) (t1 : SndT c Γ A ns w t tx) (t2 : SV c Γ A ns d x) : aW c XP Γ A EC ns w xf (.asg t d) (.Assign [tx] x p) := fun f ℓ ρ σ s r ec hw T e => by
  rw [mF] at e
  refine aA e fun v σ1 h e => bS e fun r₂ h4 e => ac (C := fun r => wpAny c.M A (exec (.Assign [tx] x p) f.env) (ni c A f ns ρ s r) (pv c A f ns ρ s XP xf r) s) e (wpAny_Assign_stores (t2.use T h fun u ρ₁ s₁ T₁ P hv => ?_) (qL h1) (h2 f.env T.nm))
  rw [t1.each]
  exact wpAny_mono (t1.ok f ℓ ρ₁ σ1 s₁ v u r₂ hw T₁ hv h4) (fun H s₂ ⟨ρ₂, P2, T2⟩ => ⟨ρ₂, P.ownW.trans P2, T2, .next⟩) fun H H x => x.elim
theorem yp {t : E} {a b : List S} {tx : PySem.Expr} {ax bx : List Stmt} {p} (t1 : SB c Γ A ns t tx) (t2 : g7 c XP Γ A EC ns w xf a ax) (t3 : g7 c XP Γ A EC ns w xf b bx) : aW c XP Γ A EC ns w xf (.if_ t a b) (.If tx ax bx p) := fun f ℓ ρ σ s r ec hw T e => by
  rw [lC] at e
  refine aA e fun u σ1 h1 e => gI (C := fun u => a9 Γ t ℓ σ = some (u, σ1) → _) e (fun b e h1 => wpAny_If (t1.use T h1 fun ρ₁ s₁ T₁ P => ?_)) h1
  cases b with
  | true => rw [if_pos rfl] at e ⊢; exact wpAny_mono (t2 f ℓ ρ₁ σ1 s₁ r ec hw T₁ e) (fun H H x => x.then P.ownW) fun H H x => x.then P.ownW
  | false => rw [if_neg Bool.false_ne_true] at e ⊢; exact wpAny_mono (t3 f ℓ ρ₁ σ1 s₁ r ec hw T₁ e) (fun H H x => x.then P.ownW) fun H H x => x.then P.ownW
theorem Dh {t : E} {tx : PySem.Expr} {txt : Str} {k : Nat} {p q r u v : Pos} (Z : se c XP A) (h2 : cU ns (ad 82) = true) (t1 : SB c Γ A ns t tx) : aW c XP Γ A EC ns w true (.rz t) (.If tx [.Raise (some (.Call (.Name (ad 82) q) [.Constant (.str txt) k p] [] r)) none u] [] v) := fun f ℓ ρ σ s rr ec hw T e => by
  rw [u0] at e
  refine aA e fun x σ1 h1 e => gI (C := fun x => a9 Γ t ℓ σ = some (x, σ1) → _) e (fun b e h1 => wpAny_If (t1.use T h1 fun ρ₁ s₁ T₁ P => ?_)) h1
  cases b with
  | true =>
    rw [if_pos rfl] at e ⊢
    cases e
    exact wpAny_execs_cons (wpAny_mono (Z f.env f.wc f.FX ρ₁ σ1 s₁ ℓ _ _ _ _ _ _ T.eo (by rw [T.nm]; exact h2) T₁.wr T₁.fr) (fun H H x => x.elim) fun e' s₂ x => ⟨rfl, ρ₁, s₁, rfl, P.ownW, T₁, x⟩)
  | false =>
    rw [if_neg Bool.false_ne_true] at e ⊢
    cases e
    exact wpAny_execs_nil ⟨ρ₁, P.ownW, T₁, .next⟩
theorem xk {p} : aW c XP Γ A EC ns w xf .cont (.Continue p) := fun f ℓ ρ σ s r ec hw T e => ac (C := fun r => wpAny c.M A (exec (.Continue p) f.env) (ni c A f ns ρ s r) (pv c A f ns ρ s XP xf r) s) (show some (Fl.cont, ℓ, σ) = some r from e) (wpAny_Continue ⟨ρ, Ps.rfl' T.wr, T, .cont⟩)
theorem j1 : g7 c XP Γ A EC ns w xf [] [] := fun f ℓ ρ σ s r ec hw T e => ac (C := fun r => wpAny c.M A (execs [] f.env) (ni c A f ns ρ s r) (pv c A f ns ρ s XP xf r) s) (show some (Fl.next, ℓ, σ) = some r from e) (wpAny_execs_nil ⟨ρ, Ps.rfl' T.wr, T, .next⟩)
theorem fZ {d : S} {ds : List S} {st : Stmt} {sts : List Stmt} (t1 : aW c XP Γ A EC ns w xf d st) (t2 : g7 c XP Γ A EC ns w xf ds sts) : g7 c XP Γ A EC ns w xf (d :: ds) (st :: sts) := fun f ℓ ρ σ s r ec hw T e => by
  rw [bU] at e
  refine aA e fun fl p h1 e => wpAny_execs_cons (wpAny_mono (t1 f ℓ ρ σ s (fl, p) ec hw T h1) (fun fw s₁ ⟨ρ₁, P, T₁, hf⟩ => ?_) fun e' s₁ x => ?_)
  · cases hf with
    | next => exact wpAny_mono (t2 f p.1 ρ₁ p.2 s₁ r ec hw T₁ e) (fun H H x => x.then P) fun H H x => x.then P
    | cont => cases e; exact ⟨ρ₁, P, T₁, .cont⟩
    | ret hv => cases e; exact ⟨ρ₁, P, T₁, .ret hv⟩
  · obtain ⟨hxf, ρ₁, s₂, hx, P, T₁, x⟩ := x
    cases hx
    cases e
    exact ⟨hxf, ρ₁, s₂, rfl, P, T₁, x⟩
end
section
variable {prog : Program} {w : World} {A : Around} {s : Shared}
theorem je {R : Result → Shared → Prop} {a : Addr} {o : Obj} {fd : FuncData} {body : List Stmt} {vals : List Value} {binds : List (Str × Value)}
    (hroom : A.depth < recursionLimit) (ho : s.heap.get? a = some o) (hdata : o.data = .func fd) (hlim : s.heap.NoLimit) (hcd : s.heap.CodeRec fd.code fd.qualname)
    (hbody : fd.body = .stmts body) (hbind : BindsTo s fd ⟨vals, []⟩ binds) (hclo : fd.closure = [])
    (hkind : ∀ x ∈ binds, fd.scope.names.lookup x.1 = some .local ∨ (fd.scope.names.lookup x.1 = some .cell ∧ ((cellsFrom (s.heap.objs.size + 1) fd.scope.names []).lookup x.1).isSome = true))
    (h : ∀ s₁, InCallC s (callEnvC fd s.heap.objs.size a).locals (bindL (callEnvC fd s.heap.objs.size a).kindOf binds fun H => none) (callEnvC fd s.heap.objs.size a).cells
        (bindC (callEnvC fd s.heap.objs.size a).kindOf binds fun H => none) s₁ →
      wpAny (model prog w) (A.deeper (callEnvC fd s.heap.objs.size a)) (execs body (callEnvC fd s.heap.objs.size a)) (fun f s' => R (.ok (.ret (match f with | .ret v => v | _ => .none))) s')
        (fun e s' => wpAny (model prog w) (A.deeper (callEnvC fd s.heap.objs.size a)) (leaving (callEnvC fd s.heap.objs.size a) e) (fun H s'' => R (.error e) s'') (fun e' s'' => R (.error e') s'') s') s₁)
    (hco : fd.scope.isCoroutine = false) (hgen : fd.scope.isGenerator = false) (hk : fd.scope.kind = .function) :
    codeAny (model prog w) A (.call (.ref a) ⟨vals, []⟩) R s := by
  refine codeAny_call_function hroom ho hdata hco hgen hbody hcd (hbind _ _ _ _ ?_)
  rw [hclo]
  refine wpAny_newFunctionEnv_cells hk hkind fun env he s' x => ?_
  subst he
  exact ⟨hlim.keeps x.toInCall.keep, codeAny_func (h s' x)⟩
end
structure FnB (c : Cx) (a : Addr) (o : Obj) (fd : FuncData) (ps : List Nat) (body : List Stmt) (ns : NL) : Prop where
  at_ : c.B.get? a = some o
  data : o.data = .func fd
  body : fd.body = .stmts body
  clo : fd.closure = []
  glob : fd.globals = mainGlobals
  bi : fd.builtins = builtinsNs
  names : fd.scope.names = ns
  kind : fd.scope.kind = .function
  co : fd.scope.isCoroutine = false
  gen : fd.scope.isGenerator = false
  code : c.B.CodeRec fd.code fd.qualname
  bind : ∀ (s : Shared) (vals : List Value), (∀ b o, c.B.get? b = some o → s.heap.get? b = some o) → vals.length = ps.length → BindsTo s fd ⟨vals, []⟩ ((ps.map ad).zip vals)
  par : ∀ p ∈ ps, p < 91 ∧ (ns.lookup (ad p) = some .local ∨ ns.lookup (ad p) = some .cell)
  free : ∀ n, ns.lookup n ≠ some .free
  some1 : (∃ p ∈ ps, ns.lookup (ad p) = some .local) ∨ fd.qualname ++ ".<locals>." = D0
theorem bI : ∀ (names : NL) (k : Nat) (acc : List (Str × Addr)) (n : Str), (names.lookup n = some .cell ∨ (acc.lookup n).isSome = true) → ((cellsFrom k names acc).lookup n).isSome = true
  | [], k, acc, n, h => by
    rcases h with h | h
    · cases h
    · exact h
  | (m, kd) :: r, k, acc, n, h => by
    unfold cellsFrom
    by_cases hm : n = m
    · subst hm
      rw [List.lookup_cons_self] at h
      by_cases hc : kd = .cell
      · subst hc
        rw [if_pos (by decide)]
        exact bI r _ _ _ (.inr (by rw [List.lookup_cons_self]; rfl))
      · rw [if_neg (by simpa using hc)]
        rcases h with h | h
        · cases h; exact absurd rfl hc
        · exact bI r _ _ _ (.inr h)
    · have hb : (n == m) = false := by simpa using hm
      rw [List.lookup_cons, hb] at h
      split
      · exact bI r _ _ _ (h.imp id fun h => by rw [List.lookup_cons, hb]; exact h)
      · exact bI r _ _ _ h
section
variable {c : Cx} {K : Frag} {mb : Str → Option Value} {Γ : Gam} {n : Nat} {A : Around} {XP : lk} {FX FY : Addr → Prop} {ρ ρ₁ ρ' : aN} {σ σ1 σ' : St} {s s₁ s' : Shared} {h h' : Heap} {env : Env} {wc w xf : Bool} {ℓ ℓ' : aj} {ns : NL} {EC : Env → (Addr → Prop) → Prop}
def yz (c : Cx) (X : Addr → Prop) (ρ : aN) (h : Heap) (ko : Str → Option NameKind) (ℓ : aj) (m cm : Str → Option Value) : Prop := ∀ x v, x < 91 → ℓ x = some v → ∃ w, VR c X ρ h v w ∧ (ko (ad x) = some .local → m (ad x) = some w) ∧ (ko (ad x) ≠ some .local → cm (ad x) = some w)
theorem yz.one {X : Addr → Prop} {ko : Str → Option NameKind} {m cm : Str → Option Value} {p : Nat} {d : V} {u : Value} (ih : yz c X ρ h ko ℓ m cm) (hp : p < 91) (hv : VR c X ρ h d u) :
    yz c X ρ h ko (upd ℓ p d) (if ko (ad p) = some .local then fun y => if y = ad p then some u else m y else m) (if ko (ad p) = some .local then cm else fun y => if y = ad p then some u else cm y) := fun x v hx hxv => by
  by_cases e : x = p
  · subst e
    rw [show upd ℓ x d x = some d from if_pos rfl] at hxv
    cases hxv
    exact ⟨u, hv, fun z => by rw [if_pos z, if_pos rfl], fun z => by rw [if_neg z, if_pos rfl]⟩
  · rw [show upd ℓ p d x = ℓ x from if_neg e] at hxv
    obtain ⟨w, h1, h2, h3⟩ := ih x v hx hxv
    have ne : ad x ≠ ad p := fun z => e (mW x hx p hp z)
    refine ⟨w, h1, fun z => ?_, fun z => ?_⟩
    · split
      · exact (if_neg ne).trans (h2 z)
      · exact h2 z
    · split
      · exact h3 z
      · exact (if_neg ne).trans (h3 z)
theorem nO {X : Addr → Prop} {ko : Str → Option NameKind} : ∀ {ps : List Nat} {ds : List V} {vals : List Value} {ℓ ℓ' : aj} {m cm : Str → Option Value}, (∀ p ∈ ps, p < 91) → ak ps ds ℓ = some ℓ' → VRs c X ρ h ds vals → yz c X ρ h ko ℓ m cm →
    yz c X ρ h ko ℓ' (bindL ko ((ps.map ad).zip vals) m) (bindC ko ((ps.map ad).zip vals) cm)
  | [], ds, vals, ℓ, ℓ', m, cm, _, hb, hv, ih => eQ (CL := fun vals => yz c X ρ h ko ℓ' (bindL ko (([].map ad).zip vals) m) (bindC ko (([].map ad).zip vals) cm)) (show g9 ds (some ℓ) = some ℓ' from hb) hv fun e => by cases e; exact ih
  | p :: ps, ds, vals, ℓ, ℓ', m, cm, hp, hb, hv, ih => eH (CL := fun vals => yz c X ρ h ko ℓ' (bindL ko (((p :: ps).map ad).zip vals) m) (bindC ko (((p :: ps).map ad).zip vals) cm)) (show (f7 ds fun v vs => ak ps vs (upd ℓ p v)) = some ℓ' from hb) hv fun d ds u vals hb h1 h2 =>
    nO (ps := ps) (fun q hq => hp q (List.mem_cons_of_mem _ hq)) hb h2 (ih.one (hp p List.mem_cons_self) h1)
structure BdR (c : Cx) (env : Env) (FX FY : Addr → Prop) (ρ : aN) (s : Shared) (r : Fl × aj × St) (fl : Flow) (s' : Shared) (ρ' : aN) (FZ : Addr → Prop) : Prop where
  lo : ∀ b, FX b → FZ b
  hi : ∀ b, FZ b → FY b
  P : Ps c FZ (bQ env true) ρ s ρ' r.2.2 s'
  fl : FlO c (XX ρ' FZ) ρ' s'.heap r.1 fl
def Gj (c : Cx) (env : Env) (FX FY : Addr → Prop) (ρ : aN) (s : Shared) (r : Fl × aj × St) (fl : Flow) (s' : Shared) : Prop := ∃ ρ' FZ, BdR c env FX FY ρ s r fl s' ρ' FZ
structure BdF (c : Cx) (A : Around) (XP : lk) (env : Env) (FX FY : Addr → Prop) (ρ : aN) (s : Shared) (r : Fl × aj × St) (e : Value) (s' : Shared) (ρ₁ : aN) (s₁ : Shared) (FZ : Addr → Prop) (wc : Bool) : Prop where
  exc : r.1 = .exc
  lo : ∀ b, FX b → FZ b
  hi : ∀ b, FZ b → FY b
  P : Ps c FZ (bQ env true) ρ s ρ₁ r.2.2 s₁
  F : FR c A env wc FZ ρ₁ r.2.1 s₁.heap
  x : XP env FZ ρ₁ r.2.2 s₁ e s'
def H4 (c : Cx) (A : Around) (XP : lk) (xf : Bool) (env : Env) (FX FY : Addr → Prop) (ρ : aN) (s : Shared) (r : Fl × aj × St) (e : Value) (s' : Shared) : Prop := xf = true ∧ ∃ ρ₁ s₁ FZ wc, BdF c A XP env FX FY ρ s r e s' ρ₁ s₁ FZ wc
theorem bQ.all (b : Addr) (z : bQ env wc b) : bQ env true b := z.imp id fun z => ⟨rfl, z.2⟩
structure BdT (c : Cx) (A : Around) (EC : Env → (Addr → Prop) → Prop) (ns : NL) (env : Env) (FX FY : Addr → Prop) : Prop where
  ec : EC env fun b => FX b ∨ b = env.locals
  own : ∀ b, FY b → FX b ∨ bQ env true b
  fr : ∀ b, bl A b → FX b ∨ b = env.locals
  sub : ∀ b, FX b → FY b
def hH (c : Cx) (XP : lk) (Γ : Gam) (A : Around) (EC : Env → (Addr → Prop) → Prop) (ns : NL) (xf : Bool) (ds : List S) (sts : List Stmt) : Prop := ∀ (env : Env) (FX FY : Addr → Prop) (ρ : aN) (σ : St) (s : Shared) (ℓ : aj) (r : Fl × aj × St), BdT c A EC ns env FX FY → At c A ⟨env, true, FY⟩ ns ℓ ρ σ s → evSs Γ ds ℓ σ = some r →
  wpAny c.M A (execs sts env) (Gj c env FX FY ρ s r) (H4 c A XP xf env FX FY ρ s r) s
theorem tq {ds : List S} {sts : List Stmt} (t : g7 c XP Γ A (fun H H => True) ns true xf ds sts) : hH c XP Γ A EC ns xf ds sts := fun env FX FY ρ σ s ℓ r k T e =>
  wpAny_mono (t ⟨env, true, FY⟩ ℓ ρ σ s r trivial (fun H => rfl) T e) (fun f s' ⟨ρ', P, _, z⟩ => ⟨ρ', FY, k.sub, fun H z => z, P, z⟩) fun e' s' ⟨h1, ρ₁, s₁, hx, P, T1, z⟩ => ⟨h1, ρ₁, s₁, FY, true, hx, k.sub, fun H z => z, P, T1.fr, z⟩
theorem mr {d : S} {ds : List S} {st : Stmt} {sts : List Stmt} (t1 : aW c XP Γ A (fun H H => True) ns true xf d st) (t2 : hH c XP Γ A EC ns xf ds sts) : hH c XP Γ A EC ns xf (d :: ds) (st :: sts) := fun env FX FY ρ σ s ℓ r k T e => by
  rw [bU] at e
  refine aA e fun fl p h1 e => wpAny_execs_cons (wpAny_mono (t1 ⟨env, true, FY⟩ ℓ ρ σ s (fl, p) trivial (fun H => rfl) T h1) (fun fw s₁ ⟨ρ₁, P, T₁, hf⟩ => ?_) fun e' s₁ ⟨hxf, ρ₁, s₂, hx, P, T₁, x⟩ => ?_)
  · cases hf with
    | next =>
      have wk : ∀ {FZ : Addr → Prop}, (∀ b, FX b → FZ b) → (∀ b, FZ b → FY b) → Ps c FZ (bQ env true) ρ s ρ₁ p.2 s₁ := fun k1 k2 => P.weakF k2 fun b z => (k.own b z).elim (fun z => .inl (k1 b z)) fun z => .inr (.inl z)
      exact wpAny_mono (t2 env FX FY ρ₁ p.2 s₁ p.1 r k T₁ e) (fun f s₂ ⟨ρ', FZ, k1, k2, P', z⟩ => ⟨ρ', FZ, k1, k2, (wk k1 k2).trans P', z⟩) fun e' s₂ ⟨h1, ρ', s', FZ, wc, hx, k1, k2, P', F1, z⟩ => ⟨h1, ρ', s', FZ, wc, hx, k1, k2, (wk k1 k2).trans P', F1, z⟩
    | cont => cases e; exact ⟨ρ₁, FY, k.sub, fun H z => z, P, .cont⟩
    | ret hv => cases e; exact ⟨ρ₁, FY, k.sub, fun H z => z, P, .ret hv⟩
  · cases hx
    cases e
    exact ⟨hxf, ρ₁, s₂, FY, true, rfl, k.sub, fun H z => z, P, T₁.fr, x⟩
theorem tp {ds : List S} {sts : List Stmt} (t : g7 c XP Γ A EC ns false xf ds sts) : hH c XP Γ A EC ns xf (.fz :: ds) sts := fun env FX FY ρ σ s ℓ r k T e => by
  have k2 : ∀ b, (FX b ∨ b = env.locals) → FY b := fun b z => z.elim (k.sub b) fun z => T.fr.own b (.inl z)
  exact wpAny_mono (t ⟨env, false, fun b => FX b ∨ b = env.locals⟩ ℓ ρ σ s r k.ec (fun z => nomatch z) ⟨T.eo, T.nm, T.wr.weak k2, T.fr.fewer k2 (fun b z => z.elim .inr fun z => nomatch z.1) k.fr fun z => nomatch z⟩ e)
    (fun f s' ⟨ρ', P, _, z⟩ => ⟨ρ', _, fun b z => .inl z, k2, P.weak bQ.all, z⟩) fun e' s' ⟨h1, ρ₁, s₁, hx, P, T1, z⟩ => ⟨h1, ρ₁, s₁, _, false, hx, fun b z => .inl z, k2, P.weak bQ.all, T1.fr, z⟩
theorem gq.cons {c : Cx} {A : Around} {ρ : aN} {h : Heap} {env : Env} (x : gq c A ρ h) (y : AC c ρ h env) : gq c (A.deeper env) ρ h := by
  obtain ⟨outer, e, a⟩ := x
  refine ⟨env :: outer, Around.frames_deeper e, fun env' he => ?_⟩
  rcases List.mem_cons.mp he with rfl | he
  · exact y
  · exact a env' he
theorem cT {A : Around} {env : Env} {b : Addr} (z : bl (A.deeper env) b) : bl A b ∨ env.frame = some b := by
  obtain ⟨outer, ho, e, he, hf⟩ := z
  have h1 : A.frames.map (env :: ·) = some outer := ho
  obtain ⟨fs, hfs, rfl⟩ := Option.map_eq_some_iff.mp h1
  rcases List.mem_cons.mp he with rfl | he
  · exact .inr hf
  · exact .inl ⟨fs, hfs, e, he, hf⟩
theorem ki {ko : Str → Option NameKind} (q : Str) (hq : ko q = some .local) : ∀ (ps : List Str) (vals : List Value) (m : Str → Option Value), ps.length = vals.length → (q ∈ ps ∨ ∃ w, m q = some w) → ∃ w, bindL ko (ps.zip vals) m q = some w
  | [], [], m, _, h => h.elim (fun h => nomatch h) id
  | [], _ :: _, m, h, _ => nomatch h
  | _ :: _, [], m, h, _ => nomatch h
  | p :: ps, v :: vals, m, hl, h => by
    rw [List.zip_cons_cons, bindL]
    refine ki q hq ps vals _ (Nat.succ.inj hl) ?_
    by_cases e : q = p
    · subst e
      exact .inr ⟨v, by rw [if_pos hq, if_pos rfl]⟩
    · refine h.imp (fun h => (List.mem_cons.mp h).resolve_left e) fun ⟨w, h⟩ => ⟨w, ?_⟩
      split
      · exact (if_neg e).trans h
      · exact h
structure FrS (c : Cx) (A : Around) (FX : Addr → Prop) (ρ : aN) (σ : St) (s : Shared) (ns : NL) (ℓ : aj) (env : Env) (s₁ : Shared) : Prop where
  kp : Kp No s.heap s₁.heap
  nw : ∀ b, bQ env true b → s.heap.get? b = none
  T : At c (A.deeper env) ⟨env, true, fun b => FX b ∨ bQ env true b⟩ ns ℓ ρ σ s₁
  nl : ∀ m b, env.cells.lookup m = some b → b ≠ env.locals
  hr : s₁ = { s with heap := s₁.heap, toks := s₁.toks }
section
variable {a : Addr} {o : Obj} {fd : FuncData} {ps : List Nat} {body : List Stmt} {ds : List V} {vals : List Value}
theorem sB (x : InCallC s env.locals (bindL env.kindOf ((ps.map ad).zip vals) fun H => none) env.cells (bindC env.kindOf ((ps.map ad).zip vals) fun H => none) s₁) {b : Addr} (z : bQ env true b) : s.heap.get? b = none ∧ ∃ o, s₁.heap.get? b = some o := by
  rcases z with z | ⟨_, m, z⟩
  · obtain ⟨o, _, _, e, _⟩ := x.toInCall.ns
    rw [z]
    exact ⟨Heap.get?_none_of_le x.toInCall.fresh, o, e⟩
  · obtain ⟨o, e, _⟩ := x.cell m b z
    exact ⟨Heap.get?_none_of_le (Nat.le_trans x.toInCall.fresh (Nat.le_of_lt (x.above m b (mem_of_lookup z)))), o, e⟩
theorem sA {L : Addr} (N : FnB c a o fd ps body ns) (W1 : WR c ρ s₁.heap (fun b => FX b ∨ bQ (callEnvC fd L a) true b) σ) (hl : ps.length = vals.length) (x : InCallC s (callEnvC fd L a).locals (bindL (callEnvC fd L a).kindOf ((ps.map ad).zip vals) fun H => none) (callEnvC fd L a).cells (bindC (callEnvC fd L a).kindOf ((ps.map ad).zip vals) fun H => none) s₁) : AC c ρ s₁.heap (callEnvC fd L a) := by
  refine ⟨by rw [show (callEnvC fd L a).scope.kind = .function from N.kind]; decide, (callEnvC fd L a).locals, rfl, (W1.fx _ (.inr (.inl rfl))).2.1, (W1.fx _ (.inr (.inl rfl))).2.2, ?_⟩
  rcases N.some1 with ⟨p, hp, hpl⟩ | hq
  · obtain ⟨w, hw⟩ := ki (ko := (callEnvC fd L a).kindOf) (ad p) (by unfold Env.kindOf; rw [show (callEnvC fd L a).scope.names = ns from N.names]; exact hpl) (ps.map ad) vals (fun H => none) (by rw [List.length_map]; exact hl) (.inl (List.mem_map_of_mem hp))
    obtain ⟨o, es, k, e, hd, hne⟩ := xI x.toInCall.ns hw
    exact ⟨o, es, k, e, hd, fun z => absurd z hne⟩
  · obtain ⟨o, es, k, e, hd, _⟩ := x.toInCall.ns
    exact ⟨o, es, k, e, hd, fun H => .inr hq⟩
theorem jh (N : FnB c a o fd ps body ns) {L : Addr} {m : Str} (h : ns.lookup m = some .cell) : ((callEnvC fd L a).cells.lookup m).isSome = true := by
  show ((cellsFrom _ fd.scope.names []).lookup m).isSome = true
  rw [N.names]
  exact bI _ _ _ _ (.inl h)
theorem FR.fresh (N : FnB c a o fd ps body ns) (Fa : gq c A ρ s.heap) (Ff : ∀ b, bl A b → FX b) (W : WR c ρ s.heap FX σ) (hv : VRs c (XX ρ FX) ρ s.heap ds vals) (hb : ak ps ds ao = some ℓ)
    (x : InCallC s (callEnvC fd s.heap.objs.size a).locals (bindL (callEnvC fd s.heap.objs.size a).kindOf ((ps.map ad).zip vals) fun H => none) (callEnvC fd s.heap.objs.size a).cells (bindC (callEnvC fd s.heap.objs.size a).kindOf ((ps.map ad).zip vals) fun H => none) s₁) :
    FrS c A FX ρ σ s ns ℓ (callEnvC fd s.heap.objs.size a) s₁ := by
  have kp : Kp No s.heap s₁.heap := Kp.of_all x.toInCall.keep
  have own : ∀ {b}, bQ (callEnvC fd s.heap.objs.size a) true b → s.heap.get? b = none ∧ ∃ o, s₁.heap.get? b = some o := sB x
  have W1 : WR c ρ s₁.heap (fun b => FX b ∨ bQ (callEnvC fd s.heap.objs.size a) true b) σ := W.enter kp (fun b z => z.imp id own) fun b z => .inl z
  have R := nO (ko := (callEnvC fd s.heap.objs.size a).kindOf) (ℓ := ao) (m := fun H => none) (cm := fun H => none) (fun p hp => (N.par p hp).1) hb hv fun x v H e => nomatch e
  have S : aG (XX ρ FX) (XX ρ fun b => FX b ∨ bQ (callEnvC fd s.heap.objs.size a) true b) s.heap s₁.heap := .of_keep fun b o e n => ⟨x.toInCall.keep b o e, fun z => z.elim (fun z => n (.inl z)) fun z => z.elim (fun z => n (.inr z)) fun z => by rw [(own z).1] at e; cases e⟩
  have kd : ∀ m, (callEnvC fd s.heap.objs.size a).kindOf m = ns.lookup m := fun m => by unfold Env.kindOf; rw [show (callEnvC fd s.heap.objs.size a).scope.names = ns from N.names]
  have cellK : ∀ {m}, (callEnvC fd s.heap.objs.size a).kindOf m = some .cell ∨ (callEnvC fd s.heap.objs.size a).kindOf m = some .free → ns.lookup m = some .cell := fun hk => hk.elim (fun z => (kd _).symm.trans z) fun z => absurd ((kd _).symm.trans z) (N.free _)
  have nl : ∀ m b, (callEnvC fd s.heap.objs.size a).cells.lookup m = some b → b ≠ (callEnvC fd s.heap.objs.size a).locals := fun m b q => Nat.ne_of_gt (x.above m b (mem_of_lookup q))
  refine ⟨kp, fun b z => (own z).1, ⟨⟨N.kind, N.glob, N.bi⟩, N.names, W1, ⟨fun b z => .inr z, fun m b q => ⟨nl m b q, (W1.fx b (.inr (.inr ⟨rfl, m, q⟩))).2.2⟩, fun m b q => ⟨_, x.cell m b q⟩, fun m hk => jh N (cellK hk), fun H m m' b q q' => name_of_addr x.apart (mem_of_lookup q) (mem_of_lookup q'), ⟨_, x.toInCall.ns, fun y v hy e hk => ?_⟩, fun y v hy e hk => ?_,
    (Fa.all (h' := s₁.heap) fun b o e H => x.toInCall.keep b o e).cons (sA N W1 ((dI hb).symm.trans hv.length) x), fun b z => (cT z).imp (Ff b) fun z => by cases z; exact .inl rfl⟩⟩, nl, by obtain ⟨h', tk, rfl, _⟩ := x.done; rfl⟩
  · obtain ⟨u, h1, h2, h3⟩ := R y v hy e
    exact ⟨u, h2 hk, h1.mono S (List.prefix_refl _)⟩
  · obtain ⟨u, h1, h2, h3⟩ := R y v hy e
    obtain ⟨b, hb⟩ := Option.isSome_iff_exists.mp (jh (L := s.heap.objs.size) N (cellK hk))
    have := x.cell _ b hb
    rw [h3 (by rw [kd, cellK hk]; decide)] at this
    exact ⟨b, u, hb, this, h1.mono S (List.prefix_refl _)⟩
def AK (Q E : Value → Shared → Prop) (r : Result) (s : Shared) : Prop := match r with
  | .ok (.ret v) => Q v s
  | .ok _ => False
  | .error e => E e s
theorem s5 {fv : Value} {vs : List Value} {Q E : Value → Shared → Prop} (h : codeAny c.M A (.call fv ⟨vs, []⟩) (AK Q E) s) : wpAny c.M A (call fv vs) Q E s := wpAny_call (codeAny_mono h fun r s' h => by
  cases r with
  | error e => exact h
  | ok f => cases f <;> exact h)
noncomputable def Gz : Flow → Value
  | .ret v => v
  | _ => .none
theorem kE (B : Bs c K mb) (N : FnB c a o fd ps body ns) (hA : AR (n + 1) A) (hst : ∀ L a, 20 ≤ n → ¬ cN (callEnvC fd L a)) (Fa : gq c A ρ s.heap) (Ff : ∀ b, bl A b → FX b) (W : WR c ρ s.heap FX σ) (hv : VRs c (XX ρ FX) ρ s.heap ds vals) (hb : ak ps ds ao = some ℓ) {R : Result → Shared → Prop}
    (k : ∀ env s₁, env.frame = some env.locals → env.code = fd.code → env.qual = fd.qualname ++ ".<locals>." → AR n (A.deeper env) → FrS c A FX ρ σ s ns ℓ env s₁ → wpAny c.M (A.deeper env) (execs body env) (fun f s' => R (.ok (.ret (Gz f))) s') (fun e s' => wpAny c.M (A.deeper env) (leaving env e) (fun H s'' => R (.error e) s'') aC s') s₁) :
    codeAny c.M A (.call (.ref a) ⟨vals, []⟩) R s := by
  refine je (Nat.lt_of_le_of_lt (Nat.le_add_right _ _) hA.depth) (W.base _ _ N.at_) N.data (B.lim.keeps W.base) (N.code.keeps W.base) N.body (N.bind s vals W.base (hv.length.symm.trans (dI hb))) N.clo (fun y hy => ?_) (fun s₁ x => ?_) N.co N.gen N.kind
  · obtain ⟨p, hp, hpe⟩ := List.mem_map.mp (List.of_mem_zip hy).1
    rw [N.names, ← hpe]
    exact (N.par p hp).2.imp id fun z => ⟨z, bI _ _ _ _ (.inl z)⟩
  · exact wpAny_mono (k _ s₁ rfl rfl rfl (hA.deeper _ (hst _ _)) (FR.fresh N Fa Ff W hv hb x)) (fun f s' h => by cases f <;> exact h) fun e s' h => wpAny_mono h (fun H H x => x) fun H H x => x.elim
theorem FrS.bt {EC : Env → (Addr → Prop) → Prop} (F : FrS c A FX ρ σ s ns ℓ env s₁) (hf : env.frame = some env.locals) (Ff : ∀ b, bl A b → FX b) (ec : EC env fun b => FX b ∨ b = env.locals) : BdT c (A.deeper env) EC ns env FX fun b => FX b ∨ bQ env true b :=
  ⟨ec, fun b z => z, fun b z => (cT z).imp (Ff b) fun z => by rw [hf] at z; cases z; rfl, fun b z => .inl z⟩
theorem FrS.shut {FZ O : Addr → Prop} {s' : Shared} (F : FrS c A FX ρ σ s ns ℓ env s₁) (P : Ps c FZ O ρ s₁ ρ' σ' s') (hO : ∀ b, O b → s.heap.get? b = none) (lo : ∀ b, FX b → FZ b) (hi : ∀ b, FZ b → FX b ∨ s.heap.get? b = none) : Ps c FX No ρ s ρ' σ' s' := Ps.shut F.kp F.hr P hO hi (List.prefix_refl _) (P.wr.weak lo) fun b z => .inl z
theorem FrS.end_ {r : Fl × aj × St} {fl : Flow} {x : Option V} (F : FrS c A FX ρ σ s ns ℓ env s₁) (h : Gj c env FX (fun b => FX b ∨ bQ env true b) ρ s₁ r fl s') (e : o0 r.1 r.2.2 = some (x, σ')) : ∃ d, x = some d ∧ Po c FX ρ s d σ' (Gz fl) s' := by
  obtain ⟨fr, ℓ₂, σ₂⟩ := r
  obtain ⟨ρ', FZ, lo, hi, P, hf⟩ := h
  have P' : Ps c FX No ρ s ρ' σ₂ s' := F.shut P F.nw lo fun b z => (hi b z).imp id (F.nw b)
  cases hf with
  | next => cases e; exact ⟨_, rfl, ρ', P', by show VR c _ _ _ .none .none; rw [VR]⟩
  | cont => exact ae e
  | ret hv => cases e; exact ⟨_, rfl, ρ', P', hv.mono (cE lo) (List.prefix_refl _)⟩
end
def qX (fd : FuncData) : Env → (Addr → Prop) → Prop := fun env FX => env.code = fd.code ∧ env.qual = fd.qualname ++ ".<locals>." ∧ ∀ n a, env.cells.lookup n = some a → ¬ FX a
noncomputable abbrev tj : lk := fun H H H H H H H => False
theorem uk (B : Bs c K mb) {a : Addr} {o : Obj} {fd : FuncData} {ps : List Nat} {body : List Stmt} {ds : List S} (N : FnB c a o fd ps body ns) (T : ∀ A, AR n A → hH c tj Γ A (qX fd) ns false ds body) (hst : ∀ L a, 20 ≤ n → ¬ cN (callEnvC fd L a)) : bC c (n + 1) (d6 Γ ps ds) a := by
  refine ⟨o, fd, N.at_, N.data, fun A FX ρ σ σ' s dv vs d hA Fa Ff W hv e => ?_⟩
  refine bS e fun ℓ hb e => aA e fun fl p h1 e => s5 (kE B N hA hst Fa Ff W hv hb fun env s₁ hf hc hq hA' F => ?_)
  have hec : qX fd env fun b => FX b ∨ b = env.locals := ⟨hc, hq, fun m b q z => z.elim (fun z => by obtain ⟨x, e⟩ := (W.fx b z).1; rw [F.nw b (.inr ⟨rfl, m, q⟩)] at e; cases e) (F.nl m b q)⟩
  refine wpAny_mono (T _ hA' env FX _ ρ σ s₁ ℓ (fl, p) (F.bt hf Ff hec) F.T h1) (fun f s' h => ?_) fun H H x => nomatch x.1
  obtain ⟨d', hd, h⟩ := F.end_ h e
  cases hd
  exact h
end
section
variable {c : Cx} {K : Frag} {mb : Str → Option Value} {Γ : Gam} {n : Nat} {A : Around} {XP : lk} {FX O : Addr → Prop} {ρ ρ₁ ρ' : aN} {σ σ1 σ' : St} {s s₁ s' : Shared} {h h' : Heap} {env : Env} {wc w xf : Bool} {ℓ ℓ' : aj} {ns : NL}
noncomputable def tP (b : Bool) : Addr := if b then 298 else 284
noncomputable def tC (b : Bool) : Addr := if b then 300 else 288
noncomputable def tQ (b : Bool) : Str := if b then CZ else yk
theorem WR.tab (W : WR c ρ h FX σ) (b : Bool) : mn (XX ρ FX) h (tC b) (tP b) (tQ b) := by
  cases b
  · exact W.t2
  · exact W.t1
theorem qZ (b : Bool) : MX ρ (tP b) := by
  cases b
  · exact .inl rfl
  · exact .inr (.inl rfl)
theorem WR.table (W : WR c ρ s.heap FX σ) (b : Bool) (hB : c.B.get? (tP b) = none) (Kk : Kp (fun a => a = tP b) s.heap h') (ht : mn (XX ρ FX) h' (tC b) (tP b) (tQ b)) (t : Nat) : Ps c FX O ρ s ρ σ { s with heap := h', toks := t } := by
  have S : aG (XX ρ FX) (XX ρ FX) s.heap h' := .of_keep fun a o e n => ⟨Kk.keep a o e fun z => n (.inl (z ▸ qZ b)), n⟩
  have nP : ∀ a ∈ f0 ρ, a ≠ tP b := fun a ha => by
    cases b
    · exact (W.new a ha).2.1
    · exact (W.new a ha).2.2
  have oth : ∀ a o, s.heap.get? a = some o → a ≠ tP b → h'.get? a = some o := fun a o e n => Kk.keep a o e n
  refine ⟨List.prefix_refl _, ⟨fun a o e => oth a o (W.base a o e) (fun z => by rw [z, hB] at e; cases e), W.len, W.nd, fun i q m hq hm => ?_, W.new, ?_, ?_, fun a ha => ⟨?_, (W.fx a ha).2.1, (W.fx a ha).2.2⟩⟩,
    ⟨Kk.live, fun a o e n => ⟨o, Kk.keep a o e fun z => n (.inl (z ▸ qZ b)), .rfl'⟩⟩, fun a ha => .inl ha, rfl⟩
  · have z := W.at_ i q m hq hm
    have y := z.stays (h' := h') fun a o e y => oth a o e (nP a (d9 (List.mem_of_getElem? hq) y))
    exact z.mono S (List.prefix_refl _) y.1 y.2
  · cases b
    · obtain ⟨x, e⟩ := W.T1
      exact W.t1.mono S ((oth _ _ e (by decide)).trans e.symm)
    · exact ht
  · cases b
    · exact ht
    · obtain ⟨x, e⟩ := W.T2
      exact W.t2.mono S ((oth _ _ e (by decide)).trans e.symm)
  · obtain ⟨⟨o, e⟩, _⟩ := W.fx a ha
    exact Kk.live a o e
structure TbB (c : Cx) (b : Bool) : Prop where
  none : c.B.get? (tP b) = none
  code : CodeHd c.B (tC b) (tP b)
  bi : c.B.BuiltinsAt c.mg (tP b)
theorem gA : ∀ {xs : List Nat} {vs : List V}, cz ℓ xs = some vs → vs.length = xs.length ∧ ∀ (i x : Nat), xs[i]? = some x → ∃ v, vs[i]? = some v ∧ ℓ x = some v
  | [], vs, e => by cases e; exact ⟨rfl, fun i x q => nomatch q⟩
  | y :: xs, vs, e => bS e fun v h1 e => bS e fun vs' h2 e => by
    cases e
    obtain ⟨g1, g2⟩ := gA h2
    refine ⟨congrArg (· + 1) g1, fun i x q => ?_⟩
    cases i with
    | zero => cases q; exact ⟨v, rfl, h1⟩
    | succ i => exact g2 i x q
noncomputable def oo (ns : NL) (xs : List Nat) (sc : Scope) : Bool :=
  sc.names.all (fun y => y.2 != .free || ((ns.lookup y.1 == some .cell || ns.lookup y.1 == some .free) && xs.any (fun x => y.1 == ad x))) && xs.all (fun x => decide (x < 91) && sc.names.any (fun y => y.1 == ad x && y.2 == .free) && (ns.lookup (ad x) == some .cell || ns.lookup (ad x) == some .free))
theorem pL {pos p : Pos} {x cv : Value} (l : List Value) (h : TriplesOk l) (e : codeAmong p (l ++ [rawInt pos.line, rawInt pos.col, x]) = some cv) : codeAmong p l = some cv ∨ cv = x := by
  fun_induction TriplesOk l with
  | case1 =>
    simp only [List.nil_append, rawInt, codeAmong] at e
    split at e
    · simp only [Option.some.injEq] at e; exact .inr e.symm
    · cases e
  | case2 a t b u y rest ih =>
    simp only [List.cons_append, codeAmong] at e ⊢
    split at e
    · rename_i hc; rw [if_pos hc]; exact .inl e
    · rename_i hc; rw [if_neg hc]; exact ih h e
  | case3 l h1 h2 => exact h.elim
theorem vR {X : Addr → Prop} : ∀ {vs : List V} {ws : List Value}, vs.length = ws.length → (∀ (i : Nat) (v : V) (w : Value), vs[i]? = some v → ws[i]? = some w → VR c X ρ h v w) → VRs c X ρ h vs ws
  | [], [], _, _ => by rw [VRs]; trivial
  | [], _ :: _, h, _ => nomatch h
  | _ :: _, [], h, _ => nomatch h
  | v :: vs, w :: ws, hl, k => by
    rw [VRs]
    exact ⟨k 0 v w rfl rfl, vR (Nat.succ.inj hl) fun i v w e1 e2 => k (i + 1) v w e1 e2⟩
structure Two {α β : Type} (R : Nat → α → β → Prop) (n : Nat) (as : List α) (us : List β) : Prop where
  l1 : as.length = n
  l2 : us.length = n
  at_ : ∀ i a u, as[i]? = some a → us[i]? = some u → R i a u
theorem vL {α β : Type} : ∀ (n : Nat) (R : Nat → α → β → Prop), (∀ i, i < n → ∃ a u, R i a u) → ∃ as us, Two R n as us
  | 0, R, h => ⟨[], [], rfl, rfl, fun H H H e H => nomatch e⟩
  | n + 1, R, h => by
    obtain ⟨a, u, h0⟩ := h 0 (Nat.succ_pos n)
    obtain ⟨as, us, h1, h2, h3⟩ := vL n (fun i => R (i + 1)) fun i hi => h (i + 1) (Nat.succ_lt_succ hi)
    refine ⟨a :: as, u :: us, congrArg (· + 1) h1, congrArg (· + 1) h2, fun i a' u' e1 e2 => ?_⟩
    cases i with
    | zero => cases e1; cases e2; exact h0
    | succ i => exact h3 i a' u' e1 e2
theorem ty {cells : List (Str × Addr)} {n : Str} {a : Addr} : ∀ {names : NL}, (ed cells names []).lookup n = some a → (n, NameKind.free) ∈ names := by
  have go : ∀ (names : NL) (acc : List (Str × Addr)), (ed cells names acc).lookup n = some a → (n, NameKind.free) ∈ names ∨ acc.lookup n = some a := by
    intro names
    induction names with
    | nil => exact fun acc h => .inr h
    | cons y r ih =>
      intro acc h
      obtain ⟨m, k⟩ := y
      unfold ed at h
      split at h
      · rename_i hk
        rcases ih _ h with z | z
        · exact .inl (.tail _ z)
        · rw [List.lookup_cons] at z
          cases e : n == m with
          | true =>
            have hnm := beq_iff_eq.mp e
            have hk' := beq_iff_eq.mp hk
            subst hnm hk'
            exact .inl (.head _)
          | false => rw [e] at z; exact .inr z
      · rcases ih _ h with z | z
        · exact .inl (.tail _ z)
        · exact .inr z
  intro names h
  rcases go names [] h with z | z
  · exact z
  · cases z
structure LamF (ns : NL) (xs : List Nat) (sc : Scope) : Prop where
  free : ∀ y ∈ sc.names, y.2 = .free → (ns.lookup y.1 = some .cell ∨ ns.lookup y.1 = some .free) ∧ ∃ x ∈ xs, y.1 = ad x
  cap : ∀ x ∈ xs, x < 91 ∧ (ad x, NameKind.free) ∈ sc.names ∧ (ns.lookup (ad x) = some .cell ∨ ns.lookup (ad x) = some .free)
theorem wQ {xs : List Nat} {sc : Scope} (h : oo ns xs sc = true) : LamF ns xs sc := by
  refine ⟨fun y hy q => ?_, fun x hx => ?_⟩
  · have z := (bo (List.all_eq_true.mp (ba h).1 y hy)).resolve_left fun z => bne_iff_ne.mp z q
    refine ⟨(bo (ba z).1).imp eq_of_beq eq_of_beq, ?_⟩
    obtain ⟨x, hx, e⟩ := List.any_eq_true.mp (ba z).2
    exact ⟨x, hx, eq_of_beq e⟩
  · have z := List.all_eq_true.mp (ba h).2 x hx
    obtain ⟨y, hy, e⟩ := List.any_eq_true.mp (ba (ba z).1).2
    exact ⟨of_decide_eq_true (ba (ba z).1).1, by rw [← eq_of_beq (ba e).1, ← eq_of_beq (ba e).2]; exact hy, (bo (ba z).2).imp eq_of_beq eq_of_beq⟩
section
variable {f : Fm} {xs : List Nat} {sc : Scope} {vs : List V} {as : List Addr} {us : List Value}
theorem LamF.cells (L : LamF ns xs sc) (T : At c A f ns ℓ ρ σ s) (y : Str × NameKind) (hy : y ∈ sc.names) (q : y.2 = .free) : (f.env.cells.lookup y.1).isSome = true := T.fr.cs _ (by unfold Env.kindOf; rw [T.nm]; exact (L.free y hy q).1)
structure CapR (c : Cx) (f : Fm) (ρ : aN) (s : Shared) (sc : Scope) (xs : List Nat) (vs : List V) (i : Nat) (a : Addr) (u : Value) : Prop where
  at_ : ∀ x, xs[i]? = some x → (ed f.env.cells sc.names []).lookup (ad x) = some a
  cel : ∃ x, xs[i]? = some x ∧ f.env.cells.lookup (ad x) = some a
  is_ : s.heap.IsCell a (some u)
  v : ∀ v, vs[i]? = some v → VR c (XX ρ f.FX) ρ s.heap v u
theorem yQ (L : LamF ns xs sc) (T : At c A f ns ℓ ρ σ s) (hc : cz ℓ xs = some vs) : ∃ as us, Two (CapR c f ρ s sc xs vs) xs.length as us := vL _ _ fun i hi => by
  have q : xs[i]? = some xs[i] := List.getElem?_eq_getElem hi
  obtain ⟨v, h1, h2⟩ := (gA hc).2 i xs[i] q
  obtain ⟨h3, h4, h5⟩ := L.cap xs[i] (List.getElem_mem hi)
  obtain ⟨a, u, h6, h7, h8⟩ := T.fr.cl xs[i] v h3 h2 (by unfold Env.kindOf; rw [T.nm]; exact h5)
  refine ⟨a, u, fun x e => ?_, ⟨xs[i], q, h6⟩, h7, fun v' e => ?_⟩
  · rw [q] at e; cases e
    obtain ⟨a', ha'⟩ := Option.isSome_iff_exists.mp (fp (cells := f.env.cells) (acc := []) (.inl h4))
    have z := (i4 (L.cells T) ha').resolve_right fun z => nomatch z
    rw [h6] at z; cases z; exact ha'
  · rw [h1] at e; cases e; exact h8
noncomputable def uz (c : Cx) (b : Bool) (params : Arguments) (body : PySem.Expr) (sc : Scope) (env : Env) (c' : Addr) (ctv : Value) : Obj := { cls := .type "function", data := .func (kla_fn "<lambda>" (tQ b) params body sc (ed env.cells sc.names []) ((c.mg "__name__").getD .none) (.ref c') ctv) }
def AL (b : Bool) (h : Heap) (c' : Addr) : Prop := ∃ oc ws t, h.get? c' = some oc ∧ oc.data = .fields ws ∧ ws[1]? = some (.str (tQ b) t)
theorem oq {b : Bool} {k : Nat} {params : Arguments} {body : PySem.Expr} {pos : Pos} (hk : cy[k]? = some xs) (hL : c.LI k = .Lambda params body sc pos) (L : LamF ns xs sc) (T : At c A f ns ℓ ρ σ s) (hout : ∀ m a, f.env.cells.lookup m = some a → ¬ f.FX a) (hlv : vs.length = xs.length) (C : Two (CapR c f ρ s sc xs vs) xs.length as us) {c' : Addr} {ctv : Value} {h₁ : Heap} {tk : Nat}
    (hk₁ : ∀ a o, s.heap.get? a = some o → a ≠ tP b → h₁.get? a = some o) (P : Ps c f.FX No ρ s ρ σ { s with heap := h₁, toks := tk }) (hsz : s.heap.objs.size ≤ h₁.objs.size) (hc' : ¬ XX ρ f.FX c') (hcode' : AL b h₁ c') :
    Po c f.FX ρ s (.clo k vs) σ (.ref h₁.objs.size) { s with heap := h₁.push (uz c b params body sc f.env c' ctv), toks := tk } := by
  have P3 : Ps c f.FX No ρ s ρ σ { s with heap := h₁.push (uz c b params body sc f.env c' ctv), toks := tk } := P.trans (P.wr.grow (s := { s with heap := h₁, toks := tk }) (Kp.push _ _) tk)
  refine ⟨ρ, P3, ?_⟩
  rw [VR]
  obtain ⟨oc, ws, t, g1, g3, g4⟩ := hcode'
  have go : ∀ {i a}, as[i]? = some a → ∃ u, CapR c f ρ s sc xs vs i a u := fun {i a} e => by
    have hi : i < us.length := by rw [C.l2, ← C.l1]; exact (List.getElem?_eq_some_iff.mp e).1
    exact ⟨us[i], C.at_ i a _ e (List.getElem?_eq_getElem hi)⟩
  have nx : ∀ {i a}, as[i]? = some a → ¬ XX ρ f.FX a := fun e z => by
    obtain ⟨u, r⟩ := go e
    obtain ⟨x, _, h2⟩ := r.cel
    exact z.elim (T.fr.nl _ _ h2).2 (hout _ _ h2)
  refine ⟨us, .mk (as := as) (de T.wr (Heap.get?_none_of_le hsz)) hc' (Heap.get?_push_size _ rfl) rfl rfl hL ⟨oc, ws, t, Heap.get?_push_of_some _ g1, g3, g4⟩ hk C.l1 C.l2 (fun i x a q1 q2 => ?_) (fun m a q => ?_) (fun a ha => ?_) fun i a u q1 q2 => ?_, vR (hlv.trans C.l2.symm) fun i v u q1 q2 => ?_⟩
  · obtain ⟨u, r⟩ := go q2; exact r.at_ x q1
  · obtain ⟨_, x, hx, hxm⟩ := L.free _ (ty q) rfl
    obtain ⟨i, hi⟩ := List.getElem?_of_mem hx
    have hi' : i < as.length := by rw [C.l1]; exact (List.getElem?_eq_some_iff.mp hi).1
    obtain ⟨u, r⟩ := go (List.getElem?_eq_getElem hi')
    have e := r.at_ x hi
    have hxm : m = ad x := hxm
    rw [← hxm, q] at e
    cases e
    exact List.getElem_mem hi'
  · obtain ⟨i, hi⟩ := List.getElem?_of_mem ha; exact nx hi
  · have r := C.at_ i a u q1 q2
    obtain ⟨o, h4, h5⟩ := r.is_
    exact ⟨o, Heap.get?_push_of_some _ (hk₁ a o h4 fun z => nx q1 (.inl (z ▸ qZ b))), h5⟩
  · have hi : i < as.length := by rw [C.l1, ← C.l2]; exact (List.getElem?_eq_some_iff.mp q2).1
    exact P3.vr ((C.at_ i as[i] u (List.getElem?_eq_getElem hi) q2).v v q1)
theorem uB (B : Bs c K mb) {b : Bool} (Tb : TbB c b) (T : At c A f ns ℓ ρ σ s) (hcode : f.env.code = .ref (tC b)) (hq : f.env.qual ++ "<lambda>" = tQ b) (hout : ∀ m a, f.env.cells.lookup m = some a → ¬ f.FX a)
    {k : Nat} {params : Arguments} {body : PySem.Expr} {pos : Pos} (hk : cy[k]? = some xs) (hL : c.LI k = .Lambda params body sc pos) (hl : oo ns xs sc = true) (hd : defaultsOf params f.env = ([], [])) {v : V} (e : a9 Γ (.lam k) ℓ σ = some (v, σ')) : wpAny c.M A (eval (.Lambda params body sc pos) f.env) (Po c f.FX ρ s v σ') aC s := by
  rw [tV, hk] at e
  refine bS (show ((cz ℓ xs).bind fun vs => some (V.clo k vs, σ)) = some (v, σ') from e) fun vs hc e => bE e ?_
  have L := wQ hl
  obtain ⟨as, us, C⟩ := yQ L T hc
  have lv := (gA hc).1
  obtain ⟨ps, hP, ht, hps⟩ := T.wr.tab b
  have hgP : mainGlobals ≠ tP b := fun z => by
    obtain ⟨o, _, _, e, _⟩ := B.G
    rw [z, Tb.none] at e; cases e
  have hbi : s.heap.BuiltinsAt c.mg (tP b) := by
    obtain ⟨bm, o, b1, b2, b3, b4, b5, b6⟩ := Tb.bi
    exact ⟨bm, o, b1, b2, b3, b4, T.wr.base _ _ b5, b6⟩
  refine kla_eval hd ?_
  rw [hq]
  have hC := Tb.code.keeps T.wr.base
  cases hf : codeAmong pos ps.toList with
  | none =>
    refine kla_makeFunction (mg := c.mg) (cg (L.cells T)) T.eo.glob (gW B.G T.wr) hcode hC hP ht hf hgP hbi fun c' ctv h₁ tk hx hge hlt hrec htb => ?_
    obtain ⟨c'', oc, ws, t, ec, g1, g2, g3⟩ := hrec
    cases ec
    have Kk : Kp (fun a => a = tP b) s.heap h₁ := ⟨fun a o e => by
      by_cases z : a = tP b
      · rw [z]; exact ⟨_, htb⟩
      · exact ⟨o, hx a o z e⟩, fun a o e z => hx a o z e⟩
    have hc' : ¬ XX ρ f.FX c' := de T.wr (Heap.get?_none_of_le hge)
    have ht' : mn (XX ρ f.FX) h₁ (tC b) (tP b) (tQ b) := by
      refine ⟨_, htb, by simpa using TriplesOk_snoc pos.line pos.col (.ref c') _ ht, fun p cv q => ?_⟩
      rcases pL (pos := pos) (x := .ref c') ps.toList ht (by simpa using q) with z | z
      · obtain ⟨c2, oc2, ws2, t2, rfl, g1', g2', g4', g5'⟩ := hps p cv z
        exact ⟨c2, oc2, ws2, t2, rfl, g1', hx _ _ (fun y => g1' (.inl (y ▸ qZ b))) g2', g4', g5'⟩
      · exact ⟨c', oc, ws, t, z, hc', g1, g2, g3⟩
    exact oq hk hL L T hout lv C (fun a o e z => hx a o z e) (T.wr.table b Tb.none Kk ht' tk) (Nat.le_of_lt (Nat.lt_of_le_of_lt hge hlt)) hc' ⟨oc, ws, t, g1, g2, g3⟩
  | some cv =>
    obtain ⟨c', oc, ws, t, rfl, g1, g2, g4, g5⟩ := hps pos cv hf
    exact kla_makeFunctionHit (mg := c.mg) (cg (L.cells T)) T.eo.glob (gW B.G T.wr) hcode hC hP ht hf hbi fun ctv h₁ tk hkp hsz => oq hk hL L T hout lv C (fun a o e H => hkp a o e) (T.wr.grow (Kp.of_all hkp) tk) hsz g1 ⟨oc, ws, t, hkp _ _ g2, g4, g5⟩
end
end
section
variable {c : Cx} {K : Frag} {mb : Str → Option Value} {Γ : Gam} {n : Nat} {A : Around} {XP : lk} {FX O : Addr → Prop} {ρ ρ₁ ρ' : aN} {σ σ1 σ' : St} {s s₁ s' : Shared} {h h' : Heap} {env : Env} {wc w xf : Bool} {ℓ ℓ' : aj} {ns : NL}
theorem wG {a b : E} {v : V} {C : V → Prop} (e : a9 Γ (.tup [a, b]) ℓ σ = some (v, σ')) (k : ∀ x σ1 y, a9 Γ a ℓ σ = some (x, σ1) → a9 Γ b ℓ σ1 = some (y, σ') → C (.tup [x, y])) : C v := by
  rw [q7, eI] at e
  refine aA e fun vs σ₂ h e => aA h fun x σ1 h1 h => ?_
  rw [eI] at h
  refine aA h fun ys σ3 h2 h => aA h2 fun y σ4 h3 h2 => ?_
  rw [tZ, bM] at h2
  cases h2; cases h; cases e
  exact k x σ1 y h1 h3
theorem uc {f : Nat} {a : E} {v : V} {C : Prop} (e : a9 Γ (.call f [a]) ℓ σ = some (v, σ')) (k : ∀ x σ1, a9 Γ a ℓ σ = some (x, σ1) → Γ.f f [x] σ1 = some (some v, σ') → C) : C := by
  rw [mC, eI] at e
  refine aA e fun vs σ₂ h e => aA h fun x σ1 h1 h => ?_
  rw [tZ, bM] at h
  cases h
  exact uR (β := Unit) e fun h2 => k x _ h1 h2
structure LamFn (fd : FuncData) (b : Bool) : Prop where
  code : fd.code = .ref (tC b)
  qual : (fd.qualname ++ ".<locals>.") ++ "<lambda>" = tQ b
theorem sV (B : Bs c K mb) {b : Bool} {fd : FuncData} (Tb : TbB c b) (Lf : LamFn fd b) {d1 : E} {e1 : PySem.Expr} {k : Nat} {xs : List Nat} {params : Arguments} {body : PySem.Expr} {sc : Scope} {pos pp rp : Pos} {kk : Nat}
    (hk : cy[k]? = some xs) (hL : c.LI k = .Lambda params body sc pos) (hl : oo ns xs sc = true) (hd : ∀ env, defaultsOf params env = ([], [])) (hs : du e1 = false) (t1 : SV c Γ A ns d1 e1) :
    aW c XP Γ A (qX fd) ns w xf (.ret (.tup [d1, .lam k])) (.Return (some (.Tuple [e1, .Lambda params body sc pos] kk pp)) rp) := fun f ℓ ρ σ s r ec hw T e => by
  rw [q9] at e
  refine aA e fun v σ' h e => ac (C := fun r => wpAny c.M A (exec (.Return (some (.Tuple [e1, .Lambda params body sc pos] kk pp)) rp) f.env) (ni c A f ns ρ s r) (pv c A f ns ρ s XP xf r) s) e ?_
  refine wG (C := fun v => wpAny c.M A (exec (.Return (some (.Tuple [e1, .Lambda params body sc pos] kk pp)) rp) f.env) (ni c A f ns ρ s (.ret v, ℓ, σ')) (pv c A f ns ρ s XP xf (.ret v, ℓ, σ')) s) h fun x σ1 y h1 h2 => ?_
  refine wpAny_Return_some (Tuple_ ?_)
  rw [bb hs]
  refine Calls.spliced_cons (t1.use T h1 fun u ρ₁ s₁ T1 P hu => ?_)
  rw [bb (e := .Lambda params body sc pos) rfl]
  refine Calls.spliced_cons (wpAny_mono (uB (Γ := Γ) B Tb T1 (ec.1.trans Lf.code) (by rw [ec.2.1]; exact Lf.qual) ec.2.2 hk hL hl (hd f.env) h2) (fun u2 s₂ ⟨ρ₂, P2, hu2⟩ => ?_) fun H H x => x.elim)
  refine Calls.spliced_nil (wpAny_newObj_type ?_ (by show (2 : Nat) ≤ sizeLine; rw [sizeLine_eq]; omega))
  have P3 := P.trans P2
  obtain ⟨ρ₃, P4, h3⟩ := Po.then P3 (l6 P3.wr (show VRs c _ ρ₂ s₂.heap [x, y] [u, u2] by rw [VRs, VRs, VRs]; exact ⟨P2.vr hu, hu2, trivial⟩) 0)
  exact ⟨ρ₃, P4.ownW, T.ps P4, .ret h3⟩
theorem sg (B : Bs c K mb) (G : GOk c K Γ n) (hA : AR n A) {b : Bool} {fd : FuncData} (Tb : TbB c b) (Lf : LamFn fd b) {y f : Nat} {k : Nat} {xs : List Nat} {params : Arguments} {body : PySem.Expr} {sc : Scope} {pos p q q2 r : Pos}
    (hy : ju ns w y = true) (hg : cU ns (ad f) = true) (hk : cy[k]? = some xs) (hL : c.LI k = .Lambda params body sc pos) (hl : oo ns xs sc = true) (hd : ∀ env, defaultsOf params env = ([], [])) :
    aW c XP Γ A (qX fd) ns w xf (.asg (.nm y) (.call f [.lam k])) (.Assign [.Name (ad y) q] (.Call (.Name (ad f) q2) [.Lambda params body sc pos] [] p) r) := fun g ℓ ρ σ s rr ec hw T e => by
  rw [mF] at e
  refine aA e fun v σ' h e => ac (C := fun rr => wpAny c.M A (exec (.Assign [.Name (ad y) q] (.Call (.Name (ad f) q2) [.Lambda params body sc pos] [] p) r) g.env) (ni c A g ns ρ s rr) (pv c A g ns ρ s XP xf rr) s) (show some (Fl.next, upd ℓ y v, σ') = some rr from e) (uc h fun x σ1 h1 h2 => ?_)
  obtain ⟨_, a, hm, o, fd', ho, hd', hf⟩ := G.f _ _ _ _ h2
  refine wpAny_Assign_stores (wpAny_bind (i3 B T.wr T.eo (by rw [T.nm]; exact hg) hm ?_)) rfl rfl
  refine Calls.callWith_function (o := o) (fd := fd') (aQ (es := [.Lambda params body sc pos]) (List.forall_mem_singleton.mpr rfl) ?_)
  rw [bb (e := .Lambda params body sc pos) rfl]
  refine Calls.spliced_cons (wpAny_mono (uB (Γ := Γ) B Tb T (ec.1.trans Lf.code) (by rw [ec.2.1]; exact Lf.qual) ec.2.2 hk hL hl (hd g.env) h1) (fun u s₁ ⟨ρ₁, P, hu⟩ => Calls.spliced_nil ?_) fun H H x => x.elim)
  have T1 := T.ps P
  refine ⟨⟨P.wr.base _ _ ho, hd'⟩, wpAny_mono (hf A g.FX ρ₁ σ1 _ s₁ [x] [u] v hA T1.fr.fr T1.fr.ff P.wr (by rw [VRs, VRs]; exact ⟨hu, trivial⟩) h2) (fun t s₂ hx => ?_) fun H H x => x.elim⟩
  obtain ⟨ρ₂, P2, hv⟩ := Po.then P hx
  show wpAny c.M A (assign (.Name (ad y) _) g.env t) _ _ s₂
  exact ii (T.ps P2) (jD hw (T.ps P2) hy) hv fun s₃ P3 T3 => ⟨ρ₂, P2.ownW.trans P3, T3, .next⟩
end
end Mine
end
section
namespace Mine
open PySem PySem.W PyProof.Rows PySem.Calls PySem.SeqAt Builtin Builtin.ObjectAttr
theorem all_cons {α : Type} {P : α → Prop} {a : α} {l : List α} (h : P a) (t : ∀ p ∈ l, P p) : ∀ p ∈ a :: l, P p := fun p hp => by
  rcases List.mem_cons.mp hp with rfl | hp
  · exact h
  · exact t p hp
theorem hV {α : Type} {P : α → Prop} : ∀ p ∈ ([] : List α), P p := fun H h => by cases h
noncomputable def aX : List Value := [.ref 40, .type "Exception", .type "BaseException", .type "object"]
structure EP where
  nm : Str
  q : Str
  N : Addr
  bs : List Value
  sn : List Str
  sub : List Value
  ab : Bool
  col : Option Bool
  dd : Option Addr
  k0 : Option Value
  k1 : Option Value
  k2 : Option Value
  k3 : Option Value
  k5 : Option Value
noncomputable abbrev rk (P : EP) (C : Addr) (bm : List Value) (hd : Bool) (nid : String) : Obj := excClassObj P.nm P.q C P.N P.bs bm hd P.sn P.sub P.ab P.col P.dd P.k0 P.k1 P.k2 P.k3 P.k5 nid
section
variable {prog : Program} {w : World} {A : Around} {E : Value → Shared → Prop} {h : Heap} {g : Array GenState} {d : Drawn} {t : Nat} {os : OsState}
variable {ep : EP} {C : Addr} {hdct : Bool}
theorem ui {M : Model} {rest : List Value} {Q : Unit → Shared → Prop} (hC : h.get? C = some (rk ep C aX hdct "Exception.__new__"))
    (hq : Q () ⟨h, g, d, t, os⟩) : wpAny M A (checkBuiltinCall "Exception.__new__" ⟨.ref C :: rest, []⟩) Q E ⟨h, g, d, t, os⟩ := by
  have F := PySem.F.excBase_Exception
  have hcont : (Value.ref C :: aX).contains (.type "Exception") = true := by rw [List.contains_cons, show aX.contains (.type "Exception") = true from by decide, Bool.or_true]
  have hstar := F.noStar
  simp only [checkBuiltinCall, F.newKind, F.newSplit, F.newRow]
  repeat (first | refine wpAny_loadPart_at hC ?_ | (refine wpAny_isSubtype_exc hC ?_; rw [hcont]) | refine wpAny_staticBase_exc hC ?_ | refine wpAny_madeBy_exc hC ?_ | simp only [bne_self_eq_false, Bool.false_eq_true, if_false] | wp_step)
  exact hq
theorem zc {R : Result → Shared → Prop} {rest : List Value} (hC : h.get? C = some (rk ep C aX hdct "Exception.__new__"))
    (hq : R (.ok (.ret (.ref (h.objs.size + 1)))) ⟨(h.push { cls := .type "tuple", data := .seq rest.toArray }).push { cls := .ref C, data := .fields #[.ref h.objs.size, .none, .none, .none, .bool false, .none] }, g, d, t, os⟩) (hrest : rest.length ≤ sizeLine) :
    codeAny (model prog w) A (.builtin "Exception.__new__" ⟨.ref C :: rest, []⟩) R ⟨h, g, d, t, os⟩ := by
  have F := PySem.F.excBase_Exception
  have hends := F.ends
  have hcB : (Value.ref C :: aX).contains (.type "Exception") = true := by rw [List.contains_cons, show aX.contains (.type "Exception") = true from by decide, Bool.or_true]
  have hcA : (Value.ref C :: aX).contains (.type "AttributeError") = false := by rw [List.contains_cons, show aX.contains (.type "AttributeError") = false from by decide]; rfl
  have hcN : (Value.ref C :: aX).contains (.type "NameError") = false := by rw [List.contains_cons, show aX.contains (.type "NameError") = false from by decide]; rfl
  refine codeAny_builtinAt F.entry ?_
  unfold Builtin.«BaseException.__new__»
  refine PySem.wpAt_bind ?_
  show PySem.wpAt _ _ _ (stack >>= _) _ _ _
  refine PySem.wpAt_bind (PySem.wpAt_stack fun p below => PySem.wpAt_of_wpAny ?_)
  wp_walk
  refine PySem.wpAt_of_wpAny ?_
  rw [F.owner]
  repeat (first | with_reducible refine wpAny_madeHere_exc F.canon hC ?_ | with_reducible refine wpAny_loadPart_at hC ?_ | (with_reducible refine wpAny_isSubtype_exc hC ?_; first | rw [hcB] | rw [hcA] | rw [hcN]) | wp_step)
  show R _ _
  rw [Heap.size_push]
  exact hq
theorem wK {K : Frag} {rest : List Value} {fI : Addr} {Q : Fin → Shared → Prop} (X : K.In h)
    (hC : h.get? C = some (rk ep C aX hdct "Exception.__new__")) (hi : findIn K (.ref C) "__init__" = some (some (.ref fI))) (hf : typeIn K (.ref fI) = some (.type "function"))
    (hq : ∀ h' e, Heap.MadeExcOf h h' e (.ref C) rest →
      wpAny (model prog w) A (call (.ref fI) (.ref e :: rest)) (fun r s' => r = .none ∧ Q (.done (.ret (.ref e))) s') E ⟨h', g, d, t, os⟩) (hrest : rest.length ≤ sizeLine) :
    wpAny (model prog w) A (Builtin.«type.__call__» ⟨.ref C :: rest, []⟩) Q E ⟨h, g, d, t, os⟩ := by
  have F := PySem.F.excBase_Exception
  repeat (first | with_reducible refine wpAny_loadPart_at hC ?_ | with_reducible refine wpAny_madeBy_exc hC ?_ | wp_step)
  refine codeAny_call_builtin_code (Code.quiet_builtin _ F.quiet) (ui hC ?_)
  refine zc hC ?_ hrest
  show wpAny _ _ _ _ _ _
  have up : ∀ b o, h.get? b = some o → ((h.push { cls := .type "tuple", data := .seq rest.toArray }).push { cls := .ref C, data := .fields #[.ref h.objs.size, .none, .none, .none, .bool false, .none] }).get? b = some o := fun b o e => Heap.get?_push_of_some _ (Heap.get?_push_of_some _ e)
  have hC1 := up _ _ hC
  have hget : ((h.push { cls := .type "tuple", data := .seq rest.toArray }).push
      { cls := .ref C, data := .fields #[.ref h.objs.size, .none, .none, .none, .bool false, .none] }).get? (h.objs.size + 1) = some
      { cls := .ref C, data := .fields #[.ref h.objs.size, .none, .none, .none, .bool false, .none] } := by heap_get
  have hcC : (Value.ref C :: aX).contains (.ref C) = true := by simp
  unfold isInstance
  repeat (first | with_reducible refine wpAny_loadPart_at hget ?_ | (with_reducible refine wpAny_isSubtype_exc hC1 ?_; rw [hcC]) | wp_step)
  show wpAny _ _ (typeLookup (.ref C) _) _ _ _
  refine (looks_findIn (X.keeps up) hi).here ?_
  refine wpAny_holding (wpAny_bind ?_)
  refine (bind_fn (X.keeps up) _ hf).here ?_
  refine (wpAny_bind (wpAny_mono (hq _ (h.objs.size + 1) ⟨up, Heap.get?_none_of_le (Nat.le_succ _), h.objs.size, hget, Heap.get?_none_of_le (Nat.le_refl _), ?_⟩) (fun r s' hr => ?_) fun H H x => x))
  · exact Heap.get?_push_of_some _ (Heap.get?_push_at rfl rfl)
  · obtain ⟨rfl, hQ⟩ := hr
    wp_walk
    exact hQ
theorem wJ {K : Frag} {rest : List Value} {fI : Addr} {Q : Value → Shared → Prop} (X : K.In h)
    (hC : h.get? C = some (rk ep C aX hdct "Exception.__new__")) (hi : findIn K (.ref C) "__init__" = some (some (.ref fI))) (hf : typeIn K (.ref fI) = some (.type "function"))
    (hq : ∀ h' e, Heap.MadeExcOf h h' e (.ref C) rest →
      wpAny (model prog w) (A.under (.builtin "type.__call__" ⟨.ref C :: rest, []⟩)) (call (.ref fI) (.ref e :: rest)) (fun r s' => r = .none ∧ Q (.ref e) s') E ⟨h', g, d, t, os⟩) (hrest : rest.length ≤ sizeLine) :
    wpAny (model prog w) A (call (.ref C) rest) Q E ⟨h, g, d, t, os⟩ := by
  have f1 := tc_lookup
  have f2 := tc_bind (.ref C)
  have hT : (⟨h, g, d, t, os⟩ : Shared).TypeIs (.ref C) "type" := ⟨_, hC, rfl⟩
  refine wpAny_call (codeAny_of_tree ?_)
  show wpAny _ _ (callAny (.ref C) _) _ _ _
  repeat (any_goals (first | assumption | with_reducible refine wpAny_loadPart_at hC ?_ | wp_step))
  refine ⟨rfl, ?_⟩
  exact codeAny_call_builtin_at (Code.quiet_builtin _ (by decide +kernel)) entry_typeCall (wpAny_check_type_call_sub hC (wK X hC hi hf (fun h' e hm => hq h' e hm) hrest))
end
structure FK (K : Frag) : Prop where
  cls : ∃ cd, clsIn K 53 = some cd ∧ cd.mro = .ref 53 :: aX ∧ cd.hasDict = true
  sa : findIn K (.ref 53) "__setattr__" = some (some (.builtin "object.__setattr__"))
  nw : findIn K (.ref 53) (ad 84) = some none
  na : findIn K (.ref 53) (ad 11) = some none
section
variable {prog : Program} {w : World} {A : Around} {K : Frag} {s : Shared} {x : Addr} {E : Value → Shared → Prop}
theorem zL {R : Result → Shared → Prop} {ox : Obj} {od : Option Obj} {name : Str} {tk : Tok} {v : Value} (FK : FK K) (X : K.In s.heap) (I : InstAt s.heap x ox 53 od) (ht : findIn K (.ref 53) name = some none)
    (h : wpAny (model prog w) A.in1 (storeInOwnDict (.ref x) (.ref 53) (.str name tk) name v false)
      (fun fin s' => match fin with | .done f => R (.ok f) s' | .again c' => c'.quiet = true ∧ codeAny (model prog w) A c' R s') (fun e s' => R (.error e) s') s) :
    codeAny (model prog w) A (.call (.builtin "object.__setattr__") ⟨[.ref x, .str name tk, v], []⟩) R s := by
  have SF := PySem.F.store_object
  obtain ⟨cd, hc, hmro, hdict⟩ := FK.cls
  have ho : cd.mro.contains (.type "object") = true := by rw [hmro]; decide
  have ne : cd.mro.isEmpty = false := by rw [hmro]; rfl
  have sub : Looks (model prog w) s.heap (isInstance (.ref x) (.type "object")) true := I.type.andThen (looks_mroIn X (by unfold mroIn; rw [hc, Option.bind_some, if_neg (by rw [ne]; decide), ho]))
  refine codeAny_call_builtin SF.slot.plain SF.entry (@check_slot (model prog w) _ _ s "object.__setattr__" "object" "__setattr__" (.ref x) [.str name tk, v] [] _ SF.kind SF.split sub (SF.args (.ref x) (.str name tk) v) ?_)
  have hm : Looks (model prog w) s.heap (mroOf (.ref 53)) cd.mro := (looks_clsIn X hc).andThen .now
  have hp : refuseLoop (.ref x) "__setattr__" cd.mro = pure () := by
    rw [hmro, refuseLoop_ref, aX, refuseLoop_ref]
    exact PySem.F.store_Exception.passes (.ref x)
  rw [osa_eq, refuse_eq]
  refine wpAny_bind (wpAny_bind (I.type.here (wpAny_bind (hm.here ?_))))
  rw [hp]
  refine wpAny_pure (wpAny_bind (I.type.here (wpAny_bind ((looks_findIn X ht).here (wpAny_bind (Looks.now.here ?_))))))
  exact h
structure ExS (x : Addr) (m' : Str → Option Value) (s s' : Shared) : Prop where
  rest : s' = { s with heap := s'.heap, toks := s'.toks }
  inst : s'.heap.Inst x 53 m'
  keep : ∀ b o, b ≠ x → (∀ o₀ dx, s.heap.get? x = some o₀ → o₀.dict = some dx → b ≠ dx) → s.heap.get? b = some o → s'.heap.get? b = some o
  self : ∀ o₀, s.heap.get? x = some o₀ → ∃ o₁, s'.heap.get? x = some o₁ ∧ o₁.cls = o₀.cls ∧ o₁.data = o₀.data ∧ ∀ dx, o₁.dict = some dx → o₀.dict = some dx ∨ s.heap.get? dx = none
theorem vC (FK : FK K) (X : K.In s.heap) {mA : Str → Option Value} {ns : List Str} {name : Str} {tk : Tok} {v : Value} (I : s.heap.Inst x 53 mA) (hw : Within mA ns) (hsz : ns.length ≤ 5) {Q : Fin → Shared → Prop}
    (hq : ∀ s', ExS x (fun y => if y = name then some v else mA y) s s' → Q (.done (.ret .none)) s') : wpAny (model prog w) A (storeInOwnDict (.ref x) (.ref 53) (.str name tk) name v false) Q E s := by
  obtain ⟨cd, hcd, hmro, hhas⟩ := FK.cls
  obtain ⟨o, hx, hc, hnc, hd⟩ := I
  rcases hd with ⟨hdn, hmA⟩ | ⟨dx, hdx, hne, hns⟩
  · obtain ⟨oc, od, odt, osl⟩ := o
    dsimp only at hdn hc hnc
    subst hdn hc
    refine wpAny_bind (wpAny_pure (wpAny_bind (wpAny_bind (wpAny_loadPart hx (wpAny_bind ((looks_clsIn X hcd).here ?_))))))
    rw [hhas]
    have hx₁ : (s.heap.push { cls := .type "dict", data := .dict #[] }).get? x = some ⟨.ref 53, none, odt, osl⟩ := Heap.get?_push_of_some _ hx
    have hxs : x ≠ s.heap.objs.size := Nat.ne_of_lt (Heap.lt_size hx)
    have fin : wpAny (model prog w) A (alloc { cls := .type "dict", data := .dict #[] } >>= fun d => update x (fun o => { o with dict := some d }) >>= fun H => (pure (some d) : Sem (Option Addr))) (fun a s' => wpAny (model prog w) A (match a with
          | some d => storeInDict d (.str name tk) name v
          | none => noDictFor (.ref x) (.ref 53) name false) Q E s') E s := by
      refine wpAny_bind (wpAny_alloc (wpAny_bind (wpAny_update hx₁ (wpAny_pure ?_))))
      dsimp only
      unfold storeInDict newKeyGuard
      have hfr : (⟨.ref 53, none, odt, osl⟩ : Obj).isFreed = false := (Heap.get?_some_iff.mp hx).2
      have hgd : ((s.heap.push { cls := .type "dict", data := .dict #[] }).update x fun o => { o with dict := some s.heap.objs.size }).get? s.heap.objs.size = some { cls := .type "dict", data := .dict #[] } :=
        (Heap.get?_update_other _ _ hxs).trans (Heap.get?_push_size _ rfl)
      have hgx : ((s.heap.push { cls := .type "dict", data := .dict #[] }).update x fun o => { o with dict := some s.heap.objs.size }).get? x = some ⟨.ref 53, some s.heap.objs.size, odt, osl⟩ :=
        Heap.get?_update_self _ hx₁ (by cases odt <;> first | rfl | exact hfr)
      have hnd : ((s.heap.push { cls := .type "dict", data := .dict #[] }).update x fun o => { o with dict := some s.heap.objs.size }).Ns s.heap.objs.size (fun H => none) := ⟨_, #[], _, hgd, rfl, fun e he => absurd he (by simp), fun H => rfl⟩
      refine wpAny_bind (wpAny_pure (wpAny_bind (wpAny_nsSet1 (Heap.Ns1.of_empty hnd) fun h' hn' hs => ?_)))
      obtain ⟨oD, esD, epD, hoD, hdD, hcD⟩ := hn'.count (Within.cons name v Within.nil)
      refine wpAny_bind (wpAny_lookBehind hoD (by rw [hdD]; exact pastItsLine_dict (Nat.le_trans hcD (by rw [List.length_cons, List.length_nil, sizeLine_eq]; omega))) ?_)
      refine wpAny_pure (hq _ ⟨rfl, ⟨_, (hs.2 x hxs).trans hgx, rfl, hnc, .inr ⟨s.heap.objs.size, rfl, hxs.symm, ?_⟩⟩, fun b ob hbx H hb => ?_, fun o₀ h₀ => ?_⟩)
      · obtain ⟨o', es, ep, e1, e2, e3, eu, e4⟩ := hn'
        exact ⟨o', es, ep, e1, e2, e3, eu, fun y => by rw [e4 y]; by_cases hy : y = name <;> simp [hy, hmA]⟩
      · exact (hs.2 b (Nat.ne_of_lt (Heap.lt_size hb))).trans ((Heap.get?_update_other _ _ (Ne.symm hbx)).trans (Heap.get?_push_of_some _ hb))
      · rw [hx] at h₀; cases h₀
        exact ⟨_, (hs.2 x hxs).trans hgx, rfl, rfl, fun dx e => by cases e; exact .inr (an _)⟩
    cases odt <;> first | exact fin | exact absurd rfl (hnc _)
  · obtain ⟨oc, od, odt, osl⟩ := o
    dsimp only at hdx hc hnc
    subst hdx hc
    refine wpAny_bind (wpAny_pure (wpAny_bind (wpAny_bind (wpAny_loadPart hx (wpAny_bind ((looks_clsIn X hcd).here ?_))))))
    rw [hhas]
    refine wpAny_pure (a := some dx) ?_
    dsimp only
    unfold storeInDict newKeyGuard
    refine wpAny_bind (wpAny_pure (wpAny_bind (wpAny_nsSet1 hns fun h' hn' hs => ?_)))
    obtain ⟨oD, esD, epD, hoD, hdD, hcD⟩ := hn'.count (Within.cons name v hw)
    refine wpAny_bind (wpAny_lookBehind hoD (by rw [hdD]; exact pastItsLine_dict (Nat.le_trans hcD (by rw [List.length_cons, sizeLine_eq]; omega))) ?_)
    refine wpAny_pure (hq _ ⟨rfl, ⟨_, (hs.2 x hne.symm).trans hx, rfl, hnc, .inr ⟨dx, rfl, hne, hn'⟩⟩, fun b ob H hbd hb => (hs.2 b (hbd _ dx hx rfl)).trans hb, fun o₀ h₀ => ⟨o₀, (hs.2 x hne.symm).trans h₀, rfl, rfl, fun H e => .inl e⟩⟩)
theorem za (FK : FK K) (X : K.In s.heap) {mA : Str → Option Value} {ns : List Str} {name : Str} {v : Value} (ht : findIn K (.ref 53) name = some none) (I : s.heap.Inst x 53 mA) (hw : Within mA ns) (hsz : ns.length ≤ 5) :
    wpAny (model prog w) A (setAttr (.ref x) name v) (fun H s' => ExS x (fun y => if y = name then some v else mA y) s s') E s := by
  obtain ⟨o, hx, hc, hnc, hd⟩ := id I
  have hno : notCls o = true := by
    unfold notCls
    obtain ⟨c1, d1, dt, s1⟩ := o
    cases dt <;> first | rfl | exact absurd rfl (hnc _)
  obtain ⟨od, I2⟩ : ∃ od, InstAt s.heap x o 53 od := by
    rcases hd with ⟨hdn, _⟩ | ⟨dx, hdx, hne, o', _, _, e, _⟩
    · exact ⟨none, hx, hc, hno, by rw [hdn]; trivial⟩
    · exact ⟨some o', hx, hc, hno, by rw [hdx]; exact e⟩
  refine set_plain X I2 FK.sa (zL (s := { s with toks := s.toks + 1 }) FK X I2 ht (vC (s := { s with toks := s.toks + 1 }) FK X I hw hsz fun s' z => ?_))
  exact ⟨by have := z.rest; rw [this], z.inst, z.keep, z.self⟩
end
structure ExA (g h : Heap) (e : Addr) (ns : List Str) : Prop where
  keep : ∀ b o, g.get? b = some o → h.get? b = some o
  new : g.get? e = none
  inst : ∃ m, h.Inst e 53 m ∧ Within m ns
  data : ∃ oe vs t0, h.get? e = some oe ∧ oe.data = .fields vs ∧ vs[0]? = some (.ref t0) ∧ vs[1]? = some .none
  dx : ∀ oe dx, h.get? e = some oe → oe.dict = some dx → g.get? dx = none
section
variable {prog : Program} {w : World} {A : Around} {E : Value → Shared → Prop} {h : Heap} {g : Array GenState} {d : Drawn} {t : Nat} {os : OsState}
variable {ep : EP} {C : Addr} {hdct : Bool}
theorem ll {M : Model} {e : Addr} {oe : Obj} {rest : List Value} {Q : Unit → Shared → Prop}
    (hC : h.get? C = some (rk ep C aX hdct "Exception.__new__")) (he : h.get? e = some oe) (hcls : oe.cls = .ref C) (hq : Q () ⟨h, g, d, t, os⟩) :
    wpAny M A (checkBuiltinCall "Exception.__init__" ⟨.ref e :: rest, []⟩) Q E ⟨h, g, d, t, os⟩ := by
  have F := PySem.F.excBase_Exception
  have hcB : (Value.ref C :: aX).contains (.type "Exception") = true := by rw [List.contains_cons, show aX.contains (.type "Exception") = true from by decide, Bool.or_true]
  have hshort := F.noStar
  simp only [checkBuiltinCall, F.initKind, F.initSplit, F.initRow]
  repeat (first | (with_reducible refine wpAny_loadPart_at he ?_; rw [hcls]) | with_reducible refine wpAny_loadPart_at hC ?_ | (with_reducible refine wpAny_isSubtype_exc hC ?_; rw [hcB]) | wp_step)
  refine wpAny_onRaise ?_
  rw [show ∀ (a b : String) (n : Nat), Bind.check ⟨.positional, "*", "Exception", .self, [⟨"args", .varPos, false⟩]⟩ a b n (List.map (fun x => x.fst) ({ pos := Value.ref e :: rest } : Args).kw) = pure () from
    fun a b n => check_star_args _ _ _ _ _ _]
  exact wpAny_pure hq
end
section
variable {prog : Program} {w : World} {A : Around} {K : Frag} {s : Shared} {e : Addr} {E : Value → Shared → Prop} {g : Heap} {ns : List Str}
variable {ep : EP} {hdct : Bool}
theorem ug (hC : g.get? 53 = some (rk ep 53 aX hdct "Exception.__new__")) (x : ExA g s.heap e ns) {v : Value} :
    wpAny (model prog w) A (call (.builtin "Exception.__init__") [.ref e, v]) (fun r s' => ExA g s'.heap e ns ∧ s' = { s with heap := s'.heap, toks := s'.toks }) E s := by
  have F := PySem.F.excBase_Exception
  obtain ⟨m, ⟨o, hx, hc, hnc, hd⟩, hw⟩ := x.inst
  obtain ⟨oe, vs, t0, he, hdt, h0, h1⟩ := x.data
  rw [hx] at he; cases he
  refine wpAny_call (codeAny_call_builtin F.init.plain F.initEntry (ll (rest := [v]) (x.keep _ _ hC) hx hc ?_))
  unfold Builtin.«BaseException.__init__»
  dsimp only
  rw [if_neg (by simp)]
  unfold newTuple Builtin.BaseException.bexcPut
  have hsz : 0 < vs.size := (Array.getElem?_eq_some_iff.mp h0).1
  have he1 := Heap.get?_push_of_some (h := s.heap) { cls := .type "tuple", data := .seq [v].toArray } hx
  refine wpAny_bind (wpAny_newObj_type (wpAny_bind (wpAny_bind (wpAny_field he1 hdt h0 (wpAny_bind (wpAny_setField he1 hdt hsz ?_))))) (by show [v].toArray.size ≤ sizeLine; rw [sizeLine_eq]; simp))
  refine wpAny_letGo (wpAny_pure ?_)
  have fz : (o.mapFields (·.setIfInBounds 0 (.ref s.heap.objs.size))).isFreed = false := Obj.isFreed_of_fields (Obj.data_mapFields hdt _)
  have hg := Heap.get?_update_self (Obj.mapFields (·.setIfInBounds 0 (.ref s.heap.objs.size))) he1 fz
  have oth : ∀ b ob, b ≠ e → s.heap.get? b = some ob → ((s.heap.push { cls := .type "tuple", data := .seq [v].toArray }).update e (Obj.mapFields (·.setIfInBounds 0 (.ref s.heap.objs.size)))).get? b = some ob := fun b ob hb eb =>
    (Heap.get?_update_other _ _ (Ne.symm hb)).trans (Heap.get?_push_of_some _ eb)
  have hdic : (o.mapFields (·.setIfInBounds 0 (.ref s.heap.objs.size))).dict = o.dict := by
    obtain ⟨a1, a2, a3, a4⟩ := o
    cases a3 <;> rfl
  refine ⟨⟨fun b ob eb => oth b ob (fun z => by rw [z, x.new] at eb; cases eb) (x.keep b ob eb), x.new, ⟨m, ⟨_, hg, (Obj.cls_mapFields _ _).trans hc, (fun c z => by rw [Obj.data_mapFields hdt] at z; cases z), ?_⟩, hw⟩, ⟨_, _, s.heap.objs.size, hg, Obj.data_mapFields hdt _, by simp [hsz], by simp [h1]⟩, fun oe dx e1 e2 => ?_⟩, rfl⟩
  · rw [hdic]
    rcases hd with z | ⟨dx, z1, z2, z3⟩
    · exact .inl z
    · obtain ⟨od, es, ep, e1, r⟩ := z3
      exact .inr ⟨dx, z1, z2, od, es, ep, oth dx od z2 e1, r⟩
  · rw [hg] at e1; cases e1
    rw [hdic] at e2
    exact x.dx _ _ hx e2
theorem wI (FK : FK K) (X : K.In s.heap) (x : ExA g s.heap e ns) {name : Str} {v : Value} (ht : findIn K (.ref 53) name = some none) (hsz : ns.length ≤ 5) :
    wpAny (model prog w) A (setAttr (.ref e) name v) (fun H s' => ExA g s'.heap e (name :: ns) ∧ s' = { s with heap := s'.heap, toks := s'.toks }) E s := by
  obtain ⟨m, I, hw⟩ := x.inst
  refine wpAny_mono (za FK X ht I hw hsz) (fun H s' z => ?_) fun H H x => x
  obtain ⟨oe, vs, t0, he, hdt, h0, h1⟩ := x.data
  obtain ⟨o₁, g1, g2, g3, g4⟩ := z.self oe he
  refine ⟨⟨fun b o eb => z.keep b o (fun y => by rw [y, x.new] at eb; cases eb) (fun o₀ dx e1 e2 y => by have := x.dx o₀ dx e1 e2; rw [← y, eb] at this; cases this) (x.keep b o eb), x.new, ⟨_, z.inst, Within.cons name v hw⟩, ⟨o₁, vs, t0, g1, g3.trans hdt, h0, h1⟩, fun oe' dx e1 e2 => ?_⟩, z.rest⟩
  rw [g1] at e1; cases e1
  rcases g4 dx e2 with y | y
  · exact x.dx _ _ he y
  · cases q : g.get? dx with
    | none => rfl
    | some ob => have := x.keep _ _ q; rw [y] at this; cases this
end
end Mine
end
section
namespace Mine
open PySem PySem.W PyProof.Rows PySem.Calls PySem.SeqAt
noncomputable def qs : Str := ⟨#[95, 95, 105, 110, 105, 116, 95, 95]⟩
noncomputable def Gi (P : Nat → Pos) : List Stmt := [.Expr (.Call (.Attribute (.Name (ad 81) (P 0)) qs (P 1)) [.Name (ad 1) (P 2), .Name (ad 84) (P 3)] [] (P 4)) (P 5),
  .Assign [.Attribute (.Name (ad 1) (P 6)) (ad 84) (P 7)] (.Name (ad 84) (P 8)) (P 9), .Assign [.Attribute (.Name (ad 1) (P 10)) (ad 11) (P 11)] (.Name (ad 11) (P 12)) (P 13)]
structure F30 (c : Cx) (dv : Value) (o : Obj) (fd : FuncData) (P : Nat → Pos) : Prop where
  at_ : c.B.get? 30 = some o
  dat : o.data = .func fd
  body : fd.body = .stmts (Gi P)
  line : ((P 1).endLine == (P 4).line) = true
  clo : fd.closure = []
  gl : fd.globals = mainGlobals
  bu : fd.builtins = builtinsNs
  kind : fd.scope.kind = .function
  co : fd.scope.isCoroutine = false
  ge : fd.scope.isGenerator = false
  code : c.B.CodeRec fd.code fd.qualname
  names : ∀ x ∈ [1, 84, 11], fd.scope.names.lookup (ad x) = some .local
  isgl : cU fd.scope.names (ad 81) = true
  binds : ∀ (s : Shared) (u v : Value), (∀ b o, c.B.get? b = some o → s.heap.get? b = some o) → BindsTo s fd ⟨[u, v], []⟩ [(ad 1, u), (ad 84, v), (ad 11, dv)]
theorem AX {kf : Str → Option NameKind} {a b c : Str} {x y z : Value} (ha : kf a = some .local) (hb : kf b = some .local) (hc : kf c = some .local) (d1 : a ≠ c) (d2 : a ≠ b) (d3 : b ≠ c) : bindL kf [(a, x), (b, y), (c, z)] (fun H => none) a = some x ∧ bindL kf [(a, x), (b, y), (c, z)] (fun H => none) b = some y ∧ bindL kf [(a, x), (b, y), (c, z)] (fun H => none) c = some z := by
  unfold bindL bindL bindL bindL
  rw [if_pos ha, if_pos hb, if_pos hc]
  exact ⟨by rw [if_neg d1, if_neg d2, if_pos rfl], by rw [if_neg d3, if_pos rfl], if_pos rfl⟩
structure XB (c : Cx) (K : Frag) (mb : Str → Option Value) : Prop extends FK K where
  obj : ∃ ep : EP, c.B.get? 53 = some (rk ep 53 aX true "Exception.__new__")
  init : findIn K (.ref 53) qs = some (some (.ref 30))
  fn30 : typeIn K (.ref 30) = some (.type "function")
  exn : c.mg (ad 81) = none ∧ mb (ad 81) = some (.type "Exception")
  ff : c.mg (ad 82) = some (.ref 53)
  f30 : ∃ dv o fd P, F30 c dv o fd P
theorem wX {M : Model} {A : Around} {s : Shared} {env : Env} {x : Nat} {p : Pos} {m : Str → Option Value} {v : Value} {Q : Value → Shared → Prop} {E : Value → Shared → Prop} (hk : env.scope.kind = .function) (hx : x < 91) (hl : env.scope.names.lookup (ad x) = some .local) (hn : s.heap.Ns env.locals m) (hm : m (ad x) = some v) (h : Q v s) :
    wpAny M A (eval (.Name (ad x) p) env) Q E s := wpAny_Name (wpAny_loadName_local hk (by unfold Env.kindOf; exact hl) hn hm h) (ij x hx)
section
variable {c : Cx} {K : Frag} {mb : Str → Option Value} {n : Nat} {A : Around} {s : Shared} {g : Heap} {e : Addr} {E : Value → Shared → Prop}
theorem ER {x : Nat} (h : x ∈ [1, 84, 11]) : x < 91 := (by decide : ∀ x ∈ [1, 84, 11], x < 91) x h
theorem yP (B : Bs c K mb) (Y : XB c K mb) (hA : A.depth < 1000) {v : Value} (hgB : ∀ b o, c.B.get? b = some o → g.get? b = some o) (x : ExA g s.heap e []) (hdn : ∀ oe, s.heap.get? e = some oe → oe.dict = none) :
    wpAny c.M A (call (.ref 30) [.ref e, v]) (fun r s' => r = .none ∧ ExA g s'.heap e [ad 11, ad 84] ∧ s' = { s with heap := s'.heap, toks := s'.toks }) aC s := by
  obtain ⟨dv, o, fd, P, F⟩ := Y.f30
  have hb : ∀ b o, c.B.get? b = some o → s.heap.get? b = some o := fun b o q => x.keep b o (hgB b o q)
  have hX : K.In s.heap := B.X.keeps hb
  refine wpAny_call ?_
  refine je hA (hb _ _ F.at_) F.dat (B.lim.keeps hb) (F.code.keeps hb) F.body (F.binds s _ v hb) F.clo (fun y hy => ?_) (fun s₁ y => ?_) F.co F.ge F.kind
  · left
    simp only [List.mem_cons, List.not_mem_nil, or_false] at hy
    rcases hy with rfl | rfl | rfl
    · exact F.names 1 (by simp)
    · exact F.names 84 (by simp)
    · exact F.names 11 (by simp)
  generalize henv : callEnvC fd s.heap.objs.size 30 = env at y ⊢
  have ek : env.scope.kind = .function := by subst henv; exact F.kind
  have en : env.scope.names = fd.scope.names := by subst henv; rfl
  have eg : env.globals = mainGlobals := by subst henv; exact F.gl
  have eb : env.builtins = builtinsNs := by subst henv; exact F.bu
  have kl : ∀ x ∈ [1, 84, 11], env.kindOf (ad x) = some .local := fun x hx => by unfold Env.kindOf; rw [en]; exact F.names x hx
  obtain ⟨h', tk, rfl, hk'⟩ := y.toInCall.done
  have hns := y.toInCall.ns
  have kf : ∀ b o, s.heap.get? b = some o → h'.get? b = some o := hk'
  obtain ⟨me, ⟨oe, he, hec, hnc, hed⟩, hw0⟩ := x.inst
  have hL : e ≠ env.locals := fun z => by
    have l1 := Heap.lt_size he
    have l2 := y.toInCall.fresh
    rw [← z] at l2
    exact absurd l1 (Nat.not_lt.mpr l2)
  have x₁ : ExA (hideAll h' [e]) h' e [] := by
    refine ⟨fun b o q => of_hideAll _ q, hideAll_none _ (by simp), ⟨me, ⟨oe, kf _ _ he, hec, hnc, ?_⟩, hw0⟩, ?_, fun oe' dx q1 q2 => ?_⟩
    · exact .inl ⟨hdn _ he, fun n => by
        cases q : me n with
        | none => rfl
        | some u => have := hw0 n (by rw [q]; simp); simp at this⟩
    · obtain ⟨oe', vs, t0, a1, a2⟩ := x.data
      exact ⟨oe', vs, t0, kf _ _ a1, a2⟩
    · rw [kf _ _ he] at q1; cases q1
      rw [hdn _ he] at q2; cases q2
  have up : ∀ b o, b ≠ e → h'.get? b = some o → (hideAll h' [e]).get? b = some o := fun b o hn q => hideAll_get _ q (by simpa using hn)
  have nsG : ∀ {h'' : Heap} {m : Str → Option Value} {a : Addr} {ns : List Str}, ExA (hideAll h' [e]) h'' e ns → a ≠ e → h'.Ns a m → h''.Ns a m := fun z ha q => by
    obtain ⟨o, es, ep, q1, r⟩ := q
    exact ⟨o, es, ep, z.keep _ _ (up _ _ ha q1), r⟩
  have bne : ∀ b o, c.B.get? b = some o → b ≠ e := fun b o q w => by
    have := hgB b o q
    rw [w, x.new] at this; cases this
  have XG : ∀ {h'' : Heap} {ns : List Str}, ExA (hideAll h' [e]) h'' e ns → ∀ b o, c.B.get? b = some o → h''.get? b = some o := fun z b o q => z.keep b o (up b o (bne b o q) (kf _ _ (hb _ _ q)))
  have nsB : ∀ {h'' : Heap} {m : Str → Option Value} {a : Addr} {ns : List Str}, ExA (hideAll h' [e]) h'' e ns → c.B.Ns a m → h''.Ns a m := fun z q => by
    obtain ⟨o, es, ep, q1, r⟩ := q
    exact ⟨o, es, ep, XG z _ _ q1, r⟩
  have d1 : ad 1 ≠ ad 11 := by decide +kernel
  have d2 : ad 1 ≠ ad 84 := by decide +kernel
  have d3 : ad 84 ≠ ad 11 := by decide +kernel
  generalize hm : bindL env.kindOf [(ad 1, Value.ref e), (ad 84, v), (ad 11, dv)] (fun H => none) = m at hns
  have mm := AX (x := Value.ref e) (y := v) (z := dv) (kl 1 (by simp)) (kl 84 (by simp)) (kl 11 (by simp)) d1 d2 d3
  rw [hm] at mm
  have m1 := mm.1
  have m84 := mm.2.1
  have m11 := mm.2.2
  have lN : ∀ {h'' : Heap} {ns : List Str} {tk : Nat} {x : Nat} {p : Pos} {u : Value} {Q : Value → Shared → Prop} {E : Value → Shared → Prop} {AA : Around}, ExA (hideAll h' [e]) h'' e ns → x ∈ [1, 84, 11] → m (ad x) = some u → Q u { s with heap := h'', toks := tk } → wpAny c.M AA (eval (.Name (ad x) p) env) Q E { s with heap := h'', toks := tk } :=
    fun z hx hu hq => wX ek (ER hx) (by rw [en]; exact F.names _ hx) (nsG z (Ne.symm hL) hns) hu hq
  have fr : Fr s.heap env.locals h' m := ⟨hns, kf, y.toInCall.fresh⟩
  clear y
  -- the base's own way
  refine wpAny_execs_cons (wpAny_mono (Q := fun f s' => f = .next ∧ ExA (hideAll h' [e]) s'.heap e [] ∧ s' = { s with heap := s'.heap, toks := s'.toks }) (E := aC) (wpAny_Expr_any ?_ (by unfold interactive; rw [ek]; rfl) (le rfl)) (fun f s₂ z => ?_) fun H H z => z.elim)
  · refine cP rfl (all_cons rfl (all_cons rfl hV)) (by simp) F.line fun pl => ?_
    refine Name_function_global ek (by have := F.isgl; unfold cU at this; simp only [Bool.and_eq_true, beq_iff_eq] at this; unfold Env.kindOf; rw [en]; exact this.1) (loadGlobal_builtin (by rw [eg]; exact nsB x₁ B.G) Y.exn.1 (by rw [eb]; exact nsB x₁ B.NB) Y.exn.2 ?_) (ij 81 (by decide))
    refine method_type (v := .builtin "Exception.__init__") fr hX (by kernel_rfl) (by decide +kernel) (by kernel_rfl) rfl ?_
    refine Calls.callWith_builtin rfl (aQ (all_cons rfl (all_cons rfl hV)) ?_)
    rw [bb rfl]
    refine Calls.spliced_cons (lN x₁ (by simp) m1 ?_)
    rw [bb rfl]
    refine Calls.spliced_cons (lN x₁ (by simp) m84 ?_)
    refine Calls.spliced_nil ?_
    obtain ⟨ep, hC⟩ := Y.obj
    refine wpAny_mono (ug (s := { s with heap := h', toks := tk + 1 }) (up _ _ (bne _ _ hC) (kf _ _ (hb _ _ hC))) x₁) (fun r s' z => ⟨rfl, z.1, ?_⟩) fun H H z => z
    have := z.2
    rw [this]
  · obtain ⟨rfl, x₂, hs2⟩ := z
    have mutate : ∀ {y : Nat} {q1 q2 q3 q4 : Pos} {sts : List Stmt} {u : Value} {s₂ : Shared} {ns : List Str} {Q : Flow → Shared → Prop} {E : Value → Shared → Prop} {AA : Around}, y ∈ [84, 11] → findIn K (.ref 53) (ad y) = some none → m (ad y) = some u → ExA (hideAll h' [e]) s₂.heap e ns → ns.length ≤ 5 → s₂ = { s with heap := s₂.heap, toks := s₂.toks } →
        (∀ s₃, ExA (hideAll h' [e]) s₃.heap e (ad y :: ns) → s₃ = { s with heap := s₃.heap, toks := s₃.toks } → wpAny c.M AA (execs sts env) Q E s₃) → wpAny c.M AA (execs (.Assign [.Attribute (.Name (ad 1) q1) (ad y) q2] (.Name (ad y) q3) q4 :: sts) env) Q E s₂ := by
      intro y q1 q2 q3 q4 sts u s₂ ns Q E AA hy hf hu z hl hs k
      refine wpAny_execs_cons (wpAny_Assign_stores ?_ rfl rfl)
      rw [hs]
      refine lN z (.tail _ hy) hu ?_
      rw [← hs]
      show wpAny c.M AA (assign _ env u) _ _ s₂
      rw [assign_Attribute]
      rw [hs]
      refine wpAny_bind (wpAny_holding (lN z (by simp) m1 ?_))
      rw [← hs]
      refine wpAny_bind (wpAny_standAt (wpAny_bind (wpAny_holding (wpAny_mono (wI Y.toFK (B.X.keeps (XG z)) z hf hl) (fun H s₃ z' => ?_) fun H H w => w))))
      exact PySem.wpAny_release (k s₃ z'.1 (by have := z'.2; rw [this, hs]))
    refine mutate (by simp) Y.nw m84 x₂ (by simp) hs2 fun s₃ x₃ hs3 => mutate (by simp) Y.na m11 x₃ (by simp) hs3 fun s₄ x₄ hs4 => wpAny_execs_nil ⟨rfl, ?_, hs4⟩
    refine ⟨fun b o q => x₄.keep b o (up b o (fun w => by rw [w, x.new] at q; cases q) (kf _ _ (x.keep b o q))), x.new, x₄.inst, x₄.data, fun oe' dx q1 q2 => ?_⟩
    have := x₄.dx oe' dx q1 q2
    cases q : g.get? dx with
    | none => rfl
    | some ob =>
      rw [up dx ob (fun w => by rw [w, x.new] at q; cases q) (kf _ _ (x.keep _ _ q))] at this
      cases this
end
theorem qD {M : Model} {A : Around} {E : Value → Shared → Prop} {s : Shared} {env : Env} {x : Sem Value} {Q : Flow → Shared → Prop} {ep : EP} {C : Addr} {hdct : Bool} {newId : String} (hh : A.handled = none)
    (h : wpAny M A x (fun v s₁ => ∃ e oe vs, v = .ref e ∧ s₁.heap.get? C = some (rk ep C aX hdct newId) ∧
      s₁.heap.get? e = some oe ∧ oe.cls = .ref C ∧ oe.data = .fields vs ∧ vs[1]? = some .none ∧ E (.ref e) s₁) E s) :
    wpAny M A (raiseStmt env (some x) none) Q E s := by
  have hcB : (Value.ref C :: aX).contains (.type "BaseException") = true := by rw [List.contains_cons, show aX.contains (.type "BaseException") = true from by decide, Bool.or_true]
  unfold raiseStmt
  refine wpAny_bind (wpAny_mono h (fun v s₁ h₁ => ?_) fun H H x => x)
  obtain ⟨e, oe, vs, rfl, hC, he, hcls, hd, h1, hE⟩ := h₁
  obtain ⟨oc, od, odt, osl⟩ := oe
  dsimp only at hcls hd
  subst hcls hd
  obtain ⟨hp, g, d, tk, os⟩ := s₁
  repeat (first | with_reducible refine wpAny_loadPart_at he ?_ | with_reducible refine wpAny_loadPart_at hC ?_ | (with_reducible refine wpAny_isSubtype_exc hC ?_; rw [hcB]) | wp_step)
  rw [h1]
  refine wpAny_pure ?_
  rw [if_neg (by decide)]
  exact wpAny_pure (wpAny_raiseNew_none hh hE)
noncomputable def ti : lk := fun env FX ρ σ s e s' => ∃ a ns, e = .ref a ∧ ExA s.heap s'.heap a ns ∧ s' = { s with heap := s'.heap, toks := s'.toks }
section
variable {c : Cx} {K : Frag} {mb : Str → Option Value} {n : Nat} {A : Around} {s : Shared} {g : Heap} {e : Addr} {E : Value → Shared → Prop}
theorem sL (B : Bs c K mb) (Y : XB c K mb) (hA : A.depth + 1 < 1000) {v : Value} (hb : ∀ b o, c.B.get? b = some o → s.heap.get? b = some o) {Q : Value → Shared → Prop}
    (hq : ∀ a s', ExA s.heap s'.heap a [ad 11, ad 84] → s' = { s with heap := s'.heap, toks := s'.toks } → Q (.ref a) s') : wpAny c.M A (call (.ref 53) [v]) Q aC s := by
  obtain ⟨ep, hC⟩ := Y.obj
  obtain ⟨hp, g, d, tk, os⟩ := s
  refine wJ (X := B.X.keeps hb) (hb _ _ hC) Y.init Y.fn30 (fun h' e hm => ?_) (by rw [sizeLine_eq]; simp)
  obtain ⟨t, t1, t2, t3⟩ := hm.there
  have x : ExA hp h' e [] := ⟨hm.keeps, hm.new, ⟨fun H => none, ⟨_, t1, rfl, (fun c z => by cases z), .inl ⟨rfl, fun H => rfl⟩⟩, fun y h => absurd rfl h⟩, ⟨_, _, t, t1, rfl, rfl, rfl⟩, fun oe dx q1 q2 => by rw [t1] at q1; cases q1; cases q2⟩
  refine wpAny_mono (yP (s := ⟨h', g, d, tk, os⟩) B Y (by rw [depth_under_kw]; omega) hb x fun oe q => by rw [t1] at q; cases q; rfl) (fun r s' z => ⟨z.1, hq e s' z.2.1 ?_⟩) fun H H z => z
  have := z.2.2
  rw [this]
theorem D6 (B : Bs c K mb) (Y : XB c K mb) (hA : AR n A) (hn : 1 ≤ n) : se c ti A := by
  intro env wc FX ρ σ s ℓ txt k p q r u eo hg W F
  rw [arm_exec_Raise]
  have ev : ∀ e env, evalOpt (some e) env = some (eval e env) := fun H H => rfl
  have en : ∀ env, evalOpt none env = none := fun H => rfl
  simp only [ev, en, Option.map]
  obtain ⟨ep, hC⟩ := Y.obj
  refine wpAny_bind (wpAny_standAt (qD (C := 53) (ep := ep) (hdct := true) (newId := "Exception.__new__") hA.handled ?_))
  refine wpAny_bind (wpAny_mono (Q := fun v s₁ => ∃ e oe vs, v = Value.ref e ∧ s₁.heap.get? 53 = some (rk ep 53 aX true "Exception.__new__") ∧ s₁.heap.get? e = some oe ∧ oe.cls = .ref 53 ∧ oe.data = .fields vs ∧ vs[1]? = some .none ∧ ti env FX ρ σ s (.ref e) s₁)
    (E := aC) ?_ (fun v s₁ h => wpAny_bind (wpAny_standAt (wpAny_pure h))) fun H H x => x.elim)
  refine wpAny_bind (i3 B W eo hg Y.ff ?_)
  delta callWith
  refine wpAny_bind (wpAny_holding (wpAny_mono (E := aC) (Q := fun a s₁ => (∃ v, a = (⟨[v], []⟩ : Args)) ∧ s₁ = { s with toks := s₁.toks }) (aQ (es := [.Constant (.str txt) k p]) (all_cons rfl hV) ?_) (fun a s₁ h => ?_) fun H H x => x))
  · rw [bb rfl]
    exact Calls.spliced_cons (Calls.Constant_str (Calls.spliced_nil ⟨⟨_, rfl⟩, rfl⟩))
  · obtain ⟨⟨v, rfl⟩, hs⟩ := h
    have hh : s₁.heap = s.heap := by rw [hs]
    refine wpAny_bind (wpAny_standAt ?_)
    have hC' : s₁.heap.get? 53 = some (rk ep 53 aX true "Exception.__new__") := by rw [hh]; exact W.base _ _ hC
    obtain ⟨hp, g, d, tk, os⟩ := s₁
    dsimp only at hh hC'
    subst hh
    have hpl : ((backTo r (starEach [.Constant (.str txt) k p] env)).any (·.1) || (backToKw r (keywordEach [] env)).any (·.1.isNone)) = false := rfl
    simp only [List.nil_append]
    refine wpAny_bind (wpAny_keeperOf_exc hC' ?_)
    refine wpAny_bind (wpAny_mono (sL (s := ⟨s.heap, g, d, tk, os⟩) B Y (by have := hA.depth; omega) W.base fun a s' x hs' => ?_) (fun v s' h => wpAny_bind (wpAny_holding (wpAny_point (wpAny_pure h)))) fun H H x => x)
    obtain ⟨m, ⟨oe, e1, e2, _⟩, _⟩ := x.inst
    obtain ⟨oe', vs, t0, f1, f2, f3, f4⟩ := x.data
    rw [e1] at f1; cases f1
    refine ⟨a, oe, vs, rfl, x.keep _ _ hC', e1, e2, f2, f4, a, _, rfl, x, ?_⟩
    rw [hs']
    cases hs
    rfl
end
structure FlyB (A : Around) (s₁ : Shared) (Z : List Addr) (a : Addr) (s' : Shared) : Prop where
  keep : ∀ b o, s₁.heap.get? b = some o → ¬ bl A b → b ∉ Z → s'.heap.get? b = some o
  frm : ∀ b o, s₁.heap.get? b = some o → bl A b → ∃ sl, s'.heap.get? b = some { o with slots := sl }
  new : s₁.heap.get? a = none
  tr : ∃ (Fs : List Addr) (a0 : Value), (∀ b, b ∈ Fs ↔ bl A b ∨ b ∈ Z) ∧ s'.heap.TracedW (hideAll s₁.heap Fs) a (.ref 53) a0
  rest : s' = { s₁ with heap := s'.heap, toks := s'.toks }
section
variable {c : Cx} {K : Frag} {mb : Str → Option Value} {n : Nat} {A : Around} {s s₁ s' : Shared} {g : Heap} {e : Addr} {E : Value → Shared → Prop} {ρ ρ₁ : aN} {env : Env} {Z : List Addr}
theorem uu {outer : List Env} (h : A.frames = some outer) (b : Addr) : bl A b ↔ b ∈ outer.filterMap (·.frame) := by
  constructor
  · rintro ⟨o', e, env, he, hf⟩
    rw [h] at e; cases e
    exact List.mem_filterMap.mpr ⟨env, he, hf⟩
  · intro hb
    obtain ⟨env, he, hf⟩ := List.mem_filterMap.mp hb
    exact ⟨outer, h, env, he, hf⟩
theorem d7 {base h' : Heap} {ρ : aN} {h : Heap} {P : Addr → Prop} : ∀ {outer : List Env}, (∀ env ∈ outer, AC c ρ h env) → (∀ env ∈ outer, ∀ b, env.frame = some b → P b) → (∀ b o, h.get? b = some o → P b → ∃ sl, h'.get? b = some { o with slots := sl }) → (∀ b, P b → base.get? b = none) → h'.FunFrames base outer
  | [], _, _, _, _ => trivial
  | env :: r, x, p, k, z => by
    obtain ⟨h1, L, h2, h3, h4, o, es, n, h5, h6, h7⟩ := x env (.head _)
    have hp := p env (.head _) L h2
    obtain ⟨sl, q⟩ := k L o h5 hp
    exact ⟨h1, ⟨L, _, h2, z L hp, q, fun vs w => by
      have w' : o.data = .fields vs := w
      rw [h6] at w'; cases w'⟩, d7 (fun e he => x e (.tail _ he)) (fun e he => p e (.tail _ he)) k z⟩
theorem rA {base h h' : Heap} {l : List Env} {cls a0 : Value} (x : Heap.LeftW base l e cls a0 h h') : base.StaysIn h' ∧ h'.TracedW base e cls a0 ∧ ∀ b o, h.get? b = some o → (∀ vs, o.data ≠ .fields vs) → ∃ sl, h'.get? b = some { o with slots := sl } := ⟨x.1, x.2.2.1, x.2.2.2⟩
theorem ot {FX : Addr → Prop} {σ : St} (Fa : gq c (A.deeper env) ρ s₁.heap) (hf : env.frame = some env.locals) (x : ti env FX ρ σ s₁ (.ref e) s') {Q : Unit → Shared → Prop} (hq : ∀ s'', FlyB (A.deeper env) s₁ [] e s'' → Q () s'') :
    wpAny c.M (A.deeper env) (leaving env (.ref e)) Q aC s' := by
  obtain ⟨a, ns, ea, x, hs⟩ := x
  cases ea
  obtain ⟨outer, ho, all⟩ := id Fa
  have ho2 := ho
  obtain ⟨fs, hfs, rfl⟩ := Option.map_eq_some_iff.mp (show A.frames.map (env :: ·) = some outer from ho)
  have hm := uu ho
  generalize hFs : (env :: fs).filterMap (·.frame) = Fs at hm
  have hb0 : ∀ b, bl (A.deeper env) b → (hideAll s₁.heap Fs).get? b = none := fun b z => hideAll_none _ ((hm b).mp z)
  obtain ⟨m, ⟨oe, e1, e2, _⟩, _⟩ := x.inst
  obtain ⟨oe', vs, t0, f1, f2, f3, f4⟩ := x.data
  rw [e1] at f1; cases f1
  have hen : (hideAll s₁.heap Fs).get? e = none := by
    cases q : (hideAll s₁.heap Fs).get? e with
    | none => rfl
    | some ob => have := of_hideAll _ q; rw [x.new] at this; cases this
  have hkb : (hideAll s₁.heap Fs).StaysIn s'.heap := fun b o q => x.keep b o (of_hideAll _ q)
  have hfun : s'.heap.FunFrames (hideAll s₁.heap Fs) (env :: fs) := d7 (P := bl (A.deeper env)) all (fun en he b hb => ⟨_, ho, en, he, hb⟩) (fun b o q H => ⟨o.slots, x.keep b o q⟩) hb0
  have hcls : oe.cls = .ref 53 := e2
  refine wpAny_leaving_firstW ho hfun hf e1 hkb hen f2 f4 f3 fun h' L => ?_
  obtain ⟨l1, l2, l3⟩ := rA L
  rw [hcls] at l2
  refine hq _ ⟨fun b o q n H => l1 b o (hideAll_get _ q fun z => n ((hm b).mpr z)), fun b o q n => ?_, x.new, ⟨Fs, _, fun b => ⟨fun z => .inl ((hm b).mpr z), fun z => z.elim (hm b).mp fun z => by cases z⟩, l2⟩, ?_⟩
  · obtain ⟨⟨o', es, k, q1, q2⟩, _⟩ := Fa.live n
    rw [q] at q1; cases q1
    exact l3 b o (x.keep b o q) fun vs w => by rw [q2] at w; cases w
  · rw [hs]
theorem qn (Fa : gq c (A.deeper env) ρ s₁.heap) (hf : env.frame = some env.locals) (x : FlyB (A.deeper env) s₁ Z e s') {Q : Unit → Shared → Prop} (hq : ∀ s'', FlyB (A.deeper env) s₁ Z e s'' → Q () s'') :
    wpAny c.M (A.deeper env) (leaving env (.ref e)) Q aC s' := by
  obtain ⟨outer, ho, all⟩ := id Fa
  obtain ⟨fs, hfs, rfl⟩ := Option.map_eq_some_iff.mp (show A.frames.map (env :: ·) = some outer from ho)
  obtain ⟨Fs, a0, t1, t3⟩ := x.tr
  have hb0 : ∀ b, bl (A.deeper env) b → (hideAll s₁.heap Fs).get? b = none := fun b z => hideAll_none _ ((t1 b).mpr (.inl z))
  have hen : (hideAll s₁.heap Fs).get? e = none := by
    cases q : (hideAll s₁.heap Fs).get? e with
    | none => rfl
    | some ob => have := of_hideAll _ q; rw [x.new] at this; cases this
  have hin : ∀ b o, (hideAll s₁.heap Fs).get? b = some o → b ∉ Fs := fun b o q z => by rw [hideAll_none _ z] at q; cases q
  have hkb : (hideAll s₁.heap Fs).StaysIn s'.heap := fun b o q => x.keep b o (of_hideAll _ q) (fun z => hin b o q ((t1 b).mpr (.inl z))) fun z => hin b o q ((t1 b).mpr (.inr z))
  have hfun : s'.heap.FunFrames (hideAll s₁.heap Fs) (env :: fs) := d7 (P := bl (A.deeper env)) all (fun en he b hb => ⟨_, ho, en, he, hb⟩) (fun b o q z => x.frm b o q z) hb0
  refine wpAny_leaving_nextW ho hfun hf t3 hkb hen fun h' L => ?_
  obtain ⟨l1, l2, l3⟩ := rA L
  refine hq _ ⟨fun b o q n nz => l1 b o (hideAll_get _ q fun z => ((t1 b).mp z).elim n nz), fun b o q n => ?_, x.new, ⟨Fs, a0, t1, l2⟩, ?_⟩
  · obtain ⟨⟨o', es, k, q1, q2⟩, _⟩ := Fa.live n
    rw [q] at q1; cases q1
    obtain ⟨sl, q3⟩ := x.frm b o q n
    obtain ⟨sl', q4⟩ := l3 b _ q3 fun vs w => by
      have w' : o.data = .fields vs := w
      rw [q2] at w'; cases w'
    exact ⟨sl', q4⟩
  · have := x.rest
    rw [this]
theorem i8 {b : Addr} (z : bl A b) : bl (A.deeper env) b := by
  obtain ⟨fs, hf, e, he, h⟩ := z
  exact ⟨env :: fs, Around.frames_deeper hf, e, .tail _ he, h⟩
theorem sF {fs : List Env} (hfs : A.frames = some fs) {b : Addr} (h : env.frame = some b) : bl (A.deeper env) b := ⟨env :: fs, Around.frames_deeper hfs, env, .head _, h⟩
theorem FlyB.out {fs : List Env} (hfs : A.frames = some fs) (hf : env.frame = some env.locals) (x : FlyB (A.deeper env) s₁ Z e s') : FlyB A s₁ (env.locals :: Z) e s' := by
  obtain ⟨Fs, a0, t1, t3⟩ := x.tr
  have hd : ∀ b, bl (A.deeper env) b ↔ bl A b ∨ b = env.locals := fun b => ⟨fun z => (cT z).imp id fun z => by rw [hf] at z; cases z; rfl, fun z => z.elim i8 fun z => sF hfs (by rw [z]; exact hf)⟩
  refine ⟨fun b o q n nz => x.keep b o q (fun z => ((hd b).mp z).elim n fun z => nz (by rw [z]; exact .head _)) fun z => nz (.tail _ z), fun b o q n => x.frm b o q ((hd b).mpr (.inl n)), x.new, ⟨Fs, a0, fun b => ?_, t3⟩, x.rest⟩
  rw [t1 b, hd b, List.mem_cons]
  exact ⟨fun z => by rcases z with (z | z) | z; exact .inl z; exact .inr (.inl z); exact .inr (.inr z), fun z => by rcases z with z | z | z; exact .inl (.inl z); exact .inl (.inr z); exact .inr z⟩
def sd (c : Cx) (A : Around) (FX : Addr → Prop) (ρ : aN) (s : Shared) (σ1 : St) (e : Value) (s' : Shared) : Prop := ∃ a ρ₁ s₁ Z, e = .ref a ∧ Ps c (fun b => FX b ∨ b ∈ Z) No ρ s ρ₁ σ1 s₁ ∧ (∀ b ∈ Z, s.heap.get? b = none) ∧ FlyB A s₁ Z a s'
end
def E3 (c : Cx) (A : Around) (FX : Addr → Prop) (ρ : aN) (s : Shared) (σ' : St) (r : Option V) : Result → Shared → Prop := fun rr s' => match rr with
  | .ok (.ret v) => ∃ d, r = some d ∧ Po c FX ρ s d σ' v s'
  | .ok _ => False
  | .error e => r = none ∧ sd c A FX ρ s σ' e s'
def t5 (c : Cx) (n : Nat) (D : aB) (a : Addr) : Prop := ∃ o fd, c.B.get? a = some o ∧ o.data = .func fd ∧
  ∀ (A : Around) (FX : Addr → Prop) (ρ : aN) (σ σ' : St) (s : Shared) (ds : List V) (vs : List Value) (r : Option V), AR n A → gq c A ρ s.heap → (∀ b, bl A b → FX b) → WR c ρ s.heap FX σ → VRs c (XX ρ FX) ρ s.heap ds vs → D ds σ = some (r, σ') →
    codeAny c.M A (.call (.ref a) ⟨vs, []⟩) (E3 c A FX ρ s σ' r) s
section
variable {c : Cx} {K : Frag} {mb : Str → Option Value} {Γ : Gam} {n : Nat} {A : Around} {XP : lk} {FX FY : Addr → Prop} {ρ ρ₁ ρ' : aN} {σ σ1 σ' : St} {s s₁ s' : Shared} {h h' : Heap} {env : Env} {wc w xf : Bool} {ℓ ℓ' : aj} {ns : NL} {Ext : S → Stmt → Prop} {EC : Env → (Addr → Prop) → Prop}
theorem zd (B : Bs c K mb) (Y : XB c K mb) (hn1 : 1 ≤ n) {a : Addr} {o : Obj} {fd : FuncData} {ps : List Nat} {body : List Stmt} {ds : List S} (N : FnB c a o fd ps body ns) (T : ∀ A, AR n A → se c ti A → hH c ti Γ A (fun H H => True) ns true ds body) (hst : ∀ L a, 20 ≤ n → ¬ cN (callEnvC fd L a)) : t5 c (n + 1) (d6 Γ ps ds) a := by
  refine ⟨o, fd, N.at_, N.data, fun A FX ρ σ σ' s dv vs r hA Fa Ff W hv e => ?_⟩
  refine bS e fun ℓ hb e => aA e fun fl p h1 e => kE B N hA hst Fa Ff W hv hb fun env s₁ hf hc hq hA' F => ?_
  refine wpAny_mono (T _ hA' (D6 B Y hA' hn1) env FX _ ρ σ s₁ ℓ (fl, p) (F.bt hf Ff trivial) F.T h1) (fun f s' h => F.end_ h e) fun e' s' ⟨_, ρ₂, s₂, FZ, wc, hx, k1, k2, P, F2, z⟩ => ?_
  cases hx
  cases e
  obtain ⟨a', _, ea, _⟩ := id z
  subst ea
  refine ot F2.fr hf z fun s'' y => ⟨rfl, a', ρ₂, s₂, [env.locals], rfl, Ps.shut F.kp F.hr P F.nw (fun b z => (k2 b z).elim (fun z => .inl (.inl z)) fun z => .inr (F.nw b z)) (List.prefix_refl _) (P.wr.weak fun b z => z.elim (k1 b) fun z => by rw [List.mem_singleton.mp z]; exact F2.own _ (.inl rfl)) fun b z => .inl z,
    fun b hb => by rw [List.mem_singleton.mp hb]; exact F.nw _ (.inl rfl), y.out (Fa.choose_spec.1) hf⟩
end
theorem iB (A : Around) (C : Addr) (vals : List Value) : (A.under (.builtin "type.__call__" ⟨.ref C :: vals, []⟩)).frames = A.frames := by
  show pushEnvs [] A.frames = A.frames
  cases A.frames <;> rfl
theorem ph (A : Around) (C : Addr) (vals : List Value) : (A.under (.builtin "type.__call__" ⟨.ref C :: vals, []⟩)).units ≤ A.units + 3 := by
  show A.units + 1 ≤ _
  exact Nat.add_le_add_left (by decide) _
theorem AR.under {n : Nat} {A : Around} (h : AR (n + 1) A) (C : Addr) (vals : List Value) : AR n (A.under (.builtin "type.__call__" ⟨.ref C :: vals, []⟩)) := by
  refine ⟨h.handled, ?_, ?_, fun hn outer ho => ?_⟩
  · rw [depth_under_kw]
    exact yn h.depth
  · exact Nat.lt_of_le_of_lt (Nat.add_le_add_right (Nat.add_le_add_right (ph A C vals) _) _) (yo h.units)
  · rw [iB] at ho
    exact h.st (Nat.le_succ_of_le hn) outer ho
theorem gq.of_frames {c : Cx} {A A' : Around} {ρ : aN} {h : Heap} (e : A'.frames = A.frames) (x : gq c A ρ h) : gq c A' ρ h := by
  obtain ⟨outer, ho, k⟩ := x
  exact ⟨outer, e.trans ho, k⟩
theorem bY {A A' : Around} (e : A'.frames = A.frames) {b : Addr} (x : bl A' b) : bl A b := by
  obtain ⟨outer, ho, k⟩ := x
  exact ⟨outer, e.symm.trans ho, k⟩
theorem sd.of_frames {c : Cx} {A A' : Around} {FX : Addr → Prop} {ρ : aN} {s s' : Shared} {σ : St} {e : Value} (q : A'.frames = A.frames) (x : sd c A' FX ρ s σ e s') : sd c A FX ρ s σ e s' := by
  obtain ⟨a, ρ₁, s₁, Z, h1, h2, h3, y⟩ := x
  obtain ⟨Fs, a0, t1, t2⟩ := y.tr
  exact ⟨a, ρ₁, s₁, Z, h1, h2, h3, ⟨fun b o e n => y.keep b o e fun z => n (bY q z), fun b o e n => y.frm b o e (bY q.symm n), y.new, ⟨Fs, a0, fun b => (t1 b).trans ⟨fun z => z.imp (bY q) id, fun z => z.imp (bY q.symm) id⟩, t2⟩, y.rest⟩⟩
section
variable {c : Cx} {K : Frag} {mb : Str → Option Value} {Γ : Gam} {n : Nat} {A : Around} {FX FY O : Addr → Prop} {ρ ρ₁ ρ' : aN} {σ σ1 σ' : St} {s s₁ s' : Shared} {h h' : Heap} {env : Env} {wc w xf : Bool} {ℓ ℓ' : aj} {ns : NL}
theorem sd.then {e : Value} (P : Ps c FX No ρ s ρ₁ σ1 s₁) (x : sd c A FX ρ₁ s₁ σ' e s') : sd c A FX ρ s σ' e s' := by
  obtain ⟨a, ρ₂, s₂, Z, h1, h2, h3, y⟩ := x
  have fz : ∀ b ∈ Z, s.heap.get? b = none := fun b hb => by
    cases q : s.heap.get? b with
    | none => rfl
    | some o => obtain ⟨o', q'⟩ := P.old.live b o q; rw [h3 b hb] at q'; cases q'
  refine ⟨a, ρ₂, s₂, Z, h1, ?_, fz, y⟩
  refine ⟨P.pre.trans h2.pre, h2.wr, (P.old.fewer fun b z => .inl (.inl z)).trans' h2.old fun b z => ?_, fun b hb => ?_, ?_⟩
  · rcases z with (z | z | z) | z
    · exact .inl (.inl (.inl z))
    · exact .inl (.inl (.inr (.inl z)))
    · rcases P.newp b z with q | q
      · exact .inl (.inl (.inr (.inr q)))
      · exact .inr q
    · exact z.elim
  · rcases h2.newp b hb with q | q
    · exact P.newp b q
    · cases e : s.heap.get? b with
      | none => exact .inr rfl
      | some o => obtain ⟨o', e'⟩ := P.old.live b o e; rw [q] at e'; cases e'
  · have a := P.rest; have b := h2.rest
    rw [b, a]
structure LamT (c : Cx) (k : Nat) (xs : List Nat) (params : Arguments) (body : PySem.Expr) (sc : Scope) (pos : Pos) : Prop where
  li : c.LI k = .Lambda params body sc pos
  cap : cy[k]? = some xs
  lt : ∀ x ∈ xs, x < 91 ∧ sc.names.lookup (ad x) = some .free
  all : ∀ y ∈ sc.names, (y.2 = .free ∧ ∃ x ∈ xs, y.1 = ad x) ∨ y.2 = .globalImplicit
  kind : sc.kind = .function
  co : sc.isCoroutine = false
  gen : sc.isGenerator = false
  bind : ∀ (s : Shared) (qual : Str) (cl : List (Str × Addr)) (pm cdv ct : Value), BindsTo s (kla_fn "<lambda>" qual params body sc cl pm cdv ct) ⟨[], []⟩ []
theorem jd : ∀ {xs : List Nat} {vs : List V} {ℓ ℓ' : aj} {x : Nat} {v : V}, ak xs vs ℓ = some ℓ' → ℓ' x = some v → ℓ x = some v ∨ ∃ i : Nat, xs[i]? = some x ∧ vs[i]? = some v
  | [], vs, ℓ, ℓ', x, v, h, q => gH (C := fun vs => ℓ x = some v ∨ ∃ i : Nat, ([] : List Nat)[i]? = some x ∧ vs[i]? = some v) (show g9 vs (some ℓ) = some ℓ' from h) fun e => by cases e; exact .inl q
  | y :: xs, vs, ℓ, ℓ', x, v, h, q => eG (C := fun vs => ℓ x = some v ∨ ∃ i : Nat, (y :: xs)[i]? = some x ∧ vs[i]? = some v) (show (f7 vs fun v vs => ak xs vs (upd ℓ y v)) = some ℓ' from h) fun u vs h => by
    rcases jd h q with z | ⟨i, z1, z2⟩
    · by_cases e : x = y
      · rw [show upd ℓ y u x = some u from if_pos e] at z
        cases z
        exact .inr ⟨0, by rw [e]; rfl, rfl⟩
      · exact .inl ((show upd ℓ y u x = ℓ x from if_neg e).symm.trans z)
    · exact .inr ⟨i + 1, z1, z2⟩
structure LmS (c : Cx) (A : Around) (FX : Addr → Prop) (ρ : aN) (σ : St) (s : Shared) (ℓ : aj) (ns : NL) (env : Env) (s₁ : Shared) : Prop where
  fr : env.frame = some env.locals
  fe : AC c ρ s₁.heap env
  kp : Kp No s.heap s₁.heap
  hr : s₁ = { s with heap := s₁.heap, toks := s₁.toks }
  fL : s.heap.get? env.locals = none
  T : At c (A.deeper env) ⟨env, false, fun b => FX b ∨ b = env.locals⟩ ns ℓ ρ σ s₁
structure CloR (c : Cx) (X : Addr → Prop) (ρ : aN) (h : Heap) (xs : List Nat) (l : List V) (cl : List (Str × Addr)) : Prop where
  live : ∀ m a, cl.lookup m = some a → ¬ X a ∧ ∃ v, h.IsCell a (some v)
  at_ : ∀ x ∈ xs, (cl.lookup (ad x)).isSome = true
  get : ∀ (i x : Nat) v, xs[i]? = some x → l[i]? = some v → ∃ a w, cl.lookup (ad x) = some a ∧ h.IsCell a (some w) ∧ VR c X ρ h v w
theorem uK {k : Nat} {l : List V} {xs : List Nat} {params : Arguments} {body : PySem.Expr} {sc : Scope} {pos : Pos} (L : LamT c k xs params body sc pos) (hn : n < 20) (hA : AR (n + 1) A) (Fa : gq c A ρ s.heap) (Ff : ∀ b, bl A b → FX b) (W : WR c ρ s.heap FX σ) (hb : ak xs l ao = some ℓ)
    {cl : List (Str × Addr)} (R : CloR c (XX ρ FX) ρ s.heap xs l cl) {h₁ : Heap} {m : Str → Option Value} (kk : ∀ b o, s.heap.get? b = some o → h₁.get? b = some o) {env : Env} (hns : h₁.Ns env.locals m) (eo : EnvOk env) (en : env.scope.names = sc.names) (ec : env.cells = cl) (ef : env.frame = some env.locals) (fL : s.heap.get? env.locals = none) (nL : ¬ XX ρ FX env.locals) (t : Nat) :
    LmS c A FX ρ σ s ℓ sc.names env { s with heap := h₁, toks := t } := by
  have kp : Kp No s.heap h₁ := Kp.of_all kk
  have lv : ∃ o, h₁.get? env.locals = some o := by obtain ⟨o, _, _, e, _⟩ := hns; exact ⟨o, e⟩
  have kd : ∀ x, env.kindOf x = sc.names.lookup x := fun x => by unfold Env.kindOf; rw [en]
  have nloc : ∀ x, env.kindOf x ≠ some .local := fun x z => (L.all _ (mem_of_lookup ((kd x).symm.trans z))).elim (fun q => nomatch q.1) fun q => nomatch q
  have W1 : WR c ρ h₁ (fun b => FX b ∨ b = env.locals) σ := W.enter kp (fun b z => z.imp id fun z => by rw [z]; exact ⟨fL, lv⟩) fun b z => .inl z
  have T : aG (XX ρ FX) (XX ρ fun b => FX b ∨ b = env.locals) s.heap h₁ := .of_keep fun b o e n => ⟨kk b o e, fun z => z.elim (fun z => n (.inl z)) fun z => z.elim (fun z => n (.inr z)) fun z => by rw [z, fL] at e; cases e⟩
  have bL : c.B.get? env.locals = none := by
    cases q : c.B.get? env.locals with
    | none => rfl
    | some o => have := W.base _ _ q; rw [fL] at this; cases this
  have fe : AC c ρ h₁ env := ⟨by rw [show env.scope.kind = .function from eo.kind]; decide, env.locals, ef, bL, fun z => nL (.inl z), (by
    obtain ⟨o, es, ep, e, hd, _⟩ := hns
    exact ⟨o, es, ep, e, hd, fun H => .inl nloc⟩)⟩
  refine ⟨ef, fe, kp, rfl, fL, ⟨eo, en, W1, ⟨fun b z => z.elim .inr fun z => (nomatch z.1), fun m a q => ?_, fun m a q => ?_, fun m z => ?_, fun z => (nomatch z), ⟨_, hns, fun x v hx hv hk => absurd hk (nloc _)⟩, fun x v hx hv hk => ?_, (Fa.all (h' := h₁) fun b o e H => kk b o e).cons fe, fun b z => (cT z).imp (Ff b) fun z => by rw [ef] at z; cases z; rfl⟩⟩⟩
  · rw [ec] at q
    obtain ⟨r1, _, o, q1, _⟩ := R.live m a q
    exact ⟨fun z => (by rw [z, fL] at q1; cases q1), fun z => r1 (.inl z)⟩
  · rw [ec] at q
    obtain ⟨_, v, o, q1, q2⟩ := R.live m a q
    exact ⟨some v, o, kk _ _ q1, q2⟩
  · rw [kd] at z
    rw [ec]
    have hm : ∃ x ∈ xs, m = ad x := z.elim (fun z => (L.all _ (mem_of_lookup z)).elim (fun q => nomatch q.1) fun q => nomatch q) fun z => (L.all _ (mem_of_lookup z)).elim (fun q => q.2) fun q => nomatch q
    obtain ⟨x, hx, e⟩ := hm
    rw [e]
    exact R.at_ x hx
  · rcases jd hb hv with z | ⟨i, z1, z2⟩
    · cases z
    · obtain ⟨a, w, q1, ⟨o, q2, q3⟩, q4⟩ := R.get i x v z1 z2
      exact ⟨a, w, (by rw [ec]; exact q1), ⟨o, kk _ _ q2, q3⟩, q4.mono T (List.prefix_refl _)⟩
theorem wp {X : Addr → Prop} {xs : List Nat} {l : List V} {cl : List (Str × Addr)} {as : List Addr} {vs : List Value} (l1 : as.length = xs.length) (l2 : vs.length = xs.length) (k1 : ∀ (i x : Nat) (a : Addr), xs[i]? = some x → as[i]? = some a → cl.lookup (ad x) = some a) (k0 : ∀ n a, cl.lookup n = some a → a ∈ as) (k2 : ∀ a ∈ as, ¬ X a)
    (k3 : ∀ (i : Nat) (a : Addr) (v : Value), as[i]? = some a → vs[i]? = some v → ∃ oc, h.get? a = some oc ∧ oc.data = .cell (some v)) (hl : VRs c X ρ h l vs) : CloR c X ρ h xs l cl := by
  refine ⟨fun m a q => ?_, fun x hx => ?_, fun i x v z1 z2 => ?_⟩
  · obtain ⟨i, hi⟩ := List.getElem?_of_mem (k0 m a q)
    have hiv : i < vs.length := by have := (List.getElem?_eq_some_iff.mp hi).1; omega
    obtain ⟨oc2, q1, q2⟩ := k3 i a vs[i] hi (List.getElem?_eq_getElem hiv)
    exact ⟨k2 a (k0 m a q), _, oc2, q1, q2⟩
  · obtain ⟨i, hi⟩ := List.getElem?_of_mem hx
    have hia : i < as.length := by have := (List.getElem?_eq_some_iff.mp hi).1; omega
    rw [k1 i x _ hi (List.getElem?_eq_getElem hia)]
    rfl
  · have hia : i < as.length := by have := (List.getElem?_eq_some_iff.mp z1).1; omega
    obtain ⟨u, hu, hvu⟩ := hl.get z2
    obtain ⟨oc2, q1, q2⟩ := k3 i as[i] u (List.getElem?_eq_getElem hia) hu
    exact ⟨as[i], u, k1 i x _ z1 (List.getElem?_eq_getElem hia), ⟨oc2, q1, q2⟩, hvu⟩
theorem lM (B : Bs c K mb) (hA : AR (n + 1) A) (hn : n < 20) {k : Nat} {l : List V} {fv : Value} {xs : List Nat} {params : Arguments} {body : PySem.Expr} {sc : Scope} {pos : Pos} (L : LamT c k xs params body sc pos)
    (Fa : gq c A ρ s.heap) (Ff : ∀ b, bl A b → FX b) (W : WR c ρ s.heap FX σ) (hv : VR c (XX ρ FX) ρ s.heap (.clo k l) fv) (hb : ak xs l ao = some ℓ) {Q : Value → Shared → Prop} {E : Value → Shared → Prop}
    (h : ∀ env s₁, AR n (A.deeper env) → LmS c A FX ρ σ s ℓ sc.names env s₁ → wpAny c.M (A.deeper env) (eval body env) Q (fun e' s' => wpAny c.M (A.deeper env) (leaving env e') (fun H s'' => E e' s'') (fun e'' s'' => E e'' s'') s') s₁) :
    wpAny c.M A (call fv []) Q E s := by
  rw [VR] at hv
  obtain ⟨vs, D, hl⟩ := hv
  obtain @⟨f, o, qual, params', body', scope', cl, pm, c', ctv, pos', xs', as, nf, nc, ho, hoc, hod, hL, ⟨oc, ws, t, g1, g3, g4⟩, hcap, l1, l2, k1, k0, k2, k3⟩ := D
  rw [L.li] at hL
  injection hL with a1 a2 a3 a4
  subst a1 a2 a3 a4
  rw [L.cap] at hcap
  cases hcap
  have R := wp l1 l2 k1 k0 k2 k3 hl
  clear k0 k1 k2 k3 hl l1 l2
  refine wpAny_call (kla_callFunE (by have := hA.depth; unfold recursionLimit; omega) ho hod L.co L.gen rfl ⟨c', oc, ws, t, rfl, g1, g3, g4⟩ (L.bind s _ _ _ _ _ _ _ _ _ ?_))
  refine wpAny_newFunctionEnv (fun y hy => ?_) (fun y hy => by cases hy) (fun h₁ hns hsb => ?_) L.kind
  · rcases L.all y hy with z | z
    · rw [z.1]; decide
    · rw [z]; decide
  · have kk : ∀ b o, s.heap.get? b = some o → h₁.get? b = some o := fun b o e => (hsb.2 b (Nat.ne_of_lt (Heap.lt_size e))).trans (Heap.get?_push_of_some _ e)
    exact ⟨(B.lim.keeps fun b o e => W.base b o e).keeps kk, kla_codeExpr (h (newEnv sc s.heap.objs.size mainGlobals cl (qual ++ ".<locals>.") (some f) (.ref c') none builtinsNs) _ (hA.deeper _ fun z => absurd hn (Nat.not_lt.mpr z)) (uK L hn hA Fa Ff W hb R kk hns ⟨L.kind, rfl, rfl⟩ rfl rfl rfl (an _) (jE W) _))⟩
end
section
variable {c : Cx} {K : Frag} {mb : Str → Option Value} {Γ : Gam} {n : Nat} {A : Around} {FX FY O : Addr → Prop} {ρ ρ₁ ρ' : aN} {σ σ1 σ' : St} {s s₁ s' : Shared} {h h' : Heap} {env : Env} {wc w xf : Bool} {ℓ ℓ' : aj} {ns : NL}
theorem iR : GOk c K bJ n := ⟨fun f ds σ r h => ae h, fun f ds σ r h => ae h⟩
def nG (c : Cx) (n : Nat) (k : Nat) : Prop := ∀ (A : Around) (FX : Addr → Prop) (ρ : aN) (σ σ' : St) (s : Shared) (l : List V) (fv : Value) (r : Option V), AR n A → gq c A ρ s.heap → (∀ b, bl A b → FX b) → WR c ρ s.heap FX σ → VR c (XX ρ FX) ρ s.heap (.clo k l) fv → ia k l σ = some (r, σ') →
    wpAny c.M A (call fv []) (fun v s' => ∃ d, r = some d ∧ Po c FX ρ s d σ' v s') (fun e s' => r = none ∧ sd c A FX ρ s σ' e s') s
theorem ry (Fa : gq c A ρ s.heap) {ns : NL} (S : LmS c A FX ρ σ s ℓ ns env s₁) {e : Value} (x : sd c (A.deeper env) (fun b => FX b ∨ b = env.locals) ρ s₁ σ' e s') : wpAny c.M (A.deeper env) (leaving env e) (fun H s'' => sd c A FX ρ s σ' e s'') aC s' := by
  obtain ⟨a, ρ₂, s₂, Z, rfl, P, hZ, y⟩ := x
  refine qn (S.T.fr.fr.ps P fun H H z => z) S.fr y fun s'' y' => ⟨a, ρ₂, s₂, env.locals :: Z, rfl, Ps.shut S.kp S.hr P (fun b z => z.elim) (fun b z => ?_) (List.prefix_refl _) (P.wr.weak fun b z => z.elim (fun z => .inl (.inl z)) fun z => (List.mem_cons.mp z).elim (fun z => .inl (.inr z)) .inr) fun b z => .inl z, fun b hb => ?_, y'.out Fa.choose_spec.1 S.fr⟩
  · exact .inl (z.elim (fun z => z.imp id fun z => by rw [z]; exact List.mem_cons_self) fun z => .inr (List.mem_cons_of_mem _ z))
  · rcases List.mem_cons.mp hb with z | z
    · rw [z]; exact S.fL
    · cases q : s.heap.get? b with
      | none => rfl
      | some o => have := S.kp.keep b o q fun z => z; rw [hZ b z] at this; cases this
theorem uC {ns : NL} (S : LmS c A FX ρ σ s ℓ ns env s₁) {d : V} {v : Value} (x : Po c (fun b => FX b ∨ b = env.locals) ρ s₁ d σ' v s') : Po c FX ρ s d σ' v s' := by
  obtain ⟨ρ', P, hv⟩ := x
  exact ⟨ρ', Ps.shut S.kp S.hr P (fun b z => z.elim) (fun b z => z.imp id fun z => by rw [z]; exact S.fL) (List.prefix_refl _) (P.wr.weak fun b z => .inl z) (fun b z => .inl z), hv.mono (cE fun b z => .inl z) (List.prefix_refl _)⟩
theorem uA (B : Bs c K mb) (hn : n < 20) {k m a : Nat} {D : aB} {xs : List Nat} {params : Arguments} {sc : Scope} {pos p1 p2 p3 : Pos} {es : List PySem.Expr}
    (L : LamT c k xs params (.Call (.Attribute (.Name (ad 71) p1) (ad m) p2) es [] p3) sc pos) (T : ∀ A, AR n A → SL c bJ A sc.names (vW k) es) (hl30 : es.length < 30) (hline : (p2.endLine == p3.line) = true) (hvar : oj sc.names 71 = true)
    (hm85 : m < 91) (hma : c9.contains m = false) (hf : findIn K (.ref FC) (ad m) = some (some (.ref a))) (ht : isFn K (.ref a) = true) (X : t5 c n D a) (hD : ia k = wR k D) : nG c (n + 1) k := by
  intro A FX ρ σ σ' s l fv r hA Fa Ff W hv e
  rw [hD] at e
  refine bS (show ((cy[k]?).bind fun xs => (ak xs l ao).bind fun ℓ => (ℓ 71).bind fun v => oN v fun f => uO D k f ℓ σ) = some (r, σ') from e) fun xs' hc e => ?_
  rw [L.cap] at hc
  cases hc
  refine bS e fun ℓ hb e => bS e fun v h71 e => oP (C := fun v => ℓ 71 = some v → _) e (fun f e h71 => gg e fun m' hm' e => qv (C := fun m' => σ[f]? = some m' → _) e (fun ks il e hinst => bS e fun q has hme => ?_) hm') h71
  obtain ⟨o, fd, ho, hfd, hX⟩ := X
  refine lM B hA hn L Fa Ff W hv hb fun env s₁ hA' S => ?_
  have T' := T _ hA'
  refine cP rfl T'.st hl30 hline fun pl => S.T.fr.load S.T.eo (iC S.T hvar).1 h71 (iC S.T hvar).2 fun w hw => kI B S.T.wr hw hinst hm85 hma hf ht ?_
  refine Calls.callWith_function (o := o) (fd := fd) (aQ T'.st (T'.use S.T has fun ws ρ₁ s₂ T₂ P hws => ?_))
  refine ⟨⟨T₂.wr.base _ _ ho, hfd⟩, wpAny_call (codeAny_mono (hX (A.deeper env) _ ρ₁ q.2 σ' s₂ (.mut f :: q.1) (w :: ws) r hA' T₂.fr.fr T₂.fr.ff T₂.wr (by rw [VRs]; exact ⟨P.vr hw, hws⟩) hme) fun rr s₃ z => ?_)⟩
  cases rr with
  | error e' => exact wpAny_mono (ry Fa S (sd.then P z.2)) (fun H H y => ⟨z.1, y⟩) fun H H y => y.elim
  | ok fl =>
    cases fl with
    | ret v =>
      obtain ⟨d, hd, z⟩ := z
      exact ⟨d, hd, uC S (Po.then P z)⟩
    | _ => exact z.elim
end
structure MkB (c : Cx) (K : Frag) (aI : Addr) : Prop where
  obj : ∃ ep : EP, c.B.get? FC = some (rk ep FC [.type "object"] true "object.__new__")
  makes : makesIn K FC = true
  init : findIn K (.ref FC) qs = some (some (.ref aI))
  fn : typeIn K (.ref aI) = some (.type "function")
  name : c.mg (ad 83) = some (.ref FC)
section
variable {c : Cx} {K : Frag} {mb : Str → Option Value} {Γ : Gam} {n : Nat} {A : Around} {FX FY O : Addr → Prop} {ρ ρ₁ ρ' : aN} {σ σ1 σ' : St} {s s₁ s' : Shared} {h h' : Heap} {env : Env} {wc w xf : Bool} {ℓ ℓ' : aj} {ns : NL}
theorem sM (W : WR c ρ s.heap FX σ) : Ps c FX No ρ s (ρ ++ [(s.heap.objs.size + 1, some s.heap.objs.size)]) (σ ++ [.inst [] []]) { s with heap := (s.heap.push emptyDict).push (instObj FC s.heap.objs.size) } := by
  have e1 : ((s.heap.push emptyDict).push (instObj FC s.heap.objs.size)).get? (s.heap.objs.size + 1) = some (instObj FC s.heap.objs.size) := by heap_get
  have e2 : ((s.heap.push emptyDict).push (instObj FC s.heap.objs.size)).get? s.heap.objs.size = some emptyDict := Heap.get?_push_of_some _ (Heap.get?_push_size _ rfl)
  refine W.make (t := s.toks) (Kp.of_all fun b o e => Heap.get?_push_of_some _ (Heap.get?_push_of_some _ e)) (fun b hb => ?_) (fun z => ?_) ⟨s.heap.objs.size, #[], [], 0, [], rfl, e1, e2, (fun k hk => by cases hk), .nil, (fun e he => by cases he), by rw [VRs]; trivial⟩
  · rcases hb with rfl | hb
    · exact Heap.get?_none_of_le (Nat.le_succ _)
    · cases hb; exact an _
  · injection z with z
    exact absurd z (Nat.ne_of_lt (Nat.lt_succ_self _))
theorem x0 {ρ₁ : aN} {hp : Heap} {g : Array GenState} {d : Drawn} {tk : Nat} {os : OsState} (W : WR c ρ₁ hp FX σ) (P3 : Ps c FX No ρ₁ { heap := hp, gens := g, drawn := d, toks := tk, os := os } (ρ₁ ++ [(hp.objs.size + 1, some hp.objs.size)]) (σ ++ [.inst [] []]) { heap := (hp.push emptyDict).push (instObj FC hp.objs.size), gens := g, drawn := d, toks := tk, os := os }) :
    VR c (XX (ρ₁ ++ [(hp.objs.size + 1, some hp.objs.size)]) FX) (ρ₁ ++ [(hp.objs.size + 1, some hp.objs.size)]) ((hp.push emptyDict).push (instObj FC hp.objs.size)) (.mut σ.length) (.ref (hp.objs.size + 1)) := by
  rw [VR]
  exact ⟨(hp.objs.size + 1, some hp.objs.size), by rw [← W.len]; simp, rfl⟩
theorem rC {k : Nat} {q : Option V × St} {r : Option V} (e : oE k q = some (r, σ')) {C : Prop} (k1 : q = (some .none, σ') → r = some (.mut k) → C) (k2 : q = (none, σ') → r = none → C) : C := by
  obtain ⟨o, σ₂⟩ := q
  cases o with
  | none => cases e; exact k2 rfl rfl
  | some v => cases v <;> first | exact ae e | (cases e; exact k1 rfl rfl)
theorem wS (B : Bs c K mb) (hn : n + 1 < 20) {aI : Addr} {params : Arguments} {sc : Scope} {pos p1 p3 : Pos} {es : List PySem.Expr} (M : MkB c K aI)
    (L : LamT c 6 [3, 0, 19, 2] params (.Call (.Name (ad 83) p1) es [] p3) sc pos) (T : ∀ A, AR (n + 1) A → SL c bJ A sc.names (vW 6) es) (hg : cU sc.names (ad 83) = true) (X : t5 c n jR aI) : nG c (n + 2) 6 := by
  intro A FX ρ σ σ' s l fv r hA Fa Ff W hv e
  refine bS (show ((ak [3, 0, 19, 2] l ao).bind fun ℓ => (evEs bJ (vW 6) ℓ σ).bind fun p => (jR (.mut p.2.length :: p.1) (p.2 ++ [.inst [] []])).bind (oE p.2.length)) = some (r, σ') from e) fun ℓ hb e => bS e fun p has e => bS e fun q hD e => ?_
  obtain ⟨o, fd, ho, hfd, hX⟩ := X
  obtain ⟨ep, hC⟩ := M.obj
  refine lM B hA hn L Fa Ff W hv hb fun env s₁ hA' S => ?_
  have T' := T _ hA'
  refine wpAny_bind (i3 B S.T.wr S.T.eo (by rw [S.T.nm]; exact hg) M.name ?_)
  unfold callWith
  refine wpAny_bind (wpAny_holding (wpAny_mono (E := aC) (Q := fun a s₂ => ∃ ws, a = (⟨ws, []⟩ : Args) ∧ Gm c (fun b => FX b ∨ b = env.locals) ρ s₁ p.1 p.2 ws s₂) (aQ T'.st (wpAny_mono (T'.ok _ ℓ ρ σ p.2 s₁ p.1 _ S.T has) (fun ws s₂ hh => ⟨ws, rfl, hh⟩) fun H H x => x)) (fun a s₂ hh => ?_) fun H H x => x.elim))
  obtain ⟨ws, rfl, ρ₁, P, hws⟩ := hh
  refine wpAny_bind (wpAny_standAt ?_)
  have hC' : s₂.heap.get? FC = some (rk ep FC [.type "object"] true "object.__new__") := P.wr.base _ _ hC
  have hXK : K.In s₂.heap := B.X.keeps P.wr.base
  have F₂ := S.T.fr.ps P S.T.wr
  have P3 := sM P.wr
  obtain ⟨hp, g, d, tk, os⟩ := s₂
  have hpl : ((backTo p3 (starEach es env)).any (·.1) || (backToKw p3 (keywordEach [] env)).any (·.1.isNone)) = false := by
    rw [(dg (p := p3) (env := env) T'.st).2]; rfl
  rw [hpl, show ([] : List Value) ++ ws = ws from rfl]
  refine wpAny_bind (wpAny_keeperOf_exc hC' ?_)
  refine wpAny_bind (wpAny_call (make_core (makes_of hXK M.makes) (looks_findIn hXK M.init) (fun self => bind_fn hXK self M.fn) (.inl rfl) ?_))
  have uf := iB (A.deeper env) FC ws
  have hmut := x0 P.wr P3
  refine codeAny_mono (hX _ (fun b => FX b ∨ b = env.locals) _ _ q.2 { heap := (hp.push emptyDict).push (instObj FC hp.objs.size), gens := g, drawn := d, toks := tk, os := os } (.mut p.2.length :: p.1) (.ref (hp.objs.size + 1) :: ws) q.1 (hA'.under FC ws) ((F₂.ps P3 P.wr).fr.of_frames uf) (fun b z => F₂.ff b (bY uf z)) P3.wr (by rw [VRs]; exact ⟨hmut, P3.vrs hws⟩) hD) fun rr s₃ z => ?_
  cases rr with
  | error e' =>
    obtain ⟨hq, z⟩ := z
    refine rC e (fun h H => by rw [h] at hq; cases hq) fun h hr => ?_
    rw [h] at z
    exact wpAny_mono (ry Fa S (sd.then (P.trans P3) (z.of_frames uf))) (fun H H y => ⟨hr, y⟩) fun H H y => y.elim
  | ok fl =>
    cases fl with
    | ret v =>
      obtain ⟨d', hd', ρ₂, P4, hv4⟩ := z
      refine rC e (fun h hr => ?_) fun h H => by rw [h] at hd'; cases hd'
      subst h
      cases hd'
      rw [VR] at hv4
      subst hv4
      exact ⟨rfl, wpAny_bind (wpAny_holding (wpAny_point (wpAny_pure ⟨_, hr, uC S ⟨ρ₂, (P.trans P3).trans P4, P4.vr hmut⟩⟩)))⟩
    | _ => exact z.elim
end
section
variable {c : Cx} {K : Frag} {mb : Str → Option Value} {Γ : Gam} {n : Nat} {A : Around} {FX FY O : Addr → Prop} {ρ ρ₁ ρ' : aN} {σ σ1 σ' : St} {s s₁ s₂ s' : Shared} {h h' : Heap} {env : Env} {wc w xf : Bool} {ℓ ℓ' : aj} {ns : NL}
theorem WR.chg (W : WR c ρ h FX σ) (ke : ∀ b o, ¬ FX b → h.get? b = some o → h'.get? b = some o) (k : ∀ b, FY b → FX b ∧ ∃ o, h'.get? b = some o) : WR c ρ h' FY σ := by
  have S : aG (XX ρ FX) (XX ρ FY) h h' := .of_keep fun b o e n => ⟨ke b o (fun z => n (.inr z)) e, fun z => n (z.imp id fun z => (k b z).1)⟩
  have mx : ∀ b, MX ρ b → ¬ FX b := fun b z y => (W.fx b y).2.2 z
  have km : ∀ b o, h.get? b = some o → MX ρ b → h'.get? b = some o := fun b o e z => ke b o (mx b z) e
  refine ⟨fun b o e => ke b o (fun z => ?_) (W.base b o e), W.len, W.nd, fun i q m hq hm => ?_, W.new, ?_, ?_, fun b hb => ⟨(k b hb).2, (W.fx b (k b hb).1).2⟩⟩
  · have := (W.fx b z).2.1; rw [e] at this; cases this
  · have z := W.at_ i q m hq hm
    have y := z.stays (h' := h') fun b o e y => km b o e (.inr (.inr (d9 (List.mem_of_getElem? hq) y)))
    exact z.mono S (List.prefix_refl _) y.1 y.2
  · obtain ⟨o, e⟩ := W.T1; exact W.t1.mono S ((km _ _ e (.inr (.inl rfl))).trans e.symm)
  · obtain ⟨o, e⟩ := W.T2; exact W.t2.mono S ((km _ _ e (.inl rfl)).trans e.symm)
theorem sk (W : WR c ρ h FX σ) {Fs : List Addr} (k : ∀ b ∈ Fs, FX b) : ∀ b o, c.B.get? b = some o → (hideAll h Fs).get? b = some o := fun b o e => hideAll_get _ (W.base b o e) fun z => by
  have := (W.fx b (k b z)).2.1
  rw [e] at this; cases this
theorem F8 (hst : ∀ outer, A.frames = some outer → ∀ env ∈ outer, ¬ cN env) (Fa : gq c A ρ s.heap) (Ff : ∀ b, bl A b → FX b) (W : WR c ρ s.heap FX σ) (kp : Kp No s.heap s₁.heap) (hr : s₁ = { s with heap := s₁.heap, toks := s₁.toks }) {Ow : Addr → Prop} {Z Fs : List Addr}
    (nw : ∀ b, Ow b → s.heap.get? b = none) (P : Ps c (fun b => (FX b ∨ Ow b) ∨ b ∈ Z) No ρ s₁ ρ' σ' s₂) (hZ : ∀ b ∈ Z, s₁.heap.get? b = none) (hFs : ∀ b, b ∈ Fs → bl A b ∨ Ow b ∨ b ∈ Z) (hin : ∀ b, bl A b → b ∈ Fs)
    (k1 : ∀ b o, (hideAll s₂.heap Fs).get? b = some o → h'.get? b = some o) (k2 : ∀ b o, s₂.heap.get? b = some o → bl A b → ∃ sl, h'.get? b = some { o with slots := sl }) (t : Nat) :
    Ps c FX No ρ s ρ' σ' { s with heap := h', toks := t } := by
  have liveFX : ∀ b, FX b → ∃ o, s.heap.get? b = some o := fun b z => (W.fx b z).1
  have nOw : ∀ b o, s.heap.get? b = some o → ¬ Ow b := fun b o e z => by have := nw b z; rw [e] at this; cases this
  have nZ : ∀ b o, s.heap.get? b = some o → b ∉ Z := fun b o e z => by have := hZ b z; rw [kp.keep b o e fun y => y] at this; cases this
  have s2 : ∀ b o, s.heap.get? b = some o → ∃ o', s₂.heap.get? b = some o' := fun b o e => P.old.live b o (kp.keep b o e fun y => y)
  have ex : ∀ b o, s₂.heap.get? b = some o → b ∉ Fs → h'.get? b = some o := fun b o e n => k1 b o (hideAll_get _ e n)
  have step : ∀ b o, s₂.heap.get? b = some o → (∃ o₀, s.heap.get? b = some o₀) → ∃ o', h'.get? b = some o' ∧ (o' = o ∨ (bl A b ∧ ∃ sl, o' = { o with slots := sl })) := fun b o e ⟨o₀, e₀⟩ => by
    by_cases hb : b ∈ Fs
    · rcases hFs b hb with z | z | z
      · obtain ⟨sl, q⟩ := k2 b o e z
        exact ⟨_, q, .inr ⟨z, sl, rfl⟩⟩
      · exact absurd z (nOw b _ e₀)
      · exact absurd z (nZ b _ e₀)
    · exact ⟨o, ex b o e hb, .inl rfl⟩
  have ne : ∀ b o, bl A b → s.heap.get? b = some o → ∃ es k, o.data = .dict es k ∧ es ≠ #[] := fun b o z e => by
    obtain ⟨outer, ho, env, he, hf⟩ := z
    obtain ⟨outer', ho', all⟩ := Fa
    rw [ho] at ho'; cases ho'
    obtain ⟨_, L, h2, _, _, o', es, k, h5, h6, h7⟩ := all env he
    rw [hf] at h2; cases h2
    rw [e] at h5; cases h5
    exact ⟨es, k, h6, fun y => hst _ ho env he (h7 y)⟩
  have W2 : WR c ρ' h' FX σ' := P.wr.chg (fun b o n e => ex b o e fun z => by
    rcases hFs b z with y | y | y
    · exact n (.inl (.inl (Ff b y)))
    · exact n (.inl (.inr y))
    · exact n (.inr y)) fun b z => ⟨.inl (.inl z), by
    obtain ⟨o, e⟩ := liveFX b z
    obtain ⟨o', e'⟩ := s2 b o e
    obtain ⟨o'', e'', _⟩ := step b o' e' ⟨o, e⟩
    exact ⟨o'', e''⟩⟩
  refine ⟨P.pre, W2, ⟨fun b o e => ?_, fun b o e n => ?_⟩, fun b hb => ?_, rfl⟩
  · obtain ⟨o', e'⟩ := s2 b o e
    obtain ⟨o'', e'', _⟩ := step b o' e' ⟨o, e⟩
    exact ⟨o'', e''⟩
  · obtain ⟨o', e', u⟩ := P.old.keep b o (kp.keep b o e fun y => y) n
    have u' : lj (FX b) o o' := u.imp fun z => by
      rcases z with (z | z) | z
      · exact z
      · exact absurd z (nOw b o e)
      · exact absurd z (nZ b o e)
    obtain ⟨o'', e'', z⟩ := step b o' e' ⟨o, e⟩
    rcases z with rfl | ⟨z, sl, rfl⟩
    · exact ⟨_, e'', u'⟩
    · obtain ⟨es, k, h1, h2⟩ := ne b o z e
      refine ⟨_, e'', u'.trans (.inr ⟨Ff b z, ⟨es, k, u'.data.trans h1, h2⟩, rfl, rfl, rfl⟩)⟩
  · rcases P.newp b hb with q | q
    · exact .inl q
    · right
      cases e : s.heap.get? b with
      | none => rfl
      | some o => have := kp.keep b o e fun y => y; rw [q] at this; cases this
structure TdB (c : Cx) (a : Addr) (o : Obj) (fd : FuncData) (ns : NL) : Prop where
  fn : ∃ (p1 p2 p3 p4 p5 p6 p7 p8 : Pos) (k : Nat), FnB c a o fd [79] [.Try [.Return (some (.Call (.Name (ad 79) p1) [] [] p2)) p3] [.ExceptHandler (some (.Name (ad 82) p4)) none [.Return (some (.Constant (.str (dE 24)) k p5)) p6] p7] [] [] p8] ns
  dl : ns.lookup (ad 79) = some .local
  ff : cU ns (ad 82) = true
theorem vI (B : Bs c K mb) (Y : XB c K mb) (hst : ∀ outer, A.frames = some outer → ∀ env ∈ outer, ¬ cN env) (Fa : gq c A ρ s.heap) (Ff : ∀ b, bl A b → FX b) (W : WR c ρ s.heap FX σ) (hf : env.frame = some env.locals) (hg : cU ns (ad 82) = true) (F : FrS c A FX ρ σ s ns ℓ env s₁) {e : Value}
    (x : sd c (A.deeper env) (fun b => FX b ∨ bQ env true b) ρ s₁ σ' e s₂) {p4 p5 p6 p7 : Pos} {kk : Nat} {Q : Flow → Shared → Prop} {E : Value → Shared → Prop} (hQ : ∀ v t, Po c FX ρ s (.str 24) σ' v t → Q (.ret v) t) :
    wpAny c.M (A.deeper env) (noteFrame e env) (fun H t₂ => wpAny c.M (A.deeper env) (setFlight e none) (fun H t₃ => wpAny c.M (A.deeper env) (handleBy e env [.ExceptHandler (some (.Name (ad 82) p4)) none [.Return (some (.Constant (.str (dE 24)) kk p5)) p6] p7]) Q E t₃) E t₂) E s₂ := by
  obtain ⟨a', ρ₂, s₃, Z, rfl, P, hZ, y⟩ := x
  have F₃ : gq c (A.deeper env) ρ₂ s₃.heap := F.T.fr.fr.ps P fun H H z => z
  obtain ⟨outer, ho, all⟩ := id F₃
  obtain ⟨fs, hfs, rfl⟩ := Option.map_eq_some_iff.mp (show A.frames.map (env :: ·) = some outer from ho)
  obtain ⟨Fs, a0, t1, t3⟩ := y.tr
  have hb0 : ∀ b, bl (A.deeper env) b → (hideAll s₃.heap Fs).get? b = none := fun b z => hideAll_none _ ((t1 b).mpr (.inl z))
  have hen : (hideAll s₃.heap Fs).get? a' = none := by
    cases q : (hideAll s₃.heap Fs).get? a' with
    | none => rfl
    | some ob => have := of_hideAll _ q; rw [y.new] at this; cases this
  have hkb : (hideAll s₃.heap Fs).StaysIn s₂.heap := fun b o q => by
    have hin : b ∉ Fs := fun z => by rw [hideAll_none _ z] at q; cases q
    exact y.keep b o (of_hideAll _ q) (fun z => hin ((t1 b).mpr (.inl z))) fun z => hin ((t1 b).mpr (.inr z))
  have hfun : s₂.heap.FunFrames (hideAll s₃.heap Fs) (env :: fs) := d7 (P := bl (A.deeper env)) all (fun en he b hb => ⟨_, ho, en, he, hb⟩) (fun b o q z => y.frm b o q z) hb0
  have hbase := sk P.wr (Fs := Fs) fun b z => ((t1 b).mp z).imp (F.T.fr.ff b) id
  refine wpAny_looks_onW ho hf ⟨hkb, hen, hfun, t3⟩ fun h₄ hh4 u₄ => wpAny_landsW hh4 fun h₅ hf5 u₅ => ?_
  have st5 : ∀ b o, c.B.get? b = some o → h₅.get? b = some o := fun b o e => hf5.1 b o (hbase b o e)
  obtain ⟨ep, hC⟩ := Y.obj
  obtain ⟨ob, hob, hobc⟩ := hf5.there
  refine wpAny_handleBy_cons (codeAny_handlers_test (Name_function_global F.T.eo.kind (by unfold Env.kindOf; rw [F.T.nm]; exact eq_of_beq (ba hg).1) (loadGlobal_global (by rw [F.T.eo.glob]; exact B.G.at' fun o e => st5 _ o e) Y.ff ?_) (ij 82 (by decide)))) (by intro q; cases q)
  refine wpAny_excMatches_sub_self (st5 _ _ hC) hob hobc (by decide) (codeAny_handlers_suite (lands_againW hf5 fun h₆ hf₆ u₆ => wpAny_execs_cons (wpAny_Return_some (Calls.Constant_str (hQ _ _ ⟨ρ₂, ?_, ng (by decide)⟩)))))
  have k2' : ∀ b o, s₃.heap.get? b = some o → bl A b → ∃ sl, h₆.get? b = some { o with slots := sl } := fun b o q z => by
    obtain ⟨⟨o', es, k', q1, q2⟩, _⟩ := F₃.live (i8 z)
    rw [q] at q1; cases q1
    obtain ⟨sl, q3⟩ := y.frm b o q (i8 z)
    have nf : ∀ (sl : Array (Option Value)) (vs : Array Value), ({ o with slots := sl } : Obj).data ≠ .fields vs := fun sl vs w => by
      have w' : o.data = .fields vs := w
      rw [q2] at w'; cases w'
    obtain ⟨sl2, q4⟩ := u₄ b _ q3 (nf _)
    obtain ⟨sl3, q5⟩ := u₅ b _ q4 (nf _)
    obtain ⟨sl4, q6⟩ := u₆ b _ q5 (nf _)
    exact ⟨sl4, q6⟩
  have e1 : s₂ = { s with heap := s₂.heap, toks := s₂.toks } := by
    rw [y.rest]
    have := P.rest
    rw [this, F.hr]
  rw [e1]
  exact F8 (h' := h₆) hst Fa Ff W F.kp F.hr F.nw P hZ (Fs := Fs) (fun b z => ((t1 b).mp z).elim (fun z => (cT z).imp id fun z => by rw [hf] at z; cases z; exact .inl (.inl rfl)) fun z => .inr (.inr z)) (fun b z => (t1 b).mpr (.inl (i8 z))) (fun b o e => hf₆.1 b o e) k2' (s₂.toks + 1)
theorem Av {dv : List V} {d : V} {C : List V → Prop} (e : cw dv σ = some (some d, σ')) (k : ∀ j cs r, ia j cs σ = some (r, σ') → d = r.getD (.str 24) → C [.clo j cs]) : C dv :=
  eG (C := C) e fun v vs e => gH (C := fun vs => C (v :: vs)) e fun e => CT (C := fun v => C [v]) e fun j cs e => bS e fun q h e => by
    cases e
    exact k j cs q.1 h rfl
theorem xw (B : Bs c K mb) (Y : XB c K mb) (hn : 20 ≤ n) {a : Addr} {o : Obj} {fd : FuncData} (N : TdB c a o fd ns) (hst : ∀ L a, ¬ cN (callEnvC fd L a)) {j : Nat} (hj : j ≤ n) (X : ∀ k, nG c j k) : bC c (n + 1) cw a := by
  obtain ⟨p1, p2, p3, p4, p5, p6, p7, p8, kk, Nf⟩ := N.fn
  refine ⟨o, fd, Nf.at_, Nf.data, fun A FX ρ σ σ' s dv vs d hA Fa Ff W hv e => ?_⟩
  refine Av (C := fun dv => VRs c (XX ρ FX) ρ s.heap dv vs → wpAny c.M A (call (.ref a) vs) (Po c FX ρ s d σ') aC s) e (fun k cs r hl hd hv => s5 (kE (ℓ := upd ao 79 (.clo k cs)) B Nf hA (fun L a H => hst L a) Fa Ff W hv rfl fun env s₁ hf H H hA' F => ?_)) hv
  have hkd : env.kindOf (ad 79) = some .local := by unfold Env.kindOf; rw [F.T.nm]; exact N.dl
  refine wpAny_execs_cons (wpAny_Try_except (wpAny_execs_cons (wpAny_Return_some (wpAny_bind (F.T.fr.load F.T.eo (x := 79) (by decide) (d := .clo k cs) (if_pos rfl) (.inl hkd) fun fv hfv => ?_)))))
  have hcl := hfv
  rw [VR] at hcl
  obtain ⟨_, D, _⟩ := hcl
  obtain @⟨f, of, _, _, _, _, _, _, _, _, _, _, _, _, _, hff, _, hof, _⟩ := D
  obtain ⟨fdf, hof⟩ : ∃ fdf, of.data = .func fdf := ⟨_, hof⟩
  refine Calls.callWith_function (o := of) (fd := fdf) (aQ (es := []) (fun H h => nomatch h) ?_)
  rw [pR]
  refine Calls.spliced_nil ?_
  refine ⟨⟨hff, hof⟩, wpAny_mono (X k (A.deeper env) _ ρ σ σ' s₁ cs (.ref f) r (hA'.mono hj) F.T.fr.fr F.T.fr.ff F.T.wr hfv hl) (fun v s₂ hx => ?_) fun e s₂ hx => ?_⟩
  · obtain ⟨d', hd', ρ', P, hv'⟩ := hx
    rw [hd'] at hd
    cases hd
    exact ⟨ρ', F.shut P (fun b z => z.elim) (fun b z => .inl z) fun b z => z.imp id (F.nw b), hv'.mono (cE fun b z => .inl z) (List.prefix_refl _)⟩
  · obtain ⟨hrn, hx⟩ := hx
    rw [hrn] at hd
    cases hd
    exact vI B Y (hA.st (Nat.le_succ_of_le hn)) Fa Ff W hf N.ff F hx fun v t h => h
end
noncomputable def yc : V → PySem.Expr → Bool
  | .int i, x => (dK x).any (cI fun j => i == j) || (Ee x).any fun z => Cv z.1 && (dK z.2).any (cI fun j => i == -j)
  | .bool b, x => (dK x).any (cB fun d => b == d)
  | .str s, x => (dK x).any (cS fun y => decide (s < 31) && y == dE s)
  | .bytes b, x => (dK x).any (cY fun d => b == d)
  | _, _ => false
noncomputable def wN : V → Bool
  | .none => true
  | _ => false
noncomputable def mP : E → Bool
  | .lit v => wN v
  | _ => false
mutual
noncomputable def kM (t : Bool) (ns : NL) : E → PySem.Expr → Bool
  | .lit v, x => yc v x
  | .loc y, x => (rf x).any fun n => n == ad y && oj ns y
  | .glob y, x => (rf x).any fun n => y == 30 && (n == ad 30 && cU ns n)
  | .tup ds, x => (pY x).any fun es => decide (ds.length ≤ 100) && kEs ns ds es
  | .lst ds, x => (wx x).any fun es => decide (ds.length ≤ 100) && kEs ns ds es
  | .mlst ds, x => (wx x).any fun es => decide (ds.length ≤ 100) && kEs ns ds es
  | .dct ks ds, x => (yW x).any fun z => decide (ks.length ≤ 15) && (decide (ks ≠ []) && (decide ks.Nodup && kPrs ns ds ks z.1 z.2))
  | .mdct ks ds, x => (yW x).any fun z => decide (ks.length ≤ 15) && (decide (ks ≠ []) && (decide ks.Nodup && kPrs ns ds ks z.1 z.2))
  | .bin op a b, x => (B4 x).any fun z => op == z.2.1 && (kM false ns a z.1 && kM false ns b z.2.2)
  | .ifx c a b, x => (B9 x).any fun z => kM true ns c z.1 && (kM t ns a z.2.1 && kM t ns b z.2.2)
  | .cmp op a b, x => (B5 x).any fun z => (bT z.2.1).any fun o => o.2.isEmpty && (op == o.1 && (bT z.2.2).any fun y => y.2.isEmpty && (!fu y.1 && (kM false ns a z.1 && kM false ns b y.1)))
  | .and ds, x => (Eb x).any fun z => wM z.1 && (t && kAnds ns ds z.2)
  | .or ds, x => (Eb x).any fun z => !wM z.1 && (t && kOrs ns ds z.2)
  | .not a, x => (Ee x).any fun z => zl z.1 && (t && kM true ns a z.2)
  | .idx a i, x => (tM x).any fun z => kM false ns a z.1 && kM false ns i z.2
  | .slc a l h, x => (tM x).any fun z => kM false ns a z.1 && (Bd z.2).any fun y => y.2.2.isNone && ((y.1.isSome || y.2.1.isSome) && ((match y.1 with | some e => kM false ns l e | none => mP l) && (match y.2.1 with | some e => kM false ns h e | none => mP h)))
  | .attr a y, x => (tG x).any fun z => z.2.1 == ad y && (c9.contains y && (!eM z.1 && kM false ns a z.1))
  | .call f ds, x => (pW x).any fun z => z.2.2.1.isEmpty && (rf z.1).any fun n => n == ad f && (cU ns n && (decide (ds.length < 30) && kEs ns ds z.2.1))
  | .meth o m ds, x => (pW x).any fun z => z.2.2.1.isEmpty && (tG z.1).any fun y => y.2.1 == ad m && (decide (m < 91) && (!c9.contains m && (!eM y.1 && (decide (z.2.1.length < 30) && ((y.2.2.endLine == z.2.2.2.line) && (kM false ns o y.1 && kEs ns ds z.2.1))))))
  | .bi b ds, x => (pW x).any fun z => z.2.2.1.isEmpty && (rf z.1).any fun n => n == kh b && (cU ns n && kEs ns ds z.2.1)
  | .bm o m ds, x => (pW x).any fun z => z.2.2.1.isEmpty && (tG z.1).any fun y => y.2.1 == pS m && (!eM y.1 && (decide (z.2.1.length < 30) && ((y.2.2.endLine == z.2.2.2.line) && (kM false ns o y.1 && kEs ns ds z.2.1))))
  | .comp xs elt it ifs mu en, x => (Ed x).any fun z => (bT z.2.1).any fun g => g.2.isEmpty && (g.1.is_async == 0 && (fK z.2.2.1.names xs g.1.target && (pa ns xs z.2.2.1 && (kM false (cf ns z.2.2.1.names) elt z.1 && (kAnds (cf ns z.2.2.1.names) ifs g.1.ifs &&
      (if en = true then xs.length == 2 && (pW g.1.iter).any fun c => c.2.2.1.isEmpty && (rf c.1).any fun n => n == Str.ofString "enumerate" && (cU ns n && (bT c.2.1).any fun e => e.2.isEmpty && (!du e.1 && kM false ns it e.1))
        else !fu g.1.iter && kM false ns it g.1.iter))))))
  | .lam _, _ => false
noncomputable def kEs (ns : NL) : List E → List PySem.Expr → Bool
  | [], es => es.isEmpty
  | d :: ds, es => (bT es).any fun z => !du z.1 && (kM false ns d z.1 && kEs ns ds z.2)
noncomputable def kAnds (ns : NL) : List E → List PySem.Expr → Bool
  | [], es => es.isEmpty
  | d :: ds, es => (bT es).any fun z => kM true ns d z.1 && kAnds ns ds z.2
noncomputable def kOrs (ns : NL) : List E → List PySem.Expr → Bool
  | [], es => es.isEmpty
  | d :: ds, es => (bT es).any fun z => kM true ns d z.1 && kOrs ns ds z.2
noncomputable def kPrs (ns : NL) : List E → List Nat → List (Option PySem.Expr) → List PySem.Expr → Bool
  | [], ks, kx, es => ks.isEmpty && (kx.isEmpty && es.isEmpty)
  | d :: ds, ks, kx, es => (bT ks).any fun k => (bT kx).any fun x => (bT es).any fun e => x.1.any fun y => (dK y).any fun c => cS (fun s => decide (k.1 < 31) && s == dE k.1) c && (kM false ns d e.1 && kPrs ns ds k.2 x.2 e.2)
end
@[elab_as_elim] theorem dp {α : Type} [BEq α] [LawfulBEq α] {C : α → Prop} {a b : α} (h : (a == b) = true) (k : C b) : C a := (eq_of_beq h).symm ▸ k
set_option tactic.hygienic true in
theorem kN {e : E} (h : mP e = true) : e = .lit .none := by
  cases e <;> first | exact Bool.noConfusion h | skip
  rename_i v
  cases v <;> first | rfl | exact Bool.noConfusion h
theorem AS {C : Comprehension → Prop} : ∀ {g : Comprehension}, (g.is_async == 0) = true → C ⟨g.target, g.iter, g.ifs, 0⟩ → C g
  | ⟨a, b, c, d⟩, h, k => (show d = 0 from eq_of_beq h).symm ▸ k
theorem Dn {C : List Nat → Prop} : ∀ {xs : List Nat}, (xs.length == 2) = true → (∀ x y, C [x, y]) → C xs
  | [x, y], _, k => k x y
def SM (c : Cx) (Γ : Gam) (A : Around) (ns : NL) (t : Bool) (d : E) (x : PySem.Expr) : Prop := match t with
  | true => SB c Γ A ns d x
  | false => SV c Γ A ns d x
section
variable {c : Cx} {K : Frag} {mb : Str → Option Value} {Γ : Gam} {n : Nat} {A : Around}
theorem dD {ns : NL} {t : Bool} {d : E} {x : PySem.Expr} (hp : qz x = true) (h : SV c Γ A ns d x) : SM c Γ A ns t d x := by
  cases t
  · exact h
  · exact h.sb hp
abbrev gV (c : Cx) (Γ : Gam) (A : Around) (ns : NL) (t : Bool) (v : V) (x : PySem.Expr) : Prop := SM c Γ A ns t (.lit v) x
theorem uJ {ns : NL} {t : Bool} : ∀ {v : V} {x : PySem.Expr}, yc v x = true → gV c Γ A ns t v x
  | .int i, x, h => (bo h).elim (fun h => pX (C := gV c Γ A ns t (.int i)) h fun k a b h => AZ (C := fun k => gV c Γ A ns t (.int i) (.Constant k a b)) h fun j e => eq_of_beq e ▸ dD rfl Aj)
      fun h => tN (C := gV c Γ A ns t (.int i)) h fun o y a h => zo (C := fun o => gV c Γ A ns t (.int i) (.UnaryOp o y a)) (ba h).1 (pX (C := fun y => gV c Γ A ns t (.int i) (.UnaryOp .USub y a)) (ba h).2 fun k b d h => AZ (C := fun k => gV c Γ A ns t (.int i) (.UnaryOp .USub (.Constant k b d) a)) h fun j e => (eq_of_beq e).symm ▸ dD rfl An)
  | .bool b, x, h => pX (C := gV c Γ A ns t (.bool b)) h fun k p q h => E8 (C := fun k => gV c Γ A ns t (.bool b) (.Constant k p q)) h fun d e => eq_of_beq e ▸ dD rfl xn
  | .str s, x, h => pX (C := gV c Γ A ns t (.str s)) h fun k p q h => yM (C := fun k => gV c Γ A ns t (.str s) (.Constant k p q)) h fun y e => dp (C := fun y => gV c Γ A ns t (.str s) (.Constant (.str y) p q)) (ba e).2 (dD rfl (Ap (of_decide_eq_true (ba e).1)))
  | .bytes b, x, h => pX (C := gV c Γ A ns t (.bytes b)) h fun k p q h => Ea (C := fun k => gV c Γ A ns t (.bytes b) (.Constant k p q)) h fun d e => eq_of_beq e ▸ dD rfl vF
abbrev Sm (c : Cx) (Γ : Gam) (A : Around) (ns : NL) (t : Bool) (d : E) : PySem.Expr → Prop := SM c Γ A ns t d
variable (B : Bs c K mb) (G : GOk c K Γ n) (hA : AR n A)
include B G hA
mutual
theorem aK : ∀ (d : E) (t : Bool) (ns : NL) (x : PySem.Expr), kM t ns d x = true → SM c Γ A ns t d x
  | .lit v, t, ns, x, h => uJ (v := v) (x := x) h
  | .loc y, t, ns, x, h => eV (C := Sm c Γ A ns t (.loc y)) h fun n p h => dp (C := fun n => Sm c Γ A ns t (.loc y) (.Name n p)) (ba h).1 (dD rfl (Ak (ba h).2))
  | .glob y, t, ns, x, h => eV (C := Sm c Γ A ns t (.glob y)) h fun n p h => dp (C := fun y => Sm c Γ A ns t (.glob y) (.Name n p)) (ba h).1 (dp (C := fun n => cU ns n = true → Sm c Γ A ns t (.glob 30) (.Name n p)) (ba (ba h).2).1 (fun h => dD rfl (xp B h)) (ba (ba h).2).2)
  | .tup ds, t, ns, x, h => mB (C := Sm c Γ A ns t (.tup ds)) h fun es a b h => dD rfl (Aq (of_decide_eq_true (ba h).1) (kEs_ok ds ns _ (ba h).2))
  | .lst ds, t, ns, x, h => tL (C := Sm c Γ A ns t (.lst ds)) h fun es a h => dD rfl (Am (of_decide_eq_true (ba h).1) (kEs_ok ds ns _ (ba h).2))
  | .mlst ds, t, ns, x, h => tL (C := Sm c Γ A ns t (.mlst ds)) h fun es a h => dD rfl (xt (of_decide_eq_true (ba h).1) (kEs_ok ds ns _ (ba h).2))
  | .dct ks ds, t, ns, x, h => tH (C := Sm c Γ A ns t (.dct ks ds)) h fun kx es a h => dD rfl (Ag (of_decide_eq_true (ba h).1) (of_decide_eq_true (ba (ba h).2).1) (of_decide_eq_true (ba (ba (ba h).2).2).1) (kPrs_ok ds ks ns _ _ (ba (ba (ba h).2).2).2))
  | .mdct ks ds, t, ns, x, h => tH (C := Sm c Γ A ns t (.mdct ks ds)) h fun kx es a h => dD rfl (xq (of_decide_eq_true (ba h).1) (of_decide_eq_true (ba (ba h).2).1) (of_decide_eq_true (ba (ba (ba h).2).2).1) (kPrs_ok ds ks ns _ _ (ba (ba (ba h).2).2).2))
  | .bin op a b, t, ns, x, h => yU (C := Sm c Γ A ns t (.bin op a b)) h fun y op' z p h => eq_of_beq (ba h).1 ▸ dD rfl (Ae (aK a false ns _ (ba (ba h).2).1) (aK b false ns _ (ba (ba h).2).2))
  | .ifx k a b, false, ns, x, h => tJ (C := Sm c Γ A ns false (.ifx k a b)) h fun cx y z p h => Ai (aK k true ns _ (ba h).1) (aK a false ns _ (ba (ba h).2).1) (aK b false ns _ (ba (ba h).2).2)
  | .ifx k a b, true, ns, x, h => tJ (C := Sm c Γ A ns true (.ifx k a b)) h fun cx y z p h => zZ (aK k true ns _ (ba h).1) (aK a true ns _ (ba (ba h).2).1) (aK b true ns _ (ba (ba h).2).2)
  | .cmp op a b, t, ns, x, h => yV (C := Sm c Γ A ns t (.cmp op a b)) h fun y o z p h => aP (C := fun o => Sm c Γ A ns t (.cmp op a b) (.Compare y o z p)) h fun o l h => br (C := fun l => Sm c Γ A ns t (.cmp op a b) (.Compare y (o :: l) z p)) (ba h).1
      (aP (C := fun z => Sm c Γ A ns t (.cmp op a b) (.Compare y [o] z p)) (ba (ba h).2).2 fun z l h2 => br (C := fun l => Sm c Γ A ns t (.cmp op a b) (.Compare y [o] (z :: l) p)) (ba h2).1 (eq_of_beq (ba (ba h).2).1 ▸
        have k1 := bn (ba (ba h2).2).1; have k2 := aK a false ns _ (ba (ba (ba h2).2).2).1; have k3 := aK b false ns _ (ba (ba (ba h2).2).2).2
        match t with | true => zY hA k1 k2 k3 | false => Af hA k1 k2 k3))
  | .and ds, true, ns, x, h => re (C := Sm c Γ A ns true (.and ds)) h fun o es p h => zh (C := fun o => Sm c Γ A ns true (.and ds) (.BoolOp o es p)) (ba h).1 (zW (kAnds_ok ds ns _ (ba (ba h).2).2))
  | .and ds, false, ns, x, h => re (C := Sm c Γ A ns false (.and ds)) h fun o es p h => Bool.noConfusion (ba (ba h).2).1
  | .or ds, true, ns, x, h => re (C := Sm c Γ A ns true (.or ds)) h fun o es p h => zn (C := fun o => Sm c Γ A ns true (.or ds) (.BoolOp o es p)) (bn (ba h).1) (D9 (kOrs_ok ds ns _ (ba (ba h).2).2))
  | .or ds, false, ns, x, h => re (C := Sm c Γ A ns false (.or ds)) h fun o es p h => Bool.noConfusion (ba (ba h).2).1
  | .not a, true, ns, x, h => tN (C := Sm c Γ A ns true (.not a)) h fun o y p h => zm (C := fun o => Sm c Γ A ns true (.not a) (.UnaryOp o y p)) (ba h).1 (A2 (aK a true ns _ (ba (ba h).2).2))
  | .not a, false, ns, x, h => tN (C := Sm c Γ A ns false (.not a)) h fun o y p h => Bool.noConfusion (ba (ba h).2).1
  | .idx a i, t, ns, x, h => mz (C := Sm c Γ A ns t (.idx a i)) h fun y z p h => dD rfl (Ah (aK a false ns _ (ba h).1) (aK i false ns _ (ba h).2))
  | .slc a l hh, t, ns, x, h => mz (C := Sm c Γ A ns t (.slc a l hh)) h fun y z p h => yZ (C := fun z => Sm c Γ A ns t (.slc a l hh) (.Subscript y z p)) (ba h).2 fun lo hi st q h3 => uQ (C := fun st => Sm c Γ A ns t (.slc a l hh) (.Subscript y (.Slice lo hi st q) p)) (ba h3).1
      (dD rfl (Ao (aK a false ns _ (ba h).1)
        (match lo, (ba (ba (ba h3).2).2).1 with | some lo, h2 => (aK l false ns _ h2).sn | none, h2 => (kN h2).symm ▸ rR)
        (match hi, (ba (ba (ba h3).2).2).2 with | some hi, h2 => (aK hh false ns _ h2).sn | none, h2 => (kN h2).symm ▸ rR)))
  | .attr a y, t, ns, x, h => my (C := Sm c Γ A ns t (.attr a y)) h fun z n q h => dp (C := fun n => Sm c Γ A ns t (.attr a y) (.Attribute z n q)) (ba h).1 (dD rfl (xm B (ba (ba h).2).1 (bn (ba (ba (ba h).2).2).1) (aK a false ns _ (ba (ba (ba h).2).2).2)))
  | .call f ds, t, ns, x, h => iK (C := Sm c Γ A ns t (.call f ds)) h fun fn es kw p h => br (C := fun kw => Sm c Γ A ns t (.call f ds) (.Call fn es kw p)) (ba h).1 <| eV (C := fun fn => Sm c Γ A ns t (.call f ds) (.Call fn es [] p)) (ba h).2 fun m q h =>
      dp (C := fun m => cU ns m = true → Sm c Γ A ns t (.call f ds) (.Call (.Name m q) es [] p)) (ba h).1 (fun hg => dD rfl (xo B G hA hg (kEs_ok ds ns _ (ba (ba (ba h).2).2).2))) (ba (ba h).2).1
  | .meth o m ds, t, ns, x, h => iK (C := Sm c Γ A ns t (.meth o m ds)) h fun fn es kw p h => br (C := fun kw => Sm c Γ A ns t (.meth o m ds) (.Call fn es kw p)) (ba h).1 <| my (C := fun fn => Sm c Γ A ns t (.meth o m ds) (.Call fn es [] p)) (ba h).2 fun y n q h =>
      have h2 := (ba h).2; have h3 := (ba h2).2; have h4 := (ba h3).2; have h5 := (ba h4).2; have h6 := (ba h5).2
      dp (C := fun n => Sm c Γ A ns t (.meth o m ds) (.Call (.Attribute y n q) es [] p)) (ba h).1 (dD rfl (xr B G hA (of_decide_eq_true (ba h2).1) (bn (ba h3).1) (bn (ba h4).1) (of_decide_eq_true (ba h5).1) (ba h6).1 (aK o false ns _ (ba (ba h6).2).1) (kEs_ok ds ns _ (ba (ba h6).2).2)))
  | .bi b ds, t, ns, x, h => iK (C := Sm c Γ A ns t (.bi b ds)) h fun fn es kw p h => br (C := fun kw => Sm c Γ A ns t (.bi b ds) (.Call fn es kw p)) (ba h).1 <| eV (C := fun fn => Sm c Γ A ns t (.bi b ds) (.Call fn es [] p)) (ba h).2 fun m q h =>
      dp (C := fun m => cU ns m = true → Sm c Γ A ns t (.bi b ds) (.Call (.Name m q) es [] p)) (ba h).1 (fun hg => dD rfl (Di B hA hg (kEs_ok ds ns _ (ba (ba h).2).2))) (ba (ba h).2).1
  | .bm o m ds, t, ns, x, h => iK (C := Sm c Γ A ns t (.bm o m ds)) h fun fn es kw p h => br (C := fun kw => Sm c Γ A ns t (.bm o m ds) (.Call fn es kw p)) (ba h).1 <| my (C := fun fn => Sm c Γ A ns t (.bm o m ds) (.Call fn es [] p)) (ba h).2 fun y n q h =>
      have h2 := (ba h).2; have h5 := (ba h2).2; have h6 := (ba h5).2
      dp (C := fun n => Sm c Γ A ns t (.bm o m ds) (.Call (.Attribute y n q) es [] p)) (ba h).1 (dD rfl (Dj (bn (ba h2).1) (of_decide_eq_true (ba h5).1) (ba h6).1 (aK o false ns _ (ba (ba h6).2).1) (kEs_ok ds ns _ (ba (ba h6).2).2)))
  | .comp xs elt it ifs mu en, t, ns, x, h => xO (C := Sm c Γ A ns t (.comp xs elt it ifs mu en)) h fun ee g sc p h => aP (C := fun g => Sm c Γ A ns t (.comp xs elt it ifs mu en) (.ListComp ee g sc p)) h fun g l h =>
      br (C := fun l => Sm c Γ A ns t (.comp xs elt it ifs mu en) (.ListComp ee (g :: l) sc p)) (ba h).1 (
      have h1 := (ba h).2; have h2 := (ba h1).2; have h3 := (ba h2).2; have h4 := (ba h3).2; have h5 := (ba h4).2; have h6 := (ba h5).2
      have k1 := aK elt false _ _ (ba h4).1; have k2 := kAnds_ok ifs _ _ (ba h5).1
      AS (C := fun g => Sm c Γ A ns t (.comp xs elt it ifs mu en) (.ListComp ee [g] sc p)) (ba h1).1 (match en, h6 with
      | false, h6 => dD rfl (wv hA (bn (ba h6).1) (ba h2).1 (ba h3).1 (aK it false ns _ (ba h6).2) k1 k2)
      | true, h6 => iK (C := fun ei => Sm c Γ A ns t (.comp xs elt it ifs mu true) (.ListComp ee [⟨g.target, ei, g.ifs, 0⟩] sc p)) (ba h6).2 fun fn es kw r h => br (C := fun kw => Sm c Γ A ns t (.comp xs elt it ifs mu true) (.ListComp ee [⟨g.target, .Call fn es kw r, g.ifs, 0⟩] sc p)) (ba h).1 <|
        eV (C := fun fn => Sm c Γ A ns t (.comp xs elt it ifs mu true) (.ListComp ee [⟨g.target, .Call fn es [] r, g.ifs, 0⟩] sc p)) (ba h).2 fun m q h =>
        aP (C := fun es => Sm c Γ A ns t (.comp xs elt it ifs mu true) (.ListComp ee [⟨g.target, .Call (.Name m q) es [] r, g.ifs, 0⟩] sc p)) (ba (ba h).2).2 fun e l h7 => br (C := fun l => Sm c Γ A ns t (.comp xs elt it ifs mu true) (.ListComp ee [⟨g.target, .Call (.Name m q) (e :: l) [] r, g.ifs, 0⟩] sc p)) (ba h7).1
          (dp (C := fun m => cU ns m = true → Sm c Γ A ns t (.comp xs elt it ifs mu true) (.ListComp ee [⟨g.target, .Call (.Name m q) [e] [] r, g.ifs, 0⟩] sc p)) (ba h).1 (fun hg => Dn (C := fun xs => fK sc.names xs g.target = true → pa ns xs sc = true → Sm c Γ A ns t (.comp xs elt it ifs mu true) (.ListComp ee [⟨g.target, .Call (.Name (Str.ofString "enumerate") q) [e] [] r, g.ifs, 0⟩] sc p)) (ba h6).1
            (fun x y a1 a2 => dD rfl (wB B hA hg a1 a2 (bn (ba (ba h7).2).1) (aK it false ns _ (ba (ba h7).2).2) k1 k2)) (ba h2).1 (ba h3).1) (ba (ba h).2).1)))
theorem kEs_ok : ∀ (ds : List E) (ns : NL) (es : List PySem.Expr), kEs ns ds es = true → SL c Γ A ns ds es
  | [], ns, es, h => br (C := SL c Γ A ns []) h A3
  | d :: ds, ns, es, h => aP (C := SL c Γ A ns (d :: ds)) h fun e es h => xc (bn (ba h).1) (aK d false ns _ (ba (ba h).2).1) (kEs_ok ds ns _ (ba (ba h).2).2)
theorem kAnds_ok : ∀ (ds : List E) (ns : NL) (es : List PySem.Expr), kAnds ns ds es = true → SA c Γ A ns ds es
  | [], ns, es, h => br (C := SA c Γ A ns []) h zR
  | d :: ds, ns, es, h => aP (C := SA c Γ A ns (d :: ds)) h fun e es h => xa (aK d true ns _ (ba h).1) (kAnds_ok ds ns _ (ba h).2)
theorem kOrs_ok : ∀ (ds : List E) (ns : NL) (es : List PySem.Expr), kOrs ns ds es = true → SO c Γ A ns ds es
  | [], ns, es, h => br (C := SO c Γ A ns []) h A4
  | d :: ds, ns, es, h => aP (C := SO c Γ A ns (d :: ds)) h fun e es h => xg (aK d true ns _ (ba h).1) (kOrs_ok ds ns _ (ba h).2)
theorem kPrs_ok : ∀ (ds : List E) (ks : List Nat) (ns : NL) (kx : List (Option PySem.Expr)) (es : List PySem.Expr), kPrs ns ds ks kx es = true → SP c Γ A ns ks ds kx es
  | [], ks, ns, kx, es, h => br (C := fun ks => SP c Γ A ns ks [] kx es) (ba h).1 (br (C := fun kx => SP c Γ A ns [] [] kx es) (ba (ba h).2).1 (br (C := SP c Γ A ns [] [] []) (ba (ba h).2).2 A5))
  | d :: ds, ks, ns, kx, es, h => aP (C := fun ks => SP c Γ A ns ks (d :: ds) kx es) h fun k ks h => aP (C := fun kx => SP c Γ A ns (k :: ks) (d :: ds) kx es) h fun x kx h => aP (C := SP c Γ A ns (k :: ks) (d :: ds) (x :: kx)) h fun e es h => qJ (C := fun x => SP c Γ A ns (k :: ks) (d :: ds) (x :: kx) (e :: es)) h fun y h =>
      pX (C := fun y => SP c Γ A ns (k :: ks) (d :: ds) (some y :: kx) (e :: es)) h fun cc p q h => yM (C := fun cc => SP c Γ A ns (k :: ks) (d :: ds) (some (.Constant cc p q) :: kx) (e :: es)) (ba h).1 fun s h2 => dp (C := fun s => SP c Γ A ns (k :: ks) (d :: ds) (some (.Constant (.str s) p q) :: kx) (e :: es)) (ba h2).2 (xh (of_decide_eq_true (ba h2).1) (aK d false ns _ (ba (ba h).2).1) (kPrs_ok ds ks ns _ _ (ba (ba h).2).2))
end
end
end Mine
end
section
namespace Mine
open PySem PySem.W PyProof.Rows PySem.Calls PySem.SeqAt
noncomputable def zp (ns : NL) (w : Bool) : List Nat → List PySem.Expr → Bool
  | [], es => es.isEmpty
  | x :: xs, es => (bT es).any fun e => (rf e.1).any fun n => n == ad x && (ju ns w x && zp ns w xs e.2)
abbrev wf (ns : NL) (w : Bool) (xs : List Nat) (es : List PySem.Expr) : Prop := ∃ ys : List (Nat × Pos), ys.map (·.1) = xs ∧ es = ys.map (fun x => PySem.Expr.Name (ad x.1) x.2) ∧ ∀ y ∈ ys, ju ns w y.1 = true
theorem rv {ns : NL} {w : Bool} : ∀ {xs : List Nat} {es : List PySem.Expr}, zp ns w xs es = true → wf ns w xs es
  | [], es, h => br (C := wf ns w []) h ⟨[], rfl, rfl, fun H h => nomatch h⟩
  | x :: xs, es, h => aP (C := wf ns w (x :: xs)) h fun e es h => eV (C := fun e => wf ns w (x :: xs) (e :: es)) h fun n p h =>
    let ⟨ys, g1, g2, g3⟩ := rv (ba (ba h).2).2
    ⟨(x, p) :: ys, congrArg (x :: ·) g1, by rw [eq_of_beq (ba h).1]; exact congrArg (_ :: ·) g2, List.forall_mem_cons.mpr ⟨(ba (ba h).2).1, g3⟩⟩
noncomputable def uw (ns : NL) : List E → List E → List PySem.Expr → Bool
  | [], is, es => is.isEmpty && es.isEmpty
  | o :: os, is, es => (bT is).any fun i => (bT es).any fun e => (tM e.1).any fun z => kM false ns o z.1 && (kM false ns i.1 z.2 && uw ns os i.2 e.2)
section
variable {c : Cx} {K : Frag} {mb : Str → Option Value} {Γ : Gam} {n : Nat} {A : Around} {ns : NL} (B : Bs c K mb) (G : GOk c K Γ n) (hA : AR n A)
include B G hA
theorem on : ∀ {os is : List E} {es : List PySem.Expr}, uw ns os is es = true → SndU c Γ A ns os is es
  | [], is, es, h => br (C := fun is => SndU c Γ A ns [] is es) (ba h).1 (br (C := SndU c Γ A ns [] []) (ba h).2 Ad)
  | o :: os, is, es, h => aP (C := fun is => SndU c Γ A ns (o :: os) is es) h fun i is h => aP (C := SndU c Γ A ns (o :: os) (i :: is)) h fun e es h => mz (C := fun e => SndU c Γ A ns (o :: os) (i :: is) (e :: es)) h fun y z p h =>
    xl (aK B G hA o false ns _ (ba h).1) (aK B G hA i false ns _ (ba (ba h).2).1) (on (ba (ba h).2).2)
noncomputable def GC (ns : NL) (w : Bool) : T → PySem.Expr → Bool
  | .nm x, e => (rf e).any fun n => n == ad x && ju ns w x
  | .att o x, e => (tG e).any fun z => z.2.1 == ad x && kM false ns o z.1
  | .sub o i, e => (tM e).any fun z => kM false ns o z.1 && kM false ns i z.2
  | .nms xs, e => (pY e).any fun es => zp ns w xs es
  | .subs os is, e => (pY e).any fun es => uw ns os is es
theorem zq {w : Bool} : ∀ {t : T} {x : PySem.Expr}, GC ns w t x = true → SndT c Γ A ns w t x
  | .nm y, x, h => eV (C := SndT c Γ A ns w (.nm y)) h fun n p h => dp (C := fun n => SndT c Γ A ns w (.nm y) (.Name n p)) (ba h).1 (Dl (ba h).2)
  | .att o y, x, h => my (C := SndT c Γ A ns w (.att o y)) h fun z n p h => dp (C := fun n => SndT c Γ A ns w (.att o y) (.Attribute z n p)) (ba h).1 (Ar B (aK B G hA o false ns _ (ba h).2))
  | .sub o i, x, h => mz (C := SndT c Γ A ns w (.sub o i)) h fun y z p h => Au (aK B G hA o false ns _ (ba h).1) (aK B G hA i false ns _ (ba h).2)
  | .nms xs, x, h => mB (C := SndT c Γ A ns w (.nms xs)) h fun es a b h => let ⟨ys, g1, g2, g3⟩ := rv h; g1 ▸ As hA g2 g3
  | .subs os is, x, h => mB (C := SndT c Γ A ns w (.subs os is)) h fun es a b h => xu hA (on B G hA h)
end
noncomputable def CC (ns : NL) (e : PySem.Expr) : Bool := (rf e).any fun n => ns.lookup n == some .local
noncomputable def y9 (ns : NL) (t x : PySem.Expr) : Bool := (wx t).isNone && (pY t).all fun ts => (pY x).isNone || (!(ts.length == 2 || ts.length == 3) || decide ((ts.filter (CC ns)).length < ts.length))
theorem i7 {α β : Type} {f : α → Option β} {p : α → Bool} (h : ∀ a, (f a).isSome = true → p a = true) : ∀ l : List α, (l.filterMap f).length ≤ (l.filter p).length
  | [] => Nat.le_refl _
  | a :: l => by
    have ih := i7 h l
    cases e : f a with
    | none =>
      rw [List.filterMap_cons_none e]
      exact Nat.le_trans ih ((List.sublist_cons_self a l).filter p).length_le
    | some b =>
      rw [List.filterMap_cons_some e, List.filter_cons_of_pos (h a (by rw [e]; rfl))]
      exact Nat.succ_le_succ ih
theorem ol {α : Type} {p : Prop} [Decidable p] {x : Sem (Option α)} (k : ¬ p → x = pure none) : (if p then pure none else x) = pure none := by
  by_cases h : p
  · exact if_pos h
  · exact (if_neg h).trans (k h)
set_option tactic.hygienic true in
theorem vG {ns : NL} {ts vs : List PySem.Expr} {a c : Nat} {b d : Pos} (h : (!(ts.length == 2 || ts.length == 3) || decide ((ts.filter (CC ns)).length < ts.length)) = true) (env : Env) (hn : env.scope.names = ns) : swappedStores [.Tuple ts a b] (.Tuple vs c d) env = pure none := by
  show (if _ = true then pure none else if _ = true then pure none else if _ = true then pure none else _) = pure none
  refine ol fun c1 => ol fun c2 => if_pos (Bool.or_eq_true_iff.mpr (.inl (bne_iff_ne.mpr (Nat.ne_of_lt (Nat.lt_of_le_of_lt (i7 (fun a q => ?_) _) (of_decide_eq_true ((bo h).resolve_left fun z => c1 (by rw [z]; rfl))))))))
  cases a <;> first | exact Bool.noConfusion q | skip
  rename_i id pos
  show (ns.lookup id == some NameKind.local) = true
  rw [← hn]
  by_cases z : (env.kindOf id == some .local && pos.line == ((ts.head?.map (·.pos.line)).getD 0)) = true
  · exact (ba z).1
  · have q' : (if (env.kindOf id == some .local && pos.line == ((ts.head?.map (·.pos.line)).getD 0)) = true then some id else none).isSome = true := q
    rw [if_neg z] at q'
    cases q'
theorem ux {ns : NL} {t x : PySem.Expr} (h : y9 ns t x = true) (env : Env) (hn : env.scope.names = ns) : swappedStores [t] x env = pure none := by
  have h1 := (ba h).1
  have h2 := (ba h).2
  cases t <;> first | rfl | exact Bool.noConfusion h1 | skip
  cases x <;> first | rfl | exact vG h2 env hn
section
variable {C : Stmt → Prop} {x : Stmt}
noncomputable def Gr : Stmt → Option PySem.Expr | .Expr y _ => some y | _ => none
theorem B7 {f : PySem.Expr → Bool} (h : (Gr x).any f = true) (k : ∀ y a, f y = true → C (.Expr y a)) : C x := by cases x <;> first | exact k _ _ h | exact Bool.noConfusion h
noncomputable def Bb : Stmt → Option (Option PySem.Expr) | .Return y _ => some y | _ => none
theorem yY {f : Option PySem.Expr → Bool} (h : (Bb x).any f = true) (k : ∀ y a, f y = true → C (.Return y a)) : C x := by cases x <;> first | exact k _ _ h | exact Bool.noConfusion h
noncomputable def B3 : Stmt → Option (List PySem.Expr × PySem.Expr × Pos) | .Assign ts y p => some (ts, y, p) | _ => none
theorem yT {f : List PySem.Expr × PySem.Expr × Pos → Bool} (h : (B3 x).any f = true) (k : ∀ ts y p, f (ts, y, p) = true → C (.Assign ts y p)) : C x := by cases x <;> first | exact k _ _ _ h | exact Bool.noConfusion h
noncomputable def B8 : Stmt → Option (PySem.Expr × PySem.Expr × List Stmt × List Stmt) | .For t i b o _ => some (t, i, b, o) | _ => none
theorem yX {f : PySem.Expr × PySem.Expr × List Stmt × List Stmt → Bool} (h : (B8 x).any f = true) (k : ∀ t i b o p, f (t, i, b, o) = true → C (.For t i b o p)) : C x := by cases x <;> first | exact k _ _ _ _ _ h | exact Bool.noConfusion h
noncomputable def Ec : Stmt → Option (PySem.Expr × List Stmt × List Stmt) | .If t b o _ => some (t, b, o) | _ => none
theorem xN {f : PySem.Expr × List Stmt × List Stmt → Bool} (h : (Ec x).any f = true) (k : ∀ t b o p, f (t, b, o) = true → C (.If t b o p)) : C x := by cases x <;> first | exact k _ _ _ _ h | exact Bool.noConfusion h
noncomputable def Gu : Stmt → Option (Option PySem.Expr × Option PySem.Expr) | .Raise e c _ => some (e, c) | _ => none
theorem Bc {f : Option PySem.Expr × Option PySem.Expr → Bool} (h : (Gu x).any f = true) (k : ∀ e c p, f (e, c) = true → C (.Raise e c p)) : C x := by cases x <;> first | exact k _ _ _ h | exact Bool.noConfusion h
noncomputable def Cu : Stmt → Bool | .Continue _ => true | _ => false
theorem zi (h : Cu x = true) (k : ∀ p, C (.Continue p)) : C x := by cases x <;> first | exact k _ | exact Bool.noConfusion h
end
noncomputable def Gs : PySem.Expr → Option (Str × Pos) | .Name n p => some (n, p) | _ => none
theorem Ba {C : PySem.Expr → Prop} {x : PySem.Expr} {f : Str × Pos → Bool} (h : (Gs x).any f = true) (k : ∀ n p, f (n, p) = true → C (.Name n p)) : C x := by cases x <;> first | exact k _ _ h | exact Bool.noConfusion h
noncomputable def Gv : T → Option Nat | .nm y => some y | _ => none
theorem Be {C : T → Prop} {x : T} {f : Nat → Bool} (h : (Gv x).any f = true) (k : ∀ y, f y = true → C (.nm y)) : C x := by cases x <;> first | exact k _ h | exact Bool.noConfusion h
noncomputable def Gq : E → Option (List Nat × E × E × List E × Bool × Bool) | .comp xs elt it ifs mu en => some (xs, elt, it, ifs, mu, en) | _ => none
theorem B6 {C : E → Prop} {x : E} {f : List Nat × E × E × List E × Bool × Bool → Bool} (h : (Gq x).any f = true) (k : ∀ xs elt it ifs mu en, f (xs, elt, it, ifs, mu, en) = true → C (.comp xs elt it ifs mu en)) : C x := by cases x <;> first | exact k _ _ _ _ _ _ h | exact Bool.noConfusion h
noncomputable def Cw (ns : NL) (t : T) (e : E) (tx x : PySem.Expr) : Bool := (Gv t).any fun y => (Gq e).any fun c => !c.2.2.2.2.2 && (Gs tx).any fun m => (Ed x).any fun z => (bT z.2.1).any fun g => g.2.isEmpty && (g.1.is_async == 0 &&
  (m.1 == ad y && (decide (y < 91) && (ns.lookup m.1 == some .local && (z.2.2.1.names.all (fun q => !(q.1 == m.1 && (q.2 == .local || q.2 == .cell))) && ((m.2.line == z.2.2.2.line) &&
  (!fu g.1.iter && (fK z.2.2.1.names c.1 g.1.target && (pa ns c.1 z.2.2.1 && (kM false ns c.2.2.1 g.1.iter && (kM false (cf ns z.2.2.1.names) c.2.1 z.1 && kAnds (cf ns z.2.2.1.names) c.2.2.2.1 g.1.ifs)))))))))))
section
variable (ns : NL) (ex : S → Stmt → Bool)
mutual
noncomputable def kS (w xf qf : Bool) : S → Stmt → Bool
  | .ex e, st => (Gr st).any fun x => !iS x && kM false ns e x
  | .ret e, st => (qf && ex (.ret e) st) || (Bb st).any fun x => x.any fun x => kM false ns e x
  | .asg t e, st => (qf && ex (.asg t e) st) || (B3 st).any fun z => (bT z.1).any fun tx => tx.2.isEmpty && (((!iS z.2.1 || !qm tx.1) && (y9 ns tx.1 z.2.1 && (GC ns w t tx.1 && kM false ns e z.2.1))) || Cw ns t e tx.1 z.2.1)
  | .for_ x it b, st => (B8 st).any fun z => z.2.2.2.isEmpty && (rf z.1).any fun nx => nx == ad x && (ju ns w x && (!fu z.2.1 && (kM false ns it z.2.1 && kSs w false false b z.2.2.1)))
  | .if_ t a b, st => (Ec st).any fun z => kM true ns t z.1 && (kSs w xf qf a z.2.1 && kSs w xf qf b z.2.2)
  | .rz t, st => (Ec st).any fun z => z.2.2.isEmpty && (bT z.2.1).any fun r => r.2.isEmpty && (Gu r.1).any fun q => q.2.isNone && q.1.any fun e => (pW e).any fun c => c.2.2.1.isEmpty && (rf c.1).any fun n => (bT c.2.1).any fun a => a.2.isEmpty && (dK a.1).any fun u => cS (fun H => true) u && (xf && (n == ad 82 && (cU ns n && kM true ns t z.1)))
  | .cont, st => Cu st
  | .fz, _ => false
noncomputable def kSs (w xf qf : Bool) : List S → List Stmt → Bool
  | [], ss => ss.isEmpty
  | d :: ds, ss => (bT ss).any fun s => kS w xf qf d s.1 && kSs w xf qf ds s.2
end
noncomputable def zj : S → Bool | .fz => true | _ => false
noncomputable def kB (xf : Bool) : List S → List Stmt → Bool
  | [], ss => ss.isEmpty
  | d :: ds, ss => if zj d = true then kSs ns ex false xf true ds ss else (bT ss).any fun s => kS ns ex true xf false d s.1 && kB xf ds s.2
end
theorem zk {C : S → Prop} {x : S} (h : zj x = true) (k : C .fz) : C x := by cases x <;> first | exact k | exact Bool.noConfusion h
section
variable {c : Cx} {K : Frag} {mb : Str → Option Value} {Γ : Gam} {n : Nat} {A : Around} {XP : lk} {EC : Env → (Addr → Prop) → Prop} {ns : NL} {ex : S → Stmt → Bool} (B : Bs c K mb) (G : GOk c K Γ n) (hA : AR n A)
include B G hA
theorem wP {w xf : Bool} {t : T} {e : E} {tx x : PySem.Expr} {r : Pos} (h : Cw ns t e tx x = true) : aW c XP Γ A EC ns w xf (.asg t e) (.Assign [tx] x r) :=
  Be (C := fun t => aW c XP Γ A EC ns w xf (.asg t e) (.Assign [tx] x r)) h fun y h => B6 (C := fun e => aW c XP Γ A EC ns w xf (.asg (.nm y) e) (.Assign [tx] x r)) h fun xs elt it ifs mu en h => match en, h with
  | false, h => Ba (C := fun tx => aW c XP Γ A EC ns w xf (.asg (.nm y) (.comp xs elt it ifs mu false)) (.Assign [tx] x r)) h fun ny q h => xO (C := fun x => aW c XP Γ A EC ns w xf (.asg (.nm y) (.comp xs elt it ifs mu false)) (.Assign [.Name ny q] x r)) h fun ee g sc p h =>
    aP (C := fun g => aW c XP Γ A EC ns w xf (.asg (.nm y) (.comp xs elt it ifs mu false)) (.Assign [.Name ny q] (.ListComp ee g sc p) r)) h fun g l h => br (C := fun l => aW c XP Γ A EC ns w xf (.asg (.nm y) (.comp xs elt it ifs mu false)) (.Assign [.Name ny q] (.ListComp ee (g :: l) sc p) r)) (ba h).1 <|
    AS (C := fun g => aW c XP Γ A EC ns w xf (.asg (.nm y) (.comp xs elt it ifs mu false)) (.Assign [.Name ny q] (.ListComp ee [g] sc p) r)) (ba (ba h).2).1
      (have h1 := (ba (ba h).2).2; have h2 := (ba h1).2; have h3 := (ba h2).2; have h4 := (ba h3).2; have h5 := (ba h4).2; have h6 := (ba h5).2; have h7 := (ba h6).2; have h8 := (ba h7).2; have h9 := (ba h8).2
       have e1 : ny = ad y := eq_of_beq (ba h1).1
       e1.symm ▸ Ac hA (of_decide_eq_true (ba h2).1) (by rw [← e1]; exact eq_of_beq (ba h3).1) (by rw [← e1]; exact (ba h4).1) (ba h5).1 (bn (ba h6).1) (ba h7).1 (ba h8).1 (aK B G hA it false ns _ (ba h9).1) (aK B G hA elt false _ _ (ba (ba h9).2).1) (kAnds_ok B G hA ifs _ _ (ba (ba h9).2).2))
def w8 (c : Cx) (XP : lk) (Γ : Gam) (A : Around) (EC : Env → (Addr → Prop) → Prop) (ns : NL) (w xf qf : Bool) (ex : S → Stmt → Bool) : Prop := ∀ d s, (qf && ex d s) = true → aW c XP Γ A EC ns w xf d s
mutual
theorem om : ∀ (d : S) (w xf qf : Bool) (EC : Env → (Addr → Prop) → Prop) (st : Stmt), (xf = true → se c XP A) → w8 c XP Γ A EC ns w xf qf ex → kS ns ex w xf qf d st = true → aW c XP Γ A EC ns w xf d st
  | .ex e, w, xf, qf, EC, st, Z, hx, h => B7 (C := aW c XP Γ A EC ns w xf (.ex e)) h fun y a h => Dg (bn (ba h).1) (aK B G hA e false ns _ (ba h).2)
  | .ret e, w, xf, qf, EC, st, Z, hx, h => (bo h).elim (hx _ _) fun h => yY (C := aW c XP Γ A EC ns w xf (.ret e)) h fun y a h => qJ (C := fun y => aW c XP Γ A EC ns w xf (.ret e) (.Return y a)) h fun y h => Aa (aK B G hA e false ns _ h)
  | .asg t e, w, xf, qf, EC, st, Z, hx, h => (bo h).elim (hx _ _) fun h => yT (C := aW c XP Γ A EC ns w xf (.asg t e)) h fun ts y p h => aP (C := fun ts => aW c XP Γ A EC ns w xf (.asg t e) (.Assign ts y p)) h fun tx l h =>
      br (C := fun l => aW c XP Γ A EC ns w xf (.asg t e) (.Assign (tx :: l) y p)) (ba h).1 ((bo (ba h).2).elim
        (fun h => A8 ((bo (ba h).1).imp bn bn) (fun env hn => ux (ba (ba h).2).1 env hn) (zq B G hA (ba (ba (ba h).2).2).1) (aK B G hA e false ns _ (ba (ba (ba h).2).2).2)) (wP B G hA))
  | .for_ x it b, w, xf, qf, EC, st, Z, hx, h => yX (C := aW c XP Γ A EC ns w xf (.for_ x it b)) h fun t i bx o p h => br (C := fun o => aW c XP Γ A EC ns w xf (.for_ x it b) (.For t i bx o p)) (ba h).1 <| eV (C := fun t => aW c XP Γ A EC ns w xf (.for_ x it b) (.For t i bx [] p)) (ba h).2 fun m q h =>
      dp (C := fun m => aW c XP Γ A EC ns w xf (.for_ x it b) (.For (.Name m q) i bx [] p)) (ba h).1 (A9 hA (ba (ba h).2).1 (bn (ba (ba (ba h).2).2).1) (aK B G hA it false ns _ (ba (ba (ba (ba h).2).2).2).1) (kSs_ok b w false false (fun H H => True) _ (fun z => nomatch z) (fun H H z => nomatch z) (ba (ba (ba (ba h).2).2).2).2))
  | .if_ t a b, w, xf, qf, EC, st, Z, hx, h => xN (C := aW c XP Γ A EC ns w xf (.if_ t a b)) h fun tx ax bx p h => yp (aK B G hA t true ns _ (ba h).1) (kSs_ok a w xf qf EC _ Z hx (ba (ba h).2).1) (kSs_ok b w xf qf EC _ Z hx (ba (ba h).2).2)
  | .rz t, w, xf, qf, EC, st, Z, hx, h => xN (C := aW c XP Γ A EC ns w xf (.rz t)) h fun tx ax bx p h => br (C := fun bx => aW c XP Γ A EC ns w xf (.rz t) (.If tx ax bx p)) (ba h).1 <| aP (C := fun ax => aW c XP Γ A EC ns w xf (.rz t) (.If tx ax [] p)) (ba h).2 fun r l h =>
      br (C := fun l => aW c XP Γ A EC ns w xf (.rz t) (.If tx (r :: l) [] p)) (ba h).1 <| Bc (C := fun r => aW c XP Γ A EC ns w xf (.rz t) (.If tx [r] [] p)) (ba h).2 fun e k u h => uQ (C := fun k => aW c XP Γ A EC ns w xf (.rz t) (.If tx [.Raise e k u] [] p)) (ba h).1 <|
      qJ (C := fun e => aW c XP Γ A EC ns w xf (.rz t) (.If tx [.Raise e none u] [] p)) (ba h).2 fun e h => iK (C := fun e => aW c XP Γ A EC ns w xf (.rz t) (.If tx [.Raise (some e) none u] [] p)) h fun fn es kw r h => br (C := fun kw => aW c XP Γ A EC ns w xf (.rz t) (.If tx [.Raise (some (.Call fn es kw r)) none u] [] p)) (ba h).1 <|
      eV (C := fun fn => aW c XP Γ A EC ns w xf (.rz t) (.If tx [.Raise (some (.Call fn es [] r)) none u] [] p)) (ba h).2 fun m q h => aP (C := fun es => aW c XP Γ A EC ns w xf (.rz t) (.If tx [.Raise (some (.Call (.Name m q) es [] r)) none u] [] p)) h fun a l h =>
      br (C := fun l => aW c XP Γ A EC ns w xf (.rz t) (.If tx [.Raise (some (.Call (.Name m q) (a :: l) [] r)) none u] [] p)) (ba h).1 <| pX (C := fun a => aW c XP Γ A EC ns w xf (.rz t) (.If tx [.Raise (some (.Call (.Name m q) [a] [] r)) none u] [] p)) (ba h).2 fun cc k v h =>
      yM (C := fun cc => aW c XP Γ A EC ns w xf (.rz t) (.If tx [.Raise (some (.Call (.Name m q) [.Constant cc k v] [] r)) none u] [] p)) (ba h).1 fun txt H =>
      have h2 := (ba h).2; have h3 := (ba h2).2; have h4 := (ba h3).2
      dp (C := fun m => cU ns m = true → aW c XP Γ A EC ns w xf (.rz t) (.If tx [.Raise (some (.Call (.Name m q) [.Constant (.str txt) k v] [] r)) none u] [] p)) (ba h3).1 (fun hg => (ba h2).1 ▸ Dh (Z (ba h2).1) hg (aK B G hA t true ns _ (ba h4).2)) (ba h4).1
  | .cont, w, xf, qf, EC, st, Z, hx, h => zi (C := aW c XP Γ A EC ns w xf .cont) h fun p => xk
theorem kSs_ok : ∀ (ds : List S) (w xf qf : Bool) (EC : Env → (Addr → Prop) → Prop) (sts : List Stmt), (xf = true → se c XP A) → w8 c XP Γ A EC ns w xf qf ex → kSs ns ex w xf qf ds sts = true → g7 c XP Γ A EC ns w xf ds sts
  | [], w, xf, qf, EC, sts, Z, hx, h => br (C := g7 c XP Γ A EC ns w xf []) h j1
  | d :: ds, w, xf, qf, EC, sts, Z, hx, h => aP (C := g7 c XP Γ A EC ns w xf (d :: ds)) h fun s ss h => fZ (om d w xf qf EC s Z hx (ba h).1) (kSs_ok ds w xf qf EC ss Z hx (ba h).2)
end
theorem uv : ∀ {ds : List S} {sts : List Stmt} {xf : Bool}, (xf = true → se c XP A) → w8 c XP Γ A EC ns false xf true ex → kB ns ex xf ds sts = true → hH c XP Γ A EC ns xf ds sts
  | [], sts, xf, Z, hx, h => br (C := hH c XP Γ A EC ns xf []) h (tq j1)
  | d :: ds, sts, xf, Z, hx, h => by
    by_cases hz : zj d = true
    · exact zk (C := fun d => hH c XP Γ A EC ns xf (d :: ds) sts) hz (tp (kSs_ok B G hA ds false xf true EC _ Z hx ((if_pos hz).symm.trans h)))
    · exact aP (C := hH c XP Γ A EC ns xf (d :: ds)) ((if_neg hz).symm.trans h) fun s ss h => mr (om (ex := ex) B G hA d true xf false _ s Z (fun H H z => nomatch z) (ba h).1) (uv Z hx (ba h).2)
end
end Mine
end
section
namespace Mine
open PySem PySem.W PyProof.Rows
noncomputable abbrev pw : Program := PySem.Challenge.pw_og0088_01
noncomputable def zS (i : Nat) : Stmt := pw.main.body.getD i (.Pass ⟨0, 0, 0, 0⟩)
noncomputable def zC (i j : Nat) : Stmt := match zS i with | .ClassDef _ _ _ b _ _ _ _ _ _ _ => b.getD j (.Pass ⟨0, 0, 0, 0⟩) | s => s
noncomputable def zv (s : String) (t : Tok) : Value := .str (Str.ofString s) t
noncomputable def zE (P : Params) (s : String) (t : Tok) (v : Value) : DictEntry := ⟨PyData.keyHash P (Str.ofString s), zv s t, v⟩
noncomputable def zD (n : Nat) (l : List DictEntry) : Obj := { cls := .type "dict", data := .dict l.toArray n }
noncomputable def zT (l : List Value) : Obj := { cls := .type "tuple", data := .seq l.toArray }
noncomputable def zO (l : List Value) : Obj := { cls := .type "code", data := .fields l.toArray }
noncomputable def zX (n : String) (b m : List Value) (a : Addr) (su : List Value) (sl : Array (Option Value)) : Obj := { cls := .type "type", data := .cls { name := Str.ofString n, bases := b, mro := m, ns := a, qualname := Str.ofString n, subclasses := su }, slots := sl }
noncomputable def zF (s : Stmt) (q : String) (df md : Value) (c : Addr) : Obj := match s with
  | .FunctionDef n a b _ _ _ sc _ _ _ => { cls := .type "function", data := .func { name := n, qualname := Str.ofString q, params := a, body := .stmts b, scope := sc, globals := 3, closure := [], defaults := df, kwdefaults := .none, pyModule := md, code := .ref c } }
  | _ => default
noncomputable def KK (P : Params) : Frag := [
  (3, zD 29 [zE P "__name__" 165 (zv "law_og0088_01" 457), zE P "__doc__" 166 (.none), zE P "__package__" 167 (.none), zE P "__loader__" 168 (.builtin "__main__.__loader__#opaque"), zE P "__spec__" 169 (.none), zE P "__annotations__" 170 (.ref 6), zE P "__builtins__" 171 (.ref 4), zE P "__file__" 173 (zv "/claim/cut.py" 172), zE P "__cached__" 174 (.none), zE P "LedgerError" 228 (.ref 40), zE P "FileFault" 244 (.ref 53), zE P "READING" 249 (.ref 56), zE P "KeyFile" 456 (.ref 199), zE P "_law_take" 467 (.ref 210), zE P "_law_bag" 476 (.ref 217), zE P "_law_record" 484 (.ref 224), zE P "_law_part" 492 (.ref 231), zE P "_law_order" 498 (.ref 236), zE P "_law_stood" 504 (.ref 241), zE P "_law_next" 512 (.ref 248), zE P "_law_at" 522 (.ref 255), zE P "_law_start" 534 (.ref 262), zE P "_law_doubled" 540 (.ref 267), zE P "_law_put" 546 (.ref 272), zE P "_law_write" 552 (.ref 277), zE P "_law_change" 558 (.ref 282), zE P "_law_deed" 574 (.ref 289), zE P "_law_told" 581 (.ref 296), zE P "law" 587 (.ref 301)]),
  (23, zT [.ref 22]),
  (29, zO [zv "__init__" 203, zv "LedgerError.__init__" 204, zv "/claim/cut.py" 205, .int 4 0, .int 3 0, .int 0 0, .int 0 0, .int 3 0, .ref 24, .bool true, .int 181 0, .ref 25, .none, .ref 26, .ref 27, .ref 28, .int 209 0, .int 4 0, zv "/claim/cut.py" 210]),
  (30, zF (zC 1 0) "LedgerError.__init__" (.ref 23) (zv "ledgerspeak.errors" 187) 29),
  (39, zD 3 [zE P "__module__" 196 (zv "ledgerspeak.errors" 187), zE P "__firstlineno__" 200 (.int 2 199), zE P "__init__" 211 (.ref 30), zE P "told" 218 (.ref 37), zE P "__static_attributes__" 221 (.ref 38), zE P "__weakref__" 223 (.ref 41), zE P "__doc__" 224 (.none)]),
  (40, zX "LedgerError" [.type "Exception"] [.ref 40, .type "Exception", .type "BaseException", .type "object"] 39 [.ref 53] #[some (.ref 15), none, some (zv "LedgerError" 189), some (zv "LedgerError" 197), some (.builtin "Exception.__new__"), some (.bool true)]),
  (52, zD 2 [zE P "__module__" 236 (zv "ledgerspeak.errors" 187), zE P "__firstlineno__" 240 (.int 11 239), zE P "__static_attributes__" 241 (.ref 51), zE P "__doc__" 242 (.none)]),
  (53, zX "FileFault" [.ref 40] [.ref 53, .ref 40, .type "Exception", .type "BaseException", .type "object"] 52 [] #[some (.ref 44), none, some (zv "FileFault" 229), some (zv "FileFault" 237), some (.builtin "Exception.__new__"), some (.bool true)]),
  (56, zT [zv "input" 247, zv "i-o" 248]),
  (67, zO [zv "__init__" 262, zv "KeyFile.__init__" 263, zv "/claim/cut.py" 264, .int 17 0, .int 6 0, .int 0 0, .int 0 0, .int 3 0, .ref 64, .bool true, .int 181 0, .ref 65, .none, .none, .none, .ref 66, .int 265 0, .int 17 0, zv "/claim/cut.py" 266]),
  (68, zF (zC 5 0) "KeyFile.__init__" (.none) (zv "ledgerspeak.keyfile" 245) 67),
  (74, zO [zv "told" 268, zv "KeyFile.told" 269, zv "/claim/cut.py" 270, .int 36 0, .int 1 0, .int 0 0, .int 0 0, .int 3 0, .ref 69, .bool true, .int 181 0, .ref 70, .none, .ref 71, .ref 72, .ref 73, .int 272 0, .int 36 0, zv "/claim/cut.py" 273]),
  (75, zF (zC 5 1) "KeyFile.told" (.none) (zv "ledgerspeak.keyfile" 245) 74),
  (81, zO [zv "worth" 275, zv "KeyFile.worth" 276, zv "/claim/cut.py" 277, .int 39 0, .int 3 0, .int 0 0, .int 0 0, .int 3 0, .ref 76, .bool true, .int 181 0, .ref 77, .none, .ref 78, .ref 79, .ref 80, .int 284 0, .int 39 0, zv "/claim/cut.py" 285]),
  (82, zF (zC 5 2) "KeyFile.worth" (.none) (zv "ledgerspeak.keyfile" 245) 81),
  (88, zO [zv "ordered" 287, zv "KeyFile.ordered" 288, zv "/claim/cut.py" 289, .int 43 0, .int 2 0, .int 0 0, .int 0 0, .int 3 0, .ref 83, .bool true, .int 181 0, .ref 84, .none, .ref 85, .ref 86, .ref 87, .int 294 0, .int 43 0, zv "/claim/cut.py" 295]),
  (89, zF (zC 5 3) "KeyFile.ordered" (.none) (zv "ledgerspeak.keyfile" 245) 88),
  (95, zO [zv "place_of" 297, zv "KeyFile.place_of" 298, zv "/claim/cut.py" 299, .int 49 0, .int 2 0, .int 0 0, .int 0 0, .int 3 0, .ref 90, .bool true, .int 181 0, .ref 91, .none, .ref 92, .ref 93, .ref 94, .int 303 0, .int 49 0, zv "/claim/cut.py" 304]),
  (96, zF (zC 5 4) "KeyFile.place_of" (.none) (zv "ledgerspeak.keyfile" 245) 95),
  (102, zO [zv "others_with" 306, zv "KeyFile.others_with" 307, zv "/claim/cut.py" 308, .int 55 0, .int 4 0, .int 0 0, .int 0 0, .int 3 0, .ref 97, .bool true, .int 181 0, .ref 98, .none, .ref 99, .ref 100, .ref 101, .int 315 0, .int 55 0, zv "/claim/cut.py" 316]),
  (103, zF (zC 5 5) "KeyFile.others_with" (.none) (zv "ledgerspeak.keyfile" 245) 102),
  (109, zO [zv "stand" 318, zv "KeyFile.stand" 319, zv "/claim/cut.py" 320, .int 62 0, .int 3 0, .int 0 0, .int 0 0, .int 3 0, .ref 104, .bool true, .int 181 0, .ref 105, .none, .ref 106, .ref 107, .ref 108, .int 324 0, .int 62 0, zv "/claim/cut.py" 325]),
  (110, zF (zC 5 6) "KeyFile.stand" (.none) (zv "ledgerspeak.keyfile" 245) 109),
  (116, zO [zv "lose" 327, zv "KeyFile.lose" 328, zv "/claim/cut.py" 329, .int 67 0, .int 2 0, .int 0 0, .int 0 0, .int 3 0, .ref 111, .bool true, .int 181 0, .ref 112, .none, .ref 113, .ref 114, .ref 115, .int 332 0, .int 67 0, zv "/claim/cut.py" 333]),
  (117, zF (zC 5 7) "KeyFile.lose" (.none) (zv "ledgerspeak.keyfile" 245) 116),
  (121, zO [zv "found" 335, zv "KeyFile.found" 336, zv "/claim/cut.py" 337, .int 72 0, .int 3 0, .int 0 0, .int 0 0, .int 3 0, .ref 118, .bool true, .int 181 0, .ref 119, .none, .none, .none, .ref 120, .int 338 0, .int 72 0, zv "/claim/cut.py" 339]),
  (122, zF (zC 5 8) "KeyFile.found" (.none) (zv "ledgerspeak.keyfile" 245) 121),
  (128, zO [zv "read_next" 341, zv "KeyFile.read_next" 342, zv "/claim/cut.py" 343, .int 79 0, .int 1 0, .int 0 0, .int 0 0, .int 3 0, .ref 123, .bool true, .int 181 0, .ref 124, .none, .ref 125, .ref 126, .ref 127, .int 346 0, .int 79 0, zv "/claim/cut.py" 347]),
  (129, zF (zC 5 9) "KeyFile.read_next" (.none) (zv "ledgerspeak.keyfile" 245) 128),
  (130, zT [.int 0 349]),
  (136, zO [zv "read_at" 350, zv "KeyFile.read_at" 351, zv "/claim/cut.py" 352, .int 92 0, .int 3 0, .int 0 0, .int 0 0, .int 3 0, .ref 131, .bool true, .int 181 0, .ref 132, .none, .ref 133, .ref 134, .ref 135, .int 357 0, .int 92 0, zv "/claim/cut.py" 358]),
  (137, zF (zC 5 10) "KeyFile.read_at" (.ref 130) (zv "ledgerspeak.keyfile" 245) 136),
  (138, zT [.int 0 360]),
  (144, zO [zv "start" 361, zv "KeyFile.start" 362, zv "/claim/cut.py" 363, .int 102 0, .int 4 0, .int 0 0, .int 0 0, .int 3 0, .ref 139, .bool true, .int 181 0, .ref 140, .none, .ref 141, .ref 142, .ref 143, .int 370 0, .int 102 0, zv "/claim/cut.py" 371]),
  (145, zF (zC 5 11) "KeyFile.start" (.ref 138) (zv "ledgerspeak.keyfile" 245) 144),
  (149, zO [zv "put" 373, zv "KeyFile.put" 374, zv "/claim/cut.py" 375, .int 115 0, .int 4 0, .int 0 0, .int 0 0, .int 3 0, .ref 146, .bool true, .int 181 0, .ref 147, .none, .none, .none, .ref 148, .int 376 0, .int 115 0, zv "/claim/cut.py" 377]),
  (150, zF (zC 5 12) "KeyFile.put" (.none) (zv "ledgerspeak.keyfile" 245) 149),
  (156, zO [zv "drop" 379, zv "KeyFile.drop" 380, zv "/claim/cut.py" 381, .int 120 0, .int 2 0, .int 0 0, .int 0 0, .int 3 0, .ref 151, .bool true, .int 181 0, .ref 152, .none, .ref 153, .ref 154, .ref 155, .int 384 0, .int 120 0, zv "/claim/cut.py" 385]),
  (157, zF (zC 5 13) "KeyFile.drop" (.none) (zv "ledgerspeak.keyfile" 245) 156),
  (163, zO [zv "doubled" 387, zv "KeyFile.doubled" 388, zv "/claim/cut.py" 389, .int 124 0, .int 4 0, .int 0 0, .int 0 0, .int 3 0, .ref 158, .bool true, .int 181 0, .ref 159, .none, .ref 160, .ref 161, .ref 162, .int 396 0, .int 124 0, zv "/claim/cut.py" 397]),
  (164, zF (zC 5 14) "KeyFile.doubled" (.none) (zv "ledgerspeak.keyfile" 245) 163),
  (170, zO [zv "may_write" 399, zv "KeyFile.may_write" 400, zv "/claim/cut.py" 401, .int 133 0, .int 1 0, .int 0 0, .int 0 0, .int 3 0, .ref 165, .bool true, .int 181 0, .ref 166, .none, .ref 167, .ref 168, .ref 169, .int 403 0, .int 133 0, zv "/claim/cut.py" 404]),
  (171, zF (zC 5 15) "KeyFile.may_write" (.none) (zv "ledgerspeak.keyfile" 245) 170),
  (177, zO [zv "write" 406, zv "KeyFile.write" 407, zv "/claim/cut.py" 408, .int 138 0, .int 2 0, .int 0 0, .int 0 0, .int 3 0, .ref 172, .bool true, .int 181 0, .ref 173, .none, .ref 174, .ref 175, .ref 176, .int 413 0, .int 138 0, zv "/claim/cut.py" 414]),
  (178, zF (zC 5 16) "KeyFile.write" (.none) (zv "ledgerspeak.keyfile" 245) 177),
  (182, zO [zv "last_place" 416, zv "KeyFile.last_place" 417, zv "/claim/cut.py" 418, .int 154 0, .int 1 0, .int 0 0, .int 0 0, .int 3 0, .ref 179, .bool true, .int 181 0, .ref 180, .none, .none, .none, .ref 181, .int 419 0, .int 154 0, zv "/claim/cut.py" 420]),
  (183, zF (zC 5 17) "KeyFile.last_place" (.none) (zv "ledgerspeak.keyfile" 245) 182),
  (187, zO [zv "rewrite" 422, zv "KeyFile.rewrite" 423, zv "/claim/cut.py" 424, .int 158 0, .int 2 0, .int 0 0, .int 0 0, .int 3 0, .ref 184, .bool true, .int 181 0, .ref 185, .none, .none, .none, .ref 186, .int 425 0, .int 158 0, zv "/claim/cut.py" 426]),
  (188, zF (zC 5 18) "KeyFile.rewrite" (.none) (zv "ledgerspeak.keyfile" 245) 187),
  (189, zT [.bytes #[] 428]),
  (195, zO [zv "delete" 429, zv "KeyFile.delete" 430, zv "/claim/cut.py" 431, .int 186 0, .int 2 0, .int 0 0, .int 0 0, .int 3 0, .ref 190, .bool true, .int 181 0, .ref 191, .none, .ref 192, .ref 193, .ref 194, .int 435 0, .int 186 0, zv "/claim/cut.py" 436]),
  (196, zF (zC 5 19) "KeyFile.delete" (.ref 189) (zv "ledgerspeak.keyfile" 245) 195),
  (198, zD 4 [zE P "__module__" 257 (zv "ledgerspeak.keyfile" 245), zE P "__firstlineno__" 261 (.int 15 260), zE P "__init__" 267 (.ref 68), zE P "told" 274 (.ref 75), zE P "worth" 286 (.ref 82), zE P "ordered" 296 (.ref 89), zE P "place_of" 305 (.ref 96), zE P "others_with" 317 (.ref 103), zE P "stand" 326 (.ref 110), zE P "lose" 334 (.ref 117), zE P "found" 340 (.ref 122), zE P "read_next" 348 (.ref 129), zE P "read_at" 359 (.ref 137), zE P "start" 372 (.ref 145), zE P "put" 378 (.ref 150), zE P "drop" 386 (.ref 157), zE P "doubled" 398 (.ref 164), zE P "may_write" 405 (.ref 171), zE P "write" 415 (.ref 178), zE P "last_place" 421 (.ref 183), zE P "rewrite" 427 (.ref 188), zE P "delete" 437 (.ref 196), zE P "__static_attributes__" 449 (.ref 197), zE P "__dict__" 451 (.ref 200), zE P "__weakref__" 453 (.ref 201), zE P "__doc__" 454 (.none)]),
  (199, zX "KeyFile" [.type "object"] [.ref 199, .type "object"] 198 [] #[none, none, some (zv "KeyFile" 250), some (zv "KeyFile" 258), some (.builtin "object.__new__"), some (.bool true)]),
  (209, zO [zv "_law_take" 459, zv "_law_take" 460, zv "/claim/cut.py" 461, .int 196 0, .int 2 0, .int 0 0, .int 0 0, .int 3 0, .ref 204, .bool true, .int 181 0, .ref 205, .none, .ref 206, .ref 207, .ref 208, .int 465 0, .int 196 0, zv "/claim/cut.py" 466]),
  (210, zF (zS 7) "_law_take" (.none) (zv "law_og0088_01" 457) 209),
  (216, zO [zv "_law_bag" 468, zv "_law_bag" 469, zv "/claim/cut.py" 470, .int 200 0, .int 1 0, .int 0 0, .int 0 0, .int 3 0, .ref 211, .bool true, .int 181 0, .ref 212, .none, .ref 213, .ref 214, .ref 215, .int 474 0, .int 200 0, zv "/claim/cut.py" 475]),
  (217, zF (zS 8) "_law_bag" (.none) (zv "law_og0088_01" 457) 216),
  (223, zO [zv "_law_record" 477, zv "_law_record" 478, zv "/claim/cut.py" 479, .int 207 0, .int 1 0, .int 0 0, .int 0 0, .int 3 0, .ref 218, .bool true, .int 181 0, .ref 219, .none, .ref 220, .ref 221, .ref 222, .int 482 0, .int 207 0, zv "/claim/cut.py" 483]),
  (224, zF (zS 9) "_law_record" (.none) (zv "law_og0088_01" 457) 223),
  (230, zO [zv "_law_part" 485, zv "_law_part" 486, zv "/claim/cut.py" 487, .int 210 0, .int 2 0, .int 0 0, .int 0 0, .int 3 0, .ref 225, .bool true, .int 181 0, .ref 226, .none, .ref 227, .ref 228, .ref 229, .int 490 0, .int 210 0, zv "/claim/cut.py" 491]),
  (231, zF (zS 10) "_law_part" (.none) (zv "law_og0088_01" 457) 230),
  (235, zO [zv "_law_order" 493, zv "_law_order" 494, zv "/claim/cut.py" 495, .int 212 0, .int 2 0, .int 0 0, .int 0 0, .int 3 0, .ref 232, .bool true, .int 181 0, .ref 233, .none, .none, .none, .ref 234, .int 496 0, .int 212 0, zv "/claim/cut.py" 497]),
  (236, zF (zS 11) "_law_order" (.none) (zv "law_og0088_01" 457) 235),
  (240, zO [zv "_law_stood" 499, zv "_law_stood" 500, zv "/claim/cut.py" 501, .int 214 0, .int 3 0, .int 0 0, .int 0 0, .int 3 0, .ref 237, .bool true, .int 181 0, .ref 238, .none, .none, .none, .ref 239, .int 502 0, .int 214 0, zv "/claim/cut.py" 503]),
  (241, zF (zS 12) "_law_stood" (.none) (zv "law_og0088_01" 457) 240),
  (247, zO [zv "_law_next" 505, zv "_law_next" 506, zv "/claim/cut.py" 507, .int 219 0, .int 1 0, .int 0 0, .int 0 0, .int 3 0, .ref 242, .bool true, .int 181 0, .ref 243, .none, .ref 244, .ref 245, .ref 246, .int 510 0, .int 219 0, zv "/claim/cut.py" 511]),
  (248, zF (zS 13) "_law_next" (.none) (zv "law_og0088_01" 457) 247),
  (254, zO [zv "_law_at" 513, zv "_law_at" 514, zv "/claim/cut.py" 515, .int 232 0, .int 3 0, .int 0 0, .int 0 0, .int 3 0, .ref 249, .bool true, .int 181 0, .ref 250, .none, .ref 251, .ref 252, .ref 253, .int 520 0, .int 232 0, zv "/claim/cut.py" 521]),
  (255, zF (zS 14) "_law_at" (.none) (zv "law_og0088_01" 457) 254),
  (261, zO [zv "_law_start" 523, zv "_law_start" 524, zv "/claim/cut.py" 525, .int 242 0, .int 4 0, .int 0 0, .int 0 0, .int 3 0, .ref 256, .bool true, .int 181 0, .ref 257, .none, .ref 258, .ref 259, .ref 260, .int 532 0, .int 242 0, zv "/claim/cut.py" 533]),
  (262, zF (zS 15) "_law_start" (.none) (zv "law_og0088_01" 457) 261),
  (266, zO [zv "_law_doubled" 535, zv "_law_doubled" 536, zv "/claim/cut.py" 537, .int 255 0, .int 4 0, .int 0 0, .int 0 0, .int 3 0, .ref 263, .bool true, .int 181 0, .ref 264, .none, .none, .none, .ref 265, .int 538 0, .int 255 0, zv "/claim/cut.py" 539]),
  (267, zF (zS 16) "_law_doubled" (.none) (zv "law_og0088_01" 457) 266),
  (271, zO [zv "_law_put" 541, zv "_law_put" 542, zv "/claim/cut.py" 543, .int 265 0, .int 4 0, .int 0 0, .int 0 0, .int 3 0, .ref 268, .bool true, .int 181 0, .ref 269, .none, .none, .none, .ref 270, .int 544 0, .int 265 0, zv "/claim/cut.py" 545]),
  (272, zF (zS 17) "_law_put" (.none) (zv "law_og0088_01" 457) 271),
  (276, zO [zv "_law_write" 547, zv "_law_write" 548, zv "/claim/cut.py" 549, .int 269 0, .int 2 0, .int 0 0, .int 0 0, .int 3 0, .ref 273, .bool true, .int 181 0, .ref 274, .none, .none, .none, .ref 275, .int 550 0, .int 269 0, zv "/claim/cut.py" 551]),
  (277, zF (zS 18) "_law_write" (.none) (zv "law_og0088_01" 457) 276),
  (281, zO [zv "_law_change" 553, zv "_law_change" 554, zv "/claim/cut.py" 555, .int 283 0, .int 3 0, .int 0 0, .int 0 0, .int 3 0, .ref 278, .bool true, .int 181 0, .ref 279, .none, .none, .none, .ref 280, .int 556 0, .int 283 0, zv "/claim/cut.py" 557]),
  (282, zF (zS 19) "_law_change" (.none) (zv "law_og0088_01" 457) 281),
  (288, zO [zv "_law_deed" 559, zv "_law_deed" 560, zv "/claim/cut.py" 561, .int 302 0, .int 3 0, .int 0 0, .int 0 0, .int 3 0, .ref 283, .bool true, .int 181 0, .ref 284, .none, .ref 285, .ref 286, .ref 287, .int 572 0, .int 302 0, zv "/claim/cut.py" 573]),
  (289, zF (zS 20) "_law_deed" (.none) (zv "law_og0088_01" 457) 288),
  (295, zO [zv "_law_told" 575, zv "_law_told" 576, zv "/claim/cut.py" 577, .int 317 0, .int 1 0, .int 0 0, .int 0 0, .int 3 0, .ref 290, .bool true, .int 181 0, .ref 291, .none, .ref 292, .ref 293, .ref 294, .int 579 0, .int 317 0, zv "/claim/cut.py" 580]),
  (296, zF (zS 21) "_law_told" (.none) (zv "law_og0088_01" 457) 295),
  (300, zO [zv "law" 582, zv "law" 583, zv "/claim/cut.py" 584, .int 322 0, .int 1 0, .int 0 0, .int 0 0, .int 3 0, .ref 297, .bool true, .int 181 0, .ref 298, .none, .none, .none, .ref 299, .int 585 0, .int 322 0, zv "/claim/cut.py" 586]),
  (301, zF (zS 22) "law" (.none) (zv "law_og0088_01" 457) 300)]
noncomputable def Hb : List Addr := [3, 23, 29, 30, 39, 40, 52, 53, 56, 67, 68, 74, 75, 81, 82, 88, 89, 95, 96, 102, 103, 109, 110, 116, 117, 121, 122, 128, 129, 130, 136, 137, 138, 144, 145, 149, 150, 156, 157, 163, 164, 170, 171, 177, 178, 182, 183, 187, 188, 189, 195, 196, 198, 199, 209, 210, 216, 217, 223, 224, 230, 231, 235, 236, 240, 241, 247, 248, 254, 255, 261, 262, 266, 267, 271, 272, 276, 277, 281, 282, 288, 289, 295, 296, 300, 301]
end Mine
end
section
namespace Mine
open PySem PySem.W PyProof.Rows PySem.W.Fast
noncomputable def qV : Program := view pw [1, 2, 4, 5, 7, 8, 9, 10, 11, 12, 13, 14, 15, 16, 17, 18, 19, 20, 21, 22]
noncomputable def gE : List Str := [Str.ofString "LedgerError", Str.ofString "KeyFile"]
noncomputable def eW : Hook := kmHook KK Hb (fun P => by kernel_rfl) [284, 298]
noncomputable def DM (s : Shared) : Bool := xlAt qV [] s && recOk PySem.Challenge.rw_og0088_01.row.records s
noncomputable abbrev D7 (w : World) (os : OsState) : Shared := ⟨boot_heap w.params, #[], boot_drawn, boot_toks, os⟩
noncomputable def CD (w : World) (s : Shared) := (staticsOk (importedModules pw.main.body) (boot_heap w.params) s.heap && namesBound pw s.heap && gensDone s && laidKept (boot_heap w.params) s.heap,
  openSeen qV gE (importedModules pw.main.body) DM true s, eW.obs s)
theorem D5 (w : World) (os : OsState) : (tw14082659384304107361 tw14364793385576792824 pw w (boot_heap w.params).objs.size (tw8920871248978507458 (boot_heap w.params) mainGlobals ⟨#[95, 95, 97, 110, 110, 111, 116, 97, 116, 105, 111, 110, 115, 95, 95]⟩) 3794 (D7 w os) (topStub pw)).map (fun s =>
    (staticsOk (tw5923862056798008813 pw.main.body) (boot_heap w.params) s.heap && namesBound pw s.heap && gensDone s && laidKept (boot_heap w.params) s.heap, tw4187177175401517315 qV gE (tw5923862056798008813 pw.main.body) DM true s, eW.obs s)) = some (true, openGood qV gE, eW.val w) := by
  kernel_rfl
theorem D4 (w : World) (os : OsState) : (topRun treeTable pw w (boot_heap w.params).objs.size ((boot_heap w.params).nsMap mainGlobals "__annotations__") 3794 (D7 w os) (topStub pw)).map (CD w) = some (true, openGood qV gE, eW.val w) := by
  have h := D5 w os
  rw [← te14082659384304107361, ← te14364793385576792824, ← te8920871248978507458, ← te5923862056798008813, ← te4187177175401517315] at h
  exact h
theorem ou {p q : Program} {loose : List Str} {Xt : Shared → Bool} {α : Type} {Yf : Shared → α} {Ya : World → α} {N : Nat}
    (open_ : ∀ w : World, (fencedOpening treeTable p w N).map (fun s => (s.heap, s.gens, s.drawn, s.toks)) = some (boot_heap w.params, #[], boot_drawn, boot_toks))
    (z : ∀ w : World, (boot_heap w.params).isNs mainGlobals = true)
    (run : ∀ (w : World) (os : OsState), (topRun treeTable p w (boot_heap w.params).objs.size ((boot_heap w.params).nsMap mainGlobals "__annotations__") N (D7 w os) (topStub p)).map (fun s => (staticsOk (importedModules p.main.body) (boot_heap w.params) s.heap && namesBound p s.heap && gensDone s && laidKept (boot_heap w.params) s.heap,
      openSeen q loose (importedModules p.main.body) Xt true s, Yf s)) = some (true, openGood q loose, Ya w)) : LeftO p q loose Xt Yf Ya N := fun w => by
  obtain ⟨⟨h, gs, d, k, os⟩, e, e'⟩ := Option.map_eq_some_iff.mp (open_ w)
  obtain ⟨rfl, rfl, rfl, rfl⟩ : h = boot_heap w.params ∧ gs = #[] ∧ d = boot_drawn ∧ k = boot_toks := by simpa using e'
  obtain ⟨s, hs, hl⟩ := Option.map_eq_some_iff.mp (run w os)
  obtain ⟨l1, l2, l3⟩ : _ ∧ _ ∧ _ := by simpa only [Prod.mk.injEq] using hl
  have t : topFrom treeTable p w N (D7 w os) = some s := by
    unfold topFrom
    show (match (boot_heap w.params).isNs mainGlobals && true with | true => _ | false => _) = _
    rw [z w]
    show (topRun treeTable p w (boot_heap w.params).objs.size ((boot_heap w.params).nsMap mainGlobals "__annotations__") N (D7 w os) (topStub p)).bind _ = _
    rw [hs]
    show (match staticsOk (importedModules p.main.body) (boot_heap w.params) s.heap && namesBound p s.heap && gensDone s && laidKept (boot_heap w.params) s.heap with | true => _ | false => _) = _
    rw [l1]
  unfold openEnds
  rw [e]
  show (topFrom treeTable p w N _).map _ = _
  rw [t]
  exact congrArg some (Prod.ext l2 l3)
theorem zt : LeftO pw qV gE DM eW.obs eW.val 3794 :=
  ou (boot_open (by kernel_rfl) rfl (fun s => by rfl)) (fun w => by kernel_rfl) fun w os => D4 w os
noncomputable abbrev vp := PySem.Challenge.rw_og0088_01
noncomputable def tK : DefRec := match zS 22 with
  | .FunctionDef n a b _ _ _ sc _ _ p => { name := n, params := a, body := b, scope := sc, pos := p }
  | _ => { name := ⟨#[]⟩, params := { posonlyargs := [], args := [], vararg := none, kwonlyargs := [], kw_defaults := [], kwarg := none, defaults := [] }, body := [], scope := { kind := .function, names := [], isGenerator := false, isCoroutine := false }, pos := ⟨0, 0, 0, 0⟩ }
theorem zV : tw9446332074065402090 vp = true := by kernel_rfl
theorem zU : vp.wellSaid = true := by rw [te9446332074065402090]; exact zV
theorem zf : defOf qV vp.row.name = some (tK, []) := by kernel_rfl
theorem EG : vp.row.prog.theDef vp.row.name = some (tK.params, tK.body, tK.scope) := by kernel_rfl
theorem EX : (chainsOk qV && opensWell vp.row.prog && (frees vp.row.toRowW && vp.row.within.isEmpty)) = true := by kernel_rfl
theorem hd (call : WalkO qV gE (XL qV []) eW.says vp.row.toRowW tK [] fun f vs => PySem.call f vs) : vp.Holds :=
  holds_law zU fun said => holds_open (r := vp.row) (q := qV) (loose := gE) (Xt := DM) (XP := XL qV []) (Yf := eW.obs) (Ya := eW.val) (YP := eW.says) (N := 3794) zt eW.of eW.keeps (fun s e => xl_of s (Bool.and_eq_true_iff.mp e).1) XL.keeps
    zf EG (by kernel_rfl) (fun s e => recFacts_of (Bool.and_eq_true_iff.mp e).2) (by kernel_rfl) said EX ⟨rfl, rfl, rfl, rfl, rfl, by decide +kernel⟩ ⟨[.list []], by kernel_rfl, by kernel_rfl⟩ call
end Mine
end
section
namespace Mine
open PySem PySem.W PyProof.Rows PySem.Calls PySem.SeqAt
noncomputable def am (K : Frag) (a : Addr) : FuncData := match K.lookup a with
  | some ⟨_, _, .func fd, _⟩ => fd
  | _ => default
noncomputable def bf (K : Frag) (a : Addr) : Obj := (K.lookup a).getD default
noncomputable def bF (fd : FuncData) : List Stmt := match fd.body with
  | .stmts b => b
  | _ => []
noncomputable def jA (K : Frag) (fd : FuncData) : Bool := match fd.code with
  | .ref c => match K.lookup c with
    | some ⟨_, _, .fields vs, _⟩ => (match (vs[1]? : Option Value) with | some (.str q _) => q == fd.qualname | _ => false)
    | _ => false
  | _ => false
noncomputable def y3 (K : Frag) (a : Addr) (ps : List Nat) : Bool := match K.lookup a with
  | some ⟨_, _, .func fd, _⟩ => (match fd.body with | .stmts _ => true | _ => false) && fd.closure.isEmpty && fd.globals == mainGlobals && fd.builtins == builtinsNs && fd.scope.kind == .function && !fd.scope.isCoroutine && !fd.scope.isGenerator && jA K fd &&
      ps.all (fun p => decide (p < 91) && (fd.scope.names.lookup (ad p) == some .local || fd.scope.names.lookup (ad p) == some .cell)) && fd.scope.names.all (fun y => y.2 != .free) && (ps.any (fun p => fd.scope.names.lookup (ad p) == some .local) || fd.qualname ++ ".<locals>." == D0)
  | _ => false
noncomputable abbrev aU (K : Frag) (a : Addr) : NL := (am K a).scope.names
def yE (C : List Value → Prop) : List Nat → Prop
  | [] => C []
  | _ :: ps => ∀ v, yE (fun l => C (v :: l)) ps
theorem r9 : ∀ (ps : List Nat) (C : List Value → Prop), yE C ps → ∀ vals : List Value, vals.length = ps.length → C vals
  | [], C, h, [], _ => h
  | [], _, _, _ :: _, e => Nat.noConfusion e
  | _ :: _, _, _, [], e => Nat.noConfusion e
  | _ :: ps, C, h, v :: vs, e => r9 ps (fun l => C (v :: l)) (h v) vs (Nat.succ.inj e)
set_option tactic.hygienic true in
theorem ay {c : Cx} {K : Frag} {a : Addr} {ps : List Nat} (X : K.In c.B) (h : y3 K a ps = true) (hb : yE (fun vals => ∀ S, peek K S (bindArgs (am K a) ⟨vals, []⟩) = some ((ps.map ad).zip vals)) ps) :
    FnB c a (bf K a) (am K a) ps (bF (am K a)) (aU K a) := by
  replace hb := r9 ps _ hb
  unfold y3 at h
  split at h
  · rename_i cl d fd sl hk
    have e1 : am K a = fd := by unfold am; rw [hk]
    have e2 : bf K a = ⟨cl, d, .func fd, sl⟩ := by unfold bf; rw [hk]; rfl
    unfold aU
    rw [e1] at hb ⊢
    rw [e2]
    simp only [Bool.and_eq_true, Bool.not_eq_true', beq_iff_eq, List.all_eq_true, Bool.or_eq_true, decide_eq_true_eq, List.any_eq_true, bne_iff_ne, ne_eq] at h
    obtain ⟨⟨⟨⟨⟨⟨⟨⟨⟨⟨h1, h2⟩, h3⟩, h4⟩, h5⟩, h6⟩, h7⟩, h8⟩, h9⟩, h10⟩, h11⟩ := h
    refine ⟨X _ _ hk, rfl, ?_, ?_, h3, h4, rfl, h5, h6, h7, ?_, fun s vals k hl => kp_binds (X.keeps k) (hb vals hl), h9, fun n z => ?_, ?_⟩
    · unfold bF
      split at h1
      · rename_i b q; rw [q]
      · cases h1
    · exact List.isEmpty_iff.mp h2
    · unfold jA at h8
      split at h8
      · rename_i cc q
        split at h8
        · rename_i c1 d1 vs sl1 q1
          split at h8
          · rename_i qq t q2
            exact ⟨cc, _, vs, t, q, X _ _ q1, rfl, by rw [← beq_iff_eq.mp h8]; exact q2⟩
          · cases h8
        · cases h8
      · cases h8
    · exact h10 _ (mem_of_lookup z) rfl
    · exact h11
  · cases h
noncomputable def lm : S → Stmt → Bool := fun H H => false
section
variable {c : Cx} {P : Params} {mb : Str → Option Value} {n : Nat}
theorem oL {Γ : Gam} {A : Around} {XP : lk} {EC : Env → (Addr → Prop) → Prop} {ns : NL} {w xf qf : Bool} : w8 c XP Γ A EC ns w xf qf lm := fun d s h => by rw [show (qf && lm d s) = false from Bool.and_false _] at h; cases h
theorem bP {Γ : Gam} {a : Addr} {o : Obj} {fd : FuncData} {ps : List Nat} {body : List Stmt} {ds : List S} {ns : NL} (B : Bs c (KK P) mb) (G : GOk c (KK P) Γ n) (hn : n < 20) (N : FnB c a o fd ps body ns) (h : kB ns lm false ds body = true) : bC c (n + 1) (d6 Γ ps ds) a :=
  uk B N (fun A hA => uv B G hA (fun z => nomatch z) oL h) fun H H h => absurd hn (Nat.not_lt.mpr h)
theorem kH {Γ : Gam} {a : Addr} {o : Obj} {fd : FuncData} {ps : List Nat} {body : List Stmt} {ds : List S} {ns : NL} (B : Bs c (KK P) mb) (Y : XB c (KK P) mb) (G : GOk c (KK P) Γ n) (h1 : 1 ≤ n) (hn : n < 20) (N : FnB c a o fd ps body ns) (h : kB ns lm true ds body = true) : t5 c (n + 1) (d6 Γ ps ds) a :=
  zd B Y h1 N (fun A hA Z => uv B G hA (fun H => Z) oL h) fun H H h => absurd hn (Nat.not_lt.mpr h)
theorem BA (X : (KK P).In c.B) : FnB c 210 (bf (KK P) 210) (am (KK P) 210) fm (bF (am (KK P) 210)) (aU (KK P) 210) := ay X (by kernel_rfl) fun v0 v1 S => by kernel_rfl
theorem BB (X : (KK P).In c.B) : FnB c 217 (bf (KK P) 217) (am (KK P) 217) jZ (bF (am (KK P) 217)) (aU (KK P) 217) := ay X (by kernel_rfl) fun v0 S => by kernel_rfl
theorem BD (X : (KK P).In c.B) : FnB c 231 (bf (KK P) 231) (am (KK P) 231) fk (bF (am (KK P) 231)) (aU (KK P) 231) := ay X (by kernel_rfl) fun v0 v1 S => by kernel_rfl
theorem En (X : (KK P).In c.B) : FnB c 75 (bf (KK P) 75) (am (KK P) 75) mj (bF (am (KK P) 75)) (aU (KK P) 75) := ay X (by kernel_rfl) fun v0 S => by kernel_rfl
theorem Eo (X : (KK P).In c.B) : FnB c 82 (bf (KK P) 82) (am (KK P) 82) k9 (bF (am (KK P) 82)) (aU (KK P) 82) := ay X (by kernel_rfl) fun v0 v1 v2 S => by kernel_rfl
theorem Bl (X : (KK P).In c.B) : FnB c 110 (bf (KK P) 110) (am (KK P) 110) k7 (bF (am (KK P) 110)) (aU (KK P) 110) := ay X (by kernel_rfl) fun v0 v1 v2 S => by kernel_rfl
theorem Bm (X : (KK P).In c.B) : FnB c 117 (bf (KK P) 117) (am (KK P) 117) mi (bF (am (KK P) 117)) (aU (KK P) 117) := ay X (by kernel_rfl) fun v0 v1 S => by kernel_rfl
theorem Bt (X : (KK P).In c.B) : FnB c 157 (bf (KK P) 157) (am (KK P) 157) mh (bF (am (KK P) 157)) (aU (KK P) 157) := ay X (by kernel_rfl) fun v0 v1 S => by kernel_rfl
theorem Bv (X : (KK P).In c.B) : FnB c 171 (bf (KK P) 171) (am (KK P) 171) gZ (bF (am (KK P) 171)) (aU (KK P) 171) := ay X (by kernel_rfl) fun v0 S => by kernel_rfl
theorem Bx (X : (KK P).In c.B) : FnB c 183 (bf (KK P) 183) (am (KK P) 183) gd (bF (am (KK P) 183)) (aU (KK P) 183) := ay X (by kernel_rfl) fun v0 S => by kernel_rfl
theorem Br (X : (KK P).In c.B) : FnB c 150 (bf (KK P) 150) (am (KK P) 150) pK (bF (am (KK P) 150)) (aU (KK P) 150) := ay X (by kernel_rfl) fun v0 v1 v2 v3 S => by kernel_rfl
theorem BC (X : (KK P).In c.B) : FnB c 224 (bf (KK P) 224) (am (KK P) 224) dS (bF (am (KK P) 224)) (aU (KK P) 224) := ay X (by kernel_rfl) fun v0 S => by kernel_rfl
theorem BE (X : (KK P).In c.B) : FnB c 236 (bf (KK P) 236) (am (KK P) 236) gX (bF (am (KK P) 236)) (aU (KK P) 236) := ay X (by kernel_rfl) fun v0 v1 S => by kernel_rfl
theorem BK (X : (KK P).In c.B) : FnB c 267 (bf (KK P) 267) (am (KK P) 267) dk (bF (am (KK P) 267)) (aU (KK P) 267) := ay X (by kernel_rfl) fun v0 v1 v2 v3 S => by kernel_rfl
theorem BL (X : (KK P).In c.B) : FnB c 272 (bf (KK P) 272) (am (KK P) 272) gr (bF (am (KK P) 272)) (aU (KK P) 272) := ay X (by kernel_rfl) fun v0 v1 v2 v3 S => by kernel_rfl
theorem Ep (X : (KK P).In c.B) : FnB c 89 (bf (KK P) 89) (am (KK P) 89) gw (bF (am (KK P) 89)) (aU (KK P) 89) := ay X (by kernel_rfl) fun v0 v1 S => by kernel_rfl
theorem Er (X : (KK P).In c.B) : FnB c 96 (bf (KK P) 96) (am (KK P) 96) fo (bF (am (KK P) 96)) (aU (KK P) 96) := ay X (by kernel_rfl) fun v0 v1 S => by kernel_rfl
theorem Bk (X : (KK P).In c.B) : FnB c 103 (bf (KK P) 103) (am (KK P) 103) dm (bF (am (KK P) 103)) (aU (KK P) 103) := ay X (by kernel_rfl) fun v0 v1 v2 v3 S => by kernel_rfl
theorem Bn (X : (KK P).In c.B) : FnB c 122 (bf (KK P) 122) (am (KK P) 122) k6 (bF (am (KK P) 122)) (aU (KK P) 122) := ay X (by kernel_rfl) fun v0 v1 v2 S => by kernel_rfl
theorem Bu (X : (KK P).In c.B) : FnB c 164 (bf (KK P) 164) (am (KK P) 164) gu (bF (am (KK P) 164)) (aU (KK P) 164) := ay X (by kernel_rfl) fun v0 v1 v2 v3 S => by kernel_rfl
theorem BF (X : (KK P).In c.B) : FnB c 241 (bf (KK P) 241) (am (KK P) 241) eD (bF (am (KK P) 241)) (aU (KK P) 241) := ay X (by kernel_rfl) fun v0 v1 v2 S => by kernel_rfl
theorem BJ (X : (KK P).In c.B) : FnB c 262 (bf (KK P) 262) (am (KK P) 262) eC (bF (am (KK P) 262)) (aU (KK P) 262) := ay X (by kernel_rfl) fun v0 v1 v2 v3 S => by kernel_rfl
theorem BN (X : (KK P).In c.B) : FnB c 277 (bf (KK P) 277) (am (KK P) 277) gY (bF (am (KK P) 277)) (aU (KK P) 277) := ay X (by kernel_rfl) fun v0 v1 S => by kernel_rfl
theorem BO (X : (KK P).In c.B) : FnB c 282 (bf (KK P) 282) (am (KK P) 282) dR (bF (am (KK P) 282)) (aU (KK P) 282) := ay X (by kernel_rfl) fun v0 v1 v2 S => by kernel_rfl
theorem BG (X : (KK P).In c.B) : FnB c 248 (bf (KK P) 248) (am (KK P) 248) fj (bF (am (KK P) 248)) (aU (KK P) 248) := ay X (by kernel_rfl) fun v0 S => by kernel_rfl
theorem BH (X : (KK P).In c.B) : FnB c 255 (bf (KK P) 255) (am (KK P) 255) iF (bF (am (KK P) 255)) (aU (KK P) 255) := ay X (by kernel_rfl) fun v0 v1 v2 S => by kernel_rfl
theorem Em (X : (KK P).In c.B) : FnB c 68 (bf (KK P) 68) (am (KK P) 68) ja (bF (am (KK P) 68)) (aU (KK P) 68) := ay X (by kernel_rfl) fun v0 v1 v2 v3 v4 v5 S => by kernel_rfl
theorem Bq (X : (KK P).In c.B) : FnB c 145 (bf (KK P) 145) (am (KK P) 145) k8 (bF (am (KK P) 145)) (aU (KK P) 145) := ay X (by kernel_rfl) fun v0 v1 v2 v3 S => by kernel_rfl
theorem Bz (X : (KK P).In c.B) : FnB c 196 (bf (KK P) 196) (am (KK P) 196) iG (bF (am (KK P) 196)) (aU (KK P) 196) := ay X (by kernel_rfl) fun v0 v1 S => by kernel_rfl
theorem Bo (X : (KK P).In c.B) : FnB c 129 (bf (KK P) 129) (am (KK P) 129) eE (bF (am (KK P) 129)) (aU (KK P) 129) := ay X (by kernel_rfl) fun v0 S => by kernel_rfl
theorem Bp (X : (KK P).In c.B) : FnB c 137 (bf (KK P) 137) (am (KK P) 137) gx (bF (am (KK P) 137)) (aU (KK P) 137) := ay X (by kernel_rfl) fun v0 v1 v2 S => by kernel_rfl
theorem Bw (X : (KK P).In c.B) : FnB c 178 (bf (KK P) 178) (am (KK P) 178) hG (bF (am (KK P) 178)) (aU (KK P) 178) := ay X (by kernel_rfl) fun v0 v1 S => by kernel_rfl
theorem By (X : (KK P).In c.B) : FnB c 188 (bf (KK P) 188) (am (KK P) 188) gy (bF (am (KK P) 188)) (aU (KK P) 188) := ay X (by kernel_rfl) fun v0 v1 S => by kernel_rfl
theorem C0 (B : Bs c (KK P) mb) (G : GOk c (KK P) bJ n) (hn : n < 20) : bC c (n + 1) nE 210 := bP B G hn (BA B.X) (by kernel_rfl)
theorem C1 (B : Bs c (KK P) mb) (G : GOk c (KK P) bJ n) (hn : n < 20) : bC c (n + 1) w4 217 := bP B G hn (BB B.X) (by kernel_rfl)
theorem C4 (B : Bs c (KK P) mb) (G : GOk c (KK P) bJ n) (hn : n < 20) : bC c (n + 1) jV 231 := bP B G hn (BD B.X) (by kernel_rfl)
theorem Es (B : Bs c (KK P) mb) (G : GOk c (KK P) bJ n) (hn : n < 20) : bC c (n + 1) nF 75 := bP B G hn (En B.X) (by kernel_rfl)
theorem Et (B : Bs c (KK P) mb) (G : GOk c (KK P) bJ n) (hn : n < 20) : bC c (n + 1) jX 82 := bP B G hn (Eo B.X) (by kernel_rfl)
theorem BS (B : Bs c (KK P) mb) (G : GOk c (KK P) bJ n) (hn : n < 20) : bC c (n + 1) m7 110 := bP B G hn (Bl B.X) (by kernel_rfl)
theorem BT (B : Bs c (KK P) mb) (G : GOk c (KK P) bJ n) (hn : n < 20) : bC c (n + 1) qT 117 := bP B G hn (Bm B.X) (by kernel_rfl)
theorem BW (B : Bs c (KK P) mb) (G : GOk c (KK P) bJ n) (hn : n < 20) : bC c (n + 1) qS 157 := bP B G hn (Bt B.X) (by kernel_rfl)
theorem BY (B : Bs c (KK P) mb) (G : GOk c (KK P) bJ n) (hn : n < 20) : bC c (n + 1) iE 171 := bP B G hn (Bv B.X) (by kernel_rfl)
theorem BZ (B : Bs c (KK P) mb) (G : GOk c (KK P) bJ n) (hn : n < 20) : bC c (n + 1) gp 183 := bP B G hn (Bx B.X) (by kernel_rfl)
theorem BV (B : Bs c (KK P) mb) (G : GOk c (KK P) bJ n) (hn : n < 20) : bC c (n + 1) w7 150 := bP B G hn (Br B.X) (by kernel_rfl)
theorem C3 (B : Bs c (KK P) mb) (G : GOk c (KK P) aV n) (hn : n < 20) : bC c (n + 1) fS 224 := bP B G hn (BC B.X) (by kernel_rfl)
theorem C5 (B : Bs c (KK P) mb) (G : GOk c (KK P) aV n) (hn : n < 20) : bC c (n + 1) pI 236 := bP B G hn (BE B.X) (by kernel_rfl)
theorem Ca (B : Bs c (KK P) mb) (G : GOk c (KK P) aV n) (hn : n < 20) : bC c (n + 1) fP 267 := bP B G hn (BK B.X) (by kernel_rfl)
theorem Cb (B : Bs c (KK P) mb) (G : GOk c (KK P) aV n) (hn : n < 20) : bC c (n + 1) qU 272 := bP B G hn (BL B.X) (by kernel_rfl)
theorem Eu (B : Bs c (KK P) mb) (G : GOk c (KK P) aV n) (hn : n < 20) : bC c (n + 1) gS 89 := bP B G hn (Ep B.X) (by kernel_rfl)
theorem Ev (B : Bs c (KK P) mb) (G : GOk c (KK P) aV n) (hn : n < 20) : bC c (n + 1) gT 96 := bP B G hn (Er B.X) (by kernel_rfl)
theorem BR (B : Bs c (KK P) mb) (G : GOk c (KK P) aV n) (hn : n < 20) : bC c (n + 1) dG 103 := bP B G hn (Bk B.X) (by kernel_rfl)
theorem BU (B : Bs c (KK P) mb) (G : GOk c (KK P) aE n) (hn : n < 20) : bC c (n + 1) m0 122 := bP B G hn (Bn B.X) (by kernel_rfl)
theorem BX (B : Bs c (KK P) mb) (G : GOk c (KK P) aE n) (hn : n < 20) : bC c (n + 1) gP 164 := bP B G hn (Bu B.X) (by kernel_rfl)
theorem C6 (B : Bs c (KK P) mb) (G : GOk c (KK P) aE n) (hn : n < 20) : bC c (n + 1) m9 241 := bP B G hn (BF B.X) (by kernel_rfl)
theorem C9 (B : Bs c (KK P) mb) (G : GOk c (KK P) aE n) (hn : n < 20) : bC c (n + 1) gR 262 := bP B G hn (BJ B.X) (by kernel_rfl)
theorem Cc (B : Bs c (KK P) mb) (G : GOk c (KK P) aE n) (hn : n < 20) : bC c (n + 1) jy 277 := bP B G hn (BN B.X) (by kernel_rfl)
theorem Cd (B : Bs c (KK P) mb) (G : GOk c (KK P) aE n) (hn : n < 20) : bC c (n + 1) e8 282 := bP B G hn (BO B.X) (by kernel_rfl)
theorem C7 (B : Bs c (KK P) mb) (G : GOk c (KK P) aO n) (hn : n < 20) : bC c (n + 1) jS 248 := bP B G hn (BG B.X) (by kernel_rfl)
theorem C8 (B : Bs c (KK P) mb) (G : GOk c (KK P) aO n) (hn : n < 20) : bC c (n + 1) te 255 := bP B G hn (BH B.X) (by kernel_rfl)
theorem EF (B : Bs c (KK P) mb) (Y : XB c (KK P) mb) (G : GOk c (KK P) aV n) (h1 : 1 ≤ n) (hn : n < 20) : t5 c (n + 1) jR 68 := kH B Y G h1 hn (Em B.X) (by kernel_rfl)
theorem Cj (B : Bs c (KK P) mb) (Y : XB c (KK P) mb) (G : GOk c (KK P) aE n) (h1 : 1 ≤ n) (hn : n < 20) : t5 c (n + 1) m8 145 := kH B Y G h1 hn (Bq B.X) (by kernel_rfl)
theorem Cm (B : Bs c (KK P) mb) (Y : XB c (KK P) mb) (G : GOk c (KK P) aE n) (h1 : 1 ≤ n) (hn : n < 20) : t5 c (n + 1) jx 196 := kH B Y G h1 hn (Bz B.X) (by kernel_rfl)
theorem Ch (B : Bs c (KK P) mb) (Y : XB c (KK P) mb) (G : GOk c (KK P) aO n) (h1 : 1 ≤ n) (hn : n < 20) : t5 c (n + 1) fR 129 := kH B Y G h1 hn (Bo B.X) (by kernel_rfl)
theorem Ci (B : Bs c (KK P) mb) (Y : XB c (KK P) mb) (G : GOk c (KK P) aO n) (h1 : 1 ≤ n) (hn : n < 20) : t5 c (n + 1) jz 137 := kH B Y G h1 hn (Bp B.X) (by kernel_rfl)
theorem Ck (B : Bs c (KK P) mb) (Y : XB c (KK P) mb) (G : GOk c (KK P) aO n) (h1 : 1 ≤ n) (hn : n < 20) : t5 c (n + 1) ma 178 := kH B Y G h1 hn (Bw B.X) (by kernel_rfl)
theorem Cl (B : Bs c (KK P) mb) (Y : XB c (KK P) mb) (G : GOk c (KK P) aO n) (h1 : 1 ≤ n) (hn : n < 20) : t5 c (n + 1) gU 188 := kH B Y G h1 hn (By B.X) (by kernel_rfl)
end
theorem bC.mono {c : Cx} {n m : Nat} {D : aB} {a : Addr} (x : bC c n D a) (k : n ≤ m) : bC c m D a := by
  obtain ⟨o, fd, h1, h2, h3⟩ := x
  exact ⟨o, fd, h1, h2, fun A FX ρ σ σ' s ds vs d hA => h3 A FX ρ σ σ' s ds vs d (hA.mono k)⟩
theorem nG.mono {c : Cx} {n m k : Nat} (x : nG c n k) (h : n ≤ m) : nG c m k := fun A FX ρ σ σ' s l fv r hA => x A FX ρ σ σ' s l fv r (hA.mono h)
def w9 (c : Cx) (n : Nat) (p : Nat × aB) : Prop := p.1 < 91 ∧ ∃ a, c.mg (ad p.1) = some (.ref a) ∧ bC c n p.2 a
def xH (c : Cx) (K : Frag) (n : Nat) (p : Nat × aB) : Prop := ∃ a, findIn K (.ref FC) (ad p.1) = some (some (.ref a)) ∧ isFn K (.ref a) = true ∧ bC c n p.2 a
theorem w9.mono {c : Cx} {n m : Nat} {p : Nat × aB} (x : w9 c n p) (k : n ≤ m) : w9 c m p := by
  obtain ⟨h1, a, h2, h3⟩ := x
  exact ⟨h1, a, h2, h3.mono k⟩
theorem xH.mono {c : Cx} {K : Frag} {n m : Nat} {p : Nat × aB} (x : xH c K n p) (k : n ≤ m) : xH c K m p := by
  obtain ⟨a, h1, h2, h3⟩ := x
  exact ⟨a, h1, h2, h3.mono k⟩
theorem n7 : ∀ {L : List (Nat × aB)} {k : Nat} {ds : List V} {σ : St} {r : Option V × St}, tab L k ds σ = some r → ∃ p ∈ L, p.1 = k ∧ tab L k = p.2
  | [], k, ds, σ, r, h => ae h
  | (j, d) :: L, k, ds, σ, r, h => by
    rw [tab] at h ⊢
    by_cases e : k = j
    · exact ⟨(j, d), .head _, e.symm, if_pos e⟩
    · rw [if_neg e] at h ⊢
      obtain ⟨p, h1, h2⟩ := n7 h
      exact ⟨p, .tail _ h1, h2⟩
theorem kJ {c : Cx} {K : Frag} {n : Nat} {fs ms : List (Nat × aB)} (hf : ∀ p ∈ fs, w9 c n p) (hm : ∀ p ∈ ms, xH c K n p) : GOk c K ⟨tab fs, tab ms⟩ n := by
  refine ⟨fun f ds σ r h => ?_, fun m ds σ r h => ?_⟩
  · obtain ⟨p, h1, rfl, h3⟩ := n7 h
    obtain ⟨g1, a, g2, g3⟩ := hf p h1
    exact ⟨g1, a, g2, by show bC c n (tab fs p.1) a; rw [h3]; exact g3⟩
  · obtain ⟨p, h1, rfl, h3⟩ := n7 h
    obtain ⟨a, g1, g2, g3⟩ := hm p h1
    exact ⟨a, g1, g2, by show bC c n (tab ms p.1) a; rw [h3]; exact g3⟩
section
variable {c : Cx} {P : Params} {mb : Str → Option Value} {n : Nat}
theorem qj (B : Bs c (KK P) mb) {k a : Nat} {D : aB} (h : nsIn (KK P) mainGlobals (ad k) = some (some (.ref a))) (hk : k < 91) (x : bC c n D a) : w9 c n (k, D) := ⟨hk, a, mg_of B.X B.G h, x⟩
theorem sO {K : Frag} {k a : Nat} {D : aB} (h : findIn K (.ref FC) (ad k) = some (some (.ref a))) (h2 : isFn K (.ref a) = true) (x : bC c n D a) : xH c K n (k, D) := ⟨a, h, h2, x⟩
theorem xW (B : Bs c (KK P) mb) : ∀ p ∈ EA, w9 c 1 p :=
  all_cons (qj B (by kernel_rfl) (by decide) (C0 B iR (by decide))) (all_cons (qj B (by kernel_rfl) (by decide) (C4 B iR (by decide))) (all_cons (qj B (by kernel_rfl) (by decide) (C1 B iR (by decide))) hV))
theorem yf (B : Bs c (KK P) mb) : ∀ p ∈ EU, xH c (KK P) 1 p :=
  all_cons (sO (by kernel_rfl) (by kernel_rfl) (Es B iR (by decide))) (all_cons (sO (by kernel_rfl) (by kernel_rfl) (Et B iR (by decide))) (all_cons (sO (by kernel_rfl) (by kernel_rfl) (BS B iR (by decide)))
  (all_cons (sO (by kernel_rfl) (by kernel_rfl) (BT B iR (by decide))) (all_cons (sO (by kernel_rfl) (by kernel_rfl) (BW B iR (by decide))) (all_cons (sO (by kernel_rfl) (by kernel_rfl) (BY B iR (by decide)))
  (all_cons (sO (by kernel_rfl) (by kernel_rfl) (BZ B iR (by decide))) (all_cons (sO (by kernel_rfl) (by kernel_rfl) (BV B iR (by decide))) hV)))))))
theorem ji (B : Bs c (KK P) mb) : GOk c (KK P) aV 1 := kJ (xW B) (yf B)
theorem xX (B : Bs c (KK P) mb) : ∀ p ∈ EB, w9 c 2 p :=
  all_cons (qj B (by kernel_rfl) (by decide) (C3 B (ji B) (by decide))) (all_cons (qj B (by kernel_rfl) (by decide) (C5 B (ji B) (by decide))) (all_cons (qj B (by kernel_rfl) (by decide) (Ca B (ji B) (by decide)))
  (all_cons (qj B (by kernel_rfl) (by decide) (Cb B (ji B) (by decide))) fun p hp => (xW B p hp).mono (by decide))))
theorem yg (B : Bs c (KK P) mb) : ∀ p ∈ EV, xH c (KK P) 2 p :=
  all_cons (sO (by kernel_rfl) (by kernel_rfl) (Eu B (ji B) (by decide))) (all_cons (sO (by kernel_rfl) (by kernel_rfl) (Ev B (ji B) (by decide))) (all_cons (sO (by kernel_rfl) (by kernel_rfl) (BR B (ji B) (by decide)))
  fun p hp => (yf B p hp).mono (by decide)))
theorem jj (B : Bs c (KK P) mb) : GOk c (KK P) aE 2 := kJ (xX B) (yg B)
theorem xY (B : Bs c (KK P) mb) : ∀ p ∈ ED, w9 c 3 p :=
  all_cons (qj B (by kernel_rfl) (by decide) (C6 B (jj B) (by decide))) (all_cons (qj B (by kernel_rfl) (by decide) (C9 B (jj B) (by decide))) (all_cons (qj B (by kernel_rfl) (by decide) (Cc B (jj B) (by decide)))
  (all_cons (qj B (by kernel_rfl) (by decide) (Cd B (jj B) (by decide))) fun p hp => (xX B p hp).mono (by decide))))
theorem uN (B : Bs c (KK P) mb) : ∀ p ∈ DG, xH c (KK P) 3 p :=
  all_cons (sO (by kernel_rfl) (by kernel_rfl) (BU B (jj B) (by decide))) (all_cons (sO (by kernel_rfl) (by kernel_rfl) (BX B (jj B) (by decide))) fun p hp => (yg B p hp).mono (by decide))
theorem lI (B : Bs c (KK P) mb) : GOk c (KK P) aO 3 := kJ (xY B) (uN B)
theorem xZ (B : Bs c (KK P) mb) : ∀ p ∈ EE, w9 c 4 p :=
  all_cons (qj B (by kernel_rfl) (by decide) (C7 B (lI B) (by decide))) (all_cons (qj B (by kernel_rfl) (by decide) (C8 B (lI B) (by decide))) fun p hp => (xY B p hp).mono (by decide))
theorem Cn (B : Bs c (KK P) mb) : GOk c (KK P) iP 4 := kJ (xZ B) fun p hp => (uN B p hp).mono (by decide)
end
noncomputable def p0 : Pos := ⟨0, 0, 0, 0⟩
noncomputable def xE : PySem.Expr := .Constant .none 0 p0
noncomputable def bh (b : List Stmt) (i : Nat) : Stmt := b.getD i (.Pass p0)
noncomputable def Ct : Stmt → PySem.Expr | .If t _ _ _ => t | _ => xE
noncomputable def Ha : Stmt → List Stmt | .If _ b _ _ => b | _ => []
noncomputable def Cs : Stmt → Pos | .If _ _ _ p => p | _ => p0
noncomputable def DH : Stmt → List PySem.Expr | .Return (some (.Tuple es _ _)) _ => es | _ => []
noncomputable def Hj : Stmt → Nat | .Return (some (.Tuple _ k _)) _ => k | _ => 0
noncomputable def Hk : Stmt → Pos | .Return (some (.Tuple _ _ p)) _ => p | _ => p0
noncomputable def D3 : Stmt → Pos | .Return _ p => p | _ => p0
noncomputable def jt (b : List PySem.Expr) (i : Nat) : PySem.Expr := b.getD i xE
noncomputable def AF : PySem.Expr → Arguments | .Lambda p _ _ _ => p | _ => ⟨[], [], none, [], [], none, []⟩
noncomputable def rx : PySem.Expr → PySem.Expr | .Lambda _ b _ _ => b | _ => xE
noncomputable def ya : PySem.Expr → Scope | .Lambda _ _ s _ => s | _ => default
noncomputable def Cy : PySem.Expr → Pos | .Lambda _ _ _ p => p | _ => p0
noncomputable def wn : PySem.Expr → PySem.Expr | .Call f _ _ _ => f | _ => xE
noncomputable def yN : PySem.Expr → List PySem.Expr | .Call _ a _ _ => a | _ => []
noncomputable def yO : PySem.Expr → Pos | .Call _ _ _ p => p | _ => p0
noncomputable def DC : PySem.Expr → PySem.Expr | .Attribute v _ _ => v | _ => xE
noncomputable def AT : PySem.Expr → Pos | .Attribute _ _ p => p | _ => p0
noncomputable def qt : PySem.Expr → Pos | .Name _ p => p | _ => p0
noncomputable def tn : Stmt → List PySem.Expr | .Assign ts _ _ => ts | _ => []
noncomputable def AQ : Stmt → PySem.Expr | .Assign _ v _ => v | _ => xE
noncomputable def E6 : Stmt → Pos | .Assign _ _ p => p | _ => p0
noncomputable def qC (P : Params) (i : Nat) : Stmt := if i < 5 then bh (Ha (bh (bF (am (KK P) 289)) (3 + i))) 0 else bh (bF (am (KK P) 289)) 8
noncomputable def eP (P : Params) : List Stmt := bF (am (KK P) 301)
noncomputable def be (P : Params) (k : Nat) : PySem.Expr := if k < 6 then jt (DH (qC P k)) 1 else jt (yN (AQ (bh (eP P) 7))) 0
noncomputable def uy (xs : List Nat) (sc : Scope) : Bool := xs.all (fun x => decide (x < 91) && sc.names.lookup (ad x) == some .free) && sc.names.all (fun y => (y.2 == .free && xs.any (fun x => y.1 == ad x)) || y.2 == .globalImplicit) &&
  sc.kind == .function && !sc.isCoroutine && !sc.isGenerator
theorem eO {c : Cx} {k : Nat} {xs : List Nat} {params : Arguments} {body : PySem.Expr} {sc : Scope} {pos : Pos} (h1 : c.LI k = .Lambda params body sc pos) (h2 : cy[k]? = some xs) (h3 : uy xs sc = true)
    (h4 : ∀ (qual : Str) (cl : List (Str × Addr)) (pm cdv ct : Value), bindArgs (kla_fn "<lambda>" qual params body sc cl pm cdv ct) ⟨[], []⟩ = pure []) : LamT c k xs params body sc pos := by
  unfold uy at h3
  simp only [Bool.and_eq_true, List.all_eq_true, decide_eq_true_eq, beq_iff_eq, Bool.or_eq_true, List.any_eq_true, Bool.not_eq_true'] at h3
  obtain ⟨⟨⟨⟨a1, a2⟩, a3⟩, a4⟩, a5⟩ := h3
  exact ⟨h1, h2, a1, a2, a3, a4, a5, fun s qual cl pm cdv ct => .of_eq (h4 qual cl pm cdv ct)⟩
abbrev jY (c : Cx) (l : PySem.Expr) (k m : Nat) (xs : List Nat) : Prop := LamT c k xs (AF l) (.Call (.Attribute (.Name (ad 71) (qt (DC (wn (rx l))))) (ad m) (AT (wn (rx l)))) (yN (rx l)) [] (yO (rx l))) (ya l) (Cy l)
section
variable {c : Cx} {P : Params} {mb : Str → Option Value} {n : Nat}
theorem Hc (hL : c.LI = be P) : jY c (be P 0) 0 85 [71] := eO (by rw [hL]; kernel_rfl) rfl (by kernel_rfl) (fun H H H H H => by kernel_rfl)
theorem Hd (hL : c.LI = be P) : jY c (be P 1) 1 86 [71, 4, 10] := eO (by rw [hL]; kernel_rfl) rfl (by kernel_rfl) (fun H H H H H => by kernel_rfl)
theorem He (hL : c.LI = be P) : jY c (be P 2) 2 87 [71, 33, 65, 10] := eO (by rw [hL]; kernel_rfl) rfl (by kernel_rfl) (fun H H H H H => by kernel_rfl)
theorem Hf (hL : c.LI = be P) : jY c (be P 3) 3 88 [71, 15] := eO (by rw [hL]; kernel_rfl) rfl (by kernel_rfl) (fun H H H H H => by kernel_rfl)
theorem Hg (hL : c.LI = be P) : jY c (be P 4) 4 89 [71, 15] := eO (by rw [hL]; kernel_rfl) rfl (by kernel_rfl) (fun H H H H H => by kernel_rfl)
theorem Hh (hL : c.LI = be P) : jY c (be P 5) 5 90 [71, 15] := eO (by rw [hL]; kernel_rfl) rfl (by kernel_rfl) (fun H H H H H => by kernel_rfl)
theorem Hi (hL : c.LI = be P) : LamT c 6 [3, 0, 19, 2] (AF (be P 6)) (.Call (.Name (ad 83) (qt (wn (rx (be P 6))))) (yN (rx (be P 6))) [] (yO (rx (be P 6)))) (ya (be P 6)) (Cy (be P 6)) := eO (by rw [hL]; kernel_rfl) rfl (by kernel_rfl) (fun H H H H H => by kernel_rfl)
theorem AG {k m a n j : Nat} {D : aB} {xs : List Nat} (B : Bs c (KK P) mb) (L : jY c (be P k) k m xs) (h : kEs (ya (be P k)).names (vW k) (yN (rx (be P k))) = true) (h30 : (yN (rx (be P k))).length < 30) (hline : ((AT (wn (rx (be P k)))).endLine == (yO (rx (be P k))).line) = true) (hvar : oj (ya (be P k)).names 71 = true)
    (hm85 : m < 91) (hma : c9.contains m = false) (hf : findIn (KK P) (.ref FC) (ad m) = some (some (.ref a))) (ht : isFn (KK P) (.ref a) = true) (X : t5 c n D a) (hD : ia k = wR k D) (hj : n + 1 ≤ j ∧ n < 20) : nG c j k :=
  (uA B hj.2 L (fun A hA => kEs_ok B iR hA (vW k) _ _ h) h30 hline hvar hm85 hma hf ht X hD).mono hj.1
theorem wT (B : Bs c (KK P) mb) (Y : XB c (KK P) mb) (M : MkB c (KK P) 68) (hL : c.LI = be P) : ∀ k, nG c 6 k := by
  intro k
  match k with
  | 0 => exact AG B (Hc hL) (by kernel_rfl) (of_decide_eq_true (by kernel_rfl)) (by kernel_rfl) (by kernel_rfl) (by decide) (by decide) (by kernel_rfl) (by kernel_rfl) (Ch B Y (lI B) (by decide) (by decide)) rfl (by decide)
  | 1 => exact AG B (Hd hL) (by kernel_rfl) (of_decide_eq_true (by kernel_rfl)) (by kernel_rfl) (by kernel_rfl) (by decide) (by decide) (by kernel_rfl) (by kernel_rfl) (Ci B Y (lI B) (by decide) (by decide)) rfl (by decide)
  | 2 => exact AG B (He hL) (by kernel_rfl) (of_decide_eq_true (by kernel_rfl)) (by kernel_rfl) (by kernel_rfl) (by decide) (by decide) (by kernel_rfl) (by kernel_rfl) (Cj B Y (jj B) (by decide) (by decide)) rfl (by decide)
  | 3 => exact AG B (Hf hL) (by kernel_rfl) (of_decide_eq_true (by kernel_rfl)) (by kernel_rfl) (by kernel_rfl) (by decide) (by decide) (by kernel_rfl) (by kernel_rfl) (Ck B Y (lI B) (by decide) (by decide)) rfl (by decide)
  | 4 => exact AG B (Hg hL) (by kernel_rfl) (of_decide_eq_true (by kernel_rfl)) (by kernel_rfl) (by kernel_rfl) (by decide) (by decide) (by kernel_rfl) (by kernel_rfl) (Cl B Y (lI B) (by decide) (by decide)) rfl (by decide)
  | 5 => exact AG B (Hh hL) (by kernel_rfl) (of_decide_eq_true (by kernel_rfl)) (by kernel_rfl) (by kernel_rfl) (by decide) (by decide) (by kernel_rfl) (by kernel_rfl) (Cm B Y (jj B) (by decide) (by decide)) rfl (by decide)
  | 6 => exact (wS B (by decide) M (Hi hL) (fun A hA => kEs_ok B iR hA (vW 6) _ _ (by kernel_rfl)) (by kernel_rfl) (EF B Y (ji B) (by decide) (by decide))).mono (by decide)
  | k + 7 =>
    intro A FX ρ σ σ' s l fv r hA Fa Ff W hv e
    rw [ia, if_neg (by omega)] at e
    exact ae (show (none : Option (Option V × St)) = some (r, σ') from e)
end
noncomputable def Ef : S → List S | .if_ _ a _ => a | _ => []
noncomputable def tI : S → E | .if_ t _ _ => t | _ => .lit .none
noncomputable def xP (i : Nat) : S := if i < 5 then (Ef (aD.getD (4 + i) .cont)).getD 0 .cont else aD.getD 9 .cont
noncomputable def bD (P : Params) : List Stmt := bF (am (KK P) 289)
section
variable {c : Cx} {P : Params} {mb : Str → Option Value} {n : Nat}
theorem BP (X : (KK P).In c.B) : FnB c 289 (bf (KK P) 289) (am (KK P) 289) fi (bD P) (aU (KK P) 289) := ay X (by kernel_rfl) fun v0 v1 v2 S => by kernel_rfl
theorem BQ (X : (KK P).In c.B) : FnB c 301 (bf (KK P) 301) (am (KK P) 301) xK (eP P) (aU (KK P) 301) := ay X (by kernel_rfl) fun v0 S => by kernel_rfl
theorem xi (B : Bs c (KK P) mb) (G : GOk c (KK P) iP n) {A : Around} (hA : AR n A) (Tb : TbB c false) (hL : c.LI = be P) {XP : lk} (i : Nat) (d1 : E) (xs : List Nat) (h1 : xP i = .ret (.tup [d1, .lam i])) (h2 : cy[i]? = some xs)
    (h3 : qC P i = .Return (some (.Tuple [jt (DH (qC P i)) 0, .Lambda (AF (be P i)) (rx (be P i)) (ya (be P i)) (Cy (be P i))] (Hj (qC P i)) (Hk (qC P i)))) (D3 (qC P i))) (h4 : be P i = .Lambda (AF (be P i)) (rx (be P i)) (ya (be P i)) (Cy (be P i)))
    (h5 : oo (aU (KK P) 289) xs (ya (be P i)) = true) (h6 : ∀ env, defaultsOf (AF (be P i)) env = ([], [])) (h7 : du (jt (DH (qC P i)) 0) = false) (h8 : kM false (aU (KK P) 289) d1 (jt (DH (qC P i)) 0) = true) :
    aW c XP iP A (qX (am (KK P) 289)) (aU (KK P) 289) false false (xP i) (qC P i) := by
  rw [h1, h3]
  exact sV B (b := false) (fd := am (KK P) 289) Tb ⟨by kernel_rfl, by kernel_rfl⟩ h2 (by rw [hL]; exact h4) h5 h6 h7 (aK B G hA d1 false _ _ h8)
theorem Ce (B : Bs c (KK P) mb) (G : GOk c (KK P) iP n) (hn : n < 20) (Tb : TbB c false) (hL : c.LI = be P) : bC c (n + 1) lu 289 := by
  refine uk B (BP B.X) (fun A hA => ?_) fun H H h => absurd hn (Nat.not_lt.mpr h)
  have hb : bD P = [bh (bD P) 0, bh (bD P) 1, bh (bD P) 2, .If (Ct (bh (bD P) 3)) [qC P 0] [] (Cs (bh (bD P) 3)), .If (Ct (bh (bD P) 4)) [qC P 1] [] (Cs (bh (bD P) 4)), .If (Ct (bh (bD P) 5)) [qC P 2] [] (Cs (bh (bD P) 5)),
    .If (Ct (bh (bD P) 6)) [qC P 3] [] (Cs (bh (bD P) 6)), .If (Ct (bh (bD P) 7)) [qC P 4] [] (Cs (bh (bD P) 7)), qC P 5] := by kernel_rfl
  have hs : aD = [aD.getD 0 .cont, aD.getD 1 .cont, aD.getD 2 .cont, .fz, .if_ (tI (aD.getD 4 .cont)) [xP 0] [], .if_ (tI (aD.getD 5 .cont)) [xP 1] [], .if_ (tI (aD.getD 6 .cont)) [xP 2] [],
    .if_ (tI (aD.getD 7 .cont)) [xP 3] [], .if_ (tI (aD.getD 8 .cont)) [xP 4] [], xP 5] := by kernel_rfl
  rw [hs, hb]
  have ifx : ∀ {t : E} {tx : PySem.Expr} {d : S} {s : Stmt} {p : Pos} {ds : List S} {ss : List Stmt}, kM true (aU (KK P) 289) t tx = true → aW c tj iP A (qX (am (KK P) 289)) (aU (KK P) 289) false false d s → g7 c tj iP A (qX (am (KK P) 289)) (aU (KK P) 289) false false ds ss →
      g7 c tj iP A (qX (am (KK P) 289)) (aU (KK P) 289) false false (.if_ t [d] [] :: ds) (.If tx [s] [] p :: ss) := fun ht hi k => fZ (yp (aK B G hA _ true _ _ ht) (fZ hi j1) j1) k
  have sp := fun i => xi B G hA Tb hL (XP := tj) i
  have st : ∀ {d : S} {s : Stmt} {ds : List S} {ss : List Stmt}, kS (aU (KK P) 289) lm true false false d s = true → hH c tj iP A (qX (am (KK P) 289)) (aU (KK P) 289) false ds ss → hH c tj iP A (qX (am (KK P) 289)) (aU (KK P) 289) false (d :: ds) (s :: ss) := fun h k =>
    mr (om (ex := lm) B G hA _ true false false _ _ (fun z => nomatch z) oL h) k
  refine st (by kernel_rfl) (st (by kernel_rfl) (st (by kernel_rfl) (tp ?_)))
  refine ifx (by kernel_rfl) (sp 0 _ _ rfl rfl (by kernel_rfl) (by kernel_rfl) (by kernel_rfl) (fun H => by kernel_rfl) (by kernel_rfl) (by kernel_rfl)) (ifx (by kernel_rfl) (sp 1 _ _ rfl rfl (by kernel_rfl) (by kernel_rfl) (by kernel_rfl) (fun H => by kernel_rfl) (by kernel_rfl) (by kernel_rfl))
    (ifx (by kernel_rfl) (sp 2 _ _ rfl rfl (by kernel_rfl) (by kernel_rfl) (by kernel_rfl) (fun H => by kernel_rfl) (by kernel_rfl) (by kernel_rfl)) (ifx (by kernel_rfl) (sp 3 _ _ rfl rfl (by kernel_rfl) (by kernel_rfl) (by kernel_rfl) (fun H => by kernel_rfl) (by kernel_rfl) (by kernel_rfl))
    (ifx (by kernel_rfl) (sp 4 _ _ rfl rfl (by kernel_rfl) (by kernel_rfl) (by kernel_rfl) (fun H => by kernel_rfl) (by kernel_rfl) (by kernel_rfl)) (fZ (sp 5 _ _ rfl rfl (by kernel_rfl) (by kernel_rfl) (by kernel_rfl) (fun H => by kernel_rfl) (by kernel_rfl) (by kernel_rfl)) j1)))))
end
noncomputable def AJ : Stmt → Stmt | .Try [b] _ _ _ _ => b | _ => .Pass p0
noncomputable def vZ : Stmt → ExceptHandler | .Try _ [h] _ _ _ => h | _ => .ExceptHandler none none [] p0
noncomputable def GJ : Stmt → Pos | .Try _ _ _ _ p => p | _ => p0
noncomputable def GA : ExceptHandler → PySem.Expr | .ExceptHandler (some e) _ _ _ => e | _ => xE
noncomputable def AE : ExceptHandler → Stmt | .ExceptHandler _ _ [b] _ => b | _ => .Pass p0
noncomputable def GB : ExceptHandler → Pos | .ExceptHandler _ _ _ p => p
noncomputable def yl : Stmt → PySem.Expr | .Return (some e) _ => e | _ => xE
noncomputable def Go : PySem.Expr → Nat | .Constant _ k _ => k | _ => 0
noncomputable def Gp : PySem.Expr → Pos | .Constant _ _ p => p | _ => p0
noncomputable def nk (P : Params) : Stmt := bh (bF (am (KK P) 296)) 0
theorem lR {fd : FuncData} (x : Nat) (h1 : fd.scope.names.lookup (ad x) = some .local) (h2 : (fd.qualname ++ ".<locals>." == D0) = false) (L a : Addr) : ¬ cN (callEnvC fd L a) := fun z => by
  rcases z with z | z
  · exact z (ad x) h1
  · have : (fd.qualname ++ ".<locals>." == D0) = true := beq_iff_eq.mpr z
    rw [h2] at this; cases this
section
variable {c : Cx} {P : Params} {mb : Str → Option Value} {n : Nat}
theorem Dk (X : (KK P).In c.B) : TdB c 296 (bf (KK P) 296) (am (KK P) 296) (aU (KK P) 296) := by
  refine ⟨⟨qt (wn (yl (AJ (nk P)))), yO (yl (AJ (nk P))), D3 (AJ (nk P)), qt (GA (vZ (nk P))), Gp (yl (AE (vZ (nk P)))), D3 (AE (vZ (nk P))), GB (vZ (nk P)), GJ (nk P), Go (yl (AE (vZ (nk P)))), ?_⟩, by kernel_rfl, by kernel_rfl⟩
  have N := ay (c := c) (ps := [79]) X (a := 296) (by kernel_rfl) fun v0 S => by kernel_rfl
  have e : bF (am (KK P) 296) = [.Try [.Return (some (.Call (.Name (ad 79) (qt (wn (yl (AJ (nk P)))))) [] [] (yO (yl (AJ (nk P)))))) (D3 (AJ (nk P)))] [.ExceptHandler (some (.Name (ad 82) (qt (GA (vZ (nk P)))))) none [.Return (some (.Constant (.str (dE 24)) (Go (yl (AE (vZ (nk P))))) (Gp (yl (AE (vZ (nk P))))))) (D3 (AE (vZ (nk P))))] (GB (vZ (nk P)))] [] [] (GJ (nk P))] := by kernel_rfl
  rw [e] at N
  exact N
theorem Cf (B : Bs c (KK P) mb) (Y : XB c (KK P) mb) (M : MkB c (KK P) 68) (hL : c.LI = be P) : bC c 21 cw 296 :=
  xw B Y (by decide) (Dk B.X) (lR 79 (by kernel_rfl) (by kernel_rfl)) (j := 6) (by decide) (wT B Y M hL)
theorem Co (B : Bs c (KK P) mb) (Y : XB c (KK P) mb) (M : MkB c (KK P) 68) (Tb : TbB c false) (hL : c.LI = be P) : GOk c (KK P) ck 21 :=
  kJ (all_cons (qj B (by kernel_rfl) (by decide) (Cf B Y M hL)) (all_cons (qj B (by kernel_rfl) (by decide) ((Ce B (Cn B) (by decide) Tb hL).mono (by decide))) fun p hp => (xZ B p hp).mono (by decide)))
    fun p hp => (uN B p hp).mono (by decide)
theorem Cg (B : Bs c (KK P) mb) (Y : XB c (KK P) mb) (M : MkB c (KK P) 68) (Tb : TbB c false) (Tb' : TbB c true) (hL : c.LI = be P) : bC c 22 yA 301 := by
  refine uk B (BQ B.X) (fun A hA => ?_) fun L a H => lR 48 (by kernel_rfl) (by kernel_rfl) L a
  have G := Co B Y M Tb hL
  have hb : eP P = [bh (eP P) 0, bh (eP P) 1, bh (eP P) 2, bh (eP P) 3, bh (eP P) 4, bh (eP P) 5, bh (eP P) 6, bh (eP P) 7, bh (eP P) 8, bh (eP P) 9, bh (eP P) 10] := by kernel_rfl
  have hs : d4 = [d4.getD 0 .cont, d4.getD 1 .cont, d4.getD 2 .cont, d4.getD 3 .cont, d4.getD 4 .cont, d4.getD 5 .cont, d4.getD 6 .cont, .fz, .asg (.nm 76) (.call 75 [.lam 6]), d4.getD 9 .cont, d4.getD 10 .cont, d4.getD 11 .cont] := by kernel_rfl
  rw [hs, hb]
  have st : ∀ {d : S} {s : Stmt} {ds : List S} {ss : List Stmt}, kS (aU (KK P) 301) lm true false false d s = true → hH c tj ck A (qX (am (KK P) 301)) (aU (KK P) 301) false ds ss → hH c tj ck A (qX (am (KK P) 301)) (aU (KK P) 301) false (d :: ds) (s :: ss) := fun h k =>
    mr (om (ex := lm) B G hA _ true false false _ _ (fun z => nomatch z) oL h) k
  have st2 : ∀ {d : S} {s : Stmt} {ds : List S} {ss : List Stmt}, kS (aU (KK P) 301) lm false false true d s = true → g7 c tj ck A (qX (am (KK P) 301)) (aU (KK P) 301) false false ds ss → g7 c tj ck A (qX (am (KK P) 301)) (aU (KK P) 301) false false (d :: ds) (s :: ss) := fun h k =>
    fZ (om (ex := lm) B G hA _ false false true _ _ (fun z => nomatch z) oL h) k
  refine st (by kernel_rfl) (st (by kernel_rfl) (st (by kernel_rfl) (st (by kernel_rfl) (st (by kernel_rfl) (st (by kernel_rfl) (st (by kernel_rfl) (tp (fZ ?_ (st2 (by kernel_rfl) (st2 (by kernel_rfl) (st2 (by kernel_rfl) j1)))))))))))
  have h3 : bh (eP P) 7 = .Assign [.Name (ad 76) (qt (jt (tn (bh (eP P) 7)) 0))] (.Call (.Name (ad 75) (qt (wn (AQ (bh (eP P) 7))))) [.Lambda (AF (be P 6)) (rx (be P 6)) (ya (be P 6)) (Cy (be P 6))] [] (yO (AQ (bh (eP P) 7)))) (E6 (bh (eP P) 7)) := by kernel_rfl
  rw [h3]
  exact sg B G hA (b := true) (fd := am (KK P) 301) Tb' ⟨by kernel_rfl, by kernel_rfl⟩ (by kernel_rfl) (by kernel_rfl) (k := 6) (xs := [3, 0, 19, 2]) rfl (by rw [hL]; kernel_rfl) (by kernel_rfl) (fun H => by kernel_rfl)
end
noncomputable def wo (o : Obj) : ClassData := match o.data with | .cls c => c | _ => { name := ⟨#[]⟩, bases := [], mro := [], ns := 0 }
noncomputable def D8 (o : Obj) (i : Nat) : Option Value := (o.slots[i]?).join
noncomputable def Dc (o : Obj) (i : Nat) : Value := match o.data with | .seq xs _ => xs.getD i .none | _ => .none
noncomputable def El (o : Obj) : EP := ⟨(wo o).name, (wo o).qualname, (wo o).ns, (wo o).bases, (wo o).slotNames, (wo o).subclasses, (wo o).abstract, (wo o).collection, o.dict, D8 o 0, D8 o 1, D8 o 2, D8 o 3, D8 o 5⟩
noncomputable def DJ : Value → Tok | .str _ t => t | _ => 0
noncomputable def Bj (s : Stmt) : PySem.Expr := match s with | .Expr e _ => e | _ => xE
noncomputable def H8 (s : Stmt) : Pos := match s with | .Expr _ p => p | _ => p0
noncomputable def CY (l : List Stmt) (i : Nat) : Pos := [qt (DC (wn (Bj (bh l 0)))), AT (wn (Bj (bh l 0))), qt (jt (yN (Bj (bh l 0))) 0), qt (jt (yN (Bj (bh l 0))) 1), yO (Bj (bh l 0)), H8 (bh l 0), qt (DC (jt (tn (bh l 1)) 0)), AT (jt (tn (bh l 1)) 0), qt (AQ (bh l 1)), E6 (bh l 1), qt (DC (jt (tn (bh l 2)) 0)), AT (jt (tn (bh l 2)) 0), qt (AQ (bh l 2)), E6 (bh l 2)].getD i p0
noncomputable abbrev iA : List (Addr × Addr) := [(288, 284), (300, 298)]
noncomputable abbrev tF (w : World) (prog : Program) (h : Heap) (mg : Str → Option Value) : Cx := ⟨prog, w, ghostOf h iA, mg, be w.params⟩
section
variable {prog : Program} {p : Program} {loose : List Str} {mean : ExcName → Option Value} {w : World} {h : Heap} {mg mb : Str → Option Value}
theorem n8 (KX : (KK w.params).In h) (hT8 : ∀ P ∈ [284, 298], h.get? P = some (tabObj #[])) : TabsAt iA h := fun q hq => by
  rcases List.mem_cons.mp hq with rfl | hq
  · exact ⟨codeHd_of_K KX (by kernel_rfl), hT8 _ (by decide)⟩
  · rcases List.mem_cons.mp hq with rfl | hq
    · exact ⟨codeHd_of_K KX (by kernel_rfl), hT8 _ (by decide)⟩
    · cases hq
theorem pT (KX : (KK w.params).In h) (hT8 : ∀ P ∈ [284, 298], h.get? P = some (tabObj #[])) (T : Top p loose mean mg mb h) : Bs (tF w prog h mg) (KK w.params) mb := by
  have hT := n8 KX hT8
  have X : (KK w.params).In (ghostOf h iA) := ghost_K hT KX (by kernel_rfl)
  have G : (ghostOf h iA).Ns mainGlobals mg := ghost_ns hT T.g
  refine ⟨X, G, ghost_ns hT T.b, let ⟨mc, a, r⟩ := T.nolimit; ⟨mc, ghost_ns hT a, r⟩, fun b => ⟨?_, ?_⟩, ⟨mg_none_of X G (by kernel_rfl), (T.builtins _ (by decide +kernel)).trans (by kernel_rfl)⟩, ?_, ⟨by kernel_rfl, by kernel_rfl⟩, by kernel_rfl, by kernel_rfl, by kernel_rfl, ?_⟩
  · cases b <;> exact mg_none_of X G (by kernel_rfl)
  · cases b <;> exact (T.builtins _ (by decide +kernel)).trans (by kernel_rfl)
  · refine ⟨56, DJ (Dc (bf (KK w.params) 56) 0), DJ (Dc (bf (KK w.params) 56) 1), mg_of X G (by kernel_rfl), by decide, by decide, ?_⟩
    have e : (KK w.params).lookup 56 = some { cls := .type "tuple", data := .seq #[.str (dE 26) (DJ (Dc (bf (KK w.params) 56) 0)), .str (dE 13) (DJ (Dc (bf (KK w.params) 56) 1))] 0 } := by kernel_rfl
    exact ⟨_, X _ _ e, rfl, 0, rfl⟩
  · intro x hx
    have : ∀ y ∈ c9, findIn (KK w.params) (.ref FC) (ad y) = some none := by
      intro y hy
      simp only [c9, List.mem_cons, List.not_mem_nil, or_false] at hy
      rcases hy with rfl | rfl | rfl | rfl | rfl | rfl | rfl | rfl | rfl | rfl | rfl <;> kernel_rfl
    exact this x (by simpa using hx)
theorem tA {K : Frag} {h : Heap} (X : K.In h) {C : Addr} {bm : List Value} {hdct : Bool} {nid : String} (e : K.lookup C = some (rk (El (bf K C)) C bm hdct nid)) : ∃ ep : EP, h.get? C = some (rk ep C bm hdct nid) := ⟨_, X _ _ e⟩
set_option tactic.hygienic true in
theorem pU {K : Frag} {h : Heap} {fd : FuncData} (X : K.In h) (e : jA K fd = true) : h.CodeRec fd.code fd.qualname := by
  unfold jA at e
  split at e
  · rename_i cc q
    split at e
    · rename_i c1 d1 vs sl1 q1
      split at e
      · rename_i qq t q2
        exact ⟨cc, _, vs, t, q, X _ _ q1, rfl, by rw [← beq_iff_eq.mp e]; exact q2⟩
      · cases e
    · cases e
  · cases e
theorem zy (KX : (KK w.params).In h) (hT8 : ∀ P ∈ [284, 298], h.get? P = some (tabObj #[])) (T : Top p loose mean mg mb h) : MkB (tF w prog h mg) (KK w.params) 68 := by
  have B := pT (prog := prog) KX hT8 T
  exact ⟨tA B.X (by kernel_rfl), by kernel_rfl, by kernel_rfl, by kernel_rfl, mg_of B.X B.G (by kernel_rfl)⟩
theorem vH (KX : (KK w.params).In h) (hT8 : ∀ P ∈ [284, 298], h.get? P = some (tabObj #[])) (T : Top p loose mean mg mb h) (b : Bool) : TbB (tF w prog h mg) b := by
  have hT := n8 KX hT8
  refine ⟨hideAll_none _ (by cases b <;> decide), ?_, ?_⟩
  · have := ghost_code hT
    cases b
    · exact this.1
    · exact this.2.1
  · obtain ⟨bm, ob, a1, a2, a3, a4, r⟩ := T.bmain
    have e : mg "__builtins__" = some (.ref 4) := mg_of KX T.g (by kernel_rfl)
    rw [e] at a1
    cases a1
    exact ⟨4, ob, e, by decide, by decide, by cases b <;> decide, ghost_get hT a3 (fun q => by rw [q] at a4; cases a4), a4, r⟩
theorem Az (KX : (KK w.params).In h) (hT8 : ∀ P ∈ [284, 298], h.get? P = some (tabObj #[])) (T : Top p loose mean mg mb h) : XB (tF w prog h mg) (KK w.params) mb := by
  have B := pT (prog := prog) KX hT8 T
  have hc : clsIn (KK w.params) 53 = some (wo (bf (KK w.params) 53)) := by kernel_rfl
  refine ⟨⟨⟨_, hc, by kernel_rfl, by kernel_rfl⟩, by kernel_rfl, by kernel_rfl, by kernel_rfl⟩, tA B.X (by kernel_rfl), by kernel_rfl, by kernel_rfl, ⟨mg_none_of B.X B.G (by kernel_rfl), (T.builtins _ (by decide +kernel)).trans (by kernel_rfl)⟩, mg_of B.X B.G (by kernel_rfl), ?_⟩
  have e0 : (KK w.params).lookup 30 = some (bf (KK w.params) 30) := by kernel_rfl
  have e1 : (bf (KK w.params) 30).data = .func (am (KK w.params) 30) := by kernel_rfl
  have e2 : (am (KK w.params) 30).body = .stmts (Gi (CY (bF (am (KK w.params) 30)))) := by kernel_rfl
  have cr : (ghostOf h iA).CodeRec (am (KK w.params) 30).code (am (KK w.params) 30).qualname := by
    exact pU B.X (by kernel_rfl)
  refine ⟨Dc (bf (KK w.params) 23) 0, _, _, CY (bF (am (KK w.params) 30)), ⟨B.X _ _ e0, e1, e2, by kernel_rfl, by kernel_rfl, by kernel_rfl, by kernel_rfl, by kernel_rfl, by kernel_rfl, by kernel_rfl, cr, ?_, by kernel_rfl, fun s u v hk => kp_binds (B.X.keeps hk) fun S => by kernel_rfl⟩⟩
  intro x hx
  simp only [List.mem_cons, List.not_mem_nil, or_false] at hx
  rcases hx with rfl | rfl | rfl <;> kernel_rfl
end
section
variable {prog : Program} {p : Program} {loose : List Str} {mean : ExcName → Option Value} {w : World} {s₁ : Shared} {mg mb : Str → Option Value}
theorem pn {c : Cx} {X : Addr → Prop} {ρ : aN} {h : Heap} : ∀ {vs : List Value} {ns : List Int}, IntsAre vs ns → VRs c X ρ h (ns.map V.int) vs
  | [], [], _ => by simp [VRs]
  | [], _ :: _, hI => by cases hI
  | _ :: _, [], hI => by cases hI
  | v :: vs, n :: ns, hI => by
    cases hI with | cons _ _ h2 =>
    show VRs c X ρ h (V.int n :: ns.map V.int) _
    rw [VRs]
    exact ⟨by rw [VR]; exact ⟨_, rfl⟩, pn h2⟩
theorem uD (KX : (KK w.params).In s₁.heap) (hT8 : ∀ P ∈ [284, 298], s₁.heap.get? P = some (tabObj #[])) (T : Top p loose mean mg mb s₁.heap) {a : Addr} {vals : List Value} {ns : List Int} (hL : s₁.heap.IsList a vals.toArray) (hI : IntsAre vals ns)
    {σ' : St} (hD : yA [.list (ns.map V.int)] [] = some (some (.bool true), σ')) :
    wpAny (model prog w) callerA (call (.ref 301) [.ref a]) (fun v s' => v = .bool true ∧ OldK s₁.heap s'.heap ∧ s'.os = s₁.os ∧ s'.gens = s₁.gens) aC s₁ := by
  have hT := n8 KX hT8
  have B := pT (prog := prog) KX hT8 T
  obtain ⟨o, fd, h1, h2, h3⟩ := Cg B (Az KX hT8 T) (zy KX hT8 T) (vH KX hT8 T false) (vH KX hT8 T true) rfl
  have na : ∀ P ∈ [284, 298], a ≠ P := fun P hP z => by
    subst z
    obtain ⟨oa, e, hc, _⟩ := hL
    rw [hT8 _ hP] at e
    cases e
    cases hc
  have tab : ∀ P cd q, P ∈ [284, 298] → mn (XX [] No) s₁.heap cd P q := fun P cd q hP => ⟨#[], hT8 P hP, trivial, fun pos cv e => by cases e⟩
  have W : WR (tF w prog s₁.heap mg) [] s₁.heap No [] := ⟨fun b o e => of_hideAll _ e, rfl, List.nodup_nil, fun k q m hq => by simp at hq, fun b hb => by simp [f0] at hb, tab _ _ _ (by decide), tab _ _ _ (by decide), fun b hb => hb.elim⟩
  refine wpAny_mono (h3 callerA No [] [] σ' s₁ [.list (ns.map V.int)] [.ref a] (.bool true) ⟨rfl, by decide, by decide, fun H outer ho env he => by cases ho; cases he⟩ ⟨[], rfl, fun env he => by cases he⟩ (fun b hb => by
    obtain ⟨outer, ho, env, he, _⟩ := hb
    cases ho; cases he) W ?_ hD) (fun v s' hv => ?_) fun H H x => x
  · rw [VRs, VR, VRs]
    refine ⟨⟨a, vals, rfl, fun z => ?_, hL, pn hI⟩, trivial⟩
    rcases z with (z | z | z) | z
    · exact na _ (by decide) z
    · exact na _ (by decide) z
    · simp [f0] at z
    · exact z
  · obtain ⟨ρ', P, hv⟩ := hv
    rw [VR] at hv
    have W' := P.wr
    have keep : ∀ b o, b ∉ iA.map (·.2) → s₁.heap.get? b = some o → s'.heap.get? b = some o := fun b o hb e => W'.base b o (ghost_ne e hb)
    have grown : ∀ b o, b ∈ iA.map (·.2) → s₁.heap.get? b = some o → isCodeTable s₁.heap b ∧ o = tabObj #[] ∧ ∃ ps, s'.heap.get? b = some (tabObj ps) := fun b o hb e => by
      have e3 : ∃ ps, s'.heap.get? b = some (tabObj ps) := by
        simp only [List.map_cons, List.map_nil, List.mem_cons, List.not_mem_nil, or_false] at hb
        rcases hb with rfl | rfl
        · obtain ⟨ps, e, _⟩ := W'.t2; exact ⟨ps, e⟩
        · obtain ⟨ps, e, _⟩ := W'.t1; exact ⟨ps, e⟩
      obtain ⟨q, hq, rfl⟩ := List.mem_map.mp hb
      have e2 := (hT q hq).2
      rw [e] at e2
      exact ⟨((hT q hq).1.tab (hT q hq).2).isCodeTable, Option.some.inj e2, e3⟩
    refine ⟨hv, ⟨fun b o e => ?_, fun b o e => ?_⟩, by have := P.rest; rw [this], by have := P.rest; rw [this]⟩
    · by_cases hb : b ∈ iA.map (·.2)
      · obtain ⟨ht, rfl, ps, hP⟩ := grown b o hb e
        exact .inr (.inl ⟨ht, rfl, #[], ps, rfl, by rw [Array.empty_append]; exact hP⟩)
      · exact .inl (keep b o hb e)
    · by_cases hb : b ∈ iA.map (·.2)
      · obtain ⟨_, _, ps, hP⟩ := grown b o hb e
        exact ⟨_, hP⟩
      · exact ⟨o, keep b o hb e⟩
end
end Mine
end
section
namespace Mine
open PySem
theorem dB {n : Nat} (h : n ≤ 60) : n ≤ 1048576 := Nat.le_trans h (by decide)
theorem zw {n : Nat} (h : n ≤ 60) : n < 1048576 := Nat.lt_of_le_of_lt h (by decide)
theorem zs {n : Nat} (h : n ≤ 60) : (n : Int) ≤ 1048576 := Int.ofNat_le.mpr (dB h)
theorem uG {n : Nat} (h : n ≤ 4) : n ≤ 1048576 := Nat.le_trans h (by decide)
theorem CB {n : Nat} (h : n ≤ 4) : n + 1 ≤ 1048576 := Nat.le_trans (Nat.succ_le_succ h) (by decide)
theorem yb {n : Nat} (h : n ≤ 4) : (n : Int) ≤ 1000000 := Int.ofNat_le.mpr (Nat.le_trans h (by decide))
theorem ye {n : Nat} (h : n < 59) : n < 60 := Nat.lt_trans h (by decide)
theorem Bh {n : Nat} (h : n = 4) : n ≤ 1048576 := h ▸ by decide
theorem rq {α : Type} {l : List α} (h : l.length ≤ 60) (i : Nat) : (l.eraseIdx i).length ≤ 60 := Nat.le_trans (List.length_eraseIdx_le l i) h
theorem rU {α : Type} {l : List α} (h : l.length = 4) : l.take 4 = l := List.take_of_length_le (Nat.le_of_eq h)
theorem vU (w : Nat) : (0 : Int) < (w : Int) + 1 := by omega
theorem H3 {t : Nat} {k : Int} (h : (t : Int) < k) (hk : k ≤ 60) : t ≤ 60 := Int.ofNat_le.mp (Int.le_trans (Int.le_of_lt h) hk)
theorem zr {n : Nat} (h : n ≤ 6) : n ≤ 60 := Nat.le_trans h (by decide)
theorem ET (b : Int) : ∃ w : Nat, w < 3 ∧ (w : Int) = b % 3 := ⟨(b % 3).toNat, (Int.toNat_lt (Int.emod_nonneg b (by decide))).mpr (Int.emod_lt_of_pos b (by decide)), Int.toNat_of_nonneg (Int.emod_nonneg b (by decide))⟩
theorem CG {w : Nat} (h : w ∈ [0, 1, 2]) : w < 3 := by simp at h; omega
theorem ES {w : Nat} (h : w ∈ [1, 2]) : w < 3 := by simp at h; omega
@[elab_as_elim] theorem CF {C : Nat → Prop} : ∀ {w : Nat}, w < 3 → C 0 → C 1 → C 2 → C w
  | 0, _, a, _, _ => a
  | 1, _, _, a, _ => a
  | 2, _, _, _, a => a
noncomputable def Gw (k : Nat) (o : Option M) : V := match o with
  | some (.list l) => .list l
  | _ => .mut k
noncomputable def EN (v : V) (x : M) : Option V := match x with
  | .list l => kK v l
  | .dict ks l => uX v fun k => dW k ks l
  | _ => none
section
variable {σ : St} {v w : V} {vs l l' : List V} {i j a b : Int} {s k n : Nat} {x y : List UInt8} {ks : List Nat} {ρ : aj} {op : CmpOp}
@[simp] theorem GL : bq σ (.int i) = .int i := rfl
@[simp] theorem GO : bq σ (.str k) = .str k := rfl
@[simp] theorem GQ : bq σ (.bytes x) = .bytes x := rfl
@[simp] theorem GP : bq σ (.tup l) = .tup l := rfl
@[simp] theorem GM : bq σ (.list l) = .list l := rfl
@[simp] theorem GN : bq σ (.rng i j) = .rng i j := rfl
@[simp] theorem Dy : bq σ (.mut k) = Gw k σ[k]? := rfl
@[simp] theorem Hm : Gw k (some (.list l)) = .list l := rfl
@[simp] theorem vT : pz (.int i) (.int j) = some (i == j) := rfl
@[simp] theorem GY : pz (.str k) (.str n) = some (k == n) := rfl
@[simp] theorem yx : pz (.bytes x) (.bytes y) = some (x == y) := rfl
@[simp] theorem Ga : vX (.int i) w = pz (.int i) w := rfl
@[simp] theorem Gc : vX (.str k) w = pz (.str k) w := rfl
@[simp] theorem Ge : vX (.bytes x) w = pz (.bytes x) w := rfl
@[simp] theorem Gd : vX (.tup l) (.tup l') = pA l l' := rfl
@[simp] theorem Gb : vX (.list l) (.list l') = pA l l' := rfl
@[simp] theorem E0 : pA [] [] = some true := rfl
@[simp] theorem DZ : pA [] (v :: vs) = some false := rfl
@[simp] theorem DY : pA (v :: vs) [] = some false := rfl
@[simp] theorem DX : pA (v :: vs) (w :: l) = (pz v w).bind fun x => (pA vs l).bind fun y => some (x && y) := rfl
@[simp] theorem vS : qp (.int i) (.int j) = some (decide (i < j)) := rfl
@[simp] theorem qO : qp (.bytes x) (.bytes y) = some (bX x y) := rfl
@[simp] theorem DU : f8 .Lt v w = qp v w := rfl
@[simp] theorem nh : f8 .Gt v w = qp w v := rfl
@[simp] theorem DT : f8 .LtE v w = (qp w v).map (!·) := rfl
@[simp] theorem s6 : f8 .GtE v w = (qp v w).map (!·) := rfl
@[simp] theorem G4 : l5 op (.int i) w = f8 op (.int i) w := rfl
@[simp] theorem G5 : l5 op (.bytes x) w = f8 op (.bytes x) w := rfl
@[simp] theorem DW : l5 .Gt (.tup l) (.tup l') = dY .Gt l l' := rfl
@[simp] theorem DV : l5 .GtE (.tup l) (.tup l') = dY .GtE l l' := rfl
@[simp low] theorem Fq : f6 .Eq v w σ = vX (bq σ v) (bq σ w) := rfl
@[simp low] theorem Fy : f6 .NotEq v w σ = (vX (bq σ v) (bq σ w)).map (!·) := rfl
@[simp low] theorem Fv : f6 .In v w σ = y8 v (bq σ w) := rfl
@[simp low] theorem Fz : f6 .NotIn v w σ = (y8 v (bq σ w)).map (!·) := rfl
@[simp low] theorem Fx : f6 .Lt v w σ = l5 .Lt v w := rfl
@[simp low] theorem Fu : f6 .Gt v w σ = l5 .Gt v w := rfl
@[simp low] theorem Fw : f6 .LtE v w σ = l5 .LtE v w := rfl
@[simp low] theorem Ft : f6 .GtE v w σ = l5 .GtE v w := rfl
@[simp] theorem FL : y8 v (.tup l) = sC v l := rfl
@[simp] theorem FH : y8 v (.list l) = sC v l := rfl
@[simp] theorem FJ : y8 (.int a) (.rng i j) = some (decide (i ≤ a) && decide (a < j)) := rfl
@[simp] theorem FI : sC v [] = some false := rfl
@[simp] theorem FG : sC v (w :: vs) = (pz w v).bind fun c => (sC v vs).bind fun d => some (c || d) := rfl
@[simp] theorem Fe : dA .Add (.int i) (.int j) = some (.int (i + j)) := rfl
@[simp] theorem Fh : dA .Add (.bytes x) (.bytes y) = if x.length + y.length ≤ aF then some (.bytes (x ++ y)) else none := rfl
@[simp] theorem Fg : dA .Add (.list l) (.list l') = if l.length + l'.length ≤ aF then some (.list (l ++ l')) else none := rfl
@[simp] theorem Fk : dA .Sub (.int i) (.int j) = some (.int (i - j)) := rfl
@[simp] theorem AB : dA .Mult (.int a) (.int b) = if a.natAbs < 2 ^ 4000 ∧ b.natAbs < 2 ^ 64 then some (.int (a * b)) else none := rfl
@[simp] theorem Fj : dA .Mult (.list l) (.int b) = if l.length ≤ 1 ∧ 0 ≤ b ∧ b ≤ 1000 then some (.list (List.replicate b.toNat l).flatten) else none := rfl
@[simp] theorem Dw : dA .Mod (.int a) (.int b) = if 0 < b then some (.int (a % b)) else none := rfl
@[simp] theorem GK : dA .FloorDiv (.int a) (.int b) = if 0 < b ∧ b < 2 ^ 64 then some (.int (a / b)) else none := rfl
@[simp] theorem yw : dA .Pow (.int a) (.int b) = if a.natAbs < 2 ^ 4000 ∧ 0 ≤ b ∧ b ≤ 1000 then some (.int (a ^ b.toNat)) else none := rfl
@[simp] theorem GR : dW k (n :: ks) (v :: vs) = if n = k then some v else dW k ks vs := rfl
@[simp] theorem GX : ca k [] = [k] := rfl
@[simp] theorem G7 : cV k v [] vs = [v] := rfl
@[simp] theorem GW : ca k (n :: ks) = if n = k then n :: ks else n :: ca k ks := rfl
@[simp] theorem G6 {as : List Nat} {xs : List V} : cV k v (n :: as) (w :: xs) = if n = k then v :: xs else w :: cV k v as xs := rfl
@[simp] theorem GV : g8 (.tup l) v σ = kK v l := rfl
@[simp] theorem GT : g8 (.list l) v σ = kK v l := rfl
@[simp] theorem GS : g8 (.dct ks l) (.str k) σ = dW k ks l := rfl
@[simp] theorem GU : g8 (.mut k) v σ = kg σ k (EN v) := rfl
@[simp] theorem FS : EN v (.list l) = kK v l := rfl
@[simp] theorem FQ : EN v (.dict ks l) = uX v fun k => dW k ks l := rfl
@[simp] theorem FF : kK (.int i) l = if l.length ≤ aF then jc l i else none := rfl
@[simp] theorem G9 : part? .none = some none := rfl
@[simp] theorem G8 : part? (.int i) = if 0 ≤ i ∧ i ≤ 1000000 then some (some i.toNat) else none := rfl
@[simp] theorem H1 : pc (.bytes x) v w = (part? v).bind fun lo => (part? w).bind fun hi => if x.length ≤ aF then some (.bytes (mw x lo hi)) else none := rfl
@[simp] theorem H0 : pc (.tup l) v w = (part? v).bind fun lo => (part? w).bind fun hi => if lo = none then hi.bind fun k => if k < l.length ∧ l.length ≤ aF then some (.tup (l.take k)) else none else none := rfl
@[simp] theorem GZ : pc (.list l) v w = (part? v).bind fun lo => (part? w).bind fun hi => if lo = none then hi.bind fun k => if l.length ≤ aF then some (.list (l.take k)) else none else none := rfl
@[simp] theorem FT : uH (.list l) = if l.length ≤ aF then some (.int l.length) else none := rfl
@[simp] theorem FU : uH (.bytes x) = if x.length ≤ aF then some (.int x.length) else none := rfl
@[simp] theorem FV : oz (.list l) = if l.length ≤ aF then some (.list l) else none := rfl
@[simp] theorem FW : oz (.tup l) = if l.length ≤ aF then some (.list l) else none := rfl
@[simp] theorem Dx : py .len [v] σ = uH (bq σ v) := rfl
@[simp] theorem DQ : py .range [.int a] σ = if 0 ≤ a ∧ a ≤ aF then some (.rng 0 a) else none := rfl
@[simp] theorem DR : py .range [.int a, .int b] σ = if 0 ≤ a ∧ a ≤ b ∧ b ≤ aF then some (.rng a b) else none := rfl
@[simp] theorem xB : py .sorted [v] σ = pB (bq σ v) gn := rfl
@[simp] theorem DP : py .max [.list (v :: vs)] σ = if vs.length ≤ aF then kR v vs else none := rfl
@[simp] theorem DS : py .tuple [v] σ = pB (bq σ v) fun l => if l.length ≤ aF then some (.tup l) else none := rfl
@[simp] theorem DO : py .list [v] σ = oz (bq σ v) := rfl
@[simp] theorem DN : py .bytes [.list [.int i]] σ = if i = 0 then some (.bytes [0]) else none := rfl
@[simp] theorem G0 : yI .append k [v] l σ = if l.length < aF then some (.none, σ.set k (.list (l ++ [v]))) else none := rfl
@[simp] theorem G3 : yI .pop k [.int i] l σ = if 0 ≤ i ∧ i < l.length ∧ l.length ≤ aF then some (l.getD i.toNat .none, σ.set k (.list (l.eraseIdx i.toNat))) else none := rfl
@[simp] theorem G1 : yI .clear k [] l σ = if l.length ≤ aF then some (.none, σ.set k (.list [])) else none := rfl
@[simp] theorem G2 : yI .index k [v] l σ = if l.length ≤ aF then (jk v l 0).bind fun n => some (.int (n : Int), σ) else none := rfl
@[simp] theorem Fp {m : BM} : AY m (.mut k) vs σ = kg σ k fun x => oO x fun l => yI m k vs l σ := rfl
@[simp] theorem FM : aS (.list l) σ = if l.length ≤ aF then some (none, l) else none := rfl
@[simp] theorem FP : aS (.tup l) σ = if l.length ≤ aF then some (none, l) else none := rfl
@[simp] theorem FO : aS (.rng a b) σ = if 0 ≤ a ∧ a ≤ aF ∧ 0 ≤ b ∧ b ≤ aF then some (none, aR a (b - a).toNat) else none := rfl
@[simp] theorem FN : aS (.mut k) σ = kg σ k fun m => oO m fun l => if l.length ≤ aF then some (some k, l) else none := rfl
@[simp] theorem Gh : eY (.mut k) v w σ = kg σ k fun x => xb k x v w σ := rfl
@[simp] theorem Gg : xb k (.list l) (.int i) v σ = if 0 ≤ i ∧ i < l.length ∧ l.length ≤ aF then some (σ.set k (.list (l.set i.toNat v))) else none := rfl
@[simp] theorem Gf : xb k (.dict ks l) (.str n) v σ = if ks.length ≤ 100 then some (σ.set k (.dict (ca n ks) (cV n v ks l))) else none := rfl
@[simp] theorem Fo : ak [] [] ρ = some ρ := rfl
@[simp] theorem Fn : ak (n :: ks) (v :: vs) ρ = ak ks vs (upd ρ n v) := rfl
@[simp] theorem FE : o0 (.ret v) σ = some (some v, σ) := rfl
@[simp] theorem FD : o0 .next σ = some (some .none, σ) := rfl
@[simp] theorem FA : o0 .exc σ = some (none, σ) := rfl
end
section
variable {Γ : Gam} {ρ : aj} {σ σ1 σ₂ σ3 : St} {v u w z : V} {e a i o lo hi : E} {l es : List E} {vs l' : List V} {x y : Bool} {op : CmpOp} {bp : Operator} {k n m f : Nat} {ks : List Nat}
theorem lV : upd ρ n v n = some v := if_pos rfl
theorem dQ {r : Option V} (h : (k == n) = false) (q : ρ k = r) : upd ρ n v k = r := (if_neg (ne_of_beq_false h)).trans q
theorem bc : a9 Γ (.lit v) ρ σ = some (v, σ) := rfl
theorem af (h : ρ n = some v) : a9 Γ (.loc n) ρ σ = some (v, σ) := by rw [z0, h]; rfl
theorem F9 (h : gv n = some v) : a9 Γ (.glob n) ρ σ = some (v, σ) := by rw [wy, h]; rfl
theorem lW (h : evEs Γ l ρ σ = some (vs, σ1)) : a9 Γ (.tup l) ρ σ = some (.tup vs, σ1) := by rw [q7, h]; rfl
theorem yt (h : evEs Γ l ρ σ = some (vs, σ1)) : a9 Γ (.lst l) ρ σ = some (.list vs, σ1) := by rw [tW, h]; rfl
theorem yr (h : evEs Γ l ρ σ = some (vs, σ1)) : a9 Γ (.dct ks l) ρ σ = some (.dct ks vs, σ1) := by rw [tT, h]; rfl
theorem rY (h : evEs Γ l ρ σ = some (vs, σ1)) : a9 Γ (.mlst l) ρ σ = some (.mut σ1.length, σ1 ++ [.list vs]) := by rw [rj, h]; rfl
theorem yq (h : a9 Γ a ρ σ = some (u, σ1)) (h2 : a9 Γ e ρ σ1 = some (w, σ₂)) (h3 : dA bp u w = some v) : a9 Γ (.bin bp a e) ρ σ = some (v, σ₂) := by rw [tR, h, bM, h2, bM, h3]; rfl
theorem eZ (h : a9 Γ a ρ σ = some (u, σ1)) (h2 : a9 Γ e ρ σ1 = some (w, σ₂)) (h3 : f6 op u w σ₂ = some x) : a9 Γ (.cmp op a e) ρ σ = some (.bool x, σ₂) := by rw [tS, h, bM, h2, bM, h3]; rfl
theorem fO (h : a9 Γ a ρ σ = some (u, σ1)) (h2 : a9 Γ e ρ σ1 = some (w, σ₂)) (h3 : g8 u w σ₂ = some v) : a9 Γ (.idx a e) ρ σ = some (v, σ₂) := by rw [tU, h, bM, h2, bM, h3]; rfl
theorem js (h : a9 Γ a ρ σ = some (u, σ1)) (h2 : a9 Γ lo ρ σ1 = some (w, σ₂)) (h3 : a9 Γ hi ρ σ₂ = some (z, σ3)) (h4 : pc u w z = some v) : a9 Γ (.slc a lo hi) ρ σ = some (v, σ3) := by rw [tY, h, bM, h2, bM, h3, bM, h4]; rfl
theorem fM (h : a9 Γ a ρ σ = some (.mut k, σ1)) (h2 : σ1[k]? = some (.inst ks l')) (h3 : dW n ks l' = some v) : a9 Γ (.attr a n) ρ σ = some (v, σ1) := by rw [rg, h, bM, oQ, nM h2, qw, h3]; rfl
theorem xA {b : BI} (h : evEs Γ l ρ σ = some (vs, σ1)) (h2 : py b vs σ1 = some v) : a9 Γ (.bi b l) ρ σ = some (v, σ1) := by rw [xQ, h, bM, h2]; rfl
theorem yu (h : a9 Γ a ρ σ = some (.bool x, σ1)) : a9 Γ (.not a) ρ σ = some (.bool (!x), σ1) := by rw [tX, h]; rfl
theorem eB : evEs Γ [] ρ σ = some ([], σ) := rfl
theorem bw (h : a9 Γ e ρ σ = some (v, σ1)) (h2 : evEs Γ es ρ σ1 = some (vs, σ₂)) : evEs Γ (e :: es) ρ σ = some (v :: vs, σ₂) := by rw [eI, h, bM, h2]; rfl
theorem vP (h : a9 Γ o ρ σ = some (.bool true, σ1)) (h2 : a9 Γ a ρ σ1 = some (v, σ₂)) : a9 Γ (.ifx o a e) ρ σ = some (v, σ₂) := by rw [mD, h]; exact h2
theorem vO (h : a9 Γ o ρ σ = some (.bool false, σ1)) (h2 : a9 Γ e ρ σ1 = some (v, σ₂)) : a9 Γ (.ifx o a e) ρ σ = some (v, σ₂) := by rw [mD, h]; exact h2
theorem vM (h : evAnd Γ l ρ σ = some (x, σ1)) : a9 Γ (.and l) ρ σ = some (.bool x, σ1) := by rw [tO, h]; rfl
theorem Dp (h : evOr Γ l ρ σ = some (x, σ1)) : a9 Γ (.or l) ρ σ = some (.bool x, σ1) := by rw [xS, h]; rfl
theorem xz (h : a9 Γ e ρ σ = some (.bool true, σ1)) (h2 : evAnd Γ es ρ σ1 = some (x, σ₂)) : evAnd Γ (e :: es) ρ σ = some (x, σ₂) := by rw [jB, h]; exact h2
theorem Aw (h : a9 Γ e ρ σ = some (.bool false, σ1)) : evAnd Γ (e :: es) ρ σ = some (false, σ1) := by rw [jB, h]; rfl
theorem Do (h : a9 Γ e ρ σ = some (.bool true, σ1)) : evOr Γ (e :: es) ρ σ = some (true, σ1) := by rw [mE, h]; rfl
theorem Ax (h : a9 Γ e ρ σ = some (.bool false, σ1)) (h2 : evOr Γ es ρ σ1 = some (x, σ₂)) : evOr Γ (e :: es) ρ σ = some (x, σ₂) := by rw [mE, h]; exact h2
theorem Fb : nW Γ (.nm n) v ρ σ = some (upd ρ n v, σ) := rfl
@[simp] theorem Gy : nW Γ (.nm n) v ρ σ = some (upd ρ n v, σ) := rfl
@[simp] theorem z4 : nW Γ (.att o n) v ρ σ = mp (a9 Γ o ρ σ) fun w σ1 => oN w fun k => kg σ1 k fun m => l0 m fun ks l => if ks.length ≤ 100 ∧ c9.contains n = true then some (ρ, σ1.set k (.inst (ca n ks) (cV n v ks l))) else none := rfl
@[simp] theorem z5 : nW Γ (.sub o i) v ρ σ = mp (a9 Γ o ρ σ) fun x σ1 => mp (a9 Γ i ρ σ1) fun y σ₂ => (eY x y v σ₂).bind fun σ3 => some (ρ, σ3) := rfl
@[simp] theorem Ej : nW Γ (.nms ks) v ρ σ = oR v fun vs => (ak ks vs ρ).bind fun ρ' => some (ρ', σ) := rfl
@[simp] theorem wz : nW Γ (.subs l es) v ρ σ = oR v fun vs => (cC Γ l es vs ρ σ).bind fun σ' => some (ρ, σ') := rfl
@[simp] theorem z6 : cC Γ [] [] [] ρ σ = some σ := rfl
@[simp] theorem wA {os is : List E} : cC Γ (o :: os) (i :: is) (v :: vs) ρ σ = mp (a9 Γ o ρ σ) fun x σ1 => mp (a9 Γ i ρ σ1) fun y σ₂ => (eY x y v σ₂).bind fun σ3 => cC Γ os is vs ρ σ3 := rfl
theorem Fc {os is : List E} {σ4 : St} (h : a9 Γ o ρ σ = some (u, σ1)) (h2 : a9 Γ i ρ σ1 = some (w, σ₂)) (h3 : eY u w v σ₂ = some σ3) (k : cC Γ os is vs ρ σ3 = some σ4) : cC Γ (o :: os) (i :: is) (v :: vs) ρ σ = some σ4 := by rw [wA, h, bM, h2, bM, h3]; exact k
theorem Ds {os is : List E} {σ4 : St} (k : cC Γ os is vs ρ σ = some σ4) : nW Γ (.subs os is) (.tup vs) ρ σ = some (ρ, σ4) := by rw [wz, CV, k]; rfl
theorem Dq (h : a9 Γ o ρ σ = some (.mut k, σ1)) (h2 : σ1[k]? = some (.inst ks l')) (h3 : (ks.length ≤ 100 ∧ c9.contains n = true)) : nW Γ (.att o n) v ρ σ = some (ρ, σ1.set k (.inst (ca n ks) (cV n v ks l'))) := by
  rw [z4, h, bM, oQ, nM h2, qw, if_pos h3]
theorem Ay (h : a9 Γ o ρ σ = some (.mut k, σ1)) (h2 : σ1[k]? = some (.inst ks l')) (h3 : (ks.length ≤ 100 ∧ c9.contains n = true)) (h4 : σ1.set k (.inst (ca n ks) (cV n v ks l')) = σ₂) : nW Γ (.att o n) v ρ σ = some (ρ, σ₂) := h4 ▸ Dq h h2 h3
theorem Dr (h : a9 Γ o ρ σ = some (u, σ1)) (h2 : a9 Γ i ρ σ1 = some (w, σ₂)) (h3 : eY u w v σ₂ = some σ3) : nW Γ (.sub o i) v ρ σ = some (ρ, σ3) := by
  rw [z5, h, bM, h2, bM, h3]; rfl
end
structure Row where
  n0 : Int
  n1 : Int
  n2 : Int
  r : List UInt8
  deriving Inhabited
structure Ab where
  rows : List Row
  many : Int
  mode : Nat
  acc : Nat
  dbl : Bool
  which : Nat
  nw : Bool
  last : Int
  lB : List UInt8
  lN : Int
  fB : List UInt8
  fN : Int
  high : List UInt8
noncomputable def Ab.q (a : Ab) : Ab := { a with last := -1 }
@[simp] theorem Ab.q_rows (a : Ab) : a.q.rows = a.rows := rfl
@[simp] theorem Ab.q_dbl (a : Ab) : a.q.dbl = a.dbl := rfl
noncomputable def Ab.x (a : Ab) : Ab := { a with nw := true, last := -1 }
noncomputable def Ab.qr (a : Ab) (R : List Row) : Ab := { a with last := -1, rows := R }
end Mine
end
section
namespace Mine
open PySem
set_option hygiene false in
set_option compiler.extract_closed false in
local macro_rules | `(tactic| simp_arith! [$a,*]) => `(tactic| simp [Ab.q, Ab.x, Ab.qr, d6, ao, upd, jc, aF, mw, gv, c9, $a,*])
set_option hygiene false in
set_option compiler.extract_closed false in
local macro_rules | `(tactic| simp_arith [$a,*]) => `(tactic| first | ((repeat' first | exact bc | apply af | apply F9 | apply lW | apply yt | apply rY | apply yr | apply yq | apply eZ | apply fO | apply js | apply fM | apply xA | apply yu | exact eB | apply bw | apply vM | apply Dp | exact Fb | exact ⟨by decide, rfl⟩ | apply Ay | apply Dr | apply Ds | apply Fc | exact z6 | exact lV | (refine dQ rfl ?_) | assumption | rfl | (simp_arith! [$a,*]; done)); done) | simp_arith! [$a,*])
noncomputable def lo : Nat → Nat | 0 => 0 | 1 => 2 | _ => 3
noncomputable def hi : Nat → Nat | 0 => 2 | 1 => 3 | _ => 4
noncomputable def part (r : List UInt8) (w : Nat) : List UInt8 := (r.take (hi w)).drop (lo w)
theorem iu {r : List UInt8} (h : r.length = 4) (w : Nat) : (part r w).length ≤ 4 := by
  unfold part; rw [List.length_drop, List.length_take, h]; exact Nat.le_trans (Nat.sub_le _ _) (Nat.min_le_right _ _)
noncomputable def ci (r : Row) : Nat → Int | 0 => r.n0 | 1 => r.n1 | _ => r.n2
noncomputable def bK (dbl : Bool) : V := .list [.tup [.int 0, .int 2, .bool false], .tup [.int 2, .int 1, .bool true], .tup [.int 3, .int 1, .bool dbl]]
noncomputable def da (r : Row) : V := .bytes r.r
noncomputable def bW (r : Row) : V := .tup [.tup [.int r.n0, .int r.n1, .int r.n2], .bytes r.r]
noncomputable def aT (r : Row) : V := .list [.int r.n0, .int r.n1, .int r.n2]
noncomputable def ar (l : Ab) : M := .dict [18, 29, 25, 23, 28, 19, 22, 20, 21] [.list (l.rows.map bW), .int l.many, .str l.mode, .str l.acc, .bool l.dbl, .int l.which, .tup [.bytes l.lB, .int l.lN], .bool l.nw, .int l.last]
noncomputable def aJ (f : Ab) : M := .inst [0, 2, 3, 6, 8, 9, 10, 11, 12, 13, 14] [.mut 1, .str f.mode, .str f.acc, bK f.dbl, .mut 4, .int f.many, .int f.which, .tup [.bytes f.fB, .int f.fN], .bool f.nw, .int f.last, .bytes f.high]
noncomputable def W (b : Int) (f l : Ab) (g : List M) : St := .list [.int b] :: .list (f.rows.map da) :: ar l :: aJ f :: .list (f.rows.map aT) :: g
theorem uh {body : aj → St → Option (Fl × aj × St)} {x : Nat} {v : V} {vs : List V} {ρ : aj} {σ : St} : cR body x (v :: vs) ρ σ = mp (body (upd ρ x v) σ) fun f p => sz f p (cR body x vs p.1 p.2) := rfl
section
variable {b : Int} {f l : Ab} {g : List M}
@[simp] theorem Hn : (W b f l g)[0]? = some (.list [.int b]) := rfl
@[simp] theorem Ho : (W b f l g)[1]? = some (.list (f.rows.map da)) := rfl
@[simp] theorem Hp : (W b f l g)[2]? = some (ar l) := rfl
@[simp] theorem H7 : (W b f l g)[3]? = some (aJ f) := rfl
@[simp] theorem Hq : (W b f l g)[4]? = some (.list (f.rows.map aT)) := rfl
end
theorem kG {body : aj → St → Option (Fl × aj × St)} {x : Nat} {α : Type} (I : aj → Prop) (F : α → V) (p : α → Bool) (R : α → V) (T : α → St) (σ : St) : ∀ (is : List α) (ρ : aj), I ρ →
    (∀ i ∈ is, ∀ ρ, I ρ → (p i = true → ∃ ρ', body (upd ρ x (F i)) σ = some (.ret (R i), ρ', T i)) ∧ (p i = false → ∃ ρ', I ρ' ∧ body (upd ρ x (F i)) σ = some (.next, ρ', σ))) →
    (∀ i, is.find? p = some i → ∃ ρ', cR body x (is.map F) ρ σ = some (.ret (R i), ρ', T i)) ∧ (is.find? p = none → ∃ ρ', I ρ' ∧ cR body x (is.map F) ρ σ = some (.next, ρ', σ))
  | [], ρ, hI, h => ⟨fun i e => ae e, fun H => ⟨ρ, hI, rfl⟩⟩
  | a :: is, ρ, hI, h => by
    have ha := h a (.head _) ρ hI
    rw [List.map_cons, uh]
    cases hp : p a with
    | true =>
      obtain ⟨ρ', e⟩ := ha.1 hp
      rw [List.find?_cons_of_pos hp, e]
      exact ⟨fun i q => ac q ⟨ρ', rfl⟩, fun q => ae q.symm⟩
    | false =>
      obtain ⟨ρ', hI', e⟩ := ha.2 hp
      rw [List.find?_cons_of_neg (ne_true_of_eq_false hp), e]
      exact kG I F p R T σ is ρ' hI' fun i hi => h i (.tail _ hi)
theorem dq {body : aj → St → Option (Fl × aj × St)} {x : Nat} {α : Type} (I : Nat → aj → St → Prop) (F : α → V) : ∀ (is : List α) (n : Nat) (ρ : aj) (σ : St), I n ρ σ →
    (∀ k a, is[k]? = some a → ∀ ρ σ, I (n + k) ρ σ → ∃ ρ' σ', (body (upd ρ x (F a)) σ = some (.next, ρ', σ') ∨ body (upd ρ x (F a)) σ = some (.cont, ρ', σ')) ∧ I (n + k + 1) ρ' σ') →
    ∃ ρ' σ', cR body x (is.map F) ρ σ = some (.next, ρ', σ') ∧ I (n + is.length) ρ' σ'
  | [], n, ρ, σ, hI, h => ⟨ρ, σ, rfl, hI⟩
  | a :: is, n, ρ, σ, hI, h => by
    obtain ⟨ρ', σ', e, hI'⟩ := h 0 a rfl ρ σ hI
    obtain ⟨ρ'', σ'', e2, hI''⟩ := dq I F is (n + 1) ρ' σ' hI' fun k b hk ρ σ hq => by
      have := h (k + 1) b hk ρ σ (by rw [Nat.add_comm k, ← Nat.add_assoc]; exact hq)
      rw [Nat.add_comm k, ← Nat.add_assoc] at this
      exact this
    refine ⟨ρ'', σ'', ?_, by rw [List.length_cons, Nat.add_comm is.length, ← Nat.add_assoc]; exact hI''⟩
    rw [List.map_cons, uh]
    rcases e with e | e <;> rw [e] <;> exact e2
theorem E9 {elt : aj → St → Option (V × St)} {ifs : aj → St → Option (Bool × St)} {xs : List Nat} {o : Option Nat} {l₀ : List V} {ρ : aj} {σ : St} {v : V} {vs : List V} : cA elt ifs xs o l₀ ρ (v :: vs) σ = (dT xs v ρ).bind fun ρ' => mp (ifs ρ' σ) fun c σ1 => if c = true
      then mp (elt ρ' σ1) fun y σ₂ => if stays o l₀ σ₂ = true then mp (cA elt ifs xs o l₀ ρ vs σ₂) fun ys σ3 => some (y :: ys, σ3) else none
      else if stays o l₀ σ1 = true then cA elt ifs xs o l₀ ρ vs σ1 else none := rfl
theorem bO {elt : aj → St → Option (V × St)} {ifs : aj → St → Option (Bool × St)} {xs : List Nat} {o : Option Nat} {l₀ : List V} {ρ : aj} {σ : St} {α : Type} (F : α → V) (p : α → Bool) (f : α → V) (hs : stays o l₀ σ = true) : ∀ (l : List α),
    (∀ a ∈ l, ∃ ρ', dT xs (F a) ρ = some ρ' ∧ ifs ρ' σ = some (p a, σ) ∧ (p a = true → elt ρ' σ = some (f a, σ))) →
    cA elt ifs xs o l₀ ρ (l.map F) σ = some ((l.filter p).map f, σ)
  | [], h => rfl
  | a :: l, h => by
    obtain ⟨ρ', h1, h2, h3⟩ := h a (.head _)
    have ih := bO F p f hs l fun b hb => h b (.tail _ hb)
    rw [List.map_cons, E9, h1, Option.bind_some, h2, bM]
    cases hp : p a with
    | true => rw [if_pos rfl, h3 hp, bM, if_pos hs, ih, List.filter_cons_of_pos hp]; rfl
    | false => rw [if_neg Bool.false_ne_true, if_pos hs, ih, List.filter_cons_of_neg (ne_true_of_eq_false hp)]
theorem bj {elt : aj → St → Option (V × St)} {ifs : aj → St → Option (Bool × St)} {xs : List Nat} {o : Option Nat} {l₀ : List V} {ρ : aj} {σ : St} {α : Type} (F : α → V) (f : α → V) (hs : stays o l₀ σ = true) (l : List α)
    (h : ∀ a ∈ l, ∃ ρ', dT xs (F a) ρ = some ρ' ∧ ifs ρ' σ = some (true, σ) ∧ elt ρ' σ = some (f a, σ)) : cA elt ifs xs o l₀ ρ (l.map F) σ = some (l.map f, σ) := by
  have := bO F (fun H => true) f hs l fun a ha => (h a ha).imp fun H z => ⟨z.1, z.2.1, fun H => z.2.2⟩
  rwa [List.filter_eq_self.mpr fun H H => rfl] at this
theorem aZ {σ : St} {l : List V} : stays none l σ = true := cL.mpr fun H h => ae h
theorem eA {σ : St} {k : Nat} {l : List V} (h : σ[k]? = some (.list l)) : stays (some k) l σ = true := cL.mpr fun H e => ac e h
theorem jl : ∀ (n : Nat) (a : Int), aR a n = (List.range n).map fun (i : Nat) => V.int (a + i)
  | 0, _ => rfl
  | n + 1, a => by
    rw [aR, jl n, List.range_succ_eq_map]
    simp [Function.comp_def]
    intro k hk
    rw [Int.add_assoc, Int.add_comm 1]
section
variable {Γ : Gam} {e : E} {t : T} {ρ ρ' ρ'' : aj} {σ σ1 σ₂ σ3 σ' : St} {v : V} {ss a b' : List S} {r : Option (Fl × aj × St)} {fl : Fl}
theorem vA (h : a9 Γ e ρ σ = some (v, σ1)) (k : evSs Γ ss ρ σ1 = r) : evSs Γ (.ex e :: ss) ρ σ = r := by rw [bU, xT, h]; exact k
theorem iZ (h : a9 Γ e ρ σ = some (v, σ1)) (h2 : nW Γ t v ρ σ1 = some (ρ', σ₂)) (k : evSs Γ ss ρ' σ₂ = r) : evSs Γ (.asg t e :: ss) ρ σ = r := by rw [bU, mF, h, bM, h2]; exact k
theorem rS (h : a9 Γ e ρ σ = some (v, σ)) (h2 : nW Γ t v ρ σ = some (ρ', σ₂)) (k : evSs Γ ss ρ' σ₂ = r) : evSs Γ (.asg t e :: ss) ρ σ = r := iZ h h2 k
theorem e7 (h : a9 Γ e ρ σ = some (v, σ1)) : evSs Γ (.ret e :: ss) ρ σ = some (.ret v, ρ, σ1) := by rw [bU, q9, h]; rfl
theorem lb (h : a9 Γ e ρ σ = some (.bool true, σ1)) (h2 : evSs Γ a ρ σ1 = some (.ret v, ρ', σ₂)) : evSs Γ (.if_ e a b' :: ss) ρ σ = some (.ret v, ρ', σ₂) := by rw [bU, lC, h, bM, kZ, if_pos rfl, h2]; rfl
theorem A6 (h : a9 Γ e ρ σ = some (.bool false, σ1)) (h2 : evSs Γ b' ρ σ1 = some (.ret v, ρ', σ₂)) : evSs Γ (.if_ e a b' :: ss) ρ σ = some (.ret v, ρ', σ₂) := by rw [bU, lC, h, bM, kZ, if_neg Bool.false_ne_true, h2]; rfl
theorem jL (h : a9 Γ e ρ σ = some (.bool true, σ1)) (h2 : evSs Γ a ρ σ1 = some (.next, ρ', σ₂)) (k : evSs Γ ss ρ' σ₂ = r) : evSs Γ (.if_ e a b' :: ss) ρ σ = r := by rw [bU, lC, h, bM, kZ, if_pos rfl, h2]; exact k
theorem rT (h : a9 Γ e ρ σ = some (.bool false, σ1)) (h2 : evSs Γ b' ρ σ1 = some (.next, ρ', σ₂)) (k : evSs Γ ss ρ' σ₂ = r) : evSs Γ (.if_ e a b' :: ss) ρ σ = r := by rw [bU, lC, h, bM, kZ, if_neg Bool.false_ne_true, h2]; exact k
theorem xj (h : a9 Γ e ρ σ = some (.bool true, σ1)) (h2 : evSs Γ a ρ σ1 = some (.cont, ρ', σ₂)) : evSs Γ (.if_ e a b' :: ss) ρ σ = some (.cont, ρ', σ₂) := by rw [bU, lC, h, bM, kZ, if_pos rfl, h2]; rfl
theorem cG : evSs Γ [] ρ σ = some (.next, ρ, σ) := rfl
theorem dy (h : a9 Γ e ρ σ = some (.bool false, σ1)) (k : evSs Γ ss ρ σ1 = r) : evSs Γ (.if_ e a [] :: ss) ρ σ = r := rT h cG k
theorem De (h : a9 Γ e ρ σ = some (.bool true, σ1)) : evSs Γ (.rz e :: ss) ρ σ = some (.exc, ρ, σ1) := by rw [bU, u0, h]; rfl
theorem A7 (h : a9 Γ e ρ σ = some (.bool false, σ1)) (k : evSs Γ ss ρ σ1 = r) : evSs Γ (.rz e :: ss) ρ σ = r := by rw [bU, u0, h]; exact k
theorem Dd (k : evSs Γ ss ρ σ = r) : evSs Γ (.fz :: ss) ρ σ = r := k
theorem e6 {x : Nat} {l : List V} {bd : List S} (h : a9 Γ e ρ σ = some (v, σ1)) (h1 : aS v σ1 = some (none, l)) (h2 : cR (fun ρ' σ' => evSs Γ bd ρ' σ') x l ρ σ1 = some (.next, ρ', σ₂)) (k : evSs Γ ss ρ' σ₂ = r) : evSs Γ (.for_ x e bd :: ss) ρ σ = r := by rw [bU, q8, h, bM, h1, bM, if_pos (show (none : Option Nat).isNone = true from rfl), h2]; exact k
theorem jK {x : Nat} {l : List V} {bd : List S} (h : a9 Γ e ρ σ = some (v, σ1)) (h1 : aS v σ1 = some (none, l)) {u : V} (h2 : cR (fun ρ' σ' => evSs Γ bd ρ' σ') x l ρ σ1 = some (.ret u, ρ', σ₂)) : evSs Γ (.for_ x e bd :: ss) ρ σ = some (.ret u, ρ', σ₂) := by rw [bU, q8, h, bM, h1, bM, if_pos (show (none : Option Nat).isNone = true from rfl), h2]; rfl
def Rn (Γ : Gam) (I : aj → Prop) (ss : List S) (ρ : aj) (σ : St) (fl : Fl) (σ' : St) : Prop := ∃ ρ', I ρ' ∧ evSs Γ ss ρ σ = some (fl, ρ', σ')
abbrev cb : aj → Prop := fun H => True
section
variable {I J : aj → Prop}
theorem Rn.mono (x : Rn Γ I ss ρ σ fl σ') (k : ∀ ρ, I ρ → J ρ) : Rn Γ J ss ρ σ fl σ' := Exists.imp (fun H z => ⟨k _ z.1, z.2⟩) x
theorem gk (h : evSs Γ ss ρ σ = some (fl, ρ', σ')) (hI : I ρ') : Rn Γ I ss ρ σ fl σ' := ⟨ρ', hI, h⟩
theorem fH (h : a9 Γ e ρ σ = some (v, σ1)) (k : Rn Γ I ss ρ σ1 fl σ') : Rn Γ I (.ex e :: ss) ρ σ fl σ' := Exists.imp (fun H z => ⟨z.1, vA h z.2⟩) k
theorem fG (h : a9 Γ e ρ σ = some (v, σ1)) (h2 : nW Γ t v ρ σ1 = some (ρ', σ₂)) (k : Rn Γ I ss ρ' σ₂ fl σ') : Rn Γ I (.asg t e :: ss) ρ σ fl σ' := Exists.imp (fun H z => ⟨z.1, iZ h h2 z.2⟩) k
theorem ap (h : a9 Γ e ρ σ = some (v, σ)) (h2 : nW Γ t v ρ σ = some (ρ', σ₂)) (k : Rn Γ I ss ρ' σ₂ fl σ') : Rn Γ I (.asg t e :: ss) ρ σ fl σ' := fG h h2 k
theorem d5 {x : Nat} (h : a9 Γ e ρ σ = some (v, σ1)) (k : Rn Γ I ss (upd ρ x v) σ1 fl σ') : Rn Γ I (.asg (.nm x) e :: ss) ρ σ fl σ' := fG h rfl k
theorem bv (h : a9 Γ e ρ σ = some (v, σ1)) (hI : I ρ) : Rn Γ I (.ret e :: ss) ρ σ (.ret v) σ1 := ⟨ρ, hI, e7 h⟩
theorem vn (h : a9 Γ e ρ σ = some (.bool true, σ1)) (k : Rn Γ I a ρ σ1 (.ret v) σ₂) : Rn Γ I (.if_ e a b' :: ss) ρ σ (.ret v) σ₂ := Exists.imp (fun H z => ⟨z.1, lb h z.2⟩) k
theorem zP (h : a9 Γ e ρ σ = some (.bool false, σ1)) (k : Rn Γ I b' ρ σ1 (.ret v) σ₂) : Rn Γ I (.if_ e a b' :: ss) ρ σ (.ret v) σ₂ := Exists.imp (fun H z => ⟨z.1, A6 h z.2⟩) k
theorem vm (h : a9 Γ e ρ σ = some (.bool false, σ1)) (k : Rn Γ I ss ρ σ1 fl σ') : Rn Γ I (.if_ e a [] :: ss) ρ σ fl σ' := Exists.imp (fun H z => ⟨z.1, dy h z.2⟩) k
theorem db (h : a9 Γ e ρ σ = some (.bool true, σ1)) (h2 : Rn Γ J a ρ σ1 .next σ₂) (k : ∀ ρ', J ρ' → Rn Γ I ss ρ' σ₂ fl σ') : Rn Γ I (.if_ e a b' :: ss) ρ σ fl σ' :=
  h2.elim fun ρ' z => Exists.imp (fun H y => ⟨y.1, jL h z.2 y.2⟩) (k ρ' z.1)
theorem n5 (h : a9 Γ e ρ σ = some (.bool false, σ1)) (h2 : Rn Γ J b' ρ σ1 .next σ₂) (k : ∀ ρ', J ρ' → Rn Γ I ss ρ' σ₂ fl σ') : Rn Γ I (.if_ e a b' :: ss) ρ σ fl σ' :=
  h2.elim fun ρ' z => Exists.imp (fun H y => ⟨y.1, rT h z.2 y.2⟩) (k ρ' z.1)
theorem D2 (h : a9 Γ e ρ σ = some (.bool true, σ1)) (hI : I ρ) : Rn Γ I (.rz e :: ss) ρ σ .exc σ1 := ⟨ρ, hI, De h⟩
theorem zQ (h : a9 Γ e ρ σ = some (.bool false, σ1)) (k : Rn Γ I ss ρ σ1 fl σ') : Rn Γ I (.rz e :: ss) ρ σ fl σ' := Exists.imp (fun H z => ⟨z.1, A7 h z.2⟩) k
theorem ym (k : Rn Γ I ss ρ σ fl σ') : Rn Γ I (.fz :: ss) ρ σ fl σ' := Exists.imp (fun H z => ⟨z.1, Dd z.2⟩) k
theorem b9 (hI : I ρ) : Rn Γ I [] ρ σ .next σ := ⟨ρ, hI, cG⟩
theorem ah (h : a9 Γ e ρ σ = some (v, σ)) (hI : I ρ) : Rn Γ I (.ret e :: ss) ρ σ (.ret v) σ := bv h hI
theorem ai (h : a9 Γ e ρ σ = some (.bool true, σ)) (k : Rn Γ I a ρ σ (.ret v) σ₂) : Rn Γ I (.if_ e a b' :: ss) ρ σ (.ret v) σ₂ := vn h k
theorem rN (h : a9 Γ e ρ σ = some (.bool false, σ)) (k : Rn Γ I b' ρ σ (.ret v) σ₂) : Rn Γ I (.if_ e a b' :: ss) ρ σ (.ret v) σ₂ := zP h k
theorem aa (h : a9 Γ e ρ σ = some (.bool false, σ)) (k : Rn Γ I ss ρ σ fl σ') : Rn Γ I (.if_ e a [] :: ss) ρ σ fl σ' := vm h k
theorem n6 (h : a9 Γ e ρ σ = some (.bool true, σ)) (hI : I ρ) : Rn Γ I (.rz e :: ss) ρ σ .exc σ := D2 h hI
theorem dP (h : a9 Γ e ρ σ = some (.bool false, σ)) (k : Rn Γ I ss ρ σ fl σ') : Rn Γ I (.rz e :: ss) ρ σ fl σ' := zQ h k
theorem aH {x : Nat} (h : a9 Γ e ρ σ = some (v, σ)) (k : Rn Γ I ss (upd ρ x v) σ fl σ') : Rn Γ I (.asg (.nm x) e :: ss) ρ σ fl σ' := d5 h k
theorem dO {α : Type} {x : Nat} {bd : List S} {is : List α} (F : α → V) (p : α → Bool) (R : α → V) (T : α → St) (σN : St) (vN : Fl) (hv : a9 Γ e ρ σ = some (v, σ1)) (h1 : aS v σ1 = some (none, is.map F)) (hI : I ρ)
    (hp : ∀ i ∈ is, ∀ ρ, I ρ → (p i = true → Rn Γ cb bd (upd ρ x (F i)) σ1 (.ret (R i)) (T i)) ∧ (p i = false → Rn Γ I bd (upd ρ x (F i)) σ1 .next σ1))
    (k : ∀ ρ', I ρ' → is.find? p = none → Rn Γ cb ss ρ' σ1 vN σN) :
    Rn Γ cb (.for_ x e bd :: ss) ρ σ (match is.find? p with | some i => .ret (R i) | none => vN) (match is.find? p with | some i => T i | none => σN) := by
  have key := kG (body := fun ρ' σ' => evSs Γ bd ρ' σ') (x := x) I F p R T σ1 is ρ hI fun i hi ρ hρ => ⟨fun q => by obtain ⟨ρ', _, z⟩ := (hp i hi ρ hρ).1 q; exact ⟨ρ', z⟩, fun q => (hp i hi ρ hρ).2 q⟩
  cases hq : is.find? p with
  | some i =>
    obtain ⟨ρ', z⟩ := key.1 i hq
    exact ⟨ρ', trivial, jK hv h1 z⟩
  | none =>
    obtain ⟨ρ', hI', z⟩ := key.2 hq
    obtain ⟨ρ'', _, z2⟩ := k ρ' hI' hq
    exact ⟨ρ'', trivial, e6 hv h1 z z2⟩
end
theorem aq {ps : List Nat} {bd : List S} {args : List V} {I : aj → Prop} (h : ak ps args ao = some ρ) (k : Rn Γ I bd ρ σ (.ret v) σ1) : d6 Γ ps bd args σ = some (some v, σ1) := k.elim fun H z => by unfold d6; rw [h, Option.bind_some, z.2]; rfl
theorem mK {ps : List Nat} {bd : List S} {args : List V} {I : aj → Prop} (h : ak ps args ao = some ρ) (k : Rn Γ I bd ρ σ .next σ1) : d6 Γ ps bd args σ = some (some .none, σ1) := k.elim fun H z => by unfold d6; rw [h, Option.bind_some, z.2]; rfl
theorem mJ {ps : List Nat} {bd : List S} {args : List V} {I : aj → Prop} (h : ak ps args ao = some ρ) (k : Rn Γ I bd ρ σ .exc σ1) : d6 Γ ps bd args σ = some (none, σ1) := k.elim fun H z => by unfold d6; rw [h, Option.bind_some, z.2]; rfl
section
variable {a1 a2 a3 t1 : E} {x y z : Bool} {u w : V}
theorem xU (h : a9 Γ a1 ρ σ = some (.bool x, σ)) : evAnd Γ [a1] ρ σ = some (x, σ) := by rw [jB, h]; cases x <;> rfl
theorem bz (h : a9 Γ a1 ρ σ = some (.bool x, σ)) (h2 : x = true → a9 Γ a2 ρ σ = some (.bool y, σ)) : a9 Γ (.and [a1, a2]) ρ σ = some (.bool (x && y), σ) := vM (by
  cases x with
  | false => exact Aw h
  | true => exact xz h (xU (h2 rfl)))
theorem wE (h : a9 Γ a1 ρ σ = some (.bool x, σ)) (h2 : x = true → a9 Γ a2 ρ σ = some (.bool y, σ)) (h3 : x = true → y = true → a9 Γ a3 ρ σ = some (.bool z, σ)) : a9 Γ (.and [a1, a2, a3]) ρ σ = some (.bool (x && y && z), σ) := vM (by
  cases x with
  | false => exact Aw h
  | true => cases y with
    | false => exact xz h (Aw (h2 rfl))
    | true => exact xz h (xz (h2 rfl) (xU (h3 rfl rfl))))
theorem qg (h : a9 Γ a1 ρ σ = some (.bool x, σ)) (h2 : x = false → a9 Γ a2 ρ σ = some (.bool y, σ)) : a9 Γ (.or [a1, a2]) ρ σ = some (.bool (x || y), σ) := Dp (by
  cases x with
  | true => exact Do h
  | false => cases y with
    | true => exact Ax h (Do (h2 rfl))
    | false => exact Ax h (Ax (h2 rfl) rfl))
theorem qe (h : a9 Γ a1 ρ σ = some (.bool x, σ)) : a9 Γ (.not a1) ρ σ = some (.bool (!x), σ) := yu h
theorem eK (h : a9 Γ t1 ρ σ = some (.bool x, σ)) (h2 : x = true → a9 Γ a1 ρ σ = some (u, σ)) (h3 : x = false → a9 Γ a2 ρ σ = some (w, σ)) : a9 Γ (.ifx t1 a1 a2) ρ σ = some (if x = true then u else w, σ) := by
  cases x with
  | true => exact vP h (h2 rfl)
  | false => exact vO h (h3 rfl)
theorem az {op : CmpOp} (h : a9 Γ a1 ρ σ = some (u, σ)) (h2 : a9 Γ a2 ρ σ = some (w, σ1)) (h3 : f6 op u w σ1 = some x) : a9 Γ (.cmp op a1 a2) ρ σ = some (.bool x, σ1) := eZ h h2 h3
theorem i5 (h : a9 Γ a1 ρ σ = some (u, σ)) : evEs Γ [a1] ρ σ = some ([u], σ) := bw h eB
theorem mI (h : a9 Γ a1 ρ σ = some (u, σ)) (h2 : a9 Γ a2 ρ σ = some (w, σ)) : evEs Γ [a1, a2] ρ σ = some ([u, w], σ) := bw h (i5 h2)
theorem iO {v1 : V} (h : a9 Γ a1 ρ σ = some (u, σ)) (h2 : a9 Γ a2 ρ σ = some (w, σ)) (h3 : a9 Γ a3 ρ σ = some (v1, σ)) : evEs Γ [a1, a2, a3] ρ σ = some ([u, w, v1], σ) := bw h (mI h2 h3)
theorem wH {v1 : V} (h : a9 Γ a1 ρ σ = some (u, σ)) (h2 : a9 Γ a2 ρ σ = some (w, σ)) (h3 : a9 Γ a3 ρ σ = some (v1, σ)) : a9 Γ (.tup [a1, a2, a3]) ρ σ = some (.tup [u, w, v1], σ) := lW (iO h h2 h3)
theorem p9 (h : a9 Γ a1 ρ σ = some (u, σ)) (h2 : a9 Γ a2 ρ σ = some (w, σ)) : a9 Γ (.tup [a1, a2]) ρ σ = some (.tup [u, w], σ) := lW (mI h h2)
end
theorem qd {o a : E} {m : BM} {k : Nat} {l₀ : List V} {r : Option (V × St)} (h : a9 Γ o ρ σ = some (.mut k, σ)) (h1 : σ[k]? = some (.list l₀)) (h2 : a9 Γ a ρ σ = some (v, σ1)) (h3 : AY m (.mut k) [v] σ1 = r) : a9 Γ (.bm o m [a]) ρ σ = r := by rw [xR, h, bM, oQ, nM h1, zB, bw h2 eB]; exact h3
theorem bG {f : Nat} {l : List E} {vs : List V} (h : evEs Γ l ρ σ = some (vs, σ1)) (h2 : Γ.f f vs σ1 = some (some v, σ₂)) : a9 Γ (.call f l) ρ σ = some (v, σ₂) := by rw [mC, h, bM, h2]; rfl
theorem eL {o : E} {m k : Nat} {l : List E} {vs l' : List V} {ks : List Nat} (h : a9 Γ o ρ σ = some (.mut k, σ)) (h1 : σ[k]? = some (.inst ks l')) (h2 : evEs Γ l ρ σ = some (vs, σ1)) (h3 : Γ.m m (.mut k :: vs) σ1 = some (some v, σ₂)) : a9 Γ (.meth o m l) ρ σ = some (v, σ₂) := by rw [ri, h, bM, oQ, nM h1, qw, h2, bM, h3]; rfl
theorem av {o : E} {m k : Nat} {l : List E} {vs l' : List V} {ks : List Nat} (h : a9 Γ o ρ σ = some (.mut k, σ)) (h1 : σ[k]? = some (.inst ks l')) (h2 : evEs Γ l ρ σ = some (vs, σ)) (h3 : Γ.m m (.mut k :: vs) σ = some (some v, σ₂)) : a9 Γ (.meth o m l) ρ σ = some (v, σ₂) := eL h h1 h2 h3
theorem bV {xs : List Nat} {elt it : E} {ifs : List E} {o : Option Nat} {l vs : List V} (h : a9 Γ it ρ σ = some (v, σ1)) (h1 : aS v σ1 = some (o, l)) (h2 : cA (fun ρ' σ' => a9 Γ elt ρ' σ') (fun ρ' σ' => evAnd Γ ifs ρ' σ') xs o l ρ l σ1 = some (vs, σ₂)) :
    a9 Γ (.comp xs elt it ifs false false) ρ σ = some (.list vs, σ₂) := by rw [jC, h, bM, h1, bM, if_pos (show (!false || o.isSome) = true from rfl), if_neg Bool.false_ne_true, h2]; rfl
theorem nX {xs : List Nat} {elt it : E} {ifs : List E} {o : Option Nat} {l vs : List V} (h : a9 Γ it ρ σ = some (v, σ1)) (h1 : aS v σ1 = some (o, l)) (h2 : cA (fun ρ' σ' => a9 Γ elt ρ' σ') (fun ρ' σ' => evAnd Γ ifs ρ' σ') xs o l ρ l σ1 = some (vs, σ₂)) :
    a9 Γ (.comp xs elt it ifs true false) ρ σ = some (.mut σ₂.length, σ₂ ++ [.list vs]) := by rw [jC, h, bM, h1, bM, if_pos (show (!false || o.isSome) = true from rfl), if_neg Bool.false_ne_true, h2]; rfl
end
theorem tf (b : Int) (k : Int) (s : St) (hk : 0 < k ∧ k < 100) : nE [.mut 0, .int k] (.list [.int b] :: s) = some (some (.int (b % k)), .list [.int (b / k)] :: s) := by
  have h1 : 0 < k := hk.1
  have h2 : k < 18446744073709551616 := Int.lt_trans hk.2 (by decide)
  simp_arith [nE, fm, j5, h1, h2]
theorem cJ (b : Int) (f l : Ab) (g : List M) (r : List UInt8) (w : Nat) (hw : w < 3) (hr : r.length = 4) : jX [.mut 3, .bytes r, .int w] (W b f l g) = some (some (.bytes (part r w)), W b f l g) := by
  refine CF hw ?_ ?_ ?_ <;> simp_arith [jX, k9, nu, W, aJ, bK, hr, part, lo, hi]
theorem e9 (s : St) (r : List UInt8) (w : Nat) (hw : w < 3) (hr : r.length = 4) : jV [.bytes r, .int w] s = some (some (.bytes (part r w)), s) := by
  refine CF hw ?_ ?_ ?_ <;> simp_arith [jV, fk, j4, hr, part, lo, hi]
section
variable {Γ : Gam} {ρ : aj} {σ : St} {f : Ab}
theorem mq (h1 : ρ 1 = some (.mut 3)) (h : σ[3]? = some (aJ f)) : a9 Γ (.attr (.loc 1) 0) ρ σ = some (.mut 1, σ) := fM (af h1) h rfl
theorem hW (h1 : ρ 1 = some (.mut 3)) (h : σ[3]? = some (aJ f)) : a9 Γ (.attr (.loc 1) 2) ρ σ = some (.str f.mode, σ) := fM (af h1) h rfl
theorem eF (h1 : ρ 1 = some (.mut 3)) (h : σ[3]? = some (aJ f)) : a9 Γ (.attr (.loc 1) 3) ρ σ = some (.str f.acc, σ) := fM (af h1) h rfl
theorem ra (h1 : ρ 1 = some (.mut 3)) (h : σ[3]? = some (aJ f)) : a9 Γ (.attr (.loc 1) 6) ρ σ = some (bK f.dbl, σ) := fM (af h1) h rfl
theorem sh (h1 : ρ 1 = some (.mut 3)) (h : σ[3]? = some (aJ f)) : a9 Γ (.attr (.loc 1) 8) ρ σ = some (.mut 4, σ) := fM (af h1) h rfl
theorem nN (h1 : ρ 1 = some (.mut 3)) (h : σ[3]? = some (aJ f)) : a9 Γ (.attr (.loc 1) 10) ρ σ = some (.int f.which, σ) := fM (af h1) h rfl
theorem AU (h1 : ρ 1 = some (.mut 3)) (h : σ[3]? = some (aJ f)) : a9 Γ (.attr (.loc 1) 11) ρ σ = some (.tup [.bytes f.fB, .int f.fN], σ) := fM (af h1) h rfl
theorem AV (h1 : ρ 1 = some (.mut 3)) (h : σ[3]? = some (aJ f)) : a9 Γ (.attr (.loc 1) 12) ρ σ = some (.bool f.nw, σ) := fM (af h1) h rfl
theorem wh (h1 : ρ 1 = some (.mut 3)) (h : σ[3]? = some (aJ f)) : a9 Γ (.attr (.loc 1) 14) ρ σ = some (.bytes f.high, σ) := fM (af h1) h rfl
end
theorem lx (b : Int) (f l : Ab) (g : List M) (w : Nat) (B : List UInt8) (N : Int) : m7 [.mut 3, .int w, .tup [.bytes B, .int N]] (W b f l g) = some (some .none, W b { f with which := w, fB := B, fN := N, nw := false } l g) := by
  simp_arith [m7, k7, nq, W, aJ]
theorem jT (b : Int) (f l : Ab) (g : List M) (s : Nat) : qT [.mut 3, .str s] (W b f l g) = some (some (.tup [.str s, .bytes []]), W b f.x l g) := by
  simp_arith [qT, mi, qQ, W, aJ]
theorem th (b : Int) (f l : Ab) (g : List M) (h : f.rows.length ≤ 60) : nF [.mut 3] (W b f l g) = some (some (.tup (f.rows.map da)), W b f l g) := by
  have h1 := dB h
  simp_arith [nF, mj, qR, W, aJ, h1]
noncomputable def ig (f : Ab) : Bool := if f.acc == 1 then (2 == f.mode || 0 == f.mode) else (2 == f.mode || 13 == f.mode)
theorem m4 (b : Int) (f l : Ab) (g : List M) : iE [.mut 3] (W b f l g) = some (some (.bool (ig f)), W b f l g) := by
  cases h : f.acc == 1 with
  | false => exact aq (I := cb) rfl (vm (eZ (eF rfl rfl) bc (congrArg some h)) (bv (eZ (hW rfl rfl) (lW (bw bc (bw bc eB))) (by simp [ig, h])) trivial))
  | true => exact aq (I := cb) rfl (vn (eZ (eF rfl rfl) bc (congrArg some h)) (bv (eZ (hW rfl rfl) (lW (bw bc (bw bc eB))) (by simp [ig, h])) trivial))
theorem gi {α β : Type} (f : α → β) : ∀ (l : List α) (i : Nat), (l.map f).eraseIdx i = (l.eraseIdx i).map f
  | [], _ => by simp
  | a :: l, 0 => by simp
  | a :: l, i + 1 => by simp [gi f l i]
theorem nA (b : Int) (f l : Ab) (g : List M) (i : Nat) (hi : i < f.rows.length) (h : f.rows.length ≤ 60) : qS [.mut 3, .int i] (W b f l g) = some (some .none, W b { f with rows := f.rows.eraseIdx i } l g) := by
  have h1 := dB h
  simp_arith [qS, mh, qP, W, aJ, h1, hi, gi]
theorem mM (a : Int) : ∀ l : List Int, sC (.int a) (l.map V.int) = some (l.any fun x => x == a)
  | [] => rfl
  | x :: l => by simp [mM a l]
theorem lK (a : Int) : ∀ (l : List Int) (n : Nat), jk (.int a) (l.map V.int) n = (l.findIdx? fun x => x == a).map (· + n)
  | [], n => by simp [jk]
  | x :: l, n => by
    simp only [List.map_cons, jk, vT, Option.bind_some, List.findIdx?_cons]
    cases h : x == a with
    | true => simp [mM]
    | false => simp [lK a l (n + 1), Option.map_map, Function.comp_def]; congr 1; funext y; omega
noncomputable def c7 (f : Ab) : Option Nat := f.rows.findIdx? fun r => r.n0 == f.last
noncomputable def jq : Option Nat → V | some i => .int i | none => .int (-1)
theorem gc (b : Int) (f l : Ab) (g : List M) (h : f.rows.length ≤ 60) : ∃ g', gp [.mut 3] (W b f l g) = some (some (jq (c7 f)), W b f l g') := by
  have h1 := dB h
  refine ⟨g ++ [.list (f.rows.map fun r => .int r.n0)], ?_⟩
  have hc := bj (elt := fun ρ' σ' => a9 bJ (.idx (.loc 24) (.lit (.int 0))) ρ' σ') (ifs := fun ρ' σ' => evAnd bJ [] ρ' σ') (xs := [24]) (o := some 4) (l₀ := f.rows.map aT) (ρ := upd ao 1 (.mut 3)) (σ := W b f l g) aT (fun r => .int r.n0) (eA rfl) f.rows fun a H => ⟨_, rfl, rfl, by simp_arith [aT]⟩
  have e4 : (W b f l g)[4]? = some (.list (f.rows.map aT)) := rfl
  have hz : (W b f l g ++ [M.list (f.rows.map fun r => V.int r.n0)])[(W b f l g).length]? = some (.list (f.rows.map fun r => V.int r.n0)) := by simp
  have hin : sC (.int f.last) (f.rows.map fun r => V.int r.n0) = some (f.rows.any fun r => r.n0 == f.last) := by
    have := mM f.last (f.rows.map (·.n0))
    simpa [Function.comp_def, List.any_map] using this
  have hidx : jk (.int f.last) (f.rows.map fun r => V.int r.n0) 0 = c7 f := by
    have := lK f.last (f.rows.map (·.n0)) 0
    simpa [Function.comp_def, List.findIdx?_map, c7] using this
  refine aq (I := cb) rfl (d5 (nX (v := .mut 4) (by simp_arith [W, aJ]) (by simp [e4, aF, h1]) hc) (bv ?_ trivial))
  generalize (W b f l g).length = k at hz ⊢
  have w2 : W b f l g ++ [M.list (f.rows.map fun r => V.int r.n0)] = W b f l (g ++ [M.list (f.rows.map fun r => V.int r.n0)]) := rfl
  rw [w2] at hz ⊢
  generalize hσ : W b f l (g ++ [M.list (f.rows.map fun r => V.int r.n0)]) = σ' at hz ⊢
  have w1 : σ'[3]? = some (aJ f) := by rw [← hσ]; rfl
  cases hq : c7 f with
  | none =>
    have : (f.rows.any fun r => r.n0 == f.last) = false := by
      unfold c7 at hq
      simpa [List.findIdx?_eq_none_iff] using hq
    simp_arith [w1, aJ, hz, hin, h1, this, jq]
  | some i =>
    have : (f.rows.any fun r => r.n0 == f.last) = true := by
      unfold c7 at hq
      have := List.findIdx?_isSome (xs := f.rows) (p := fun r => r.n0 == f.last)
      rw [hq] at this
      simpa using this.symm
    rw [hq] at hidx
    simp_arith [w1, aJ, hz, hin, h1, this, jq, hidx]
theorem qW (b : Int) (f l : Ab) (g : List M) (rc : List UInt8) (stl turned : V) (tr : Nat → Bool) (st : Nat → Int) (h : f.rows.length ≤ 60) (h1 : ∀ w : Nat, w < 3 → ∀ σ, f6 .In (.int w) turned σ = some (tr w)) (h2 : ∀ w : Nat, w < 3 → tr w = false → ∀ σ, g8 stl (.int w) σ = some (.int (st w))) :
    w7 [.mut 3, .bytes rc, stl, turned] (W b f l g) = some (some .none, W b { f with rows := f.rows ++ [⟨if tr 0 then f.many else st 0, if tr 1 then f.many else st 1, if tr 2 then f.many else st 2, rc⟩], many := f.many + 1 } l g) := by
  have hl := zw h
  have key : ∀ (w : Nat), w < 3 → ∀ (ρ : aj) (s : St), ρ 10 = some (.int w) → ρ 34 = some turned → ρ 1 = some (.mut 3) → ρ 8 = some stl → s[3]? = some (aJ f) →
      a9 bJ (.ifx (.cmp .In (.loc 10) (.loc 34)) (.attr (.loc 1) 9) (.idx (.loc 8) (.loc 10))) ρ s = some (.int (if tr w then f.many else st w), s) := by
    intro w hw ρ s r1 r2 r3 r4 hs
    exact (eK (x := tr w) (u := .int f.many) (w := .int (st w)) (eZ (af r1) (af r2) (h1 w hw s)) (fun H => fM (af r3) hs rfl) fun q => fO (af r4) (af r1) (h2 w hw q s)).trans (by cases tr w <;> rfl)
  have k2 : ∀ s : St, s[3]? = some (aJ f) → a9 bJ (.comp [10] (.ifx (.cmp .In (.loc 10) (.loc 34)) (.attr (.loc 1) 9) (.idx (.loc 8) (.loc 10))) (.bi .range [(.bi .len [(.attr (.loc 1) 6)])]) [] false false) (upd (upd (upd (upd ao 1 (.mut 3)) 15 (.bytes rc)) 8 stl) 34 turned) s
      = some (.list [.int (if tr 0 then f.many else st 0), .int (if tr 1 then f.many else st 1), .int (if tr 2 then f.many else st 2)], s) := fun s hs => by
    refine bV (v := .rng 0 3) (o := none) (l := [.int 0, .int 1, .int 2]) (by simp [upd, hs, aJ, bK, aF]; rfl) (by simp [aF, aR]) ?_
    have := bj (elt := fun ρ' σ' => a9 bJ (.ifx (.cmp .In (.loc 10) (.loc 34)) (.attr (.loc 1) 9) (.idx (.loc 8) (.loc 10))) ρ' σ') (ifs := fun ρ' σ' => evAnd bJ [] ρ' σ') (xs := [10]) (o := none) (l₀ := [.int 0, .int 1, .int 2])
      (ρ := upd (upd (upd (upd ao 1 (.mut 3)) 15 (.bytes rc)) 8 stl) 34 turned) (σ := s) (fun (w : Nat) => V.int w) (fun w => .int (if tr w then f.many else st w)) aZ [0, 1, 2] fun w hw => ⟨_, rfl, rfl, key w (CG hw) _ s rfl rfl rfl rfl hs⟩
    exact this
  simp only [w7, pK, tb]
  refine mK (I := cb) rfl (fH (v := .none) (σ1 := .list [.int b] :: .list (f.rows.map da ++ [.bytes rc]) :: ar l :: aJ f :: .list (f.rows.map aT) :: g) (by simp_arith [W, aJ, hl]) (fH (v := .none) (σ1 := .list [.int b] :: .list (f.rows.map da ++ [.bytes rc]) :: ar l :: aJ f :: .list (f.rows.map aT ++ [.list [.int (if tr 0 then f.many else st 0), .int (if tr 1 then f.many else st 1), .int (if tr 2 then f.many else st 2)]]) :: g) ?_ (ap (v := .int (f.many + 1)) (by simp_arith [aJ, dW, dA]) (by simp [upd, aJ, c9]; (first | rfl | exact ⟨rfl, rfl⟩)) ?_)))
  · exact qd (k := 4) (by simp_arith [aJ, dW]) rfl (k2 _ rfl) (by simp [hl, aF])
  · have e : ∀ σ', σ' = W b { f with rows := f.rows ++ [⟨if tr 0 then f.many else st 0, if tr 1 then f.many else st 1, if tr 2 then f.many else st 2, rc⟩], many := f.many + 1 } l g → ∀ ρ, Rn bJ cb [] ρ σ' .next (W b { f with rows := f.rows ++ [⟨if tr 0 then f.many else st 0, if tr 1 then f.many else st 1, if tr 2 then f.many else st 2, rc⟩], many := f.many + 1 } l g) := fun σ' e ρ => e ▸ b9 trivial
    exact e _ (by simp [W, aJ, aT, da]) _
noncomputable def rw (rows : List Row) (i : Nat) : Row := rows.getD i default
noncomputable def bR (w : Nat) (r : Row) : V := .tup [.bytes (part r.r w), .int (ci r w), .bytes r.r, .int r.n0]
noncomputable def b8 (w : Nat) (r : Row) (i : Nat) : V := .tup [.bytes (part r.r w), .int (ci r w), .int i]
noncomputable def iX (c : Nat → Nat → Bool) (n : Nat) : List Nat := if n < 2 then List.range n else fJ c n
noncomputable def nQ (F : Nat → V) (n i j : Nat) : Bool := if i < n ∧ j < n then t9 (F i) (F j) else false
noncomputable def c6 (rows : List Row) (w : Nat) : List Nat := iX (nQ (fun i => bR w (rw rows i)) rows.length) rows.length
theorem sT {c : Nat → Nat → Bool} {n i : Nat} (h : i ∈ iX c n) : i < n := by
  unfold iX at h
  split at h
  · exact List.mem_range.mp h
  · exact List.mem_range.mp ((cQ (by omega)).mem_iff.mp h)
theorem eT {rows : List Row} {w i : Nat} (h : i ∈ c6 rows w) : i < rows.length := sT h
theorem d0 {rows : List Row} {i : Nat} (h : i < rows.length) : rw rows i ∈ rows := by
  unfold rw
  rw [List.getD_eq_getElem?_getD, List.getElem?_eq_getElem h]
  exact List.getElem_mem h
theorem l9 {rows : List Row} {i : Nat} (h : i < rows.length) : rows[i]? = some (rw rows i) := by
  unfold rw
  rw [List.getD_eq_getElem?_getD, List.getElem?_eq_getElem h]
  rfl
theorem sN {α : Type} (f : Row → α) (rows : List Row) : rows.map f = (List.range rows.length).map fun i => f (rw rows i) := by
  apply List.ext_getElem
  · simp
  · intro i h1 h2
    simp [rw, List.getD_eq_getElem?_getD, List.getElem?_eq_getElem (show i < rows.length by simpa using h1)]
theorem pd (F : Nat → V) (n : Nat) (hn : n < 64) (h1 : ∀ i < n, ∃ b t, F i = .tup (.bytes b :: t)) (h2 : ∀ i < n, ∀ j < n, (dY .Lt (t7 (F i)) (t7 (F j))).isSome = true) :
    gn ((List.range n).map F) = some (.list ((iX (nQ F n) n).map F)) := by
  unfold gn iX
  simp only [List.length_map, List.length_range]
  split
  · rfl
  · rename_i h
    have a1 : ∀ l : List Nat, (∀ i ∈ l, i < n) → iH (l.map F) = true := by
      intro l
      induction l with
      | nil => intro _; rfl
      | cons a l ih =>
        intro hl
        obtain ⟨b, t, e⟩ := h1 a (hl a (.head _))
        rw [List.map_cons, e]
        exact ih fun i hi => hl i (.tail _ hi)
    have a2 : rI ((List.range n).map F) = true := by
      unfold rI
      simp only [List.all_eq_true, List.mem_map, List.mem_range]
      rintro a ⟨i, hi, rfl⟩ b ⟨j, hj, rfl⟩
      exact h2 i hi j hj
    have a0 := a1 (List.range n) fun i hi => List.mem_range.mp hi
    rw [if_pos ⟨hn, a0, a2⟩]
    have g : ∀ i, i < n → ((List.range n).map F).getD i .none = F i := fun i hi => by
      rw [List.getD_eq_getElem?_getD, List.getElem?_map, List.getElem?_range hi]; rfl
    have g' : ∀ i, ¬ i < n → ((List.range n).map F).getD i .none = .none := fun i hi => by
      rw [List.getD_eq_getElem?_getD, List.getElem?_eq_none (by simp; omega)]; rfl
    have ec : (fun i j => t9 (((List.range n).map F).getD i .none) (((List.range n).map F).getD j .none)) = nQ F n := by
      funext i j
      unfold nQ
      by_cases hi : i < n
      · rw [g i hi]
        by_cases hj : j < n
        · rw [g j hj, if_pos ⟨hi, hj⟩]
        · rw [g' j hj, if_neg (fun z => hj z.2)]
          obtain ⟨b, t, e⟩ := h1 i hi
          rw [e]; rfl
      · rw [g' i hi, if_neg (fun z => hi z.1)]
        rfl
    rw [ec]
    congr 2
    apply List.map_congr_left
    intro i hi
    exact g i (List.mem_range.mp ((cQ (by omega)).mem_iff.mp hi))
theorem yj (x x' : List UInt8) (i i' : Int) (r r' : List V) (h : (dY .Lt r r').isSome = true) : (dY .Lt (.bytes x :: .int i :: r) (.bytes x' :: .int i' :: r')).isSome = true := by
  show ((if (x == x') = true then ((some (i == i')).bind fun c => if c = true then dY .Lt r r' else some (decide (i < i'))) else some (bX x x'))).isSome = true
  rw [Option.bind_some]
  cases x == x' with
  | false => rfl
  | true => cases i == i' with
    | false => rfl
    | true => exact h
theorem sQ (w : Nat) (a b : Row) : (dY .Lt (t7 (bR w a)) (t7 (bR w b))).isSome = true := yj _ _ _ _ _ _ (by
  show ((if (a.r == b.r) = true then ((some (a.n0 == b.n0)).bind fun c => if c = true then some false else some (decide (a.n0 < b.n0))) else some (bX a.r b.r))).isSome = true
  rw [Option.bind_some]
  cases a.r == b.r with
  | false => rfl
  | true => cases a.n0 == b.n0 <;> rfl)
theorem sP (w : Nat) (a b : Row) (i j : Nat) : (dY .Lt (t7 (b8 w a i)) (t7 (b8 w b j))).isSome = true := yj _ _ _ _ _ _ (by
  show (if ((i : Int) == (j : Int)) = true then some false else some (decide ((i : Int) < j))).isSome = true
  cases (i : Int) == (j : Int) <;> rfl)
theorem yd (w : Nat) (a b : Row) (i j : Nat) : t9 (b8 w a i) (b8 w b j) = if (part a.r w == part b.r w) = true then (if (ci a w == ci b w) = true then decide ((i : Int) < j) else decide (ci a w < ci b w)) else bX (part a.r w) (part b.r w) := by
  show ((if (part a.r w == part b.r w) = true then (if (ci a w == ci b w) = true then (if ((i : Int) == (j : Int)) = true then some false else some (decide ((i : Int) < j))) else some (decide (ci a w < ci b w))) else some (bX (part a.r w) (part b.r w)))).getD false = _
  cases part a.r w == part b.r w with
  | false => rfl
  | true => cases ci a w == ci b w with
    | false => rfl
    | true =>
      show (if ((i : Int) == (j : Int)) = true then some false else some (decide ((i : Int) < j))).getD false = decide ((i : Int) < j)
      by_cases e : (i : Int) = j
      · rw [e, if_pos (beq_self_eq_true _)]; exact (decide_eq_false (Int.lt_irrefl _)).symm
      · rw [if_neg fun z => e (eq_of_beq z)]; rfl
theorem uL {w : Nat} {a b : Row} {i j : Nat} (h : part a.r w ≠ part b.r w ∨ ci a w ≠ ci b w) : t9 (bR w a) (bR w b) = t9 (b8 w a i) (b8 w b j) := by
  rw [yd]
  show ((if (part a.r w == part b.r w) = true then (if (ci a w == ci b w) = true then dY .Lt [.bytes a.r, .int a.n0] [.bytes b.r, .int b.n0] else some (decide (ci a w < ci b w))) else some (bX (part a.r w) (part b.r w)))).getD false = _
  cases h1 : part a.r w == part b.r w with
  | false => rfl
  | true =>
    cases h2 : ci a w == ci b w with
    | false => rfl
    | true => exact (h.elim (fun z => z (eq_of_beq h1)) fun z => z (eq_of_beq h2)).elim
theorem uM (w : Nat) (a : Row) (i : Nat) : t9 (bR w a) (bR w a) = t9 (b8 w a i) (b8 w a i) := by
  rw [yd, beq_self_eq_true, beq_self_eq_true, if_pos rfl, if_pos rfl, decide_eq_false (Int.lt_irrefl _)]
  show ((if (part a.r w == part a.r w) = true then (if (ci a w == ci a w) = true then (if (a.r == a.r) = true then (if (a.n0 == a.n0) = true then some false else some (decide (a.n0 < a.n0))) else some (bX a.r a.r)) else some (decide (ci a w < ci a w))) else some (bX (part a.r w) (part a.r w)))).getD false = _
  rw [beq_self_eq_true, beq_self_eq_true, beq_self_eq_true, beq_self_eq_true]
  rfl
def pF (a b : Row) : Prop := part a.r 0 ≠ part b.r 0 ∧ a.n0 ≠ b.n0 ∧ a.n1 ≠ b.n1 ∧ a.n2 ≠ b.n2
theorem pF.symm {a b : Row} (h : pF a b) : pF b a := ⟨h.1.symm, h.2.1.symm, h.2.2.1.symm, h.2.2.2.symm⟩
theorem pF.key {a b : Row} (h : pF a b) : ∀ w, part a.r w ≠ part b.r w ∨ ci a w ≠ ci b w
  | 0 => .inl h.1
  | 1 => .inr h.2.2.1
  | _ + 2 => .inr h.2.2.2
theorem pZ {rows : List Row} (h : rows.Pairwise pF) {i j : Nat} (hi : i < rows.length) (hj : j < rows.length) (n : i ≠ j) : pF (rw rows i) (rw rows j) := by
  have e : ∀ {k} (hk : k < rows.length), rw rows k = rows[k] := fun hk => by unfold rw; rw [List.getD_eq_getElem?_getD, List.getElem?_eq_getElem hk]; rfl
  rw [e hi, e hj]
  rcases Nat.lt_or_gt_of_ne n with q | q
  · exact List.pairwise_iff_getElem.mp h i j hi hj q
  · exact (List.pairwise_iff_getElem.mp h j i hj hi q).symm
theorem vz (rows : List Row) (w : Nat) (h : rows.length ≤ 60) : gn (rows.map (bR w)) = some (.list ((c6 rows w).map fun i => bR w (rw rows i))) := by
  rw [sN]
  exact pd _ _ (by omega) (fun i H => ⟨_, _, rfl⟩) fun i H j H => sQ w _ _
theorem sX (rows : List Row) (w : Nat) (h : rows.length ≤ 60) (hd : rows.Pairwise pF) : gn ((List.range rows.length).map fun i => b8 w (rw rows i) i) = some (.list ((c6 rows w).map fun i => b8 w (rw rows i) i)) := by
  rw [pd (fun i => b8 w (rw rows i) i) _ (by omega) (fun i H => ⟨_, _, rfl⟩) fun i H j H => sP w _ _ i j]
  have : nQ (fun i => b8 w (rw rows i) i) rows.length = nQ (fun i => bR w (rw rows i)) rows.length := by
    funext i j
    unfold nQ
    split
    · rename_i q
      by_cases e : i = j
      · subst e; exact (uM w _ i).symm
      · exact (uL ((pZ hd q.1 q.2 e).key w)).symm
    · rfl
  rw [this]
  rfl
noncomputable def qk (p : List UInt8) (n : Int) (B : List UInt8) (N : Int) : Bool := if (p == B) = true then (if (n == N) = true then true else !decide (n < N)) else !bX p B
noncomputable def y4 (p : List UInt8) (n : Int) (B : List UInt8) (N : Int) : Bool := if (p == B) = true then (if (n == N) = true then false else decide (N < n)) else bX B p
theorem x5 (p : List UInt8) (n : Int) (B : List UInt8) (N : Int) : dY .GtE [.bytes p, .int n] [.bytes B, .int N] = some (qk p n B N) := by
  unfold qk
  simp only [dY, yx, vT, s6, nh, vS, qO, fF, Option.bind_some]
  cases h1 : p == B <;> cases h2 : n == N <;> simp
theorem x6 (p : List UInt8) (n : Int) (B : List UInt8) (N : Int) : dY .Gt [.bytes p, .int n] [.bytes B, .int N] = some (y4 p n B N) := by
  unfold y4
  simp only [dY, yx, vT, s6, nh, vS, qO, fF, Option.bind_some]
  cases h1 : p == B <;> cases h2 : n == N <;> simp
noncomputable def gD (rows : List Row) (w i j : Nat) : Bool := (part (rw rows j).r w == part (rw rows i).r w) && decide (ci (rw rows i) w < ci (rw rows j) w)
noncomputable def later (rows : List Row) (w i : Nat) : Bool := !((c6 rows w).filter (gD rows w i)).isEmpty
noncomputable def standAt (a : Ab) (w i : Nat) : Ab :=
  { a with which := w, nw := false, last := (rw a.rows i).n0, lB := if decide (0 < (w : Int)) then part (rw a.rows i).r w else part (rw a.rows i).r w ++ [0], lN := if decide (0 < (w : Int)) then ci (rw a.rows i) w + 1 else 0,
           fB := if decide (0 < (w : Int)) then part (rw a.rows i).r w else part (rw a.rows i).r w ++ [0], fN := if decide (0 < (w : Int)) then ci (rw a.rows i) w else -1 }
noncomputable def ft (a : Ab) (w i : Nat) : V := .tup [.str (if decide (0 < (w : Int)) && later a.rows w i then 3 else 4), .bytes (rw a.rows i).r]
noncomputable def rd (a : Ab) : Bool := 26 == a.mode || 13 == a.mode
noncomputable def n9 (s : Nat) : V := .tup [.str s, .bytes []]
noncomputable def cK (a : Ab) : Option V × Ab :=
  if a.acc == 5 then (none, a) else if rd a = false then (some (n9 6), a) else if a.nw then (some (n9 7), a.q)
  else match (c6 a.rows a.which).find? fun i => qk (part (rw a.rows i).r a.which) (ci (rw a.rows i) a.which) a.lB a.lN with
    | some i => (some (ft a a.which i), standAt a a.which i)
    | none => (some (n9 8), a.x)
noncomputable def iW (a : Ab) (key : List UInt8) (w : Nat) : Option V × Ab :=
  if a.acc == 1 then (none, a) else if rd a = false then (some (n9 6), a)
  else match (c6 a.rows w).find? fun i => part (rw a.rows i).r w == key with
    | some i => (some (ft a w i), standAt a w i)
    | none => (some (n9 9), a.x)
noncomputable def dz (op : Nat) (pt key : List UInt8) : Bool := if op = 11 then pt == key else if op = 10 then bX key pt else !bX pt key
noncomputable def c8 (a : Ab) (op : Nat) (key : List UInt8) (w : Nat) : Option V × Ab :=
  if a.acc == 5 then (none, a) else if rd a = false then (some (.str 6), a)
  else match (c6 a.rows w).find? fun i => dz op ((part (rw a.rows i).r w).take key.length) key with
    | some i => (some (.str 4), { a with last := -1, which := w, lB := part (rw a.rows i).r w, lN := ci (rw a.rows i) w, fB := part (rw a.rows i).r w, fN := ci (rw a.rows i) w - 1, nw := false })
    | none => (some (.str 9), a.x)
noncomputable def oth (rows : List Row) (rc : List UInt8) (w : Nat) (own : Int) : Bool := !(rows.filter fun r => r.n0 != own && part r.r w == part rc w).isEmpty
noncomputable def b7 (t1 t2 dbl : Bool) : Nat := if t2 && !dbl then 12 else if t1 || t2 then 3 else 4
noncomputable def ie (a : List UInt8) : List (List UInt8) → List UInt8
  | [] => a
  | x :: xs => ie (if bX a x then x else a) xs
noncomputable def dC : List Row → List UInt8
  | [] => []
  | r :: rs => ie (part r.r 0) (rs.map fun r => part r.r 0)
noncomputable def bH (a : Ab) (rc : List UInt8) : Option V × Ab :=
  if ig a = false then (some (.str 14), a)
  else if (a.acc == 1 && !a.rows.isEmpty && !bX (dC a.rows) (part rc 0)) = true then (some (.str 15), a.q)
  else if (!(a.acc == 1) && a.rows.any fun r => part r.r 0 == part rc 0) = true then (some (.str 12), a.q)
  else if b7 (oth a.rows rc 1 (-1)) (oth a.rows rc 2 (-1)) a.dbl = 12 then (some (.str 12), a.q)
  else (some (.str (b7 (oth a.rows rc 1 (-1)) (oth a.rows rc 2 (-1)) a.dbl)), { a with last := -1, rows := a.rows ++ [⟨a.many, a.many, a.many, rc⟩], many := a.many + 1, high := part rc 0 })
noncomputable def gJ (a : Ab) (key : List UInt8) : Option Nat := if a.acc == 1 then c7 a else a.rows.findIdx? fun r => part r.r 0 == key
noncomputable def bB (a : Ab) (key : List UInt8) : Option V × Ab :=
  if a.mode == 13 then match gJ a key with
    | none => (some (.str (if a.acc == 1 then 17 else 9)), a)
    | some p => (some (.str 4), (a.qr (a.rows.eraseIdx p)))
  else (some (.str 16), a)
noncomputable def cF (a : Ab) (rc : List UInt8) (p w : Nat) : Bool := !(part (rw a.rows p).r w == part rc w)
noncomputable def cZ (a : Ab) (rc : List UInt8) (p : Nat) : Nat × Ab :=
  if b7 (cF a rc p 1 && oth a.rows rc 1 (rw a.rows p).n0) (cF a rc p 2 && oth a.rows rc 2 (rw a.rows p).n0) a.dbl = 12 then (12, a.q)
  else if (cF a rc p 1 || cF a rc p 2) = true then (b7 (cF a rc p 1 && oth a.rows rc 1 (rw a.rows p).n0) (cF a rc p 2 && oth a.rows rc 2 (rw a.rows p).n0) a.dbl, { a with last := -1, rows := a.rows.eraseIdx p ++ [⟨(rw a.rows p).n0, if cF a rc p 1 then a.many else (rw a.rows p).n1, if cF a rc p 2 then a.many else (rw a.rows p).n2, rc⟩], many := a.many + 1 })
  else (b7 (cF a rc p 1 && oth a.rows rc 1 (rw a.rows p).n0) (cF a rc p 2 && oth a.rows rc 2 (rw a.rows p).n0) a.dbl, a.q)
noncomputable def bg (a : Ab) (rc : List UInt8) : Option V × Ab := if a.mode == 13 then match gJ a (part rc 0) with
    | none => (some (.str (if a.acc == 1 then 17 else 9)), a)
    | some p => if cF a rc p 0 = true then (some (.str 15), a.q) else (some (.str (cZ a rc p).1), (cZ a rc p).2)
  else (some (.str 16), a)
structure Inv (n : Nat) (a : Ab) : Prop where
  len : a.rows.length ≤ n
  r4 : ∀ r ∈ a.rows, r.r.length = 4
  pos : ∀ r ∈ a.rows, (0 ≤ r.n0 ∧ 0 ≤ r.n1 ∧ 0 ≤ r.n2) ∧ (r.n0 < a.many ∧ r.n1 < a.many ∧ r.n2 < a.many)
  many : 0 ≤ a.many
  pw : a.rows.Pairwise pF
  which : a.which < 3
  at_ : ∀ (p : List UInt8) (n : Int), 0 ≤ n → qk p n a.lB a.lN = y4 p n a.fB a.fN
  high : a.acc = 1 → (a.mode = 2 ∨ a.mode = 0) → a.rows ≠ [] → dC a.rows = a.high
theorem Inv.l60 {n : Nat} {a : Ab} (hI : Inv n a) (hn : n ≤ 60) : a.rows.length ≤ 60 := Nat.le_trans hI.len hn
section
variable {b : Int} {f l : Ab} {g : List M}
theorem cX {Γ : Gam} {ρ : aj} {σ σ1 : St} {a : E} {v u : V} {bi : BI} (h : a9 Γ a ρ σ = some (v, σ1)) (h2 : py bi [v] σ1 = some u) : a9 Γ (.bi bi [a]) ρ σ = some (u, σ1) := xA (bw h eB) h2
theorem rF (r : Row) (w : Nat) (hw : w < 3) (σ : St) : g8 (.tup [.int r.n0, .int r.n1, .int r.n2]) (.int w) σ = some (.int (ci r w)) := by
  refine CF hw ?_ ?_ ?_ <;> simp_arith [ci]
theorem fQ (w : Nat) (hw : w < 3) (hl : l.rows.length ≤ 60) (hr : ∀ r ∈ l.rows, r.r.length = 4) :
    pI [.mut 2, .int w] (W b f l g) = some (some (.list ((c6 l.rows w).map fun i => bR w (rw l.rows i))), W b f l g) := by
  have h1 := dB hl
  refine aq (I := cb) rfl (bv (cX (v := .list (l.rows.map (bR w))) (bV (v := .list (l.rows.map bW)) (σ1 := W b f l g) (by simp_arith [W, ar]) (by simp [aF, h1]; (first | rfl | exact ⟨rfl, rfl⟩)) ?_) ?_) trivial)
  · refine bj bW (bR w) aZ l.rows fun r hm => ⟨_, rfl, rfl, ?_⟩
    have e1 : aV.f 51 = jV := rfl
    simp [upd, e1, e9 _ r.r w hw (hr r hm), rF r w hw, bR]
    simp_arith []
  · simpa [] using vz l.rows w hl
theorem eJ (xs : List V) : pA xs [] = some xs.isEmpty := by cases xs <;> rfl
theorem jp (rows : List Row) (w : Nat) : (c6 rows w).length = rows.length := by
  unfold c6 iX
  split
  · simp
  · have := (cQ (c := nQ (fun i => bR w (rw rows i)) rows.length) (n := rows.length) (by omega)).length_eq
    simpa using this
theorem ly (w i : Nat) (hw : w < 3) (hl : l.rows.length ≤ 60) (hr : ∀ r ∈ l.rows, r.r.length = 4) (hi : i < l.rows.length) :
    m9 [.mut 2, .int w, bR w (rw l.rows i)] (W b f l g) = some (some (ft l w i), W b f (standAt l w i) g) := by
  have h4 := iu (hr _ (d0 hi)) w
  have h5 := CB h4
  simp only [m9, eD, gM]
  refine aq (I := cb) rfl (fG (v := .tup [.int w, .bool false, .int (rw l.rows i).n0]) (σ1 := W b f l g) (by simp_arith [bR]) (by simp_arith [W, ar] <;> (first | rfl | exact ⟨rfl, rfl⟩)) (ap (v := .tup [.bytes (standAt l w i).lB, .int (standAt l w i).lN]) ?_ (by simp_arith [] <;> (first | rfl | exact ⟨rfl, rfl⟩)) (d5 (v := .list (((c6 l.rows w).filter (gD l.rows w i)).map fun H => .int 1)) (σ1 := W b f (standAt l w i) g) (bV (v := .list ((c6 (standAt l w i).rows w).map fun j => bR w (rw (standAt l w i).rows j))) (o := none) (l := (c6 (standAt l w i).rows w).map fun j => bR w (rw (standAt l w i).rows j)) (σ1 := W b f (standAt l w i) g) (bG (vs := [.mut 2, .int w]) (by simp_arith [] <;> (first | rfl | exact ⟨rfl, rfl⟩)) (fQ w hw hl hr)) ?_ ?_) (bv ?_ trivial))))
  · rcases w with _ | w
    · simp_arith [standAt, bR, h5]
    · simp_arith [standAt, bR, vU w]
  · have : (c6 l.rows w).length ≤ 1048576 := by rw [jp]; exact dB hl
    simp [aF, standAt, this]
  · refine bO (fun j => bR w (rw l.rows j)) (gD l.rows w i) (fun H => .int 1) aZ _ fun j hj => ⟨_, rfl, ?_, fun H => by simp_arith []⟩
    exact xU (bz (x := part (rw l.rows j).r w == part (rw l.rows i).r w) (y := decide (ci (rw l.rows i) w < ci (rw l.rows j) w)) (by simp_arith [bR]) fun H => by simp_arith [bR])
  · have hz : ∀ σ : St, bq σ (.list (((c6 l.rows w).filter (gD l.rows w i)).map fun H => V.int 1)) = .list (((c6 l.rows w).filter (gD l.rows w i)).map fun H => V.int 1) := fun H => rfl
    refine p9 (u := .str (if decide (0 < (w : Int)) && later l.rows w i then 3 else 4)) ?_ (by simp_arith [bR])
    rw [show V.str (if (decide (0 < (w : Int)) && later l.rows w i) = true then 3 else 4) = if (decide (0 < (w : Int)) && later l.rows w i) = true then V.str 3 else V.str 4 from by split <;> rfl]
    exact eK (bz (by simp_arith []) fun H => by simp_arith [eJ, later]) (fun H => rfl) (fun H => rfl)
end
section
variable {b : Int} {f l : Ab} {g : List M} {n : Nat}
theorem eS (rows : List Row) (w : Nat) (F : Nat → V) (σ : St) (h : rows.length ≤ 60) : aS (.list ((c6 rows w).map F)) σ = some (none, (c6 rows w).map F) := by
  have : (c6 rows w).length ≤ 1048576 := by rw [jp]; exact dB h
  simp [aF, this]
theorem gC {Γ : Gam} {ρ : aj} (h : ρ 52 = some (.mut 2)) : a9 Γ (.cmp .NotIn (.idx (.loc 52) (.lit (.str 25))) (.tup [(.lit (.str 26)), (.lit (.str 13))])) ρ (W b f l g) = some (.bool (!rd l), W b f l g) := by
  refine az (u := .str l.mode) (w := .tup [.str 26, .str 13]) (by simp_arith [h, W, ar]) (by simp_arith []) ?_
  simp_arith [rd]
theorem s7 (hI : Inv n l) (hn : n ≤ 60) : jS [.mut 2] (W b f l g) = some (some ((cK l).1.getD (.str 24)), W b f (cK l).2 g) := by
  have hl := hI.l60 hn
  have hw := hI.which
  simp only [jS, fj, j3]
  unfold cK
  cases hA : l.acc == 5 with
  | true => exact aq (I := cb) rfl (ai (by simp_arith [W, ar, hA]) (ah rfl trivial))
  | false => cases hR : rd l with
    | false => exact aq (I := cb) rfl (aa (by simp_arith [W, ar, hA]) (ai (by rw [gC rfl, hR]; rfl) (ah (by simp_arith [] <;> (first | rfl | exact ⟨rfl, rfl⟩)) trivial)))
    | true =>
      simp only [Bool.false_eq_true, if_false, Bool.true_eq_false]
      rcases Bool.eq_false_or_eq_true l.nw with hN | hN
      · rw [if_pos hN]
        exact aq (I := cb) rfl (aa (by simp_arith [W, ar, hA]) (aa (by rw [gC rfl, hR]; rfl) (ap (ρ' := upd ao 52 (.mut 2)) (σ₂ := W b f l.q g) (by simp_arith [] <;> (first | rfl | exact ⟨rfl, rfl⟩)) (by simp_arith [W, ar]) (ai (by simp_arith [W, ar, hN]) (ah (by simp_arith [] <;> (first | rfl | exact ⟨rfl, rfl⟩)) trivial)))))
      · rw [if_neg (by simp [hN])]
        have key := dO (Γ := aO) (x := 24) (bd := [.if_ (.cmp .GtE (.slc (.loc 24) (.lit .none) (.lit (.int 2))) (.idx (.loc 52) (.lit (.str 22)))) [.ret (.call 55 [(.loc 52), (.idx (.loc 52) (.lit (.str 19))), (.loc 24)])] []])
          (e := .call 53 [(.loc 52), (.idx (.loc 52) (.lit (.str 19)))]) (ss := [.asg (.sub (.loc 52) (.lit (.str 20))) (.lit (.bool true)), .ret (.tup [(.lit (.str 8)), (.lit (.bytes []))])])
          (I := fun ρ => ρ 52 = some (.mut 2)) (ρ := upd ao 52 (.mut 2)) (σ := W b f l.q g) (σ1 := W b f l.q g) (is := c6 l.rows l.which) (fun i => bR l.which (rw l.rows i))
          (fun i => qk (part (rw l.rows i).r l.which) (ci (rw l.rows i) l.which) l.lB l.lN) (fun i => ft l l.which i) (fun i => W b f (standAt l l.which i) g) (W b f l.x g) (.ret (n9 8))
          (bG (vs := [.mut 2, .int l.which]) (by simp_arith [W, ar] <;> (first | rfl | exact ⟨rfl, rfl⟩)) (fQ (l := l.q) _ hw hl hI.r4)) (eS _ _ _ _ hl) rfl
          (fun i hi ρ hρ => by
            have hc : a9 aO (.cmp .GtE (.slc (.loc 24) (.lit .none) (.lit (.int 2))) (.idx (.loc 52) (.lit (.str 22)))) (upd ρ 24 (bR l.which (rw l.rows i))) (W b f l.q g) = some (.bool (qk (part (rw l.rows i).r l.which) (ci (rw l.rows i) l.which) l.lB l.lN), W b f l.q g) :=
              az (u := .tup [.bytes (part (rw l.rows i).r l.which), .int (ci (rw l.rows i) l.which)]) (w := .tup [.bytes l.lB, .int l.lN]) (by simp_arith [bR]) (by simp_arith [hρ, W, ar]) (by simp [x5])
            refine ⟨fun q => ?_, fun q => ?_⟩
            · rw [q] at hc
              exact ai hc (bv (bG (vs := [.mut 2, .int l.which, bR l.which (rw l.rows i)]) (by simp_arith [hρ, W, ar] <;> (first | rfl | exact ⟨rfl, rfl⟩)) (ly (l := l.q) _ i hw hl hI.r4 (eT hi))) trivial)
            · rw [q] at hc
              exact aa hc (b9 (by simp [upd, hρ])))
          (fun ρ hρ H => ap (v := .bool true) (ρ' := ρ) rfl (by simp_arith [hρ, W, ar] <;> (first | rfl | exact ⟨rfl, rfl⟩)) (ah (by simp_arith [] <;> (first | rfl | exact ⟨rfl, rfl⟩)) trivial))
        have key2 := aa (Γ := aO) (a := [.ret (.lit (.str 24))]) (e := .cmp .Eq (.idx (.loc 52) (.lit (.str 23))) (.lit (.str 5))) (σ := W b f l g) (ρ := upd ao 52 (.mut 2)) (by simp_arith [W, ar, hA]) (aa (a := [.ret (.tup [(.lit (.str 6)), (.lit (.bytes []))])]) (e := .cmp .NotIn (.idx (.loc 52) (.lit (.str 25))) (.tup [(.lit (.str 26)), (.lit (.str 13))])) (by rw [gC rfl, hR]; rfl)
          (ap (t := .sub (.loc 52) (.lit (.str 21))) (e := .lit (.int (-1))) (ρ' := upd ao 52 (.mut 2)) (σ₂ := W b f l.q g) (v := .int (-1)) (by simp_arith []) (by simp_arith [W, ar]) (aa (e := .idx (.loc 52) (.lit (.str 20))) (a := [.ret (.tup [(.lit (.str 7)), (.lit (.bytes []))])]) (by simp_arith [W, ar, hN]) key)))
        revert key2
        generalize (c6 l.rows l.which).find? (fun i => qk (part (rw l.rows i).r l.which) (ci (rw l.rows i) l.which) l.lB l.lN) = X
        intro key2
        cases X <;> exact aq rfl key2
theorem w6 (hI : Inv n l) (hn : n ≤ 60) (key : List UInt8) (w : Nat) (hw : w < 3) : te [.mut 2, .bytes key, .int w] (W b f l g) = some (some ((iW l key w).1.getD (.str 24)), W b f (iW l key w).2 g) := by
  have hl := hI.l60 hn
  simp only [te, iF, lr]
  unfold iW
  cases hA : l.acc == 1 with
  | true => exact aq (I := cb) rfl (ai (by simp_arith [W, ar, hA]) (ah rfl trivial))
  | false => cases hR : rd l with
    | false => exact aq (I := cb) rfl (aa (by simp_arith [W, ar, hA]) (ai (by rw [gC rfl, hR]; rfl) (ah (by simp_arith [] <;> (first | rfl | exact ⟨rfl, rfl⟩)) trivial)))
    | true =>
      simp only [Bool.false_eq_true, if_false, Bool.true_eq_false]
      have key2 := dO (Γ := aO) (x := 24) (bd := [.if_ (.cmp .Eq (.idx (.loc 24) (.lit (.int 0))) (.loc 4)) [.ret (.call 55 [(.loc 52), (.loc 10), (.loc 24)])] []])
          (e := .call 53 [(.loc 52), (.loc 10)]) (ss := [.asg (.subs [(.loc 52), (.loc 52)] [(.lit (.str 20)), (.lit (.str 21))]) (.tup [(.lit (.bool true)), (.lit (.int (-1)))]), .ret (.tup [(.lit (.str 9)), (.lit (.bytes []))])])
          (I := fun ρ => ρ 52 = some (.mut 2) ∧ ρ 4 = some (.bytes key) ∧ ρ 10 = some (.int w)) (ρ := upd (upd (upd ao 52 (.mut 2)) 4 (.bytes key)) 10 (.int w)) (σ := W b f l g) (σ1 := W b f l g) (is := c6 l.rows w) (fun i => bR w (rw l.rows i))
          (fun i => part (rw l.rows i).r w == key) (fun i => ft l w i) (fun i => W b f (standAt l w i) g) (W b f l.x g) (.ret (n9 9))
          (bG (vs := [.mut 2, .int w]) (by simp_arith [W, ar] <;> (first | rfl | exact ⟨rfl, rfl⟩)) (fQ _ hw hl hI.r4)) (eS _ _ _ _ hl) ⟨rfl, rfl, rfl⟩
          (fun i hi ρ hρ => by
            obtain ⟨r1, r2, r3⟩ := hρ
            have hc : a9 aO (.cmp .Eq (.idx (.loc 24) (.lit (.int 0))) (.loc 4)) (upd ρ 24 (bR w (rw l.rows i))) (W b f l g) = some (.bool (part (rw l.rows i).r w == key), W b f l g) :=
              az (u := .bytes (part (rw l.rows i).r w)) (w := .bytes key) (by simp_arith [bR]) (by simp_arith [r2]) (by simp_arith [])
            refine ⟨fun q => ?_, fun q => ?_⟩
            · rw [q] at hc
              exact ai hc (bv (bG (vs := [.mut 2, .int w, bR w (rw l.rows i)]) (by simp_arith [r1, r3, W, ar] <;> (first | rfl | exact ⟨rfl, rfl⟩)) (ly _ i hw hl hI.r4 (eT hi))) trivial)
            · rw [q] at hc
              exact aa hc (b9 (by simp [upd, r1, r2, r3])))
          (fun ρ hρ H => ap (v := .tup [.bool true, .int (-1)]) (ρ' := ρ) (by simp_arith []) (by simp_arith [hρ.1, W, ar] <;> (first | rfl | exact ⟨rfl, rfl⟩)) (ah (by simp_arith [] <;> (first | rfl | exact ⟨rfl, rfl⟩)) trivial))
      have key3 := aa (Γ := aO) (a := [.ret (.lit (.str 24))]) (e := .cmp .Eq (.idx (.loc 52) (.lit (.str 23))) (.lit (.str 1))) (σ := W b f l g) (ρ := upd (upd (upd ao 52 (.mut 2)) 4 (.bytes key)) 10 (.int w)) (by simp_arith [W, ar, hA]) (aa (a := [.ret (.tup [(.lit (.str 6)), (.lit (.bytes []))])]) (e := .cmp .NotIn (.idx (.loc 52) (.lit (.str 25))) (.tup [(.lit (.str 26)), (.lit (.str 13))])) (by rw [gC rfl, hR]; rfl) key2)
      revert key3
      generalize (c6 l.rows w).find? (fun i => part (rw l.rows i).r w == key) = X
      intro key3
      cases X <;> exact aq rfl key3
theorem pG (hI : Inv n l) (hn : n ≤ 60) (op : Nat) (hop : op = 11 ∨ op = 10 ∨ op = 27) (key : List UInt8) (hk : key.length ≤ 4) (w : Nat) (hw : w < 3) : gR [.mut 2, .str op, .bytes key, .int w] (W b f l g) = some (some ((c8 l op key w).1.getD (.str 24)), W b f (c8 l op key w).2 g) := by
  have hl := hI.l60 hn
  have hk1 := uG hk
  have hk2 := yb hk
  simp only [gR, eC, gL]
  unfold c8
  cases hA : l.acc == 5 with
  | true => exact aq (I := cb) rfl (ai (by simp_arith [W, ar, hA]) (ah rfl trivial))
  | false => cases hR : rd l with
    | false => exact aq (I := cb) rfl (aa (by simp_arith [W, ar, hA]) (ai (by rw [gC rfl, hR]; rfl) (ah (by simp_arith [] <;> (first | rfl | exact ⟨rfl, rfl⟩)) trivial)))
    | true =>
      simp only [Bool.false_eq_true, if_false, Bool.true_eq_false]
      have key2 := dO (Γ := aE) (x := 24) (bd := [.asg (.nm 32) (.slc (.idx (.loc 24) (.lit (.int 0))) (.lit .none) (.bi .len [(.loc 4)])),
    .if_ (.idx (.dct [11, 10, 27] [(.cmp .Eq (.loc 32) (.loc 4)), (.cmp .Gt (.loc 32) (.loc 4)), (.cmp .GtE (.loc 32) (.loc 4))]) (.loc 33)) [
      .asg (.subs [(.loc 52), (.loc 52), (.loc 52)] [(.lit (.str 19)), (.lit (.str 22)), (.lit (.str 20))]) (.tup [(.loc 10), (.slc (.loc 24) (.lit .none) (.lit (.int 2))), (.lit (.bool false))]),
      .ret (.lit (.str 4))] []])
          (e := .call 53 [(.loc 52), (.loc 10)]) (ss := [.asg (.sub (.loc 52) (.lit (.str 20))) (.lit (.bool true)), .ret (.lit (.str 9))])
          (I := fun ρ => ρ 52 = some (.mut 2) ∧ ρ 33 = some (.str op) ∧ ρ 4 = some (.bytes key) ∧ ρ 10 = some (.int w)) (ρ := upd (upd (upd (upd ao 52 (.mut 2)) 33 (.str op)) 4 (.bytes key)) 10 (.int w)) (σ := W b f l.q g) (σ1 := W b f l.q g) (is := c6 l.rows w) (fun i => bR w (rw l.rows i))
          (fun i => dz op ((part (rw l.rows i).r w).take key.length) key) (fun i => .str 4) (fun i => W b f { l with last := -1, which := w, lB := part (rw l.rows i).r w, lN := ci (rw l.rows i) w, fB := part (rw l.rows i).r w, fN := ci (rw l.rows i) w - 1, nw := false } g) (W b f l.x g) (.ret (.str 9))
          (bG (vs := [.mut 2, .int w]) (by simp_arith [W, ar] <;> (first | rfl | exact ⟨rfl, rfl⟩)) (fQ (l := l.q) _ hw hl hI.r4)) (eS _ _ _ _ hl) ⟨rfl, rfl, rfl, rfl⟩
          (fun i hi ρ hρ => by
            obtain ⟨r1, r2, r3, r4⟩ := hρ
            have h4 := uG (iu (hI.r4 _ (d0 (eT hi))) w)
            have hc : a9 aE (.idx (.dct [11, 10, 27] [(.cmp .Eq (.loc 32) (.loc 4)), (.cmp .Gt (.loc 32) (.loc 4)), (.cmp .GtE (.loc 32) (.loc 4))]) (.loc 33)) (upd (upd ρ 24 (bR w (rw l.rows i))) 32 (.bytes ((part (rw l.rows i).r w).take key.length))) (W b f l.q g) = some (.bool (dz op ((part (rw l.rows i).r w).take key.length) key), W b f l.q g) := by
              refine fO (yr (bw (eZ (af lV) (af (dQ rfl (dQ rfl r3))) rfl) (bw (eZ (af lV) (af (dQ rfl (dQ rfl r3))) rfl) (bw (eZ (af lV) (af (dQ rfl (dQ rfl r3))) rfl) eB)))) (af (dQ rfl (dQ rfl r2))) ?_
              rcases hop with rfl | rfl | rfl <;> rfl
            have hs : a9 aE (.slc (.idx (.loc 24) (.lit (.int 0))) (.lit .none) (.bi .len [(.loc 4)])) (upd ρ 24 (bR w (rw l.rows i))) (W b f l.q g) = some (.bytes ((part (rw l.rows i).r w).take key.length), W b f l.q g) := by
              exact js (fO (af lV) bc rfl) bc (xA (v := .int key.length) (i5 (af (dQ rfl r3))) (by simp [aF, hk1])) (by simp [aF, mw, hk2, h4])
            refine ⟨fun q => ?_, fun q => ?_⟩
            · rw [q] at hc
              exact aH hs (ai hc (ap (v := .tup [.int w, .tup [.bytes (part (rw l.rows i).r w), .int (ci (rw l.rows i) w)], .bool false]) (ρ' := upd (upd ρ 24 (bR w (rw l.rows i))) 32 (.bytes ((part (rw l.rows i).r w).take key.length))) (by simp_arith [bR, r4]) (by simp_arith [r1, W, ar] <;> (first | rfl | exact ⟨rfl, rfl⟩)) (ah (by simp_arith [] <;> (first | rfl | exact ⟨rfl, rfl⟩)) trivial)))
            · rw [q] at hc
              exact aH hs (aa hc (b9 (by simp [upd, r1, r2, r3, r4]))))
          (fun ρ hρ H => ap (v := .bool true) (ρ' := ρ) (by simp_arith []) (by simp_arith [hρ.1, W, ar] <;> (first | rfl | exact ⟨rfl, rfl⟩)) (ah (by simp_arith [] <;> (first | rfl | exact ⟨rfl, rfl⟩)) trivial))
      have key3 := aa (Γ := aE) (a := [.ret (.lit (.str 24))]) (e := .cmp .Eq (.idx (.loc 52) (.lit (.str 23))) (.lit (.str 5))) (σ := W b f l g) (ρ := upd (upd (upd (upd ao 52 (.mut 2)) 33 (.str op)) 4 (.bytes key)) 10 (.int w)) (by simp_arith [W, ar, hA]) (aa (a := [.ret (.lit (.str 6))]) (e := .cmp .NotIn (.idx (.loc 52) (.lit (.str 25))) (.tup [(.lit (.str 26)), (.lit (.str 13))])) (by rw [gC rfl, hR]; rfl) (ap (t := .sub (.loc 52) (.lit (.str 21))) (e := .lit (.int (-1))) (ρ' := upd (upd (upd (upd ao 52 (.mut 2)) 33 (.str op)) 4 (.bytes key)) 10 (.int w)) (σ₂ := W b f l.q g) (v := .int (-1)) (by simp_arith []) (by simp_arith [W, ar]) key2))
      revert key3
      generalize (c6 l.rows w).find? (fun i => dz op ((part (rw l.rows i).r w).take key.length) key) = X
      intro key3
      cases X <;> exact aq rfl key3
end
section
variable {b : Int} {f l : Ab} {g : List M} {n : Nat}
noncomputable def sm (old rc : List UInt8) (w : Nat) : Bool := !(old == []) && part old w == part rc w
theorem xV {Γ : Gam} (hΓ : Γ.f 51 = jV) {ρ : aj} {old rc : List UInt8} {w : Nat} (σ : St) (hw : w < 3) (hrc : rc.length = 4) (hold : old = [] ∨ old.length = 4) (r1 : ρ 42 = some (.bytes old)) (r2 : ρ 15 = some (.bytes rc)) (r3 : ρ 10 = some (.int w)) :
    a9 Γ (.and [(.cmp .NotEq (.loc 42) (.lit (.bytes []))), (.cmp .Eq (.call 51 [(.loc 42), (.loc 10)]) (.call 51 [(.loc 15), (.loc 10)]))]) ρ σ = some (.bool (sm old rc w), σ) := by
  refine bz (by simp_arith [r1]) fun h => ?_
  have h4 : old.length = 4 := by
    rcases hold with rfl | h4
    · simp at h
    · exact h4
  exact az (bG (vs := [.bytes old, .int w]) (by simp_arith [r1, r3] <;> (first | rfl | exact ⟨rfl, rfl⟩)) (by rw [hΓ]; exact e9 σ old w hw h4)) (bG (vs := [.bytes rc, .int w]) (by simp_arith [r2, r3] <;> (first | rfl | exact ⟨rfl, rfl⟩)) (by rw [hΓ]; exact e9 σ rc w hw hrc)) (by simp_arith [])
theorem gQ (hl0 : l.rows.length ≤ 60) (hr0 : ∀ r ∈ l.rows, r.r.length = 4) (rc old : List UInt8) (own : Int) (hrc : rc.length = 4) (hold : old = [] ∨ old.length = 4) :
    fP [.mut 2, .bytes rc, .int own, .bytes old] (W b f l g) = some (some (.str (b7 (!(sm old rc 1) && oth l.rows rc 1 own) (!(sm old rc 2) && oth l.rows rc 2 own) l.dbl)), W b f l g) := by
  have hl := dB hl0
  simp only [fP, dk, f9]
  have ho : ∀ (w : Nat) (ρ : aj), w < 3 → ρ 52 = some (.mut 2) → ρ 15 = some (.bytes rc) → ρ 22 = some (.int own) → ρ 10 = some (.int w) → a9 aV (.cmp .NotEq (.comp [35, 56] (.lit (.int 1)) (.idx (.loc 52) (.lit (.str 18))) [(.and [(.cmp .NotEq (.idx (.loc 35) (.lit (.int 0))) (.loc 22)), (.cmp .Eq (.call 51 [(.loc 56), (.loc 10)]) (.call 51 [(.loc 15), (.loc 10)]))])] false false) (.lst [])) ρ (W b f l g) = some (.bool (oth l.rows rc w own), W b f l g) := by
    intro w ρ hw r1 r2 r3 r4
    refine az (u := .list ((l.rows.filter fun r => r.n0 != own && part r.r w == part rc w).map fun H => .int 1)) (w := .list []) (bV (v := .list (l.rows.map bW)) (σ1 := W b f l g) (by simp_arith [r1, W, ar]) (by simp [aF, hl] <;> (first | rfl | exact ⟨rfl, rfl⟩)) ?_) (by simp_arith []) (by simp_arith [eJ, oth])
    refine bO bW (fun r => r.n0 != own && part r.r w == part rc w) (fun H => .int 1) aZ l.rows fun r hr => ⟨_, rfl, xU (bz (x := r.n0 != own) (by simp_arith [r3, bne, bW]) fun H => ?_), fun H => rfl⟩
    exact az (bG (vs := [.bytes r.r, .int w]) (by simp_arith [r4] <;> (first | rfl | exact ⟨rfl, rfl⟩)) (e9 _ r.r w hw (hr0 r hr))) (bG (vs := [.bytes rc, .int w]) (by simp_arith [r2, r4] <;> (first | rfl | exact ⟨rfl, rfl⟩)) (e9 _ rc w hw hrc)) (by simp_arith [])
  generalize hbd : ([.if_ (.and [(.cmp .NotEq (.loc 42) (.lit (.bytes []))), (.cmp .Eq (.call 51 [(.loc 42), (.loc 10)]) (.call 51 [(.loc 15), (.loc 10)]))]) [
      .cont] [],
    .if_ (.cmp .NotEq (.comp [35, 56] (.lit (.int 1)) (.idx (.loc 52) (.lit (.str 18))) [(.and [(.cmp .NotEq (.idx (.loc 35) (.lit (.int 0))) (.loc 22)), (.cmp .Eq (.call 51 [(.loc 56), (.loc 10)]) (.call 51 [(.loc 15), (.loc 10)]))])] false false) (.lst [])) [
      .if_ (.and [(.cmp .Eq (.loc 10) (.lit (.int 2))), (.not (.idx (.loc 52) (.lit (.str 28))))]) [
        .ret (.lit (.str 12))] [],
      .asg (.nm 23) (.lit (.str 3))] []] : List S) = bd
  have hb : ∀ (w : Nat) (ρ : aj), w < 3 → ρ 52 = some (.mut 2) → ρ 15 = some (.bytes rc) → ρ 22 = some (.int own) → ρ 42 = some (.bytes old) →
      (sm old rc w = true → evSs aV bd (upd ρ 10 (.int w)) (W b f l g) = some (.cont, upd ρ 10 (.int w), W b f l g)) ∧
      (sm old rc w = false → oth l.rows rc w own = false → evSs aV bd (upd ρ 10 (.int w)) (W b f l g) = some (.next, upd ρ 10 (.int w), W b f l g)) ∧
      (sm old rc w = false → oth l.rows rc w own = true → (((w : Int) == 2) && !l.dbl) = true → evSs aV bd (upd ρ 10 (.int w)) (W b f l g) = some (.ret (.str 12), upd ρ 10 (.int w), W b f l g)) ∧
      (sm old rc w = false → oth l.rows rc w own = true → (((w : Int) == 2) && !l.dbl) = false → evSs aV bd (upd ρ 10 (.int w)) (W b f l g) = some (.next, upd (upd ρ 10 (.int w)) 23 (.str 3), W b f l g)) := by
    intro w ρ hw r1 r2 r3 r4
    subst hbd
    have e1 := xV (Γ := aV) rfl (W b f l g) hw hrc hold (ρ := upd ρ 10 (.int w)) (by simp [upd, r4]) (by simp [upd, r2]) (by simp [upd])
    have e2 := ho w (upd ρ 10 (.int w)) hw (by simp [upd, r1]) (by simp [upd, r2]) (by simp [upd, r3]) (by simp [upd])
    have e3 : a9 aV (.and [(.cmp .Eq (.loc 10) (.lit (.int 2))), (.not (.idx (.loc 52) (.lit (.str 28))))]) (upd ρ 10 (.int w)) (W b f l g) = some (.bool (((w : Int) == 2) && !l.dbl), W b f l g) :=
      bz (by simp_arith []) fun H => qe (by simp_arith [r1, W, ar])
    refine ⟨fun h => ?_, fun h h2 => ?_, fun h h2 h3 => ?_, fun h h2 h3 => ?_⟩
    · rw [h] at e1
      exact xj e1 (by simp [])
    · rw [h] at e1; rw [h2] at e2
      exact dy e1 (dy e2 cG)
    · rw [h] at e1; rw [h2] at e2; rw [h3] at e3
      exact dy e1 (lb e2 (lb e3 (e7 rfl)))
    · rw [h] at e1; rw [h2] at e2; rw [h3] at e3
      exact dy e1 (jL e2 (dy e3 (rS (v := .str 3) rfl rfl cG)) cG)
  have hb1 := fun ρ => hb 1 ρ (by decide)
  have hb2 := fun ρ => hb 2 ρ (by decide)
  clear hb
  have s1 : ∀ ρ : aj, ρ 52 = some (.mut 2) → ρ 15 = some (.bytes rc) → ρ 22 = some (.int own) → ρ 42 = some (.bytes old) → ρ 23 = some (.str 4) → ∃ ρ2 : aj, (evSs aV bd (upd ρ 10 (.int 1)) (W b f l g) = some (.next, ρ2, W b f l g) ∨ evSs aV bd (upd ρ 10 (.int 1)) (W b f l g) = some (.cont, ρ2, W b f l g)) ∧
      ρ2 52 = some (.mut 2) ∧ ρ2 15 = some (.bytes rc) ∧ ρ2 22 = some (.int own) ∧ ρ2 42 = some (.bytes old) ∧ ρ2 23 = some (.str (if (!(sm old rc 1) && oth l.rows rc 1 own) = true then 3 else 4)) := by
    intro ρ r1 r2 r3 r4 r5
    obtain ⟨c1, c2, c3, c4⟩ := hb1 ρ r1 r2 r3 r4
    cases h : sm old rc 1 with
    | true => exact ⟨_, .inr (c1 h), by simp [upd, r1], by simp [upd, r2], by simp [upd, r3], by simp [upd, r4], by simp [upd, r5]⟩
    | false => cases h2 : oth l.rows rc 1 own with
      | false => exact ⟨_, .inl (c2 h h2), by simp [upd, r1], by simp [upd, r2], by simp [upd, r3], by simp [upd, r4], by simp [upd, r5]⟩
      | true => exact ⟨_, .inl (c4 h h2 (by simp)), by simp [upd, r1], by simp [upd, r2], by simp [upd, r3], by simp [upd, r4], by simp [upd]⟩
  have s2 : ∀ (ρ : aj) (st : Nat), ρ 52 = some (.mut 2) → ρ 15 = some (.bytes rc) → ρ 22 = some (.int own) → ρ 42 = some (.bytes old) → ρ 23 = some (.str st) → 
      (((!(sm old rc 2) && oth l.rows rc 2 own) && !l.dbl) = true → ∃ ρ2 : aj, evSs aV bd (upd ρ 10 (.int 2)) (W b f l g) = some (.ret (.str 12), ρ2, W b f l g)) ∧
      (((!(sm old rc 2) && oth l.rows rc 2 own) && !l.dbl) = false → ∃ ρ2 : aj, (evSs aV bd (upd ρ 10 (.int 2)) (W b f l g) = some (.next, ρ2, W b f l g) ∨ evSs aV bd (upd ρ 10 (.int 2)) (W b f l g) = some (.cont, ρ2, W b f l g)) ∧ ρ2 23 = some (.str (if (!(sm old rc 2) && oth l.rows rc 2 own) = true then 3 else st))) := by
    intro ρ st r1 r2 r3 r4 r5
    obtain ⟨c1, c2, c3, c4⟩ := hb2 ρ r1 r2 r3 r4
    cases h : sm old rc 2 with
    | true => exact ⟨fun z => by simp at z, fun H => ⟨_, .inr (c1 h), by simp [upd, r5]⟩⟩
    | false => cases h2 : oth l.rows rc 2 own with
      | false => exact ⟨fun z => by simp at z, fun H => ⟨_, .inl (c2 h h2), by simp [upd, r5]⟩⟩
      | true => exact ⟨fun z => ⟨_, c3 h h2 (by simpa using z)⟩, fun z => ⟨_, .inl (c4 h h2 (by simpa using z)), by simp [upd]⟩⟩
  refine aq (I := cb) rfl (aH (v := .str 4) rfl ?_)
  obtain ⟨ρ2, e1, r1, r2, r3, r4, r5⟩ := s1 (upd (upd (upd (upd (upd ao 52 (.mut 2)) 15 (.bytes rc)) 22 (.int own)) 42 (.bytes old)) 23 (.str 4)) rfl rfl rfl rfl rfl
  obtain ⟨q1, q2⟩ := s2 ρ2 _ r1 r2 r3 r4 r5
  generalize hT1 : (!(sm old rc 1) && oth l.rows rc 1 own) = T1 at *
  generalize hT2 : (!(sm old rc 2) && oth l.rows rc 2 own) = T2 at *
  have hit : a9 aV (.tup [(.lit (.int 1)), (.lit (.int 2))]) (upd (upd (upd (upd (upd ao 52 (.mut 2)) 15 (.bytes rc)) 22 (.int own)) 42 (.bytes old)) 23 (.str 4)) (W b f l g) = some (.tup [.int 1, .int 2], W b f l g) := by simp_arith []
  cases hz : (T2 && !l.dbl) with
  | true =>
    obtain ⟨ρ3, e2⟩ := q1 hz
    have hfin : b7 T1 T2 l.dbl = 12 := by simp [b7, hz]
    rw [hfin]
    refine gk (jK hit (l := [.int 1, .int 2]) (by simp [aF]) (ρ' := ρ3) (σ₂ := W b f l g) ?_) trivial
    rcases e1 with e1 | e1 <;> simp [cR, e1, e2]
  | false =>
    obtain ⟨ρ3, e2, r6⟩ := q2 hz
    have hfin : b7 T1 T2 l.dbl = if T2 = true then 3 else if T1 = true then 3 else 4 := by
      simp only [b7, hz]
      cases T1 <;> cases T2 <;> rfl
    rw [hfin]
    refine gk (e6 hit (l := [.int 1, .int 2]) (by simp [aF]) (ρ' := ρ3) (σ₂ := W b f l g) ?_ (e7 (by simp_arith [r6]))) trivial
    rcases e1 with e1 | e1 <;> rcases e2 with e2 | e2 <;> simp [cR, e1, e2]
theorem nB (hl0 : l.rows.length ≤ 60) (hr0 : ∀ r ∈ l.rows, r.r.length = 4) (rc old : List UInt8) (hrc : rc.length = 4) (hold : old = [] ∨ old.length = 4) (nv : V) (k : Nat → Int) (hk : ∀ w : Nat, w < 3 → sm old rc w = true → ∀ σ, g8 nv (.int w) σ = some (.int (k w))) :
    qU [.mut 2, .bytes rc, nv, .bytes old] (W b f l g) = some (some .none, W b f { l with rows := l.rows ++ [⟨if sm old rc 0 then k 0 else l.many, if sm old rc 1 then k 1 else l.many, if sm old rc 2 then k 2 else l.many, rc⟩], many := l.many + 1 } g) := by
  have hl : l.rows.length + 1 ≤ 1048576 := zw hl0
  simp only [qU, gr, jN]
  have hc : ∀ ρ : aj, ρ 42 = some (.bytes old) → ρ 15 = some (.bytes rc) → ρ 35 = some nv → ρ 45 = some (.int l.many) → a9 aV (.comp [10] (.ifx (.and [(.cmp .NotEq (.loc 42) (.lit (.bytes []))), (.cmp .Eq (.call 51 [(.loc 42), (.loc 10)]) (.call 51 [(.loc 15), (.loc 10)]))]) (.idx (.loc 35) (.loc 10)) (.loc 45)) (.bi .range [(.lit (.int 3))]) [] false false) ρ (W b f l g)
      = some (.list [.int (if sm old rc 0 then k 0 else l.many), .int (if sm old rc 1 then k 1 else l.many), .int (if sm old rc 2 then k 2 else l.many)], W b f l g) := by
    intro ρ r1 r2 r3 r4
    refine bV (v := .rng 0 3) (o := none) (l := [.int 0, .int 1, .int 2]) (σ1 := W b f l g) (by simp_arith []) (by simp [aF, aR]) ?_
    refine bj (l₀ := [.int 0, .int 1, .int 2]) (fun (w : Nat) => V.int w) (fun w => .int (if sm old rc w then k w else l.many)) aZ [0, 1, 2] fun w hw => ⟨_, rfl, rfl, ?_⟩
    have hw3 := CG hw
    rw [show V.int (if sm old rc w = true then k w else l.many) = if sm old rc w = true then V.int (k w) else V.int l.many from by split <;> rfl]
    refine eK (xV (Γ := aV) rfl _ hw3 hrc hold (by simp [upd, r1]) (by simp [upd, r2]) (by simp [upd])) (fun h => ?_) fun H => by simp_arith [r4]
    have := hk w hw3 h (W b f l g)
    simp [upd, r3, this]
  refine mK (I := cb) rfl (aH (v := .int l.many) (by simp_arith [W, ar]) (aH (hc _ rfl rfl rfl rfl) (ap (v := .tup [.list ((l.rows ++ [(⟨if sm old rc 0 then k 0 else l.many, if sm old rc 1 then k 1 else l.many, if sm old rc 2 then k 2 else l.many, rc⟩ : Row)]).map bW), .int (l.many + 1)]) (ρ' := upd (upd (upd (upd (upd (upd ao 52 (.mut 2)) 15 (.bytes rc)) 35 nv) 42 (.bytes old)) 45 (.int l.many)) 57 (.list [.int (if sm old rc 0 then k 0 else l.many), .int (if sm old rc 1 then k 1 else l.many), .int (if sm old rc 2 then k 2 else l.many)])) ?_ ?_ (b9 trivial))))
  · simp_arith [W, ar, hl, bW]
  · simp_arith [W, ar]
end
section
variable {b : Int} {f l : Ab} {g : List M} {n : Nat}
theorem kT : ∀ (xs : List (List UInt8)) (a : List UInt8), kR (.bytes a) (xs.map V.bytes) = some (.bytes (ie a xs))
  | [], a => by simp [kR, ie]
  | x :: xs, a => by
    simp only [List.map_cons, kR, nh, qO, Option.bind_some, ie]
    cases h : bX a x <;> simp [kT]
theorem fW (k : List UInt8) : ∀ (xs : List (List UInt8)), sC (.bytes k) (xs.map V.bytes) = some (xs.any fun x => x == k)
  | [] => rfl
  | x :: xs => by simp [fW k xs]
theorem kU (rows : List Row) (h : rows ≠ []) (hl : rows.length ≤ 60) (σ : St) : py .max [.list (rows.map fun r => .bytes (part r.r 0))] σ = some (.bytes (dC rows)) := by
  cases rows with
  | nil => exact absurd rfl h
  | cons r rs =>
    have h1 : rs.length ≤ 1048576 := Nat.le_trans (Nat.le_succ _) (dB hl)
    have := kT (rs.map fun r => part r.r 0) (part r.r 0)
    simp only [List.map_map, Function.comp_def] at this
    simp [aF, h1, dC, List.map_map, Function.comp_def, this]
noncomputable def CJ (a : Ab) (rc : List UInt8) : Ab := { a with last := -1, rows := a.rows ++ [⟨a.many, a.many, a.many, rc⟩], many := a.many + 1, high := part rc 0 }
theorem Fd {a : Ab} {rc : List UInt8} (h : ig a = false) : bH a rc = (some (.str 14), a) := if_pos h
theorem Du {a : Ab} {rc : List UInt8} (h : ig a = true) (c : (a.acc == 1 && !a.rows.isEmpty && !bX (dC a.rows) (part rc 0)) = true) : bH a rc = (some (.str 15), a.q) := (if_neg (ne_false_of_eq_true h)).trans (if_pos c)
theorem Dt {a : Ab} {rc : List UInt8} (h : ig a = true) (c : (a.acc == 1 && !a.rows.isEmpty && !bX (dC a.rows) (part rc 0)) = false) (d : (!(a.acc == 1) && a.rows.any fun r => part r.r 0 == part rc 0) = true) : bH a rc = (some (.str 12), a.q) := ((if_neg (ne_false_of_eq_true h)).trans (if_neg (ne_true_of_eq_false c))).trans (if_pos d)
theorem Dv {a : Ab} {rc : List UInt8} {st : Nat} (h : ig a = true) (c : (a.acc == 1 && !a.rows.isEmpty && !bX (dC a.rows) (part rc 0)) = false) (d : (!(a.acc == 1) && a.rows.any fun r => part r.r 0 == part rc 0) = false)
    (hst : b7 (oth a.rows rc 1 (-1)) (oth a.rows rc 2 (-1)) a.dbl = st) : bH a rc = (some (.str st), if st = 12 then a.q else CJ a rc) := by
  refine ((if_neg (ne_false_of_eq_true h)).trans (if_neg (ne_true_of_eq_false c))).trans ((if_neg (ne_true_of_eq_false d)).trans ?_)
  rw [hst]
  by_cases h12 : st = 12
  · rw [if_pos h12, if_pos h12, h12]
  · rw [if_neg h12, if_neg h12]; rfl
def xG (b : Int) (f : Ab) (g : List M) (op : Option V × Ab) (ss : List S) (ρ : aj) (σ : St) : Prop := ∃ v l', Rn aE cb ss ρ σ (.ret v) (W b f l' g) ∧ op = (some v, l')
theorem xG.of {op : Option V × Ab} {ss ss' : List S} {ρ ρ' : aj} {σ σ1 : St} (h : ∀ v σ', Rn aE cb ss' ρ' σ1 (.ret v) σ' → Rn aE cb ss ρ σ (.ret v) σ') (k : xG b f g op ss' ρ' σ1) : xG b f g op ss ρ σ :=
  k.elim fun v z => z.elim fun l' z => ⟨v, l', h _ _ z.1, z.2⟩
theorem xG.fin {op : Option V × Ab} {ps : List Nat} {bd : List S} {args : List V} {ρ : aj} {σ : St} (hb : ak ps args ao = some ρ) (k : xG b f g op bd ρ σ) : d6 aE ps bd args σ = some (some (op.1.getD (.str 24)), W b f op.2 g) :=
  k.elim fun v z => z.elim fun l' z => by rw [z.2]; exact aq hb z.1
theorem pH (hI : Inv n l) (hn : n < 60) (rc : List UInt8) (hrc : rc.length = 4) : jy [.mut 2, .bytes rc] (W b f l g) = some (some ((bH l rc).1.getD (.str 24)), W b f (bH l rc).2 g) := by
  have hl := hI.l60 (Nat.le_of_lt hn)
  have hl1 := dB hl
  have hr4 : ∀ (r : Row), r ∈ l.rows → r.r.length ≤ 1048576 := fun r hr => Bh (hI.r4 r hr)
  have hx : a9 aE (.cmp .Eq (.idx (.loc 52) (.lit (.str 23))) (.lit (.str 1))) (upd (upd ao 52 (.mut 2)) 15 (.bytes rc)) (W b f l g) = some (.bool (l.acc == 1), W b f l g) := by simp_arith [W, ar]
  refine xG.fin (ρ := upd (upd ao 52 (.mut 2)) 15 (.bytes rc)) rfl (xG.of (fun v σ' e1 => aH hx e1) ?_)
  generalize hρ : upd (upd (upd ao 52 (.mut 2)) 15 (.bytes rc)) 58 (.bool (l.acc == 1)) = ρ
  have r1 : ρ 52 = some (.mut 2) := by subst hρ; rfl
  have r2 : ρ 15 = some (.bytes rc) := by subst hρ; rfl
  have r3 : ρ 58 = some (.bool (l.acc == 1)) := by subst hρ; rfl
  clear hρ hx
  have hm : a9 aE (.cmp .NotIn (.idx (.loc 52) (.lit (.str 25))) (.ifx (.loc 58) (.tup [(.lit (.str 2)), (.lit (.str 0))]) (.tup [(.lit (.str 2)), (.lit (.str 13))]))) ρ (W b f l g) = some (.bool (!ig l), W b f l g) := by
    refine az (u := .str l.mode) (w := if (l.acc == 1) = true then .tup [.str 2, .str 0] else .tup [.str 2, .str 13]) (by simp_arith [r1, W, ar]) (eK (by simp [r3]) (fun H => by simp_arith []) fun H => by simp_arith []) ?_
    cases h : l.acc == 1 <;> simp_arith [ig, h]
  cases hM : ig l with
  | false =>
    rw [hM] at hm
    exact ⟨_, _, ai hm (ah rfl trivial), Fd hM⟩
  | true =>
    rw [hM] at hm
    have hp : a9 aE (.comp [35, 56] (.slc (.loc 56) (.lit .none) (.lit (.int 2))) (.idx (.loc 52) (.lit (.str 18))) [] false false) ρ (W b f l.q g) = some (.list (l.rows.map fun r => .bytes (part r.r 0)), W b f l.q g) := by
      refine bV (v := .list (l.rows.map bW)) (σ1 := W b f l.q g) (by simp_arith [r1, W, ar]) (by simp [aF, hl1] <;> (first | rfl | exact ⟨rfl, rfl⟩)) ?_
      exact bj bW (fun r => .bytes (part r.r 0)) aZ l.rows fun r hr => ⟨_, rfl, rfl, by simp_arith [hr4 r hr, part, lo, hi]⟩
    refine xG.of (fun v σ' e1 => aa hm (ap (v := .int (-1)) (ρ' := ρ) (σ₂ := W b f l.q g) rfl (by simp_arith [r1, W, ar]) (aH hp e1))) ?_
    clear hp hm
    generalize hρ' : upd ρ 59 (.list (l.rows.map fun r => .bytes (part r.r 0))) = ρ'
    have q1 : ρ' 52 = some (.mut 2) := by subst hρ'; simp [upd, r1]
    have q2 : ρ' 15 = some (.bytes rc) := by subst hρ'; simp [upd, r2]
    have q3 : ρ' 58 = some (.bool (l.acc == 1)) := by subst hρ'; simp [upd, r3]
    have q4 : ρ' 59 = some (.list (l.rows.map fun r => .bytes (part r.r 0))) := by subst hρ'; simp [upd]
    clear hρ' r1 r2 r3
    have h1 : a9 aE (.and [(.loc 58), (.cmp .NotEq (.loc 59) (.lst [])), (.cmp .LtE (.slc (.loc 15) (.lit .none) (.lit (.int 2))) (.bi .max [(.loc 59)]))]) ρ' (W b f l.q g) = some (.bool (l.acc == 1 && !l.rows.isEmpty && !bX (dC l.rows) (part rc 0)), W b f l.q g) := by
      refine wE (by simp [q3]) (fun H => by simp_arith [q4, eJ]) fun H hne => ?_
      have hne' : l.rows ≠ [] := by intro z; simp [z] at hne
      exact az (u := .bytes (part rc 0)) (w := .bytes (dC l.rows)) (by simp_arith [q2, hrc, part, lo, hi]) (cX (by simp_arith [q4]) (kU _ hne' hl _)) (by simp_arith [])
    have h2 : a9 aE (.and [(.not (.loc 58)), (.cmp .In (.slc (.loc 15) (.lit .none) (.lit (.int 2))) (.loc 59))]) ρ' (W b f l.q g) = some (.bool (!(l.acc == 1) && l.rows.any fun r => part r.r 0 == part rc 0), W b f l.q g) := by
      refine bz (qe (by simp [q3])) fun H => ?_
      refine az (u := .bytes (part rc 0)) (w := .list (l.rows.map fun r => .bytes (part r.r 0))) (by simp_arith [q2, hrc, part, lo, hi]) (by simp_arith [q4]) ?_
      have := fW (part rc 0) (l.rows.map fun r => part r.r 0)
      simp only [List.map_map, Function.comp_def, List.any_map] at this
      simp [this]
    cases c1 : (l.acc == 1 && !l.rows.isEmpty && !bX (dC l.rows) (part rc 0)) with
    | true =>
      rw [c1] at h1
      exact ⟨_, _, ai h1 (ah rfl trivial), Du hM c1⟩
    | false =>
      rw [c1] at h1
      cases c2 : (!(l.acc == 1) && l.rows.any fun r => part r.r 0 == part rc 0) with
      | true =>
        rw [c2] at h2
        exact ⟨_, _, aa h1 (ai h2 (ah rfl trivial)), Dt hM c1 c2⟩
      | false =>
        rw [c2] at h2
        have e3 : a9 aE (.call 60 [(.loc 52), (.loc 15), (.lit (.int (-1))), (.lit (.bytes []))]) ρ' (W b f l.q g) = some (.str (b7 (oth l.rows rc 1 (-1)) (oth l.rows rc 2 (-1)) l.dbl), W b f l.q g) :=
          bG (vs := [.mut 2, .bytes rc, .int (-1), .bytes []]) (by simp_arith [q1, q2] <;> (first | rfl | exact ⟨rfl, rfl⟩)) ((gQ (b := b) (f := f) (g := g) (l := l.q) hl hI.r4 rc [] (-1) hrc (.inl rfl)).trans (by simp [sm, Ab.q]))
        generalize hst : b7 (oth l.rows rc 1 (-1)) (oth l.rows rc 2 (-1)) l.dbl = st at e3
        by_cases h12 : st = 12
        · subst h12
          exact ⟨_, _, aa h1 (aa h2 (aH e3 (aa (by simp_arith []) (ah rfl trivial)))), Dv hM c1 c2 hst⟩
        · refine ⟨.str st, CJ l rc, aa h1 (aa h2 (aH e3 (db (J := fun ρ => ρ 23 = some (.str st)) (σ1 := W b f l.q g) (by simp_arith [h12]) (fH (v := .none) (bG (vs := [.mut 2, .bytes rc, .tup [], .bytes []]) (by simp_arith [q1, q2] <;> (first | rfl | exact ⟨rfl, rfl⟩)) (nB (l := l.q) hl hI.r4 rc [] hrc (.inl rfl) (.tup []) (fun H => 0) (fun w H z => by simp [sm] at z))) (b9 (by simp [upd]))) fun ρ2 z => ah (v := .str st) (by simp_arith [z]) trivial))), (Dv hM c1 c2 hst).trans (by rw [if_neg h12])⟩
end
theorem pF.ne {a b : Row} (h : pF a b) : (b.r == a.r) = false := by
  refine beq_eq_false_iff_ne.mpr fun z => h.1 ?_
  rw [z]
theorem lG : ∀ (rows : List Row) (p : Nat), rows.Pairwise pF → p < rows.length → rows.filter (fun r => !(r.r == (rw rows p).r)) = rows.eraseIdx p
  | [], p, _, h => by simp at h
  | a :: rs, 0, hd, _ => by
    obtain ⟨h1, h2⟩ := List.pairwise_cons.mp hd
    have : rs.filter (fun r => !(r.r == a.r)) = rs := List.filter_eq_self.mpr fun r hr => by rw [(h1 r hr).ne]; rfl
    simp [rw, this]
  | a :: rs, p + 1, hd, h => by
    obtain ⟨h1, h2⟩ := List.pairwise_cons.mp hd
    have hp : p < rs.length := by simpa using h
    have e : rw (a :: rs) (p + 1) = rw rs p := by simp [rw]
    rw [e, List.eraseIdx_cons_succ, List.filter_cons, if_pos (by rw [(h1 _ (d0 hp)).symm.ne]; rfl), lG rs p h2 hp]
theorem nY {c : Row → Bool} {rows : List Row} (h : rows.findIdx? c = none) : rows.filter c = [] := by
  rw [List.findIdx?_eq_none_iff] at h
  rw [List.filter_eq_nil_iff]
  intro a ha
  simp [h a ha]
theorem cu {c : Row → Bool} : ∀ {rows : List Row} {p : Nat}, rows.findIdx? c = some p → p < rows.length ∧ c (rw rows p) = true ∧ ∃ t, rows.filter c = rw rows p :: t
  | [], p, h => by simp at h
  | a :: rs, p, h => by
    rw [List.findIdx?_cons] at h
    cases hc : c a with
    | true =>
      rw [hc] at h
      simp at h
      subst h
      exact ⟨by simp, by simpa [rw] using hc, rs.filter c, by simp [rw, hc]⟩
    | false =>
      rw [hc] at h
      simp at h
      obtain ⟨q, hq, rfl⟩ := h
      obtain ⟨h1, h2, t, h3⟩ := cu hq
      refine ⟨by simpa using h1, by simpa [rw] using h2, t, ?_⟩
      rw [List.filter_cons, if_neg (by simp [hc]), h3]
      simp [rw]
theorem wU : ∀ {a : List UInt8}, a.length = 4 → ∃ x y z w, a = [x, y, z, w]
  | [x, y, z, w], _ => ⟨x, y, z, w, rfl⟩
theorem x9 {a b : List UInt8} (ha : a.length = 4) (hb : b.length = 4) : (a.drop 2 == b.drop 2) = (part a 1 == part b 1 && part a 2 == part b 2) := by
  obtain ⟨a0, a1, a2, a3, rfl⟩ := wU ha
  obtain ⟨b0, b1, b2, b3, rfl⟩ := wU hb
  simp [part, lo, hi]
theorem yF {a b : List UInt8} (ha : a.length = 4) (hb : b.length = 4) (h0 : part a 0 = part b 0) (h1 : part a 1 = part b 1) (h2 : part a 2 = part b 2) : a = b := by
  obtain ⟨a0, a1, a2, a3, rfl⟩ := wU ha
  obtain ⟨b0, b1, b2, b3, rfl⟩ := wU hb
  cases h0; cases h1; cases h2; rfl
section
variable {b : Int} {f l : Ab} {g : List M} {n : Nat}
noncomputable def gm (a : Ab) (key : List UInt8) (r : Row) : Bool := if (a.acc == 1) = true then r.n0 == a.last else part r.r 0 == key
theorem jJ (a : Ab) (key : List UInt8) : gJ a key = a.rows.findIdx? (gm a key) := by
  unfold gJ gm c7
  split <;> rfl
noncomputable def bk (a : Ab) (rc : List UInt8) (del : Bool) : Option V × Ab := if del = true then bB a (part rc 0) else bg a rc
theorem B1 {a : Ab} {rc : List UInt8} {del : Bool} (h : (a.mode == 13) = false) : bk a rc del = (some (.str 16), a) := by
  unfold bk bB bg; rw [h]; cases del <;> rfl
theorem B2 {a : Ab} {rc : List UInt8} {del : Bool} (h : (a.mode == 13) = true) (hs : gJ a (part rc 0) = none) : bk a rc del = (some (if (a.acc == 1) = true then .str 17 else .str 9), a) := by
  unfold bk bB bg; rw [h, hs]; cases del <;> cases a.acc == 1 <;> rfl
theorem B0 {a : Ab} {rc : List UInt8} {p : Nat} (h : (a.mode == 13) = true) (hs : gJ a (part rc 0) = some p) : bk a rc true = (some (.str 4), a.qr (a.rows.eraseIdx p)) := by
  unfold bk bB; rw [h, hs]; rfl
theorem yR {a : Ab} {rc : List UInt8} {p : Nat} {row : Row} (h : (a.mode == 13) = true) (hs : gJ a (part rc 0) = some p) (hr : rw a.rows p = row) (h0 : (part row.r 0 == part rc 0) = false) : bk a rc false = (some (.str 15), a.q) := by
  subst hr
  unfold bk bg cF; rw [h, hs]; dsimp only; rw [h0]; rfl
noncomputable def uP (a : Ab) (rc : List UInt8) (p : Nat) (row : Row) : Ab := { a with last := -1, rows := a.rows.eraseIdx p ++ [⟨row.n0, if (!(part row.r 1 == part rc 1)) = true then a.many else row.n1, if (!(part row.r 2 == part rc 2)) = true then a.many else row.n2, rc⟩], many := a.many + 1 }
theorem tw {a : Ab} {rc : List UInt8} {p st : Nat} {row : Row} (h : (a.mode == 13) = true) (hs : gJ a (part rc 0) = some p) (hr : rw a.rows p = row) (h0 : (part row.r 0 == part rc 0) = true)
    (hst : b7 (!(part row.r 1 == part rc 1) && oth a.rows rc 1 row.n0) (!(part row.r 2 == part rc 2) && oth a.rows rc 2 row.n0) a.dbl = st) :
    bk a rc false = (some (.str st), if st = 12 then a.q else if (!(part row.r 1 == part rc 1) || !(part row.r 2 == part rc 2)) = true then uP a rc p row else a.q) := by
  subst hr
  have e : cZ a rc p = (st, if st = 12 then a.q else if (!(part (rw a.rows p).r 1 == part rc 1) || !(part (rw a.rows p).r 2 == part rc 2)) = true then uP a rc p (rw a.rows p) else a.q) := by
    unfold cZ cF; rw [hst]
    by_cases h12 : st = 12
    · rw [if_pos h12, if_pos h12, h12]
    · rw [if_neg h12, if_neg h12]
      cases (!(part (rw a.rows p).r 1 == part rc 1) || !(part (rw a.rows p).r 2 == part rc 2)) <;> rfl
  unfold bk bg; rw [h, hs]
  show (if (!(part (rw a.rows p).r 0 == part rc 0)) = true then _ else (some (V.str (cZ a rc p).1), (cZ a rc p).2)) = _
  rw [h0, e]; rfl
def xC (b : Int) (f l : Ab) (g : List M) (rc : List UInt8) (del : Bool) (ss : List S) (ρ : aj) (σ : St) : Prop := ∃ v l', Rn aE cb ss ρ σ (.ret v) (W b f l' g) ∧ bk l rc del = (some v, l')
theorem xC.of {rc : List UInt8} {del : Bool} {ss ss' : List S} {ρ ρ' : aj} {σ σ1 : St} (h : ∀ v σ', Rn aE cb ss' ρ' σ1 (.ret v) σ' → Rn aE cb ss ρ σ (.ret v) σ') (k : xC b f l g rc del ss' ρ' σ1) : xC b f l g rc del ss ρ σ :=
  k.elim fun v z => z.elim fun l' z => ⟨v, l', h _ _ z.1, z.2⟩
theorem xC.fin {rc : List UInt8} {del : Bool} {ρ : aj} (hb : ak dR [.mut 2, .bytes rc, .bool del] ao = some ρ) (k : xC b f l g rc del ga ρ (W b f l g)) : e8 [.mut 2, .bytes rc, .bool del] (W b f l g) = some (some ((bk l rc del).1.getD (.str 24)), W b f (bk l rc del).2 g) :=
  k.elim fun v z => z.elim fun l' z => by rw [z.2]; exact aq hb z.1
theorem j8 (hI : Inv n l) (hn : n < 60) (rc : List UInt8) (hrc : rc.length = 4) (del : Bool) : e8 [.mut 2, .bytes rc, .bool del] (W b f l g) = some (some ((bk l rc del).1.getD (.str 24)), W b f (bk l rc del).2 g) := by
  have hl := hI.l60 (Nat.le_of_lt hn)
  have hl1 := dB hl
  have hr4 : ∀ (r : Row), r ∈ l.rows → r.r.length ≤ 1048576 := fun r hr => Bh (hI.r4 r hr)
  refine xC.fin rfl ?_
  generalize hρ : upd (upd (upd ao 52 (.mut 2)) 15 (.bytes rc)) 62 (.bool del) = ρ
  have r1 : ρ 52 = some (.mut 2) := by subst hρ; rfl
  have r2 : ρ 15 = some (.bytes rc) := by subst hρ; rfl
  have r3 : ρ 62 = some (.bool del) := by subst hρ; rfl
  clear hρ
  have hm : a9 aE (.cmp .NotEq (.idx (.loc 52) (.lit (.str 25))) (.lit (.str 13))) ρ (W b f l g) = some (.bool (!(l.mode == 13)), W b f l g) := by simp_arith [r1, W, ar]
  cases hM : l.mode == 13 with
  | false =>
    rw [hM] at hm
    exact ⟨_, _, ai hm (ah (v := .str 16) rfl trivial), B1 hM⟩
  | true =>
    rw [hM] at hm
    have hx : a9 aE (.cmp .Eq (.idx (.loc 52) (.lit (.str 23))) (.lit (.str 1))) ρ (W b f l g) = some (.bool (l.acc == 1), W b f l g) := by simp_arith [r1, W, ar]
    have hf : a9 aE (.comp [24] (.loc 24) (.idx (.loc 52) (.lit (.str 18))) [(.ifx (.loc 58) (.cmp .Eq (.idx (.idx (.loc 24) (.lit (.int 0))) (.lit (.int 0))) (.idx (.loc 52) (.lit (.str 21)))) (.cmp .Eq (.slc (.idx (.loc 24) (.lit (.int 1))) (.lit .none) (.lit (.int 2))) (.slc (.loc 15) (.lit .none) (.lit (.int 2)))))] false false) (upd ρ 58 (.bool (l.acc == 1))) (W b f l g) = some (.list ((l.rows.filter (gm l (part rc 0))).map bW), W b f l g) := by
      refine bV (v := .list (l.rows.map bW)) (σ1 := W b f l g) (by simp_arith [r1, W, ar]) (by simp [aF, hl1] <;> (first | rfl | exact ⟨rfl, rfl⟩)) ?_
      refine bO bW (gm l (part rc 0)) bW aZ l.rows fun r hr => ⟨_, rfl, xU ?_, fun H => rfl⟩
      unfold gm
      rw [show V.bool (if (l.acc == 1) = true then r.n0 == l.last else part r.r 0 == part rc 0) = if (l.acc == 1) = true then V.bool (r.n0 == l.last) else V.bool (part r.r 0 == part rc 0) from by split <;> rfl]
      exact eK rfl (fun H => by simp_arith [r1, W, ar, bW]) fun H => by simp_arith [r2, bW, hr4 r hr, hrc, part, lo, hi]
    refine xC.of (fun v σ' e1 => aa hm (aH hx (aH hf e1))) ?_
    clear hm hx hf
    generalize hρ' : upd (upd ρ 58 (.bool (l.acc == 1))) 20 (.list ((l.rows.filter (gm l (part rc 0))).map bW)) = ρ'
    have q1 : ρ' 52 = some (.mut 2) := by subst hρ'; simp [upd, r1]
    have q2 : ρ' 15 = some (.bytes rc) := by subst hρ'; simp [upd, r2]
    have q3 : ρ' 62 = some (.bool del) := by subst hρ'; simp [upd, r3]
    have q4 : ρ' 58 = some (.bool (l.acc == 1)) := by subst hρ'; simp [upd]
    have q5 : ρ' 20 = some (.list ((l.rows.filter (gm l (part rc 0))).map bW)) := by subst hρ'; simp [upd]
    clear hρ' r1 r2 r3
    have he : a9 aE (.cmp .Eq (.loc 20) (.lst [])) ρ' (W b f l g) = some (.bool (l.rows.filter (gm l (part rc 0))).isEmpty, W b f l g) := by simp_arith [q5, eJ]
    cases hs : l.rows.findIdx? (gm l (part rc 0)) with
    | none =>
      rw [nY hs] at he
      exact ⟨_, _, ai he (ah (eK (x := l.acc == 1) (u := .str 17) (w := .str 9) (af q4) (fun H => rfl) fun H => rfl) trivial), B2 hM ((jJ _ _).trans hs)⟩
    | some p =>
      obtain ⟨hp, hc, t, ht⟩ := cu hs
      rw [ht] at he q5
      have h4 : (rw l.rows p).r.length = 4 := hI.r4 _ (d0 hp)
      have hlt : t.length + 1 ≤ 1048576 := by
        have := List.length_filter_le (gm l (part rc 0)) l.rows
        rw [ht] at this
        exact Nat.le_trans this hl1
      have hfn := lG l.rows p hI.pw hp
      obtain ⟨row, hrow⟩ : ∃ row, rw l.rows p = row := ⟨_, rfl⟩
      simp only [hrow] at he q5 h4 hfn hc
      have hs' := (jJ l (part rc 0)).trans hs
      clear ht
      have hdel : ∀ (ρ2 : aj), ρ2 52 = some (.mut 2) → ρ2 42 = some (.bytes row.r) → a9 aE (.comp [24] (.loc 24) (.idx (.loc 52) (.lit (.str 18))) [(.cmp .NotEq (.idx (.loc 24) (.lit (.int 1))) (.loc 42))] false false) ρ2 (W b f l.q g) = some (.list ((l.rows.eraseIdx p).map bW), W b f l.q g) := by
        intro ρ2 z1 z2
        rw [← hfn]
        refine bV (v := .list (l.rows.map bW)) (σ1 := W b f l.q g) (by simp_arith [z1, W, ar]) (by simp [aF, hl1] <;> (first | rfl | exact ⟨rfl, rfl⟩)) ?_
        exact bO bW (fun r => !(r.r == row.r)) bW aZ l.rows fun r hr => ⟨_, rfl, xU (by simp_arith [z2, bW]), fun H => rfl⟩
      have hi0 : a9 aE (.idx (.loc 20) (.lit (.int 0))) ρ' (W b f l.q g) = some (bW row, W b f l.q g) := by simp_arith [q5, hlt]
      refine xC.of (fun v σ' e1 => aa he (ap (v := .int (-1)) (ρ' := ρ') (σ₂ := W b f l.q g) rfl (by simp_arith [q1, W, ar]) (ap (v := bW row) (ρ' := upd (upd ρ' 35 (.tup [.int row.n0, .int row.n1, .int row.n2])) 42 (.bytes row.r)) (σ₂ := W b f l.q g) hi0 (by simp_arith [bW]) e1))) ?_
      clear hi0 he
      generalize hρ2 : upd (upd ρ' 35 (.tup [.int row.n0, .int row.n1, .int row.n2])) 42 (.bytes row.r) = ρ2
      have u1 : ρ2 52 = some (.mut 2) := by subst hρ2; simp [upd, q1]
      have u2 : ρ2 15 = some (.bytes rc) := by subst hρ2; simp [upd, q2]
      have u3 : ρ2 62 = some (.bool del) := by subst hρ2; simp [upd, q3]
      have u4 : ρ2 42 = some (.bytes row.r) := by subst hρ2; simp [upd]
      have u5 : ρ2 35 = some (.tup [.int row.n0, .int row.n1, .int row.n2]) := by subst hρ2; simp [upd]
      clear hρ2 q1 q2 q3 q4 q5
      have hd : a9 aE (.loc 62) ρ2 (W b f l.q g) = some (.bool del, W b f l.q g) := by simp_arith [u3]
      cases del with
      | true =>
        exact ⟨_, _, ai hd (ap (hdel ρ2 u1 u4) (ρ' := ρ2) (σ₂ := W b f (l.qr (l.rows.eraseIdx p)) g) (by simp_arith [u1, W, ar]) (ah (v := .str 4) rfl trivial)), B0 hM hs'⟩
      | false =>
        have h15 : a9 aE (.cmp .NotEq (.slc (.loc 42) (.lit .none) (.lit (.int 2))) (.slc (.loc 15) (.lit .none) (.lit (.int 2)))) ρ2 (W b f l.q g) = some (.bool (!(part row.r 0 == part rc 0)), W b f l.q g) := by simp_arith [u2, u4, h4, hrc, part, lo, hi]
        cases c0 : part row.r 0 == part rc 0 with
        | false =>
          rw [c0] at h15
          exact ⟨_, _, aa hd (ai h15 (ah (v := .str 15) rfl trivial)), yR hM hs' hrow c0⟩
        | true =>
          rw [c0] at h15
          have hne : row.r ≠ [] := fun z => by rw [z] at h4; cases h4
          have hsm : ∀ w, sm row.r rc w = (part row.r w == part rc w) := fun w => by
            unfold sm
            rw [beq_eq_false_iff_ne.mpr hne]
            rfl
          have e3 : a9 aE (.call 60 [(.loc 52), (.loc 15), (.idx (.loc 35) (.lit (.int 0))), (.loc 42)]) ρ2 (W b f l.q g) = some (.str (b7 (!(part row.r 1 == part rc 1) && oth l.rows rc 1 row.n0) (!(part row.r 2 == part rc 2) && oth l.rows rc 2 row.n0) l.dbl), W b f l.q g) :=
            bG (vs := [.mut 2, .bytes rc, .int row.n0, .bytes row.r]) (by simp_arith [u1, u2, u4, u5] <;> (first | rfl | exact ⟨rfl, rfl⟩)) ((gQ (b := b) (f := f) (g := g) (l := l.q) hl hI.r4 rc row.r row.n0 hrc (.inr h4)).trans (by rw [hsm, hsm]; rfl))
          generalize hst : b7 (!(part row.r 1 == part rc 1) && oth l.rows rc 1 row.n0) (!(part row.r 2 == part rc 2) && oth l.rows rc 2 row.n0) l.dbl = st at e3
          have hlast : ∀ ρ3 : aj, ρ3 23 = some (.str st) → ρ3 15 = some (.bytes rc) → ρ3 42 = some (.bytes row.r) → a9 aE (.and [(.cmp .NotEq (.loc 23) (.lit (.str 12))), (.cmp .NotEq (.slc (.loc 42) (.lit (.int 2)) (.lit .none)) (.slc (.loc 15) (.lit (.int 2)) (.lit .none)))]) ρ3 (W b f l.q g) = some (.bool (!(st == 12) && (!(part row.r 1 == part rc 1) || !(part row.r 2 == part rc 2))), W b f l.q g) := by
            intro ρ3 z1 z2 z3
            refine bz (by simp_arith [z1]) fun H => ?_
            rw [← Bool.not_and, ← x9 h4 hrc]
            have t1 : row.r.take 4 = row.r := rU h4
            have t2 : rc.take 4 = rc := rU hrc
            simp_arith [z2, z3, h4, hrc, t1, t2]
          by_cases h12 : st = 12
          · subst h12
            exact ⟨_, _, aa hd (aa h15 (aH e3 (aa (by rw [hlast _ (by simp [upd]) (by simp [upd, u2]) (by simp [upd, u4])]; rfl) (ah (v := .str 12) rfl trivial)))), tw hM hs' hrow c0 hst⟩
          · have h12b : (st == 12) = false := beq_eq_false_iff_ne.mpr h12
            cases c1 : (!(part row.r 1 == part rc 1) || !(part row.r 2 == part rc 2)) with
            | false =>
              exact ⟨_, _, aa hd (aa h15 (aH e3 (aa (by rw [hlast _ (by simp [upd]) (by simp [upd, u2]) (by simp [upd, u4]), c1, h12b]; rfl) (ah (v := .str st) rfl trivial)))), (tw hM hs' hrow c0 hst).trans (by rw [if_neg h12, c1, if_neg Bool.false_ne_true])⟩
            | true =>
              refine ⟨.str st, uP l rc p row, aa hd (aa h15 (aH e3 (db (J := fun ρ => ρ 23 = some (.str st)) (σ1 := W b f l.q g) (by rw [hlast _ (by simp [upd]) (by simp [upd, u2]) (by simp [upd, u4]), c1, h12b]; rfl)
                (ap (hdel _ (by simp [upd, u1]) (by simp [upd, u4])) (ρ' := upd ρ2 23 (.str st)) (σ₂ := W b f (l.qr (l.rows.eraseIdx p)) g) (by simp_arith [u1, W, ar]) (fH (v := .none) (bG (vs := [.mut 2, .bytes rc, .tup [.int row.n0, .int row.n1, .int row.n2], .bytes row.r]) (by simp_arith [u1, u2, u4, u5] <;> (first | rfl | exact ⟨rfl, rfl⟩))
                  ((nB (l := l.qr (l.rows.eraseIdx p)) (rq hl p) (fun r hr => hI.r4 r (List.mem_of_mem_eraseIdx hr)) rc row.r hrc (.inr h4) (.tup [.int row.n0, .int row.n1, .int row.n2]) (ci row) (fun w hw H σ => rF row w hw σ)).trans (congrArg (fun A => some (some V.none, W b f A g)) (by unfold uP; rw [hsm, hsm, hsm, c0]; cases (part row.r 1 == part rc 1) <;> cases (part row.r 2 == part rc 2) <;> rfl : _ = uP l rc p row)))) (b9 (by simp [upd])))) fun ρ3 z => ah (v := .str st) (by simp_arith [z]) trivial))), (tw hM hs' hrow c0 hst).trans (by rw [if_neg h12, c1, if_pos rfl])⟩
end
theorem kD (q : Row → Bool) : ∀ rows : List Row, (List.range rows.length).find? (fun i => q (rw rows i)) = rows.findIdx? q
  | [] => rfl
  | a :: rs => by
    rw [List.length_cons, List.range_succ_eq_map, List.findIdx?_cons]
    have e0 : rw (a :: rs) 0 = a := rfl
    cases h : q a with
    | true => rw [List.find?_cons_of_pos (by rw [e0]; exact h)]; rfl
    | false =>
      rw [List.find?_cons_of_neg (by rw [e0]; simp [h]), List.find?_map]
      have : ((fun i => q (rw (a :: rs) i)) ∘ Nat.succ) = fun i => q (rw rs i) := by funext i; simp [rw]
      rw [this, kD q rs]
      simp
theorem ez (n : Nat) (h : n ≤ 60) (σ : St) : aS (.rng 0 n) σ = some (none, (List.range n).map fun (i : Nat) => V.int i) := by
  have h1 := zs h
  simp [aF, h1, jl]
section
variable {b : Int} {f l : Ab} {g : List M} {n : Nat}
theorem tD (f : Ab) {i : Nat} (hi : i < f.rows.length) (hl : f.rows.length ≤ 60) {σ : St} (h : σ[1]? = some (.list (f.rows.map da))) : g8 (.mut 1) (.int i) σ = some (.bytes (rw f.rows i).r) := by
  have h1 := dB hl
  simp [h, aF, h1, jc, l9 hi, da]
theorem sZ (f : Ab) {i : Nat} (hi : i < f.rows.length) (hl : f.rows.length ≤ 60) {σ : St} (h : σ[4]? = some (.list (f.rows.map aT))) : g8 (.mut 4) (.int i) σ = some (aT (rw f.rows i)) := by
  have h1 := dB hl
  simp [h, aF, h1, jc, l9 hi]
theorem j2 (r : Row) (w : Nat) (hw : w < 3) (σ : St) : g8 (aT r) (.int w) σ = some (.int (ci r w)) := by
  refine CF hw ?_ ?_ ?_ <;> simp_arith [ci, aT]
section
variable {Γ : Gam} {ρ : aj} {σ : St}
theorem iM (h1 : ρ 1 = some (.mut 3)) (h : σ[3]? = some (aJ f)) (h2 : σ[1]? = some (.list (f.rows.map da))) (hl : f.rows.length ≤ 60) : a9 Γ (.bi .range [(.bi .len [(.attr (.loc 1) 0)])]) ρ σ = some (.rng 0 f.rows.length, σ) := by
  have h3 := dB hl
  have h4 := zs hl
  exact cX (cX (mq h1 h) (by simp [h2, aF, h3] <;> (first | rfl | exact ⟨rfl, rfl⟩))) (by simp [aF, h4])
theorem ky {i x : Nat} (h1 : ρ 1 = some (.mut 3)) (hx : ρ x = some (.int i)) (hi : i < f.rows.length) (hl : f.rows.length ≤ 60) : a9 Γ (.idx (.attr (.loc 1) 0) (.loc x)) ρ (W b f l g) = some (.bytes (rw f.rows i).r, W b f l g) := fO (mq h1 rfl) (af hx) (tD f hi hl rfl)
theorem iN {i x : Nat} (h1 : ρ 1 = some (.mut 3)) (hx : ρ x = some (.int i)) (hi : i < f.rows.length) (hl : f.rows.length ≤ 60) : a9 Γ (.idx (.attr (.loc 1) 8) (.loc x)) ρ (W b f l g) = some (aT (rw f.rows i), W b f l g) := fO (sh h1 rfl) (af hx) (sZ f hi hl rfl)
theorem fV {i x : Nat} {w : Nat} {aw : E} (hΓ : Γ.m 16 = jX) (h1 : ρ 1 = some (.mut 3)) (hx : ρ x = some (.int i)) (hw : w < 3) (haw : a9 Γ aw ρ (W b f l g) = some (.int w, W b f l g)) (hi : i < f.rows.length) (hl : f.rows.length ≤ 60) (hr : ∀ r ∈ f.rows, r.r.length = 4) :
    a9 Γ (.meth (.loc 1) 16 [(.idx (.attr (.loc 1) 0) (.loc x)), aw]) ρ (W b f l g) = some (.bytes (part (rw f.rows i).r w), W b f l g) := by
  exact eL (k := 3) (af h1) rfl (mI (ky h1 hx hi hl) haw) (by rw [hΓ]; exact cJ b f l g _ w hw (hr _ (d0 hi)))
end
theorem dF (w : Nat) (hw : w < 3) (hl : f.rows.length ≤ 60) (hr : ∀ r ∈ f.rows, r.r.length = 4) (hd : f.rows.Pairwise pF) :
    gS [.mut 3, .int w] (W b f l g) = some (some (.list ((c6 f.rows w).map fun i => b8 w (rw f.rows i) i)), W b f l (g ++ [.list ((List.range f.rows.length).map fun i => b8 w (rw f.rows i) i)])) := by
  simp only [gS, gw, jP]
  refine aq (I := cb) rfl (d5 (v := .mut (W b f l g).length) (σ1 := W b f l (g ++ [.list []])) (by simp [W]) ?_)
  have hlen : (W b f l g).length = g.length + 5 := by simp [W]
  rw [hlen]
  have key := dq (body := fun ρ' σ' => evSs aV [.ex (.bm (.loc 20) .append [(.tup [(.meth (.loc 1) 16 [(.idx (.attr (.loc 1) 0) (.loc 7)), (.loc 10)]), (.idx (.idx (.attr (.loc 1) 8) (.loc 7)) (.loc 10)), (.loc 7)])])] ρ' σ') (x := 7)
    (fun k ρ σ => ρ 1 = some (.mut 3) ∧ ρ 10 = some (.int w) ∧ ρ 20 = some (.mut (g.length + 5)) ∧ σ = W b f l (g ++ [.list ((List.range k).map fun i => b8 w (rw f.rows i) i)])) (fun (i : Nat) => V.int i) (List.range f.rows.length) 0
    (upd (upd (upd ao 1 (.mut 3)) 10 (.int w)) 20 (.mut (g.length + 5))) (W b f l (g ++ [.list []])) ⟨rfl, rfl, rfl, rfl⟩ (fun k a ha ρ σ hI => by
      obtain ⟨r1, r2, r3, rfl⟩ := hI
      have hk : k < f.rows.length := by
        have := (List.getElem?_eq_some_iff.mp ha).1
        simpa using this
      have : a = k := by rw [List.getElem?_range hk] at ha; exact (Option.some.inj ha).symm
      subst this
      rw [Nat.zero_add]
      refine ⟨upd ρ 7 (.int a), W b f l (g ++ [.list ((List.range (a + 1)).map fun i => b8 w (rw f.rows i) i)]), .inl (vA (v := .none) (qd (k := g.length + 5) (l₀ := (List.range a).map fun i => b8 w (rw f.rows i) i) (v := b8 w (rw f.rows a) a) (σ1 := W b f l (g ++ [.list ((List.range a).map fun i => b8 w (rw f.rows i) i)])) (by simp_arith [r3]) (by simp [W]) ?_ ?_) cG), by simp [upd, r1], by simp [upd, r2], by simp [upd, r3], rfl⟩
      · have e1 := fV (Γ := aV) (x := 7) (aw := .loc 10) (b := b) (f := f) (l := l) (g := g ++ [.list ((List.range a).map fun i => b8 w (rw f.rows i) i)]) (ρ := upd ρ 7 (.int a)) rfl (by simp [upd, r1]) (by simp [upd]) hw (by simp_arith [r2]) hk hl hr
        have e2 : a9 aV (.idx (.idx (.attr (.loc 1) 8) (.loc 7)) (.loc 10)) (upd ρ 7 (.int a)) (W b f l (g ++ [.list ((List.range a).map fun i => b8 w (rw f.rows i) i)])) = some (.int (ci (rw f.rows a) w), W b f l (g ++ [.list ((List.range a).map fun i => b8 w (rw f.rows i) i)])) := by
          exact fO (iN (x := 7) (i := a) (by simp [upd, r1]) (by simp [upd]) hk hl) (by simp_arith [r2]) (j2 _ w hw _)
        exact wH e1 e2 rfl
      · have h1 : a < 1048576 := by omega
        simp [W, aF, h1, List.range_succ])
  obtain ⟨ρ', σ', e, _, _, r3, rfl⟩ := key
  rw [Nat.zero_add, List.length_range] at e
  refine gk (e6 (iM (f := f) rfl rfl rfl hl) (ez _ hl _) e (e7 (cX (v := .mut (g.length + 5)) (by simp_arith [r3]) ?_))) trivial
  have e2 : (W b f l (g ++ [.list ((List.range f.rows.length).map fun i => b8 w (rw f.rows i) i)]))[g.length + 5]? = some (.list ((List.range f.rows.length).map fun i => b8 w (rw f.rows i) i)) := by simp [W]
  rw [xB, Dy, e2]
  exact sX f.rows w hl hd
theorem fh (key : List UInt8) (hl : f.rows.length ≤ 60) (hr : ∀ r ∈ f.rows, r.r.length = 4) : gT [.mut 3, .bytes key] (W b f l g) = some (some (jq (f.rows.findIdx? fun r => part r.r 0 == key)), W b f l g) := by
  simp only [gT, fo, j6]
  have k := dO (Γ := aV) (x := 7) (bd := [.if_ (.cmp .Eq (.meth (.loc 1) 16 [(.idx (.attr (.loc 1) 0) (.loc 7)), (.lit (.int 0))]) (.loc 4)) [.ret (.loc 7)] []]) (ss := [.ret (.lit (.int (-1)))]) (I := fun ρ => ρ 1 = some (.mut 3) ∧ ρ 4 = some (.bytes key)) (ρ := upd (upd ao 1 (.mut 3)) 4 (.bytes key))
    (is := List.range f.rows.length) (fun (i : Nat) => V.int i) (fun i => part (rw f.rows i).r 0 == key) (fun i => .int i) (fun H => W b f l g) (W b f l g) (.ret (.int (-1))) (iM (f := f) (σ := W b f l g) rfl rfl rfl hl) (ez _ hl _) ⟨rfl, rfl⟩
    (fun i hi ρ hρ => by
      obtain ⟨r1, r2⟩ := hρ
      have hi' : i < f.rows.length := List.mem_range.mp hi
      have e : a9 aV (.cmp .Eq (.meth (.loc 1) 16 [(.idx (.attr (.loc 1) 0) (.loc 7)), (.lit (.int 0))]) (.loc 4)) (upd ρ 7 (.int i)) (W b f l g) = some (.bool (part (rw f.rows i).r 0 == key), W b f l g) :=
        az (fV (Γ := aV) (x := 7) (w := 0) rfl (by simp [upd, r1]) (by simp [upd]) (by decide) rfl hi' hl hr) (w := .bytes key) (by simp_arith [r2]) (by simp_arith [])
      refine ⟨fun q => ?_, fun q => ?_⟩
      · rw [q] at e; exact ai e (ah rfl trivial)
      · rw [q] at e; exact aa e (b9 ⟨by simp [upd, r1], by simp [upd, r2]⟩))
    (fun ρ H H => ah rfl trivial)
  rw [kD (fun r => part r.r 0 == key)] at k
  revert k
  generalize f.rows.findIdx? (fun r => part r.r 0 == key) = X
  intro k
  cases X <;> exact aq rfl k
noncomputable def ir (rows : List Row) (rc : List UInt8) (w : Nat) (own : Int) : Bool := ((List.range rows.length).find? fun (i : Nat) => !((i : Int) == own) && part (rw rows i).r w == part rc w).isSome
theorem jU (rc : List UInt8) (hrc : rc.length = 4) (w : Nat) (hw : w < 3) (own : Int) (hl : f.rows.length ≤ 60) (hr : ∀ r ∈ f.rows, r.r.length = 4) : dG [.mut 3, .bytes rc, .int w, .int own] (W b f l g) = some (some (.bool (ir f.rows rc w own)), W b f l g) := by
  simp only [dG, dm, fc]
  have k := dO (Γ := aV) (x := 7) (bd := [.if_ (.and [(.cmp .NotEq (.loc 7) (.loc 22)), (.cmp .Eq (.meth (.loc 1) 16 [(.idx (.attr (.loc 1) 0) (.loc 7)), (.loc 10)]) (.loc 21))]) [.ret (.lit (.bool true))] []]) (ss := [.ret (.lit (.bool false))])
    (I := fun ρ => ρ 1 = some (.mut 3) ∧ ρ 10 = some (.int w) ∧ ρ 22 = some (.int own) ∧ ρ 21 = some (.bytes (part rc w))) (ρ := upd (upd (upd (upd (upd ao 1 (.mut 3)) 15 (.bytes rc)) 10 (.int w)) 22 (.int own)) 21 (.bytes (part rc w)))
    (is := List.range f.rows.length) (fun (i : Nat) => V.int i) (fun (i : Nat) => !((i : Int) == own) && part (rw f.rows i).r w == part rc w) (fun i => .bool true) (fun H => W b f l g) (W b f l g) (.ret (.bool false)) (iM (f := f) (σ := W b f l g) rfl rfl rfl hl) (ez _ hl _) ⟨rfl, rfl, rfl, rfl⟩
    (fun i hi ρ hρ => by
      obtain ⟨r1, r2, r3, r4⟩ := hρ
      have hi' : i < f.rows.length := List.mem_range.mp hi
      have e : a9 aV (.and [(.cmp .NotEq (.loc 7) (.loc 22)), (.cmp .Eq (.meth (.loc 1) 16 [(.idx (.attr (.loc 1) 0) (.loc 7)), (.loc 10)]) (.loc 21))]) (upd ρ 7 (.int i)) (W b f l g) = some (.bool (!((i : Int) == own) && part (rw f.rows i).r w == part rc w), W b f l g) :=
        bz (by simp_arith [r3]) fun H => az (fV (Γ := aV) (x := 7) (w := w) rfl (by simp [upd, r1]) (by simp [upd]) hw (by simp_arith [r2]) hi' hl hr) (w := .bytes (part rc w)) (by simp_arith [r4]) (by simp_arith [])
      refine ⟨fun q => ?_, fun q => ?_⟩
      · rw [q] at e; exact ai e (ah rfl trivial)
      · rw [q] at e; exact aa e (b9 ⟨by simp [upd, r1], by simp [upd, r2], by simp [upd, r3], by simp [upd, r4]⟩))
    (fun ρ H H => ah rfl trivial)
  have k2 := aH (Γ := aV) (I := cb) (x := 21) (e := .meth (.loc 1) 16 [(.loc 15), (.loc 10)]) (ρ := upd (upd (upd (upd ao 1 (.mut 3)) 15 (.bytes rc)) 10 (.int w)) 22 (.int own)) (σ := W b f l g) (eL (k := 3) (vs := [.bytes rc, .int w]) (by simp_arith []) rfl (by simp_arith [] <;> (first | rfl | exact ⟨rfl, rfl⟩)) (cJ b f l g rc w hw hrc)) k
  unfold ir
  revert k2
  generalize (List.range f.rows.length).find? (fun (i : Nat) => !((i : Int) == own) && part (rw f.rows i).r w == part rc w) = X
  intro k2
  cases X <;> exact aq rfl k2
end
theorem rB : ∀ a : List UInt8, bX a a = false
  | [] => rfl
  | a :: as => by simp [bX, rB as]
theorem ic : ∀ a b : List UInt8, (a == b || bX b a) = !(bX a b)
  | [], [] => by simp [bX]
  | [], b :: bs => by simp [bX]
  | a :: as, [] => by simp [bX]
  | a :: as, b :: bs => by
    by_cases h : a = b
    · subst h
      have := ic as bs
      simp only [bX, if_true]
      rw [← this]
      simp
    · have h' : b ≠ a := Ne.symm h
      have hn : a.toNat ≠ b.toNat := fun z => h (UInt8.toNat_inj.mp z)
      simp only [bX, if_neg h, if_neg h']
      have : ((a :: as) == (b :: bs)) = false := by simp [h]
      rw [this]
      by_cases q : a.toNat < b.toNat
      · rw [decide_eq_true q, decide_eq_false (Nat.lt_asymm q)]; rfl
      · rw [decide_eq_false q, decide_eq_true (Nat.lt_of_le_of_ne (Nat.le_of_not_lt q) (Ne.symm hn))]; rfl
section
variable {Γ : Gam} {ρ : aj} {σ σ1 : St} {t1 a1 a2 : E} {v : V}
theorem z9 (h : a9 Γ t1 ρ σ = some (.bool true, σ)) (h2 : a9 Γ a1 ρ σ = some (v, σ1)) : a9 Γ (.ifx t1 a1 a2) ρ σ = some (v, σ1) := vP h h2
theorem z8 (h : a9 Γ t1 ρ σ = some (.bool false, σ)) (h2 : a9 Γ a2 ρ σ = some (v, σ1)) : a9 Γ (.ifx t1 a1 a2) ρ σ = some (v, σ1) := vO h h2
end
section
variable {b : Int} {f l : Ab} {g : List M} {n : Nat}
noncomputable def gl (rows : List Row) (w : Nat) : M := .list ((List.range rows.length).map fun i => b8 w (rw rows i) i)
theorem dM (rows : List Row) (w : Nat) (σ : St) (h : rows.length ≤ 60) : aS (.list ((c6 rows w).map fun i => b8 w (rw rows i) i)) σ = some (none, (c6 rows w).map fun i => b8 w (rw rows i) i) := eS rows w _ σ h
theorem lw (w i : Nat) (hw : w < 3) (hl : f.rows.length ≤ 60) (hr : ∀ r ∈ f.rows, r.r.length = 4) (hd : f.rows.Pairwise pF) (hi : i < f.rows.length) :
    m0 [.mut 3, b8 w (rw f.rows i) i, .int w] (W b f l g) = some (some (ft f w i), W b (standAt f w i) l (g ++ [gl f.rows w])) := by
  have h4 := iu (hr _ (d0 hi)) w
  have h5 := CB h4
  simp only [m0, k6, np]
  refine aq (I := cb) rfl (ap (v := b8 w (rw f.rows i) i) (ρ' := upd (upd (upd (upd (upd (upd ao 1 (.mut 3)) 24 (b8 w (rw f.rows i) i)) 10 (.int w)) 16 (.bytes (part (rw f.rows i).r w))) 25 (.int (ci (rw f.rows i) w))) 7 (.int i)) (σ₂ := W b f l g) (by simp_arith []) (by simp_arith [b8]) ?_)
  generalize hρ : upd (upd (upd (upd (upd (upd ao 1 (.mut 3)) 24 (b8 w (rw f.rows i) i)) 10 (.int w)) 16 (.bytes (part (rw f.rows i).r w))) 25 (.int (ci (rw f.rows i) w))) 7 (.int i) = ρ
  have r1 : ρ 1 = some (.mut 3) := by subst hρ; rfl
  have r2 : ρ 10 = some (.int w) := by subst hρ; rfl
  have r3 : ρ 16 = some (.bytes (part (rw f.rows i).r w)) := by subst hρ; rfl
  have r4 : ρ 25 = some (.int (ci (rw f.rows i) w)) := by subst hρ; rfl
  have r5 : ρ 7 = some (.int i) := by subst hρ; rfl
  clear hρ
  have e1 : a9 aE (.meth (.loc 1) 26 [(.loc 10), (.ifx (.cmp .Gt (.loc 10) (.lit (.int 0))) (.tup [(.loc 16), (.loc 25)]) (.tup [(.bin .Add (.loc 16) (.lit (.bytes [0]))), (.lit (.int (-1)))]))]) ρ (W b f l g) = some (.none, W b { f with which := w, fB := (standAt f w i).fB, fN := (standAt f w i).fN, nw := false } l g) := by
    refine eL (k := 3) (σ1 := W b f l g) (vs := [.int w, .tup [.bytes (standAt f w i).fB, .int (standAt f w i).fN]]) (by simp_arith [r1]) rfl ?_ (lx b f l g w (standAt f w i).fB (standAt f w i).fN)
    rcases w with _ | w
    · simp_arith [r2, r3, r4, standAt, h5]
    · simp_arith [r2, r3, r4, standAt, vU w]
  have e2 : a9 aE (.idx (.idx (.attr (.loc 1) 8) (.loc 7)) (.lit (.int 0))) ρ (W b { f with which := w, fB := (standAt f w i).fB, fN := (standAt f w i).fN, nw := false } l g) = some (.int (rw f.rows i).n0, W b { f with which := w, fB := (standAt f w i).fB, fN := (standAt f w i).fN, nw := false } l g) := by
    exact fO (iN (f := { f with which := w, fB := (standAt f w i).fB, fN := (standAt f w i).fN, nw := false }) r1 r5 hi hl) bc (j2 (rw f.rows i) 0 (by decide) _)
  refine fH e1 (ap e2 (ρ' := ρ) (σ₂ := W b (standAt f w i) l g) (by simp_arith [r1, W, aJ, standAt]) (d5 (v := .list (((c6 f.rows w).filter (gD f.rows w i)).map fun j => b8 w (rw f.rows j) j)) (σ1 := W b (standAt f w i) l (g ++ [gl f.rows w]))
    (bV (eL (k := 3) (vs := [.int w]) (by simp_arith [r1]) rfl (by simp_arith [r2] <;> (first | rfl | exact ⟨rfl, rfl⟩)) (dF (f := standAt f w i) w hw hl hr hd)) (dM _ _ _ hl) ?_) (ah ?_ trivial)))
  · refine bO (fun j => b8 w (rw f.rows j) j) (gD f.rows w i) (fun j => b8 w (rw f.rows j) j) aZ _ fun j hj => ⟨_, rfl, xU (bz (by simp_arith [r3, b8]) fun H => by simp_arith [r4, b8]), fun H => rfl⟩
  · refine p9 (u := .str (if decide (0 < (w : Int)) && later f.rows w i then 3 else 4)) ?_ ?_
    · rw [show V.str (if (decide (0 < (w : Int)) && later f.rows w i) = true then 3 else 4) = if (decide (0 < (w : Int)) && later f.rows w i) = true then V.str 3 else V.str 4 from by split <;> rfl]
      exact eK (bz (by simp_arith [r2]) fun H => by simp_arith [eJ, later]) (fun H => rfl) (fun H => rfl)
    · exact ky (f := standAt f w i) (by simp [upd, r1]) (by simp [upd, r5]) hi hl
theorem EQ {body : aj → St → Option (Fl × aj × St)} {x : Nat} {v : V} {ρ ρ' : aj} {σ σ' : St} (h : body (upd ρ x v) σ = some (.next, ρ', σ')) : cR body x [v] ρ σ = some (.next, ρ', σ') := by rw [uh, h]; rfl
theorem CE {body : aj → St → Option (Fl × aj × St)} {x : Nat} {v u : V} {ρ ρ' : aj} {σ σ' : St} {vs : List V} (h : body (upd ρ x v) σ = some (.ret u, ρ', σ')) : cR body x (v :: vs) ρ σ = some (.ret u, ρ', σ') := by rw [uh, h]; rfl
theorem GD {body : aj → St → Option (Fl × aj × St)} {x : Nat} {v : V} {ρ ρ' : aj} {σ σ' : St} {vs : List V} {r : Option (Fl × aj × St)} (h : body (upd ρ x v) σ = some (.next, ρ', σ')) (k : cR body x vs ρ' σ' = r) : cR body x (v :: vs) ρ σ = r := by rw [uh, h]; exact k
noncomputable def DK (t1 t2 : Bool) : List Nat := (if t1 then [1] else []) ++ (if t2 then [2] else [])
noncomputable def pf (t1 t2 : Bool) : V := .list ((DK t1 t2).map fun (w : Nat) => V.int w)
theorem j7 (rc : List UInt8) (hrc : rc.length = 4) (own : Int) (t1 t2 : Bool) (nv : V) (hn : ∀ σ, aS nv σ = some (none, (DK t1 t2).map fun (w : Nat) => V.int w)) (hl : f.rows.length ≤ 60) (hr : ∀ r ∈ f.rows, r.r.length = 4) :
    gP [.mut 3, .bytes rc, .int own, nv] (W b f l g) = some (some (.str (b7 (t1 && ir f.rows rc 1 own) (t2 && ir f.rows rc 2 own) f.dbl)), W b f l g) := by
  simp only [gP, gu, jO]
  generalize hbd : ([.if_ (.meth (.loc 1) 36 [(.loc 15), (.loc 10), (.loc 22)]) [
      .if_ (.not (.idx (.idx (.attr (.loc 1) 6) (.loc 10)) (.lit (.int 2)))) [
        .ret (.lit (.str 12))] [],
      .asg (.nm 23) (.lit (.str 3))] []] : List S) = bd
  have hb : ∀ (w : Nat) (ρ : aj), (w = 1 ∨ w = 2) → ρ 1 = some (.mut 3) → ρ 15 = some (.bytes rc) → ρ 22 = some (.int own) →
      (ir f.rows rc w own = false → evSs aE bd (upd ρ 10 (.int w)) (W b f l g) = some (.next, upd ρ 10 (.int w), W b f l g)) ∧
      (ir f.rows rc w own = true → (w == 2 && !f.dbl) = true → evSs aE bd (upd ρ 10 (.int w)) (W b f l g) = some (.ret (.str 12), upd ρ 10 (.int w), W b f l g)) ∧
      (ir f.rows rc w own = true → (w == 2 && !f.dbl) = false → evSs aE bd (upd ρ 10 (.int w)) (W b f l g) = some (.next, upd (upd ρ 10 (.int w)) 23 (.str 3), W b f l g)) := by
    intro w ρ hw r1 r2 r3
    subst hbd
    have hw3 : w < 3 := by omega
    have e1 : a9 aE (.meth (.loc 1) 36 [(.loc 15), (.loc 10), (.loc 22)]) (upd ρ 10 (.int w)) (W b f l g) = some (.bool (ir f.rows rc w own), W b f l g) :=
      eL (k := 3) (vs := [.bytes rc, .int w, .int own]) (by simp_arith [r1]) rfl (by simp_arith [r2, r3] <;> (first | rfl | exact ⟨rfl, rfl⟩)) (jU rc hrc w hw3 own hl hr)
    have e2 : a9 aE (.not (.idx (.idx (.attr (.loc 1) 6) (.loc 10)) (.lit (.int 2)))) (upd ρ 10 (.int w)) (W b f l g) = some (.bool (w == 2 && !f.dbl), W b f l g) := by
      rcases hw with rfl | rfl <;> simp_arith [r1, W, aJ, bK]
    refine ⟨fun h => ?_, fun h h2 => ?_, fun h h2 => ?_⟩
    · rw [h] at e1
      exact dy e1 cG
    · rw [h] at e1; rw [h2] at e2
      exact lb e1 (lb e2 (e7 rfl))
    · rw [h] at e1; rw [h2] at e2
      exact jL e1 (dy e2 (rS (v := .str 3) rfl rfl cG)) cG
  refine aq (I := cb) rfl (aH (v := .str 4) rfl ?_)
  generalize hρ : upd (upd (upd (upd (upd ao 1 (.mut 3)) 15 (.bytes rc)) 22 (.int own)) 35 nv) 23 (.str 4) = ρ
  have r1 : ρ 1 = some (.mut 3) := by subst hρ; rfl
  have r2 : ρ 15 = some (.bytes rc) := by subst hρ; rfl
  have r3 : ρ 22 = some (.int own) := by subst hρ; rfl
  have r4 : ρ 23 = some (.str 4) := by subst hρ; rfl
  have r5 : ρ 35 = some nv := by subst hρ; rfl
  clear hρ
  have hv : a9 aE (.loc 35) ρ (W b f l g) = some (nv, W b f l g) := by simp_arith [r5]
  have hi := hn (W b f l g)
  generalize hT1 : ir f.rows rc 1 own = T1 at *
  generalize hT2 : ir f.rows rc 2 own = T2 at *
  have step1 : ∃ ρ2 : aj, evSs aE bd (upd ρ 10 (.int 1)) (W b f l g) = some (.next, ρ2, W b f l g) ∧ ρ2 1 = some (.mut 3) ∧ ρ2 15 = some (.bytes rc) ∧ ρ2 22 = some (.int own) ∧ ρ2 23 = some (.str (if T1 = true then 3 else 4)) := by
    obtain ⟨c1, c2, c3⟩ := hb 1 ρ (.inl rfl) r1 r2 r3
    cases h : T1 with
    | false => exact ⟨_, c1 (hT1.trans h), by simp [upd, r1], by simp [upd, r2], by simp [upd, r3], by simp [upd, r4]⟩
    | true => exact ⟨_, c3 (hT1.trans h) rfl, by simp [upd, r1], by simp [upd, r2], by simp [upd, r3], by simp [upd]⟩
  have step2 : ∀ (ρ : aj) (st : Nat), ρ 1 = some (.mut 3) → ρ 15 = some (.bytes rc) → ρ 22 = some (.int own) → ρ 23 = some (.str st) → ((T2 && !f.dbl) = true → ∃ ρ2 : aj, evSs aE bd (upd ρ 10 (.int 2)) (W b f l g) = some (.ret (.str 12), ρ2, W b f l g)) ∧
      ((T2 && !f.dbl) = false → ∃ ρ2 : aj, evSs aE bd (upd ρ 10 (.int 2)) (W b f l g) = some (.next, ρ2, W b f l g) ∧ ρ2 23 = some (.str (if T2 = true then 3 else st))) := by
    intro ρ st r1 r2 r3 r4
    obtain ⟨c1, c2, c3⟩ := hb 2 ρ (.inr rfl) r1 r2 r3
    cases h : T2 with
    | false => exact ⟨fun z => by simp at z, fun H => ⟨_, c1 (hT2.trans h), by simp [upd, r4]⟩⟩
    | true => exact ⟨fun z => ⟨_, c2 (hT2.trans h) (by simpa using z)⟩, fun z => ⟨_, c3 (hT2.trans h) (by simpa using z), by simp [upd]⟩⟩
  cases t1 with
  | false => cases t2 with
    | false => exact gk (e6 hv hi rfl (e7 (af r4))) trivial
    | true =>
      obtain ⟨q1, q2⟩ := step2 ρ _ r1 r2 r3 r4
      cases hz : (T2 && !f.dbl) with
      | true =>
        obtain ⟨ρ3, e2⟩ := q1 hz
        rw [show b7 (false && T1) (true && T2) f.dbl = 12 by simp [b7, hz]]
        exact gk (jK hv hi (CE e2)) trivial
      | false =>
        obtain ⟨ρ3, e2, r6⟩ := q2 hz
        rw [show b7 (false && T1) (true && T2) f.dbl = if T2 = true then 3 else 4 by simp [b7, hz]]
        exact gk (e6 hv hi (ρ' := ρ3) (σ₂ := W b f l g) (EQ e2) (e7 (by simp_arith [r6]))) trivial
  | true =>
    obtain ⟨ρ2, e1, s1, s2, s3, s4⟩ := step1
    cases t2 with
    | false =>
      rw [show b7 (true && T1) (false && T2) f.dbl = if T1 = true then 3 else 4 by simp [b7]]
      exact gk (e6 hv hi (ρ' := ρ2) (σ₂ := W b f l g) (EQ e1) (e7 (by simp_arith [s4]))) trivial
    | true =>
      obtain ⟨q1, q2⟩ := step2 ρ2 _ s1 s2 s3 s4
      cases hz : (T2 && !f.dbl) with
      | true =>
        obtain ⟨ρ3, e2⟩ := q1 hz
        rw [show b7 (true && T1) (true && T2) f.dbl = 12 by simp [b7, hz]]
        exact gk (jK hv hi (GD e1 (CE e2))) trivial
      | false =>
        obtain ⟨ρ3, e2, r6⟩ := q2 hz
        rw [show b7 (true && T1) (true && T2) f.dbl = if T2 = true then 3 else if T1 = true then 3 else 4 by simp only [b7, Bool.true_and, hz]; cases T1 <;> cases T2 <;> rfl]
        exact gk (e6 hv hi (ρ' := ρ3) (σ₂ := W b f l g) (GD e1 (EQ e2)) (e7 (by simp_arith [r6]))) trivial
end
theorem qi {α : Type} {p q : α → Bool} : ∀ {l : List α}, (∀ x ∈ l, p x = q x) → l.find? p = l.find? q
  | [], _ => rfl
  | a :: l, h => by
    have h1 := h a (.head _)
    have h2 := qi (l := l) fun x hx => h x (.tail _ hx)
    simp only [List.find?_cons, h1, h2]
section
variable {b : Int} {f l : Ab} {g : List M} {n : Nat}
theorem qh {Γ : Gam} {ρ : aj} (h : ρ 1 = some (.mut 3)) : a9 Γ (.cmp .NotIn (.attr (.loc 1) 2) (.glob 30)) ρ (W b f l g) = some (.bool (!rd f), W b f l g) := by
  refine az (u := .str f.mode) (w := .tup [.str 26, .str 13]) (hW h rfl) (by simp_arith []) ?_
  simp_arith [rd]
theorem x4 (hI : Inv n f) {i : Nat} (hi : i < f.rows.length) (w : Nat) : 0 ≤ ci (rw f.rows i) w := by
  obtain ⟨⟨h0, h1, h2⟩, _⟩ := hI.pos _ (d0 hi)
  rcases w with _ | _ | w
  · exact h0
  · exact h1
  · exact h2
theorem m6 (hI : Inv n f) (hn : n ≤ 60) : ∃ g', fR [.mut 3] (W b f l g) = some ((cK f).1, W b (cK f).2 l g') := by
  have hl := hI.l60 hn
  have hw := hI.which
  simp only [fR, eE, gN]
  unfold cK
  have hA0 : a9 aO (.cmp .Eq (.attr (.loc 1) 3) (.lit (.str 5))) (upd ao 1 (.mut 3)) (W b f l g) = some (.bool (f.acc == 5), W b f l g) := az (eF rfl rfl) (w := .str 5) rfl (by simp_arith [])
  have hR0 := qh (Γ := aO) (b := b) (f := f) (l := l) (g := g) (ρ := upd ao 1 (.mut 3)) rfl
  have hN0 : a9 aO (.attr (.loc 1) 12) (upd ao 1 (.mut 3)) (W b f l g) = some (.bool f.nw, W b f l g) := AV rfl rfl
  cases hA : f.acc == 5 with
  | true =>
    rw [hA] at hA0
    exact ⟨g, mJ (I := cb) rfl (n6 hA0 trivial)⟩
  | false =>
    rw [hA] at hA0
    cases hR : rd f with
    | false =>
      rw [hR] at hR0
      exact ⟨g, aq (I := cb) rfl (dP hA0 (ai hR0 (ah (by simp_arith [] <;> (first | rfl | exact ⟨rfl, rfl⟩)) trivial)))⟩
    | true =>
      rw [hR] at hR0
      simp only [Bool.false_eq_true, if_false, Bool.true_eq_false]
      rcases Bool.eq_false_or_eq_true f.nw with hN | hN
      · rw [if_pos hN]
        rw [hN] at hN0
        exact ⟨g, aq (I := cb) rfl (dP hA0 (aa hR0 (ai hN0 (ap (v := .int (-1)) (ρ' := upd ao 1 (.mut 3)) (σ₂ := W b f.q l g) (by simp_arith []) (by simp_arith [W, aJ]) (ah (by simp_arith [] <;> (first | rfl | exact ⟨rfl, rfl⟩)) trivial)))))⟩
      · rw [if_neg (by simp [hN])]
        rw [hN] at hN0
        have key := dO (Γ := aO) (x := 24) (bd := [.if_ (.cmp .Gt (.tup [(.idx (.loc 24) (.lit (.int 0))), (.idx (.loc 24) (.lit (.int 1)))]) (.attr (.loc 1) 11)) [.ret (.meth (.loc 1) 20 [(.loc 24), (.attr (.loc 1) 10)])] []])
          (e := .meth (.loc 1) 28 [(.attr (.loc 1) 10)]) (ss := [.ret (.meth (.loc 1) 31 [(.lit (.str 8))])])
          (I := fun ρ => ρ 1 = some (.mut 3)) (ρ := upd ao 1 (.mut 3)) (σ := W b f l g) (σ1 := W b f l (g ++ [gl f.rows f.which])) (is := c6 f.rows f.which) (fun i => b8 f.which (rw f.rows i) i)
          (fun i => qk (part (rw f.rows i).r f.which) (ci (rw f.rows i) f.which) f.lB f.lN) (fun i => ft f f.which i) (fun i => W b (standAt f f.which i) l (g ++ [gl f.rows f.which] ++ [gl f.rows f.which])) (W b f.x l (g ++ [gl f.rows f.which])) (.ret (n9 8))
          (av (k := 3) (vs := [.int f.which]) (by simp_arith []) rfl (by simp [nN (f := f) (Γ := aO) (ρ := upd ao 1 (.mut 3)) (σ := W b f l g) rfl rfl] <;> (first | rfl | exact ⟨rfl, rfl⟩)) (dF _ hw hl hI.r4 hI.pw)) (dM _ _ _ hl) rfl
          (fun i hi ρ hρ => by
            have hc : a9 aO (.cmp .Gt (.tup [(.idx (.loc 24) (.lit (.int 0))), (.idx (.loc 24) (.lit (.int 1)))]) (.attr (.loc 1) 11)) (upd ρ 24 (b8 f.which (rw f.rows i) i)) (W b f l (g ++ [gl f.rows f.which])) = some (.bool (qk (part (rw f.rows i).r f.which) (ci (rw f.rows i) f.which) f.lB f.lN), W b f l (g ++ [gl f.rows f.which])) := by
              rw [hI.at_ _ _ (x4 hI (eT hi) f.which)]
              exact az (u := .tup [.bytes (part (rw f.rows i).r f.which), .int (ci (rw f.rows i) f.which)]) (by simp_arith [b8]) (AU (f := f) (by simp [upd, hρ]) rfl) (by simp [x6])
            refine ⟨fun q => ?_, fun q => ?_⟩
            · rw [q] at hc
              exact ai hc (bv (av (k := 3) (vs := [b8 f.which (rw f.rows i) i, .int f.which]) (by simp_arith [hρ]) rfl (mI rfl (nN (f := f) (by simp [upd, hρ]) rfl)) (lw _ i hw hl hI.r4 hI.pw (eT hi))) trivial)
            · rw [q] at hc
              exact aa hc (b9 (by simp [upd, hρ])))
          (fun ρ hρ H => bv (av (k := 3) (vs := [.str 8]) (by simp_arith [hρ]) rfl (by simp_arith []) (jT b f l _ 8)) trivial)
        have key2 := dP hA0 (aa (a := [.ret (.tup [(.lit (.str 6)), (.lit (.bytes []))])]) hR0 (aa (a := [.asg (.att (.loc 1) 13) (.lit (.int (-1))), .ret (.tup [(.lit (.str 7)), (.lit (.bytes []))])]) hN0 key))
        revert key2
        generalize (c6 f.rows f.which).find? (fun i => qk (part (rw f.rows i).r f.which) (ci (rw f.rows i) f.which) f.lB f.lN) = X
        intro key2
        cases X <;> exact ⟨_, aq rfl key2⟩
theorem pJ (hI : Inv n f) (hn : n ≤ 60) (key : List UInt8) (w : Nat) (hw : w < 3) : ∃ g', jz [.mut 3, .bytes key, .int w] (W b f l g) = some ((iW f key w).1, W b (iW f key w).2 l g') := by
  have hl := hI.l60 hn
  simp only [jz, gx, jQ]
  unfold iW
  have hA0 : a9 aO (.cmp .Eq (.attr (.loc 1) 3) (.lit (.str 1))) (upd (upd (upd ao 1 (.mut 3)) 4 (.bytes key)) 10 (.int w)) (W b f l g) = some (.bool (f.acc == 1), W b f l g) := az (eF rfl rfl) (w := .str 1) rfl (by simp_arith [])
  have hR0 := qh (Γ := aO) (b := b) (f := f) (l := l) (g := g) (ρ := upd (upd (upd ao 1 (.mut 3)) 4 (.bytes key)) 10 (.int w)) rfl
  cases hA : f.acc == 1 with
  | true =>
    rw [hA] at hA0
    exact ⟨g, mJ (I := cb) rfl (n6 hA0 trivial)⟩
  | false =>
    rw [hA] at hA0
    cases hR : rd f with
    | false =>
      rw [hR] at hR0
      exact ⟨g, aq (I := cb) rfl (dP hA0 (ai hR0 (ah (by simp_arith [] <;> (first | rfl | exact ⟨rfl, rfl⟩)) trivial)))⟩
    | true =>
      rw [hR] at hR0
      simp only [Bool.false_eq_true, if_false, Bool.true_eq_false]
      have key1 := dO (Γ := aO) (x := 24) (bd := [.if_ (.cmp .Eq (.idx (.loc 24) (.lit (.int 0))) (.loc 4)) [.ret (.meth (.loc 1) 20 [(.loc 24), (.loc 10)])] []])
          (e := .meth (.loc 1) 28 [(.loc 10)]) (ss := [.ret (.meth (.loc 1) 31 [(.lit (.str 9))])])
          (I := fun ρ => ρ 1 = some (.mut 3) ∧ ρ 4 = some (.bytes key) ∧ ρ 10 = some (.int w)) (ρ := upd (upd (upd ao 1 (.mut 3)) 4 (.bytes key)) 10 (.int w)) (σ := W b f l g) (σ1 := W b f l (g ++ [gl f.rows w])) (is := c6 f.rows w) (fun i => b8 w (rw f.rows i) i)
          (fun i => part (rw f.rows i).r w == key) (fun i => ft f w i) (fun i => W b (standAt f w i) l (g ++ [gl f.rows w] ++ [gl f.rows w])) (W b f.x l (g ++ [gl f.rows w])) (.ret (n9 9))
          (av (k := 3) (vs := [.int w]) (by simp_arith []) rfl (by simp_arith [] <;> (first | rfl | exact ⟨rfl, rfl⟩)) (dF _ hw hl hI.r4 hI.pw)) (dM _ _ _ hl) ⟨rfl, rfl, rfl⟩
          (fun i hi ρ hρ => by
            obtain ⟨r1, r2, r3⟩ := hρ
            have hc : a9 aO (.cmp .Eq (.idx (.loc 24) (.lit (.int 0))) (.loc 4)) (upd ρ 24 (b8 w (rw f.rows i) i)) (W b f l (g ++ [gl f.rows w])) = some (.bool (part (rw f.rows i).r w == key), W b f l (g ++ [gl f.rows w])) :=
              az (u := .bytes (part (rw f.rows i).r w)) (w := .bytes key) (by simp_arith [b8]) (by simp_arith [r2]) (by simp_arith [])
            refine ⟨fun q => ?_, fun q => ?_⟩
            · rw [q] at hc
              exact ai hc (bv (av (k := 3) (vs := [b8 w (rw f.rows i) i, .int w]) (by simp_arith [r1]) rfl (by simp_arith [r3] <;> (first | rfl | exact ⟨rfl, rfl⟩)) (lw _ i hw hl hI.r4 hI.pw (eT hi))) trivial)
            · rw [q] at hc
              exact aa hc (b9 (by simp [upd, r1, r2, r3])))
          (fun ρ hρ H => bv (av (k := 3) (vs := [.str 9]) (by simp_arith [hρ.1]) rfl (by simp_arith []) (jT b f l _ 9)) trivial)
      have key2 := dP hA0 (aa (a := [.ret (.tup [(.lit (.str 6)), (.lit (.bytes []))])]) hR0 key1)
      revert key2
      generalize (c6 f.rows w).find? (fun i => part (rw f.rows i).r w == key) = X
      intro key2
      cases X <;> exact ⟨_, aq rfl key2⟩
theorem s8 (hI : Inv n f) (hn : n ≤ 60) (op : Nat) (hop : op = 11 ∨ op = 10 ∨ op = 27) (key : List UInt8) (hk : key.length ≤ 4) (w : Nat) (hw : w < 3) : ∃ g', m8 [.mut 3, .str op, .bytes key, .int w] (W b f l g) = some ((c8 f op key w).1, W b (c8 f op key w).2 l g') := by
  have hl := hI.l60 hn
  have hk1 := uG hk
  have hk2 := yb hk
  simp only [m8, k8, nr]
  unfold c8
  have hA0 : a9 aE (.cmp .Eq (.attr (.loc 1) 3) (.lit (.str 5))) (upd (upd (upd (upd ao 1 (.mut 3)) 33 (.str op)) 4 (.bytes key)) 10 (.int w)) (W b f l g) = some (.bool (f.acc == 5), W b f l g) := az (eF rfl rfl) (w := .str 5) rfl (by simp_arith [])
  have hR0 := qh (Γ := aE) (b := b) (f := f) (l := l) (g := g) (ρ := upd (upd (upd (upd ao 1 (.mut 3)) 33 (.str op)) 4 (.bytes key)) 10 (.int w)) rfl
  cases hA : f.acc == 5 with
  | true =>
    rw [hA] at hA0
    exact ⟨g, mJ (I := cb) rfl (n6 hA0 trivial)⟩
  | false =>
    rw [hA] at hA0
    cases hR : rd f with
    | false =>
      rw [hR] at hR0
      exact ⟨g, aq (I := cb) rfl (dP hA0 (ai hR0 (ah (by simp_arith [] <;> (first | rfl | exact ⟨rfl, rfl⟩)) trivial)))⟩
    | true =>
      rw [hR] at hR0
      simp only [Bool.false_eq_true, if_false, Bool.true_eq_false]
      have key1 := dO (Γ := aE) (x := 24) (bd := [.asg (.nm 32) (.slc (.idx (.loc 24) (.lit (.int 0))) (.lit .none) (.bi .len [(.loc 4)])),
    .if_ (.or [(.and [(.cmp .NotEq (.loc 33) (.lit (.str 10))), (.cmp .Eq (.loc 32) (.loc 4))]), (.and [(.cmp .NotEq (.loc 33) (.lit (.str 11))), (.cmp .Gt (.loc 32) (.loc 4))])]) [
      .ex (.meth (.loc 1) 26 [(.loc 10), (.tup [(.idx (.loc 24) (.lit (.int 0))), (.bin .Sub (.idx (.loc 24) (.lit (.int 1))) (.lit (.int 1)))])]),
      .ret (.lit (.str 4))] []])
          (e := .meth (.loc 1) 28 [(.loc 10)]) (ss := [.ret (.idx (.meth (.loc 1) 31 [(.lit (.str 9))]) (.lit (.int 0)))])
          (I := fun ρ => ρ 1 = some (.mut 3) ∧ ρ 33 = some (.str op) ∧ ρ 4 = some (.bytes key) ∧ ρ 10 = some (.int w)) (ρ := upd (upd (upd (upd ao 1 (.mut 3)) 33 (.str op)) 4 (.bytes key)) 10 (.int w)) (σ := W b f.q l g) (σ1 := W b f.q l (g ++ [gl f.rows w])) (is := c6 f.rows w) (fun i => b8 w (rw f.rows i) i)
          (fun i => dz op ((part (rw f.rows i).r w).take key.length) key) (fun i => .str 4) (fun i => W b { f with last := -1, which := w, lB := part (rw f.rows i).r w, lN := ci (rw f.rows i) w, fB := part (rw f.rows i).r w, fN := ci (rw f.rows i) w - 1, nw := false } l (g ++ [gl f.rows w])) (W b f.x l (g ++ [gl f.rows w])) (.ret (.str 9))
          (av (k := 3) (vs := [.int w]) (by simp_arith []) rfl (by simp_arith [] <;> (first | rfl | exact ⟨rfl, rfl⟩)) (dF (f := f.q) _ hw hl hI.r4 hI.pw)) (dM _ _ _ hl) ⟨rfl, rfl, rfl, rfl⟩
          (fun i hi ρ hρ => by
            obtain ⟨r1, r2, r3, r4⟩ := hρ
            have h4 := uG (iu (hI.r4 _ (d0 (eT hi))) w)
            have hs : a9 aE (.slc (.idx (.loc 24) (.lit (.int 0))) (.lit .none) (.bi .len [(.loc 4)])) (upd ρ 24 (b8 w (rw f.rows i) i)) (W b f.q l (g ++ [gl f.rows w])) = some (.bytes ((part (rw f.rows i).r w).take key.length), W b f.q l (g ++ [gl f.rows w])) := by
              simp_arith [r3, b8, hk1, hk2, h4]
            have hst : dz op ((part (rw f.rows i).r w).take key.length) key = ((!(op == 10) && ((part (rw f.rows i).r w).take key.length == key)) || (!(op == 11) && bX key ((part (rw f.rows i).r w).take key.length))) := by
              have := ic ((part (rw f.rows i).r w).take key.length) key
              rcases hop with rfl | rfl | rfl
              · simp [dz]
              · simp [dz]
              · rw [show dz 27 ((part (rw f.rows i).r w).take key.length) key = !bX ((part (rw f.rows i).r w).take key.length) key from rfl, ← this]
                simp
            have hc : a9 aE (.or [(.and [(.cmp .NotEq (.loc 33) (.lit (.str 10))), (.cmp .Eq (.loc 32) (.loc 4))]), (.and [(.cmp .NotEq (.loc 33) (.lit (.str 11))), (.cmp .Gt (.loc 32) (.loc 4))])]) (upd (upd ρ 24 (b8 w (rw f.rows i) i)) 32 (.bytes ((part (rw f.rows i).r w).take key.length))) (W b f.q l (g ++ [gl f.rows w])) = some (.bool (dz op ((part (rw f.rows i).r w).take key.length) key), W b f.q l (g ++ [gl f.rows w])) := by
              rw [hst]
              exact qg (bz (by simp_arith [r2]) fun H => by simp_arith [r3]) fun H => bz (by simp_arith [r2]) fun H => by simp_arith [r3]
            refine ⟨fun q => ?_, fun q => ?_⟩
            · rw [q] at hc
              exact aH hs (ai hc (fH (v := .none) (av (k := 3) (vs := [.int w, .tup [.bytes (part (rw f.rows i).r w), .int (ci (rw f.rows i) w - 1)]]) (by simp_arith [r1]) rfl (by simp_arith [b8, r4]) (lx b f.q l (g ++ [gl f.rows w]) w (part (rw f.rows i).r w) (ci (rw f.rows i) w - 1))) (ah (by simp_arith [] <;> (first | rfl | exact ⟨rfl, rfl⟩)) trivial)))
            · rw [q] at hc
              exact aH hs (aa hc (b9 (by simp [upd, r1, r2, r3, r4]))))
          (fun ρ hρ H => bv (by
            have := av (Γ := aE) (ρ := ρ) (o := .loc 1) (l := [.lit (.str 9)]) (k := 3) (σ := W b f.q l (g ++ [gl f.rows w])) (m := 31) (vs := [.str 9]) (by simp_arith [hρ.1]) rfl (by simp_arith []) (jT b f.q l _ 9)
            exact fO this bc rfl) trivial)
      have key2 := dP hA0 (aa (a := [.ret (.lit (.str 6))]) hR0 (ap (t := .att (.loc 1) 13) (e := .lit (.int (-1))) (v := .int (-1)) (ρ' := upd (upd (upd (upd ao 1 (.mut 3)) 33 (.str op)) 4 (.bytes key)) 10 (.int w)) (σ₂ := W b f.q l g) (by simp_arith []) (by simp_arith [W, aJ]) key1))
      revert key2
      generalize (c6 f.rows w).find? (fun i => dz op ((part (rw f.rows i).r w).take key.length) key) = X
      intro key2
      cases X <;> exact ⟨_, aq rfl key2⟩
end
theorem kA {α : Type} (q : α → Bool) : ∀ l : List α, (!(l.filter q).isEmpty) = l.any q
  | [] => rfl
  | a :: l => by
    cases h : q a with
    | true => simp [List.filter_cons, h]
    | false =>
      have := kA q l
      simpa [List.filter_cons, h] using this
theorem rJ {rows : List Row} {rc : List UInt8} {w : Nat} {own : Int} : oth rows rc w own = true ↔ ∃ i, i < rows.length ∧ (rw rows i).n0 ≠ own ∧ part (rw rows i).r w = part rc w := by
  unfold oth
  rw [kA, List.any_eq_true]
  refine ⟨fun h => ?_, fun h => ?_⟩
  · obtain ⟨r, hr, h⟩ := h
    obtain ⟨i, hi, rfl⟩ := List.mem_iff_getElem.mp hr
    have e : rw rows i = rows[i] := by have := l9 hi; rw [List.getElem?_eq_getElem hi] at this; exact (Option.some.inj this).symm
    simp at h
    exact ⟨i, hi, by rw [e]; exact h.1, by rw [e]; exact h.2⟩
  · obtain ⟨i, hi, h1, h2⟩ := h
    exact ⟨rw rows i, d0 hi, by simp [h1, h2]⟩
theorem oU {rows : List Row} {rc : List UInt8} {w : Nat} {own : Int} : ir rows rc w own = true ↔ ∃ i, i < rows.length ∧ (i : Int) ≠ own ∧ part (rw rows i).r w = part rc w := by
  unfold ir
  rw [List.find?_isSome]
  simp
section
variable {b : Int} {f l : Ab} {g : List M} {n : Nat}
theorem rK (hI : Inv n f) (rc : List UInt8) (w : Nat) : ir f.rows rc w (-1) = oth f.rows rc w (-1) := by
  rw [Bool.eq_iff_iff, oU, rJ]
  exact ⟨fun ⟨i, h1, h2, h3⟩ => ⟨i, h1, fun z => by have := (hI.pos _ (d0 h1)).1.1; rw [z] at this; exact absurd this (by decide), h3⟩, fun ⟨i, h1, h2, h3⟩ => ⟨i, h1, fun z => absurd (z ▸ Int.natCast_nonneg i : (0 : Int) ≤ -1) (by decide), h3⟩⟩
theorem rL (hI : Inv n f) (rc : List UInt8) (w : Nat) {p : Nat} (hp : p < f.rows.length) : ir f.rows rc w p = oth f.rows rc w (rw f.rows p).n0 := by
  rw [Bool.eq_iff_iff, oU, rJ]
  refine ⟨fun ⟨i, h1, h2, h3⟩ => ⟨i, h1, ?_, h3⟩, fun ⟨i, h1, h2, h3⟩ => ⟨i, h1, fun z => ?_, h3⟩⟩
  · exact (pZ hI.pw h1 hp fun z => h2 (z ▸ rfl)).2.1
  · have : i = p := Int.ofNat.inj z
    subst this
    exact h2 rfl
theorem qB (Γ : Gam) (o : Option Nat) {ρ : aj} {σ : St} (h : ρ 7 = some (jq o)) : a9 Γ (.cmp .Lt (.loc 7) (.lit (.int 0))) ρ σ = some (.bool o.isNone, σ) := by
  cases o with
  | none => simp_arith [h, jq]
  | some i => simp_arith [h, jq] <;> omega
theorem iy {Γ : Gam} {ρ : aj} {I : aj → Prop} {ss : List S} {fl : Fl} {σ' : St} (h : ρ 1 = some (.mut 3)) (k : Rn Γ I ss ρ (W b f.q l g) fl σ') : Rn Γ I (.asg (.att (.loc 1) 13) (.lit (.int (-1))) :: ss) ρ (W b f l g) fl σ' :=
  ap (v := .int (-1)) (ρ' := ρ) (σ₂ := W b f.q l g) rfl (by simp_arith [h, W, aJ]) k
theorem z7 {Γ : Gam} {ρ : aj} {σ : St} {a c : E} {u v w : V} {bi : BI} (h : a9 Γ a ρ σ = some (u, σ)) (h2 : a9 Γ c ρ σ = some (v, σ)) (h3 : py bi [u, v] σ = some w) : a9 Γ (.bi bi [a, c]) ρ σ = some (w, σ) := by simp [h, h2, h3]
theorem lF {Γ : Gam} {ρ : aj} {σ : St} (h1 : ρ 1 = some (.mut 3)) (h : σ[3]? = some (aJ f)) : a9 Γ (.bi .range [(.lit (.int 1)), (.bi .len [(.attr (.loc 1) 6)])]) ρ σ = some (.rng 1 3, σ) :=
  z7 (u := .int 1) bc (cX (u := .int 3) (ra h1 h) (by simp [bK, aF])) (by simp [aF])
theorem pE (hI : Inv n f) (hn : n ≤ 60) (key : List UInt8) : ∃ g', jx [.mut 3, .bytes key] (W b f l g) = some ((bB f key).1, W b (bB f key).2 l g') := by
  have hl := hI.l60 hn
  simp only [jx, iG, ls]
  unfold bB
  have hm : a9 aE (.cmp .NotEq (.attr (.loc 1) 2) (.lit (.str 13))) (upd (upd ao 1 (.mut 3)) 4 (.bytes key)) (W b f l g) = some (.bool (!(f.mode == 13)), W b f l g) := az (hW rfl rfl) (w := .str 13) rfl (by simp_arith [])
  cases hM : f.mode == 13 with
  | false =>
    rw [hM] at hm
    exact ⟨g, aq (I := cb) rfl (ai hm (ah (v := .str 16) rfl trivial))⟩
  | true =>
    rw [hM] at hm
    simp only [if_true]
    have ha : a9 aE (.cmp .Eq (.attr (.loc 1) 3) (.lit (.str 1))) (upd (upd ao 1 (.mut 3)) 4 (.bytes key)) (W b f l g) = some (.bool (f.acc == 1), W b f l g) := az (eF rfl rfl) (w := .str 1) rfl (by simp_arith [])
    have hs : ∃ g1, a9 aE (.ifx (.cmp .Eq (.attr (.loc 1) 3) (.lit (.str 1))) (.meth (.loc 1) 41 []) (.meth (.loc 1) 38 [(.loc 4)])) (upd (upd ao 1 (.mut 3)) 4 (.bytes key)) (W b f l g) = some (jq (gJ f key), W b f l g1) := by
      unfold gJ
      cases hA : f.acc == 1 with
      | true =>
        rw [hA] at ha
        obtain ⟨g1, e⟩ := gc b f l g hl
        exact ⟨g1, z9 ha (av (k := 3) (vs := []) (by simp_arith []) rfl (by simp []) e)⟩
      | false =>
        rw [hA] at ha
        exact ⟨g, z8 ha (av (k := 3) (vs := [.bytes key]) (by simp_arith []) rfl (by simp_arith []) (fh key hl hI.r4))⟩
    obtain ⟨g1, hs⟩ := hs
    have hlt := qB aE (gJ f key) (ρ := upd (upd (upd ao 1 (.mut 3)) 4 (.bytes key)) 7 (jq (gJ f key))) (σ := W b f l g1) rfl
    cases hq : gJ f key with
    | none =>
      rw [hq] at hs hlt
      have hz : a9 aE (.ifx (.cmp .Eq (.attr (.loc 1) 3) (.lit (.str 1))) (.lit (.str 17)) (.lit (.str 9))) (upd (upd (upd ao 1 (.mut 3)) 4 (.bytes key)) 7 (jq none)) (W b f l g1) = some (.str (if (f.acc == 1) = true then 17 else 9), W b f l g1) := by
        rw [show V.str (if (f.acc == 1) = true then 17 else 9) = if (f.acc == 1) = true then V.str 17 else V.str 9 from by split <;> rfl]
        exact eK (az (eF (f := f) rfl rfl) (w := .str 1) rfl (by simp_arith [])) (fun H => rfl) fun H => rfl
      exact ⟨g1, aq (I := cb) rfl (aa hm (d5 hs (ai hlt (ah hz trivial))))⟩
    | some p =>
      rw [hq] at hs hlt
      have hp : p < f.rows.length := by rw [jJ] at hq; exact (cu hq).1
      exact ⟨g1, aq (I := cb) rfl (aa hm (d5 hs (aa hlt (iy rfl (fH (v := .none) (av (k := 3) (vs := [.int p]) (by simp_arith []) rfl (by simp_arith [jq]) (nA b f.q l g1 p hp hl)) (ah (v := .str 4) rfl trivial))))))⟩
theorem s9 (hI : Inv n f) (hn : n < 60) (rc : List UInt8) (hrc : rc.length = 4) : ∃ g', ma [.mut 3, .bytes rc] (W b f l g) = some ((bH f rc).1, W b (bH f rc).2 l g') := by
  have hl := hI.l60 (Nat.le_of_lt hn)
  refine ⟨g, ?_⟩
  simp only [ma, hG, gO]
  unfold bH
  have hm : a9 aO (.not (.meth (.loc 1) 37 [])) (upd (upd ao 1 (.mut 3)) 15 (.bytes rc)) (W b f l g) = some (.bool (!ig f), W b f l g) := qe (av (k := 3) (vs := []) (by simp_arith []) rfl (by simp []) (m4 b f l g))
  cases hM : ig f with
  | false =>
    rw [hM] at hm
    exact aq (I := cb) rfl (ai hm (ah (v := .str 14) rfl trivial))
  | true =>
    rw [hM] at hm
    simp only [Bool.true_eq_false, if_false]
    have hk : a9 aO (.meth (.loc 1) 16 [(.loc 15), (.lit (.int 0))]) (upd (upd ao 1 (.mut 3)) 15 (.bytes rc)) (W b f.q l g) = some (.bytes (part rc 0), W b f.q l g) :=
      av (k := 3) (vs := [.bytes rc, .int (0 : Nat)]) (by simp_arith []) rfl (by simp_arith []) (cJ b f.q l g rc 0 (by decide) hrc)
    have hgo : ∀ (v : V) (f' : Ab), Rn aO cb (gO.drop 3) (upd (upd (upd ao 1 (.mut 3)) 15 (.bytes rc)) 4 (.bytes (part rc 0))) (W b f.q l g) (.ret v) (W b f' l g) → d6 aO hG gO [.mut 3, .bytes rc] (W b f l g) = some (some v, W b f' l g) :=
      fun v f' e => aq (I := cb) (ρ := upd (upd ao 1 (.mut 3)) 15 (.bytes rc)) rfl (aa hm (iy rfl (aH hk e)))
    generalize hρ : upd (upd (upd ao 1 (.mut 3)) 15 (.bytes rc)) 4 (.bytes (part rc 0)) = ρ at hgo
    have r1 : ρ 1 = some (.mut 3) := by subst hρ; rfl
    have r2 : ρ 15 = some (.bytes rc) := by subst hρ; rfl
    have r3 : ρ 4 = some (.bytes (part rc 0)) := by subst hρ; rfl
    clear hρ
    have ha : a9 aO (.cmp .Eq (.attr (.loc 1) 3) (.lit (.str 1))) ρ (W b f.q l g) = some (.bool (f.acc == 1), W b f.q l g) := az (eF (f := f.q) r1 rfl) (w := .str 1) rfl (by simp_arith [])
    have h1 : a9 aO (.and [(.cmp .NotEq (.attr (.loc 1) 0) (.lst [])), (.cmp .LtE (.loc 4) (.attr (.loc 1) 14))]) ρ (W b f.q l g) = some (.bool (!f.rows.isEmpty && !bX f.high (part rc 0)), W b f.q l g) := by
      refine bz (az (mq (f := f.q) r1 rfl) (w := .list []) (by simp_arith []) ?_) fun H => az (u := .bytes (part rc 0)) (w := .bytes f.high) (by simp [r3]) (wh (f := f.q) r1 rfl) (by simp_arith [])
      simp [eJ]
    have h2 : a9 aO (.cmp .GtE (.meth (.loc 1) 38 [(.loc 4)]) (.lit (.int 0))) ρ (W b f.q l g) = some (.bool (f.rows.any fun r => part r.r 0 == part rc 0), W b f.q l g) := by
      refine az (av (k := 3) (vs := [.bytes (part rc 0)]) (by simp_arith [r1]) rfl (by simp_arith [r3]) (fh (f := f.q) (part rc 0) hl hI.r4)) (w := .int 0) rfl ?_
      have := List.findIdx?_isSome (xs := f.rows) (p := fun r => part r.r 0 == part rc 0)
      show f6 .GtE (jq (f.rows.findIdx? fun r => part r.r 0 == part rc 0)) _ _ = _
      cases hq : f.rows.findIdx? fun r => part r.r 0 == part rc 0 with
      | none => rw [hq] at this; simp_arith [jq, ← this]
      | some i => rw [hq] at this; simp_arith [jq, ← this] <;> omega
    have hst : a9 aO (.meth (.loc 1) 39 [(.loc 15), (.lit (.int (-1))), (.bi .range [(.lit (.int 1)), (.bi .len [(.attr (.loc 1) 6)])])]) ρ (W b f.q l g) = some (.str (b7 (oth f.rows rc 1 (-1)) (oth f.rows rc 2 (-1)) f.dbl), W b f.q l g) := by
      refine av (k := 3) (vs := [.bytes rc, .int (-1), .rng 1 3]) (by simp_arith [r1]) rfl (iO (by simp [r2]) rfl ?_) ((j7 (f := f.q) rc hrc (-1) true true (.rng 1 3) (fun σ => by simp [aF, aR, DK]) hl hI.r4).trans ?_)
      · exact lF (f := f.q) r1 rfl
      · simp only [Bool.true_and, Ab.q_rows]
        rw [rK hI, rK hI]
        rfl
    have htail : ∀ st : Nat, b7 (oth f.rows rc 1 (-1)) (oth f.rows rc 2 (-1)) f.dbl = st → Rn aO cb [.asg (.nm 23) (.meth (.loc 1) 39 [(.loc 15), (.lit (.int (-1))), (.bi .range [(.lit (.int 1)), (.bi .len [(.attr (.loc 1) 6)])])]),
        .if_ (.cmp .NotEq (.loc 23) (.lit (.str 12))) [.ex (.meth (.loc 1) 40 [(.loc 15), (.lst []), (.bi .range [(.bi .len [(.attr (.loc 1) 6)])])]), .asg (.att (.loc 1) 14) (.loc 4)] [], .ret (.loc 23)] ρ (W b f.q l g)
        (.ret (.str st)) (W b (if st = 12 then f.q else { f with last := -1, rows := f.rows ++ [⟨f.many, f.many, f.many, rc⟩], many := f.many + 1, high := part rc 0 }) l g) := by
      intro st hd
      rw [hd] at hst
      by_cases h12 : st = 12
      · subst h12
        rw [if_pos rfl]
        exact aH hst (aa (by simp_arith []) (ah (v := .str 12) rfl trivial))
      · rw [if_neg h12]
        have hk3 : a9 aO (.bi .range [(.bi .len [(.attr (.loc 1) 6)])]) (upd ρ 23 (.str st)) (W b f.q l g) = some (.rng 0 3, W b f.q l g) :=
          cX (cX (u := .int 3) (ra (f := f.q) (by simp [upd, r1]) rfl) (by simp [bK, aF])) (by simp [aF])
        have hput := qW b f.q l g rc (.list []) (.rng 0 3) (fun H => true) (fun H => 0) hl (fun w hw σ => by show some (decide ((0 : Int) ≤ w) && decide ((w : Int) < 3)) = some true; rw [decide_eq_true (Int.natCast_nonneg w), decide_eq_true (show (w : Int) < 3 from Int.ofNat_lt.mpr hw)]; rfl) (fun w hw z => by cases z)
        exact aH hst (db (J := fun ρ => ρ 23 = some (.str st)) (σ1 := W b f.q l g) (by simp_arith [h12]) (fH (v := .none) (av (k := 3) (vs := [.bytes rc, .list [], .rng 0 3]) (by simp_arith [r1]) rfl (iO (by simp_arith [r2]) (by simp []) hk3) hput)
          (ap (v := .bytes (part rc 0)) (ρ' := upd ρ 23 (.str st)) (σ₂ := W b { f with last := -1, rows := f.rows ++ [⟨f.many, f.many, f.many, rc⟩], many := f.many + 1, high := part rc 0 } l g) (by simp_arith [r3]) (by simp_arith [r1, W, aJ]) (b9 (by simp [upd])))) fun ρ2 z => ah (v := .str st) (by simp_arith [z]) trivial)
    have hhigh : f.acc = 1 → f.rows ≠ [] → f.high = dC f.rows := fun q1 q2 => by
      refine (hI.high q1 ?_ q2).symm
      unfold ig at hM
      simp [q1] at hM
      omega
    cases hA : f.acc == 1 with
    | true =>
      rw [hA] at ha
      have hA' : f.acc = 1 := eq_of_beq hA
      simp only [Bool.true_and, Bool.not_true, Bool.false_and, Bool.false_eq_true, if_false]
      cases c1 : (!f.rows.isEmpty && !bX f.high (part rc 0)) with
      | true =>
        have c1' : (!f.rows.isEmpty && !bX (dC f.rows) (part rc 0)) = true := by
          have hne : f.rows ≠ [] := fun z => by simp [z] at c1
          rw [← hhigh hA' hne]; exact c1
        rw [if_pos c1']
        rw [c1] at h1
        exact hgo _ _ (ai ha (ai h1 (ah (v := .str 15) rfl trivial)))
      | false =>
        have c1' : ¬ (!f.rows.isEmpty && !bX (dC f.rows) (part rc 0)) = true := by
          intro z
          have hne : f.rows ≠ [] := fun q => by simp [q] at z
          rw [← hhigh hA' hne, c1] at z
          cases z
        rw [if_neg c1']
        rw [c1] at h1
        have hh := fun st hst => hgo _ _ (db (J := fun ρ' => ρ' = ρ) ha (aa h1 (b9 rfl)) fun ρ' z => z ▸ htail st hst)
        by_cases h12 : b7 (oth f.rows rc 1 (-1)) (oth f.rows rc 2 (-1)) f.dbl = 12
        · rw [if_pos h12]; have := hh 12 h12; rw [if_pos rfl] at this; exact this
        · rw [if_neg h12]; have := hh _ rfl; rw [if_neg h12] at this; exact this
    | false =>
      rw [hA] at ha
      simp only [Bool.not_false, Bool.true_and, Bool.false_and, Bool.false_eq_true, if_false]
      cases c2 : (f.rows.any fun r => part r.r 0 == part rc 0) with
      | true =>
        rw [c2] at h2
        rw [if_pos rfl]
        exact hgo _ _ (rN ha (ai h2 (ah (v := .str 12) rfl trivial)))
      | false =>
        rw [c2] at h2
        simp only [Bool.false_eq_true, if_false]
        have hh := fun st hst => hgo _ _ (n5 (J := fun ρ' => ρ' = ρ) ha (aa h2 (b9 rfl)) fun ρ' z => z ▸ htail st hst)
        by_cases h12 : b7 (oth f.rows rc 1 (-1)) (oth f.rows rc 2 (-1)) f.dbl = 12
        · rw [if_pos h12]; have := hh 12 h12; rw [if_pos rfl] at this; exact this
        · rw [if_neg h12]; have := hh _ rfl; rw [if_neg h12] at this; exact this
end
section
variable {b : Int} {f l : Ab} {g : List M} {n : Nat}
theorem eR (a : Ab) (rc : List UInt8) : bg a rc = if a.mode == 13 then match gJ a (part rc 0) with
    | none => (some (.str (if a.acc == 1 then 17 else 9)), a)
    | some p => if cF a rc p 0 = true then (some (.str 15), a.q) else (some (.str (cZ a rc p).1), (cZ a rc p).2)
  else (some (.str 16), a) := rfl
theorem pb {α : Type} : ∀ {l : List α} {i : Nat} {x : α}, l[i]? = some x → l.set i x = l
  | [], _, _, h => by simp at h
  | a :: l, 0, x, h => by simp at h; simp [h]
  | a :: l, i + 1, x, h => by simp at h; simp [pb h]
theorem rQ (hI : Inv n f) (hn : n ≤ 60) (rc : List UInt8) (hrc : rc.length = 4) {p : Nat} (hp : p < f.rows.length) (h0 : cF f rc p 0 = false) {ρ : aj} (r1 : ρ 1 = some (.mut 3)) (r2 : ρ 15 = some (.bytes rc)) (r3 : ρ 7 = some (.int p)) :
    Rn aO cb (dj.drop 4) ρ (W b f l g) (.ret (.str (cZ f rc p).1)) (W b (cZ f rc p).2 l g) := by
  have hl := hI.l60 hn
  have h4 : (rw f.rows p).r.length = 4 := hI.r4 _ (d0 hp)
  have hc : a9 aO (.idx (.attr (.loc 1) 0) (.loc 7)) ρ (W b f.q l g) = some (.bytes (rw f.rows p).r, W b f.q l g) := ky (f := f.q) r1 r3 hp hl
  refine iy r1 (aH hc ?_)
  generalize hρ : upd ρ 42 (.bytes (rw f.rows p).r) = ρ1
  have s1 : ρ1 1 = some (.mut 3) := by subst hρ; simp [upd, r1]
  have s2 : ρ1 15 = some (.bytes rc) := by subst hρ; simp [upd, r2]
  have s3 : ρ1 7 = some (.int p) := by subst hρ; simp [upd, r3]
  have s4 : ρ1 42 = some (.bytes (rw f.rows p).r) := by subst hρ; simp [upd]
  clear hρ hc r1 r2 r3
  obtain ⟨t1, ht1⟩ : ∃ t1, cF f rc p 1 = t1 := ⟨_, rfl⟩
  obtain ⟨t2, ht2⟩ : ∃ t2, cF f rc p 2 = t2 := ⟨_, rfl⟩
  have htu : a9 aO (.comp [10] (.loc 10) (.bi .range [(.lit (.int 1)), (.bi .len [(.attr (.loc 1) 6)])]) [(.cmp .NotEq (.meth (.loc 1) 16 [(.loc 42), (.loc 10)]) (.meth (.loc 1) 16 [(.loc 15), (.loc 10)]))] false false) ρ1 (W b f.q l g) = some (pf t1 t2, W b f.q l g) := by
    refine bV (v := .rng 1 3) (o := none) (l := [.int 1, .int 2]) (σ1 := W b f.q l g) (lF (f := f.q) s1 rfl) (by simp [aF, aR]) ?_
    have := bO (elt := fun ρ' σ' => a9 aO (.loc 10) ρ' σ') (ifs := fun ρ' σ' => evAnd aO [(.cmp .NotEq (.meth (.loc 1) 16 [(.loc 42), (.loc 10)]) (.meth (.loc 1) 16 [(.loc 15), (.loc 10)]))] ρ' σ') (xs := [10]) (o := none) (l₀ := [.int 1, .int 2]) (ρ := ρ1) (σ := W b f.q l g)
      (fun (w : Nat) => V.int w) (fun w => cF f rc p w) (fun (w : Nat) => V.int w) aZ [1, 2] fun w hw => ⟨_, rfl, xU (by
        have hw3 := ES hw
        exact az (av (k := 3) (vs := [.bytes (rw f.rows p).r, .int w]) (by simp_arith [s1]) rfl (mI (by simp_arith [s4]) rfl) (cJ b f.q l g _ w hw3 h4)) (av (k := 3) (vs := [.bytes rc, .int w]) (by simp_arith [s1]) rfl (mI (by simp_arith [s2]) rfl) (cJ b f.q l g _ w hw3 hrc)) (by simp_arith [cF])), fun H => rfl⟩
    rw [show ([1, 2] : List Nat).filter (fun w => cF f rc p w) = DK t1 t2 from by simp only [List.filter_cons, ht1, ht2]; cases t1 <;> cases t2 <;> rfl] at this
    exact this
  refine aH htu ?_
  have hst : a9 aO (.meth (.loc 1) 39 [(.loc 15), (.loc 7), (.loc 34)]) (upd ρ1 34 (pf t1 t2)) (W b f.q l g) = some (.str (b7 (t1 && oth f.rows rc 1 (rw f.rows p).n0) (t2 && oth f.rows rc 2 (rw f.rows p).n0) f.dbl), W b f.q l g) := by
    refine av (k := 3) (vs := [.bytes rc, .int p, pf t1 t2]) (by simp_arith [s1]) rfl (iO (by simp_arith [s2]) (by simp_arith [s3]) rfl) ((j7 (f := f.q) rc hrc p t1 t2 _ (fun σ => by cases t1 <;> cases t2 <;> rfl) hl hI.r4).trans ?_)
    rw [Ab.q_rows, rL hI rc 1 hp, rL hI rc 2 hp]
    rfl
  unfold cZ
  rw [ht1, ht2]
  generalize b7 (t1 && oth f.rows rc 1 (rw f.rows p).n0) (t2 && oth f.rows rc 2 (rw f.rows p).n0) f.dbl = st at hst ⊢
  refine aH hst ?_
  generalize hρ : upd (upd ρ1 34 (pf t1 t2)) 23 (.str st) = ρ2
  have u1 : ρ2 1 = some (.mut 3) := by subst hρ; simp [upd, s1]
  have u2 : ρ2 15 = some (.bytes rc) := by subst hρ; simp [upd, s2]
  have u3 : ρ2 7 = some (.int p) := by subst hρ; simp [upd, s3]
  have u5 : ρ2 34 = some (pf t1 t2) := by subst hρ; simp [upd]
  have u6 : ρ2 23 = some (.str st) := by subst hρ; simp [upd]
  clear hρ hst htu s1 s2 s3 s4
  by_cases h12 : st = 12
  · subst h12
    rw [if_pos rfl]
    exact ai (by simp_arith [u6]) (ah (by simp_arith [u6]) trivial)
  · rw [if_neg h12]
    refine aa (by simp_arith [u6, h12]) ?_
    have he : a9 aO (.cmp .Eq (.loc 34) (.lst [])) ρ2 (W b f.q l g) = some (.bool (!(t1 || t2)), W b f.q l g) := by
      refine az (u := pf t1 t2) (by simp_arith [u5]) (w := .list []) (by simp_arith []) ?_
      cases t1 <;> cases t2 <;> rfl
    cases c1 : (t1 || t2) with
    | false =>
      rw [c1] at he
      rw [if_neg (by simp)]
      have hrec : rc = (rw f.rows p).r := by
        simp at c1
        refine (yF h4 hrc ?_ ?_ ?_).symm
        · simpa [cF] using h0
        · have := ht1.trans c1.1; simpa [cF] using this
        · have := ht2.trans c1.2; simpa [cF] using this
      have hlm := dB hl
      refine db (J := fun ρ => ρ 23 = some (.str st)) he (ap (v := .bytes rc) (ρ' := ρ2) (σ₂ := W b f.q l g) (by simp_arith [u2]) ?_ (b9 u6)) fun ρ3 z => ah (by simp_arith [z]) trivial
      have hs : (f.rows.map da).set p (.bytes rc) = f.rows.map da := pb (by rw [List.getElem?_map, l9 hp]; simp [da, hrec])
      simp_arith [u1, u3, W, aJ, hp, hlm, hs]
    | true =>
      rw [c1] at he
      rw [if_pos rfl]
      have hstp := iN (Γ := aO) (b := b) (f := f.q) (l := l) (g := g) u1 u3 hp hl
      have hput := qW b (f.qr (f.rows.eraseIdx p)) l g rc (aT (rw f.rows p)) (pf t1 t2) (fun w => (w == 1 && t1) || (w == 2 && t2)) (ci (rw f.rows p)) (rq hl p)
        (fun w hw σ => by
          refine CF hw ?_ ?_ ?_ <;> cases t1 <;> cases t2 <;> rfl)
        (fun w hw H σ => j2 _ w hw σ)
      refine (fun z : Rn aO cb (dj.drop 9) ρ2 (W b f.q l g) (.ret (.str st)) (W b { f with last := -1, rows := f.rows.eraseIdx p ++ [⟨if (((0 : Nat) == 1 && t1) || ((0 : Nat) == 2 && t2)) = true then f.many else ci (rw f.rows p) 0, if (((1 : Nat) == 1 && t1) || ((1 : Nat) == 2 && t2)) = true then f.many else ci (rw f.rows p) 1, if (((2 : Nat) == 1 && t1) || ((2 : Nat) == 2 && t2)) = true then f.many else ci (rw f.rows p) 2, rc⟩], many := f.many + 1 } l g) => ?_) ?_
      · cases t1 <;> cases t2 <;> exact z
      · have hargs : evEs aO [.loc 15, .loc 8, .loc 34] (upd ρ2 8 (aT (rw f.rows p))) (W b (f.qr (f.rows.eraseIdx p)) l g) = some ([.bytes rc, aT (rw f.rows p), pf t1 t2], W b (f.qr (f.rows.eraseIdx p)) l g) :=
          iO (by simp_arith [u2]) rfl (by simp_arith [u5])
        refine n5 (J := fun ρ => ρ 23 = some (.str st)) he (aH hstp (fH (v := .none) (av (k := 3) (vs := [.int p]) (by simp_arith [u1]) rfl (by simp_arith [u3]) (nA b f.q l g p hp hl)) (fH (v := .none) (av (k := 3) (by simp_arith [u1]) rfl hargs hput) (b9 (by simp [upd, u6]))))) fun ρ3 z => ah (by simp_arith [z]) trivial
theorem nD (hI : Inv n f) (hn : n ≤ 60) (rc : List UInt8) (hrc : rc.length = 4) : ∃ g', gU [.mut 3, .bytes rc] (W b f l g) = some ((bg f rc).1, W b (bg f rc).2 l g') := by
  have hl := hI.l60 hn
  rw [eR]
  unfold gU
  have hm : a9 aO (.cmp .NotEq (.attr (.loc 1) 2) (.lit (.str 13))) (upd (upd ao 1 (.mut 3)) 15 (.bytes rc)) (W b f l g) = some (.bool (!(f.mode == 13)), W b f l g) := az (hW rfl rfl) (w := .str 13) rfl (by simp_arith [])
  cases hM : f.mode == 13 with
  | false =>
    rw [hM] at hm
    exact ⟨g, aq (I := cb) (ρ := upd (upd ao 1 (.mut 3)) 15 (.bytes rc)) rfl (ai hm (ah (v := .str 16) rfl trivial))⟩
  | true =>
    rw [hM] at hm
    simp only [if_true]
    have hk : a9 aO (.meth (.loc 1) 16 [(.loc 15), (.lit (.int 0))]) (upd (upd ao 1 (.mut 3)) 15 (.bytes rc)) (W b f l g) = some (.bytes (part rc 0), W b f l g) :=
      av (k := 3) (vs := [.bytes rc, .int (0 : Nat)]) (by simp_arith []) rfl (by simp_arith []) (cJ b f l g rc 0 (by decide) hrc)
    have hpl : a9 aO (.meth (.loc 1) 38 [(.loc 4)]) (upd (upd (upd ao 1 (.mut 3)) 15 (.bytes rc)) 4 (.bytes (part rc 0))) (W b f l g) = some (jq (f.rows.findIdx? fun r => part r.r 0 == part rc 0), W b f l g) :=
      av (k := 3) (vs := [.bytes (part rc 0)]) (by simp_arith []) rfl (by simp_arith []) (fh (part rc 0) hl hI.r4)
    have hgo : ∀ (v : V) (f' : Ab) (g' : List M), Rn aO cb (dj.drop 3) (upd (upd (upd (upd ao 1 (.mut 3)) 15 (.bytes rc)) 4 (.bytes (part rc 0))) 7 (jq (f.rows.findIdx? fun r => part r.r 0 == part rc 0))) (W b f l g) (.ret v) (W b f' l g') → d6 aO gy dj [.mut 3, .bytes rc] (W b f l g) = some (some v, W b f' l g') :=
      fun v f' g' e => aq (I := cb) (ρ := upd (upd ao 1 (.mut 3)) 15 (.bytes rc)) rfl (aa hm (aH hk (aH hpl e)))
    have ha : a9 aO (.cmp .Eq (.attr (.loc 1) 3) (.lit (.str 1))) (upd (upd (upd (upd ao 1 (.mut 3)) 15 (.bytes rc)) 4 (.bytes (part rc 0))) 7 (jq (f.rows.findIdx? fun r => part r.r 0 == part rc 0))) (W b f l g) = some (.bool (f.acc == 1), W b f l g) := az (eF rfl rfl) (w := .str 1) rfl (by simp_arith [])
    unfold gJ
    cases hA : f.acc == 1 with
    | false =>
      rw [hA] at ha
      simp only [Bool.false_eq_true, if_false]
      have hlt := qB aO (f.rows.findIdx? fun r => part r.r 0 == part rc 0) (ρ := upd (upd (upd (upd ao 1 (.mut 3)) 15 (.bytes rc)) 4 (.bytes (part rc 0))) 7 (jq (f.rows.findIdx? fun r => part r.r 0 == part rc 0))) (σ := W b f l g) rfl
      cases hq : f.rows.findIdx? fun r => part r.r 0 == part rc 0 with
      | none =>
        rw [hq] at hlt ha hgo
        exact ⟨g, hgo _ _ _ (rN ha (ai hlt (ah (v := .str 9) rfl trivial)))⟩
      | some p =>
        rw [hq] at hlt ha hgo
        obtain ⟨hp, hc, _⟩ := cu hq
        have h0 : cF f rc p 0 = false := by simp [cF]; simpa using hc
        dsimp only
        rw [if_neg (by simp [h0])]
        exact ⟨g, hgo _ _ _ (n5 (J := fun ρ' => ρ' = upd (upd (upd (upd ao 1 (.mut 3)) 15 (.bytes rc)) 4 (.bytes (part rc 0))) 7 (jq (some p))) ha (aa hlt (b9 rfl)) fun ρ' z => by subst z; exact rQ hI hn rc hrc hp h0 rfl rfl rfl)⟩
    | true =>
      rw [hA] at ha
      simp only [if_true]
      obtain ⟨g1, hlp⟩ := gc b f l g hl
      generalize hρ : upd (upd (upd (upd ao 1 (.mut 3)) 15 (.bytes rc)) 4 (.bytes (part rc 0))) 7 (jq (f.rows.findIdx? fun r => part r.r 0 == part rc 0)) = ρ at ha hgo
      have r1 : ρ 1 = some (.mut 3) := by subst hρ; rfl
      have r2 : ρ 15 = some (.bytes rc) := by subst hρ; rfl
      have r3 : ρ 4 = some (.bytes (part rc 0)) := by subst hρ; rfl
      clear hρ
      have hl7 : a9 aO (.meth (.loc 1) 41 []) ρ (W b f l g) = some (jq (c7 f), W b f l g1) := av (k := 3) (vs := []) (by simp_arith [r1]) rfl (by simp []) hlp
      have hlt := qB aO (c7 f) (ρ := upd ρ 7 (jq (c7 f))) (σ := W b f l g1) (by simp [upd])
      cases hq : c7 f with
      | none =>
        rw [hq] at hlt hl7
        exact ⟨g1, hgo _ _ _ (ai ha (d5 hl7 (ai hlt (ah (v := .str 17) rfl trivial))))⟩
      | some p =>
        rw [hq] at hlt hl7
        have hp : p < f.rows.length := by unfold c7 at hq; exact (cu hq).1
        have hne : a9 aO (.cmp .NotEq (.meth (.loc 1) 16 [(.idx (.attr (.loc 1) 0) (.loc 7)), (.lit (.int 0))]) (.loc 4)) (upd ρ 7 (jq (some p))) (W b f l g1) = some (.bool (cF f rc p 0), W b f l g1) :=
          az (fV (Γ := aO) (x := 7) (w := 0) rfl (by simp [upd, r1]) (by simp [upd, jq]) (by decide) rfl hp hl hI.r4) (w := .bytes (part rc 0)) (by simp_arith [r3]) (by simp_arith [cF])
        dsimp only
        cases h0 : cF f rc p 0 with
        | true =>
          rw [h0] at hne
          rw [if_pos rfl]
          exact ⟨g1, hgo _ _ _ (ai ha (d5 hl7 (aa hlt (ai hne (iy (by simp [upd, r1]) (ah (v := .str 15) rfl trivial))))))⟩
        | false =>
          rw [h0] at hne
          rw [if_neg (by simp)]
          exact ⟨g1, hgo _ _ _ (db (J := fun ρ' => ρ' = upd ρ 7 (jq (some p))) ha (d5 hl7 (aa hlt (aa hne (b9 rfl)))) fun ρ' z => by subst z; exact rQ hI hn rc hrc hp h0 (by simp [upd, r1]) (by simp [upd, r2]) (by simp [upd, jq]))⟩
end
theorem iU : ∀ {a b c : List UInt8}, bX a b = true → bX b c = true → bX a c = true
  | [], [], _, h, _ => by simp [bX] at h
  | [], b :: bs, [], _, h => by simp [bX] at h
  | [], b :: bs, c :: cs, _, _ => by simp [bX]
  | a :: as, [], _, h, _ => by simp [bX] at h
  | a :: as, b :: bs, [], _, h => by simp [bX] at h
  | a :: as, b :: bs, c :: cs, h1, h2 => by
    simp only [bX] at h1 h2 ⊢
    by_cases e1 : a = b
    · subst e1
      rw [if_pos rfl] at h1
      by_cases e2 : a = c
      · subst e2
        rw [if_pos rfl] at h2 ⊢
        exact iU h1 h2
      · rw [if_neg e2] at h2 ⊢
        exact h2
    · rw [if_neg e1] at h1
      by_cases e2 : b = c
      · subst e2
        rw [if_neg e1]
        exact h1
      · rw [if_neg e2] at h2
        have h1 := of_decide_eq_true h1
        have h2 := of_decide_eq_true h2
        rw [if_neg fun z : a = c => Nat.lt_asymm h1 (z ▸ h2 : b.toNat < a.toNat)]
        exact decide_eq_true (Nat.lt_trans h1 h2)
theorem mT : ∀ (l : List (List UInt8)) (a : List UInt8), bX (ie a l) a = false ∧ ∀ x ∈ l, bX (ie a l) x = false
  | [], a => ⟨rB a, fun x h => by cases h⟩
  | y :: l, a => by
    simp only [ie]
    cases h : bX a y with
    | true =>
      simp only [if_true]
      obtain ⟨h1, h2⟩ := mT l y
      refine ⟨?_, fun x hx => ?_⟩
      · cases q : bX (ie y l) a with
        | false => rfl
        | true => rw [iU q h] at h1; cases h1
      · rcases List.mem_cons.mp hx with rfl | hx
        · exact h1
        · exact h2 x hx
    | false =>
      simp only [Bool.false_eq_true, if_false]
      obtain ⟨h1, h2⟩ := mT l a
      refine ⟨h1, fun x hx => ?_⟩
      rcases List.mem_cons.mp hx with rfl | hx
      · cases q : bX (ie a l) x with
        | false => rfl
        | true =>
          have := ic a x
          rw [h] at this
          simp at this
          rcases this with e | e
          · subst e; rw [q] at h1; cases h1
          · rw [iU q e] at h1; cases h1
      · exact h2 x hx
theorem jn (x : List UInt8) : ∀ (l : List (List UInt8)) (a : List UInt8), ie a (l ++ [x]) = if bX (ie a l) x then x else ie a l
  | [], a => rfl
  | y :: l, a => jn x l _
theorem wY {rows : List Row} {r : Row} (h : r ∈ rows) : bX (dC rows) (part r.r 0) = false := by
  cases rows with
  | nil => cases h
  | cons a rs =>
    obtain ⟨h1, h2⟩ := mT (rs.map fun r => part r.r 0) (part a.r 0)
    rcases List.mem_cons.mp h with rfl | h
    · exact h1
    · exact h2 _ (List.mem_map_of_mem h)
theorem oH {rows : List Row} (h : rows ≠ []) (r : Row) : dC (rows ++ [r]) = if bX (dC rows) (part r.r 0) then part r.r 0 else dC rows := by
  cases rows with
  | nil => exact absurd rfl h
  | cons a rs =>
    show ie (part a.r 0) ((rs ++ [r]).map fun r => part r.r 0) = _
    rw [List.map_append]
    exact jn _ _ _
theorem um (p : List UInt8) (m : Int) (B : List UInt8) (N : Int) : qk p m B (N + 1) = y4 p m B N := by
  unfold qk y4
  have := ic p B
  cases h : p == B with
  | false => rw [h] at this; simp at this; simp [this]
  | true =>
    rw [if_pos rfl, if_pos rfl]
    by_cases z : N < m
    · rw [decide_eq_true z, decide_eq_false (Int.not_lt.mpr z), if_neg (fun q => Int.ne_of_gt z (eq_of_beq q))]
      split <;> rfl
    · rw [decide_eq_false z, if_neg (fun q => z (by rw [eq_of_beq q]; exact Int.lt_succ N)), decide_eq_true (Int.lt_add_one_of_le (Int.not_lt.mp z))]
      split <;> rfl
theorem mS {a b : Int} (h : a < b) : a < b + 1 := Int.lt_trans h (Int.lt_succ b)
section
variable {n : Nat} {a : Ab}
theorem Inv.move (hI : Inv n a) {w : Nat} (hw : w < 3) (nw : Bool) (last : Int) {lB fB : List UInt8} {lN fN : Int} (h : ∀ (p : List UInt8) (m : Int), 0 ≤ m → qk p m lB lN = y4 p m fB fN) : Inv n { a with which := w, nw := nw, last := last, lB := lB, lN := lN, fB := fB, fN := fN } :=
  ⟨hI.len, hI.r4, hI.pos, hI.many, hI.pw, hw, h, hI.high⟩
theorem Inv.last (hI : Inv n a) (nw : Bool) (last : Int) : Inv n { a with nw := nw, last := last } := ⟨hI.len, hI.r4, hI.pos, hI.many, hI.pw, hI.which, hI.at_, hI.high⟩
theorem Inv.more (hI : Inv n a) : Inv (n + 1) a := ⟨Nat.le_succ_of_le hI.len, hI.r4, hI.pos, hI.many, hI.pw, hI.which, hI.at_, hI.high⟩
theorem Inv.stand (hI : Inv n a) {w i : Nat} (hw : w < 3) : Inv n (standAt a w i) := by
  refine hI.move hw false _ fun p m H => ?_
  split
  · exact um p m _ _
  · exact um p m _ (-1)
theorem ut (hI : Inv n a) : Inv n (cK a).2 := by
  unfold cK
  split
  · exact hI
  · split
    · exact hI
    · split
      · exact hI.last _ _
      · split
        · exact hI.stand hI.which
        · exact hI.last _ _
theorem zg (hI : Inv n a) (key : List UInt8) {w : Nat} (hw : w < 3) : Inv n (iW a key w).2 := by
  unfold iW
  split
  · exact hI
  · split
    · exact hI
    · split
      · exact hI.stand hw
      · exact hI.last _ _
theorem sD (hI : Inv n a) (op : Nat) (key : List UInt8) {w : Nat} (hw : w < 3) : Inv n (c8 a op key w).2 := by
  unfold c8
  split
  · exact hI
  · split
    · exact hI
    · split
      · refine hI.move hw false (-1) fun p m H => ?_
        have := um p m (part (rw a.rows ‹_›).r w) (ci (rw a.rows ‹_›) w - 1)
        rw [Int.sub_add_cancel] at this
        exact this
      · exact hI.last _ _
theorem Inv.erase (hI : Inv n a) (p : Nat) (hm : a.mode = 13) (last : Int) : Inv n { a with last := last, rows := a.rows.eraseIdx p } :=
  ⟨Nat.le_trans (List.length_eraseIdx_le _ _) hI.len, fun r hr => hI.r4 r (List.mem_of_mem_eraseIdx hr), fun r hr => hI.pos r (List.mem_of_mem_eraseIdx hr), hI.many, hI.pw.sublist (List.eraseIdx_sublist _ _), hI.which, hI.at_, fun H h => by
    rcases h with h | h <;> (dsimp only at h; rw [hm] at h; cases h)⟩
theorem ql (hI : Inv n a) (key : List UInt8) : Inv n (bB a key).2 := by
  unfold bB
  split
  · rename_i hm
    split
    · exact hI
    · exact hI.erase _ (eq_of_beq hm) _
  · exact hI
set_option tactic.hygienic true in
theorem sE (hI : Inv n a) {rc : List UInt8} (hrc : rc.length = 4) : Inv (n + 1) (bH a rc).2 := by
  unfold bH
  split
  · exact hI.more
  · rename_i hM
    split
    · exact (hI.last _ _).more
    · rename_i c1
      split
      · exact (hI.last _ _).more
      · rename_i c2
        split
        · exact (hI.last _ _).more
        · have hk : ∀ r ∈ a.rows, part r.r 0 ≠ part rc 0 := fun r hr z => by
            cases hA : a.acc == 1 with
            | false =>
              rw [hA] at c2
              simp at c2
              exact c2 r hr z
            | true =>
              rw [hA] at c1
              have hne : a.rows ≠ [] := fun q => by rw [q] at hr; cases hr
              have h1 := wY hr
              rw [z] at h1
              simp [hne, h1] at c1
          refine ⟨by show (a.rows ++ [_]).length ≤ _; rw [List.length_append]; exact Nat.succ_le_succ hI.len, fun r hr => ?_, fun r hr => ?_, Int.le_add_one hI.many, ?_, hI.which, hI.at_, fun h1 h2 H => ?_⟩
          · rcases List.mem_append.mp hr with hr | hr
            · exact hI.r4 r hr
            · cases List.mem_singleton.mp hr; exact hrc
          · rcases List.mem_append.mp hr with hr | hr
            · have := hI.pos r hr
              exact ⟨this.1, mS this.2.1, mS this.2.2.1, mS this.2.2.2⟩
            · cases List.mem_singleton.mp hr
              have := hI.many
              exact ⟨⟨this, this, this⟩, Int.lt_succ _, Int.lt_succ _, Int.lt_succ _⟩
          · refine List.pairwise_append.mpr ⟨hI.pw, List.pairwise_singleton _ _, fun r hr r' hr' => ?_⟩
            cases List.mem_singleton.mp hr'
            have := hI.pos r hr
            exact ⟨hk r hr, Int.ne_of_lt this.2.1, Int.ne_of_lt this.2.2.1, Int.ne_of_lt this.2.2.2⟩
          · dsimp only at h1 h2 ⊢
            by_cases hne : a.rows = []
            · rw [hne]; rfl
            · rw [oH hne]
              simp [h1, hne] at c1
              simp [c1]
set_option tactic.hygienic true in
theorem oi (hI : Inv n a) {rc : List UInt8} (hrc : rc.length = 4) : Inv n (bg a rc).2 := by
  rw [eR]
  split
  · rename_i hm
    have hm' : a.mode = 13 := eq_of_beq hm
    split
    · exact hI
    · rename_i p hq
      have hp : p < a.rows.length := by rw [jJ] at hq; exact (cu hq).1
      split
      · exact hI.last _ _
      · rename_i h0
        have h0' : part (rw a.rows p).r 0 = part rc 0 := by simpa [cF] using h0
        unfold cZ
        split
        · exact hI.last _ _
        · split
          · have hE := hI.erase p hm' (-1)
            refine ⟨?_, fun r hr => ?_, fun r hr => ?_, Int.le_add_one hI.many, ?_, hI.which, hI.at_, fun H h => ?_⟩
            · show (a.rows.eraseIdx p ++ [_]).length ≤ n
              rw [List.length_append, List.length_eraseIdx_of_lt hp]
              exact Nat.le_trans (Nat.le_of_eq (Nat.sub_add_cancel (Nat.lt_of_le_of_lt (Nat.zero_le _) hp))) hI.len
            · rcases List.mem_append.mp hr with hr | hr
              · exact hE.r4 r hr
              · cases List.mem_singleton.mp hr; exact hrc
            · rcases List.mem_append.mp hr with hr | hr
              · have := hE.pos r hr
                exact ⟨this.1, mS this.2.1, mS this.2.2.1, mS this.2.2.2⟩
              · cases List.mem_singleton.mp hr
                have h := hI.many
                have q := hI.pos _ (d0 hp)
                have s := Int.lt_succ a.many
                exact ⟨⟨q.1.1, by dsimp only; split; exact h; exact q.1.2.1, by dsimp only; split; exact h; exact q.1.2.2⟩, mS q.2.1, by dsimp only; split; exact s; exact mS q.2.2.1, by dsimp only; split; exact s; exact mS q.2.2.2⟩
            · refine List.pairwise_append.mpr ⟨hE.pw, List.pairwise_singleton _ _, fun r hr r' hr' => ?_⟩
              cases List.mem_singleton.mp hr'
              have hpos := hE.pos r hr
              obtain ⟨i, hi, hne, rfl⟩ := List.mem_eraseIdx_iff_getElem.mp hr
              have e : rw a.rows i = a.rows[i] := by have := l9 hi; rw [List.getElem?_eq_getElem hi] at this; exact (Option.some.inj this).symm
              have hd := pZ hI.pw hi hp hne
              rw [e] at hd
              dsimp only at hpos
              refine ⟨by rw [← h0']; exact hd.1, hd.2.1, ?_, ?_⟩
              · dsimp only; split
                · exact Int.ne_of_lt hpos.2.2.1
                · exact hd.2.2.1
              · dsimp only; split
                · exact Int.ne_of_lt hpos.2.2.2
                · exact hd.2.2.2
            · rcases h with h | h <;> (dsimp only at h; rw [hm'] at h; cases h)
          · exact hI.last _ _
  · exact hI
end
def zM (v : V) : Prop := (∃ s, v = .str s) ∨ ∃ s x, v = .tup [.str s, .bytes x]
def dZ (r : Option V) : Prop := r = none ∨ ∃ v, r = some v ∧ zM v
theorem fX (s : Nat) : dZ (some (.str s)) := .inr ⟨_, rfl, .inl ⟨s, rfl⟩⟩
theorem lT (s : Nat) (x : List UInt8) : dZ (some (.tup [.str s, .bytes x])) := .inr ⟨_, rfl, .inr ⟨s, x, rfl⟩⟩
theorem qA (a : Ab) : dZ (cK a).1 := by
  unfold cK
  repeat' split
  all_goals first | exact .inl rfl | exact lT _ _
theorem uZ (a : Ab) (key : List UInt8) (w : Nat) : dZ (iW a key w).1 := by
  unfold iW
  repeat' split
  all_goals first | exact .inl rfl | exact lT _ _
theorem oV (a : Ab) (op : Nat) (key : List UInt8) (w : Nat) : dZ (c8 a op key w).1 := by
  unfold c8
  repeat' split
  all_goals first | exact .inl rfl | exact fX _
theorem oW (a : Ab) (rc : List UInt8) : dZ (bH a rc).1 := by
  unfold bH
  repeat' split
  all_goals exact fX _
theorem n3 (a : Ab) (rc : List UInt8) : dZ (bB a rc).1 := by
  unfold bB
  repeat' split
  all_goals exact fX _
theorem ln (a : Ab) (rc : List UInt8) : dZ (bg a rc).1 := by
  rw [eR]
  repeat' split
  all_goals exact fX _
section
variable {Γ : Gam} {ρ : aj} {σ σ1 σ₂ σ3 : St} {a1 a2 a3 : E} {u w v : V} {b : Int} {f l : Ab} {g : List M} {n : Nat}
theorem Bi (h : a9 Γ a1 ρ σ = some (u, σ1)) (h2 : a9 Γ a2 ρ σ1 = some (w, σ₂)) (h3 : a9 Γ a3 ρ σ₂ = some (v, σ3)) : evEs Γ [a1, a2, a3] ρ σ = some ([u, w, v], σ3) := bw h (bw h2 (bw h3 eB))
theorem i6 (h : a9 Γ a1 ρ σ = some (u, σ1)) (h2 : a9 Γ a2 ρ σ1 = some (w, σ₂)) : evEs Γ [a1, a2] ρ σ = some ([u, w], σ₂) := bw h (bw h2 eB)
theorem cO {l : List E} {vs : List V} (h : evEs Γ l ρ σ = some (vs, σ1)) : a9 Γ (.tup l) ρ σ = some (.tup vs, σ1) := lW h
theorem fU (h : a9 Γ a1 ρ σ = some (u, σ1)) (h2 : a9 Γ a2 ρ σ1 = some (w, σ₂)) (h3 : g8 u w σ₂ = some v) : a9 Γ (.idx a1 a2) ρ σ = some (v, σ₂) := fO h h2 h3
theorem dL {op : Operator} (h : a9 Γ a1 ρ σ = some (u, σ1)) (h2 : a9 Γ a2 ρ σ1 = some (w, σ₂)) (h3 : dA op u w = some v) : a9 Γ (.bin op a1 a2) ρ σ = some (v, σ₂) := yq h h2 h3
theorem mH {op : CmpOp} {x : Bool} (h : a9 Γ a1 ρ σ = some (u, σ1)) (h2 : a9 Γ a2 ρ σ1 = some (w, σ₂)) (h3 : f6 op u w σ₂ = some x) : a9 Γ (.cmp op a1 a2) ρ σ = some (.bool x, σ₂) := eZ h h2 h3
theorem wF {x : Bool} (h : a9 Γ a1 ρ σ = some (.bool x, σ1)) (h2 : x = true → a9 Γ a2 ρ σ1 = some (u, σ1)) (h3 : x = false → a9 Γ a3 ρ σ1 = some (w, σ1)) : a9 Γ (.ifx a1 a2 a3) ρ σ = some (if x = true then u else w, σ1) := by
  cases x with
  | true => exact vP h (h2 rfl)
  | false => exact vO h (h3 rfl)
theorem gB {k : Nat} {xs : List Nat} {vs : List V} (h : cy[k]? = some xs) (h2 : cz ρ xs = some vs) : a9 Γ (.lam k) ρ σ = some (.clo k vs, σ) := by rw [tV, h, Option.bind_some, h2]; rfl
theorem cD : a9 Γ (.lit v) ρ σ = some (v, σ) := rfl
theorem cH (hΓ : Γ.f 49 = nE) (h : ρ 44 = some (.mut 0)) (k : Int) (hk : 0 < k ∧ k < 100) (s : St) : a9 Γ (.call 49 [(.loc 44), (.lit (.int k))]) ρ (.list [.int b] :: s) = some (.int (b % k), .list [.int (b / k)] :: s) :=
  bG (vs := [.mut 0, .int k]) (by simp_arith [h] <;> (first | rfl | exact ⟨rfl, rfl⟩)) (by rw [hΓ]; exact tf b k s hk)
theorem sU (L : List V) (b k : Int) (hk : 0 < k) (hL : (L.length : Int) = k) (h60 : L.length ≤ 60) : ∃ v ∈ L, ∀ σ, g8 (.list L) (.int (b % k)) σ = some v := by
  have h1 : 0 ≤ b % k := Int.emod_nonneg _ (Int.ne_of_gt hk)
  have h2 : b % k < k := Int.emod_lt_of_pos _ hk
  have h3 : (b % k).toNat < L.length := (Int.toNat_lt h1).mpr (hL ▸ h2)
  refine ⟨L[(b % k).toNat], List.getElem_mem h3, fun σ => ?_⟩
  simp [aF, dB h60, jc, h1, h3]
theorem jW (b : Int) (s : St) : ∃ rc b', rc.length = 4 ∧ fS [.mut 0] (.list [.int b] :: s) = some (some (.bytes rc), .list [.int b'] :: s) := by
  obtain ⟨v1, m1, e1⟩ := sU [.bytes [97, 97], .bytes [97, 98], .bytes [98, 97], .bytes [98, 98], .bytes [98, 99], .bytes [99, 97]] b 6 (by decide) rfl (by decide)
  obtain ⟨v2, m2, e2⟩ := sU [.bytes [120], .bytes [121]] (b / 6) 2 (by decide) rfl (by decide)
  obtain ⟨v3, m3, e3⟩ := sU [.bytes [48], .bytes [49], .bytes [50], .bytes [51], .bytes [52]] (b / 6 / 2) 5 (by decide) rfl (by decide)
  have p1 : ∃ x, v1 = .bytes x ∧ x.length = 2 := by
    simp only [List.mem_cons, List.not_mem_nil, or_false] at m1
    rcases m1 with rfl | rfl | rfl | rfl | rfl | rfl <;> exact ⟨_, rfl, rfl⟩
  have p2 : ∃ x, v2 = .bytes x ∧ x.length = 1 := by
    simp only [List.mem_cons, List.not_mem_nil, or_false] at m2
    rcases m2 with rfl | rfl <;> exact ⟨_, rfl, rfl⟩
  have p3 : ∃ x, v3 = .bytes x ∧ x.length = 1 := by
    simp only [List.mem_cons, List.not_mem_nil, or_false] at m3
    rcases m3 with rfl | rfl | rfl | rfl | rfl <;> exact ⟨_, rfl, rfl⟩
  obtain ⟨x1, rfl, l1⟩ := p1
  obtain ⟨x2, rfl, l2⟩ := p2
  obtain ⟨x3, rfl, l3⟩ := p3
  refine ⟨x1 ++ x2 ++ x3, b / 6 / 2 / 5, by simp [l1, l2, l3], ?_⟩
  simp only [fS, dS, gb]
  refine aq (I := cb) rfl (d5 (v := .bytes x1) (fU (u := .list [.bytes [97, 97], .bytes [97, 98], .bytes [98, 97], .bytes [98, 98], .bytes [98, 99], .bytes [99, 97]]) (by simp_arith [] <;> (first | rfl | exact ⟨rfl, rfl⟩)) (cH rfl rfl 6 (by decide) s) (e1 _)) (bv (dL (dL (u := .bytes x1) (by simp_arith [] <;> (first | rfl | exact ⟨rfl, rfl⟩)) (fU (u := .list [.bytes [120], .bytes [121]]) (by simp_arith [] <;> (first | rfl | exact ⟨rfl, rfl⟩)) (cH rfl rfl 2 (by decide) s) (e2 _)) (v := .bytes (x1 ++ x2)) (by simp [aF, l1, l2]))
    (fU (u := .list [.bytes [48], .bytes [49], .bytes [50], .bytes [51], .bytes [52]]) (by simp_arith [] <;> (first | rfl | exact ⟨rfl, rfl⟩)) (cH rfl rfl 5 (by decide) s) (e3 _)) (by simp [aF, l1, l2, l3])) trivial))
theorem bA {D : aB} {x : Nat} {es : List E} {vs : List V} (hD : Γ.f x = D) (h : evEs Γ es ρ σ = some (vs, σ1)) (h2 : D vs σ1 = some (some v, σ₂)) : a9 Γ (.call x es) ρ σ = some (v, σ₂) := bG h (by rw [hD]; exact h2)
theorem ue {D : aB} {o : E} {m k : Nat} {es : List E} {vs l' : List V} {ks : List Nat} (hD : Γ.m m = D) (h : a9 Γ o ρ σ = some (.mut k, σ)) (h1 : σ[k]? = some (.inst ks l')) (h2 : evEs Γ es ρ σ = some (vs, σ)) (h3 : D (.mut k :: vs) σ = some (some v, σ₂)) : a9 Γ (.meth o m es) ρ σ = some (v, σ₂) := eL h h1 h2 (by rw [hD]; exact h3)
theorem lO {k : Nat} {xs : List Nat} {cs vs : List V} {ℓ : aj} (hk : k ≠ 6) (hc : cy[k]? = some xs) (hb : ak xs cs ao = some ℓ) (h71 : ℓ 71 = some (.mut 3)) (h : evEs bJ (vW k) ℓ (W b f l g) = some (vs, W b f l g)) : ia k cs (W b f l g) = DL k (.mut 3 :: vs) (W b f l g) := by
  unfold ia wR uO
  rw [if_neg hk, hc, Option.bind_some, hb, Option.bind_some, h71, Option.bind_some, oQ, nM H7, h]
  rfl
theorem tc {a : Ab} (hI : Inv n a) (hn : n < 59) (b : Int) (g : List M) : ∃ (due : V) (k : Nat) (cs : List V) (b' : Int) (a' : Ab) (r : Option V),
    lu [.mut 0, .mut 2, .mut 3] (W b a a g) = some (some (.tup [due, .clo k cs]), W b' a a' g) ∧ due = r.getD (.str 24) ∧ dZ r ∧ Inv (n + 1) a' ∧ ∃ g', ia k cs (W b' a a' g) = some (r, W b' a' a' g') := by
  obtain ⟨rc, b2, hrc, hrec⟩ := jW (b / 8) (W b a a g).tail
  obtain ⟨w, hw, hwe⟩ : ∃ w : Nat, w < 3 ∧ (w : Int) = b2 % 3 := ET b2
  obtain ⟨vop, mop, eop⟩ := sU [.str 11, .str 10, .str 27] (b2 / 3) 3 (by decide) rfl (by decide)
  have pop : ∃ op, vop = .str op ∧ (op = 11 ∨ op = 10 ∨ op = 27) := by
    simp only [List.mem_cons, List.not_mem_nil, or_false] at mop
    rcases mop with rfl | rfl | rfl
    · exact ⟨_, rfl, .inl rfl⟩
    · exact ⟨_, rfl, .inr (.inl rfl)⟩
    · exact ⟨_, rfl, .inr (.inr rfl)⟩
  obtain ⟨op, rfl, hop⟩ := pop
  have hkl := iu hrc w
  have hkl2 := uG hkl
  obtain ⟨short, hsl, hse⟩ : ∃ short : List UInt8, short.length ≤ 4 ∧ (if (b2 / 3 / 3 % 3 == 0) = true then (part rc w).take 1 else part rc w) = short := ⟨_, by split; exact Nat.le_trans (List.length_take_le ..) (by decide); exact hkl, rfl⟩
  have hm := ye hn
  obtain ⟨b4, hb4⟩ : ∃ b4, b2 / 3 / 3 / 3 = b4 := ⟨_, rfl⟩
  have hgo : ∀ (v : V) (a' : Ab), Rn iP cb (aD.drop 4) (upd (upd (upd (upd (upd (upd (upd (upd (upd ao 44 (.mut 0)) 52 (.mut 2)) 71 (.mut 3)) 64 (.int (b % 8))) 15 (.bytes rc)) 10 (.int w)) 4 (.bytes (part rc w))) 33 (.str op)) 65 (.bytes short)) (W b4 a a g) (.ret v) (W b4 a a' g) → lu [.mut 0, .mut 2, .mut 3] (W b a a g) = some (some v, W b4 a a' g) := by
    intro v a' e
    simp only [lu, fi, aD]
    refine aq (I := cb) (ρ := upd (upd (upd ao 44 (.mut 0)) 52 (.mut 2)) 71 (.mut 3)) rfl (fG (v := .tup [.int (b % 8), .bytes rc, .int w]) (σ1 := W (b2 / 3) a a g) (cO (Bi (cH (s := (W b a a g).tail) rfl rfl 8 (by decide)) (bA (D := fS) rfl (vs := [.mut 0]) (i5 (af rfl)) hrec) (by rw [hwe]; exact cH rfl rfl 3 (by decide) _))) rfl
      (fG (v := .tup [.bytes (part rc w), .str op]) (σ1 := W (b2 / 3 / 3) a a g) (cO (i6 (σ1 := W (b2 / 3) a a g) (bA (D := jV) rfl (vs := [.bytes rc, .int w]) (mI (af rfl) (af rfl)) (e9 _ rc w hw hrc)) (fU (u := .list [.str 11, .str 10, .str 27]) (yt (iO bc bc bc)) (cH rfl rfl 3 (by decide) (W (b2 / 3) a a g).tail) (eop _)))) rfl
        (d5 (v := .bytes short) (σ1 := W b4 a a g) ?_ (ym e))))
    rw [← hse, ← hb4, show V.bytes (if (b2 / 3 / 3 % 3 == 0) = true then (part rc w).take 1 else part rc w) = if (b2 / 3 / 3 % 3 == 0) = true then V.bytes ((part rc w).take 1) else V.bytes (part rc w) from by split <;> rfl]
    exact wF (mH (cH rfl rfl 3 (by decide) (W (b2 / 3 / 3) a a g).tail) (w := .int 0) cD rfl) (fun H => js (af rfl) bc bc (by simp [aF, mw, hkl2])) fun H => af rfl
  generalize hρ : upd (upd (upd (upd (upd (upd (upd (upd (upd ao 44 (.mut 0)) 52 (.mut 2)) 71 (.mut 3)) 64 (.int (b % 8))) 15 (.bytes rc)) 10 (.int w)) 4 (.bytes (part rc w))) 33 (.str op)) 65 (.bytes short) = ρ at hgo
  have r1 : ρ 52 = some (.mut 2) := by subst hρ; rfl
  have r2 : ρ 71 = some (.mut 3) := by subst hρ; rfl
  have r3 : ρ 64 = some (.int (b % 8)) := by subst hρ; rfl
  have r4 : ρ 15 = some (.bytes rc) := by subst hρ; rfl
  have r5 : ρ 10 = some (.int w) := by subst hρ; rfl
  have r6 : ρ 4 = some (.bytes (part rc w)) := by subst hρ; rfl
  have r7 : ρ 33 = some (.str op) := by subst hρ; rfl
  have r8 : ρ 65 = some (.bytes short) := by subst hρ; rfl
  clear hρ
  have c0 : a9 iP (.cmp .Lt (.loc 64) (.lit (.int 3))) ρ (W b4 a a g) = some (.bool (decide (b % 8 < 3)), W b4 a a g) := by simp_arith [r3]
  have cq : ∀ m : Int, a9 iP (.cmp .Eq (.loc 64) (.lit (.int m))) ρ (W b4 a a g) = some (.bool (b % 8 == m), W b4 a a g) := fun m => by simp_arith [r3]
  by_cases h3 : b % 8 < 3
  · rw [decide_eq_true h3] at c0
    obtain ⟨g', e⟩ := m6 (b := b4) (l := (cK a).2) (g := g) hI (Nat.le_of_lt hm)
    exact ⟨_, 0, [.mut 3], b4, (cK a).2, (cK a).1, hgo _ _ (ai c0 (bv (cO (i6 (bA (D := jS) rfl (vs := [.mut 2]) (i5 (af r1)) (s7 hI (Nat.le_of_lt hm))) (gB rfl (by simp [cz, r2] <;> (first | rfl | exact ⟨rfl, rfl⟩))))) trivial)), rfl, qA a, (ut hI).more, g', (lO (k := 0) (by decide) rfl rfl rfl eB).trans e⟩
  rw [decide_eq_false h3] at c0
  by_cases h4 : b % 8 = 3
  · have c1 := cq 3
    rw [beq_iff_eq.mpr h4] at c1
    obtain ⟨g', e⟩ := pJ (b := b4) (l := (iW a (part rc w) w).2) (g := g) hI (Nat.le_of_lt hm) (part rc w) w hw
    exact ⟨_, 1, [.mut 3, .bytes (part rc w), .int w], b4, (iW a (part rc w) w).2, (iW a (part rc w) w).1, hgo _ _ (aa c0 (ai c1 (bv (cO (i6 (bA (D := te) rfl (vs := [.mut 2, .bytes (part rc w), .int w]) (iO (af r1) (af r6) (af r5)) (w6 hI (Nat.le_of_lt hm) (part rc w) w hw)) (gB rfl (by simp [cz, r2, r6, r5] <;> (first | rfl | exact ⟨rfl, rfl⟩))))) trivial))), rfl, uZ _ _ _, (zg hI _ hw).more, g', (lO (k := 1) (by decide) rfl rfl rfl (mI (af rfl) (af rfl))).trans e⟩
  have c1 := cq 3
  rw [beq_eq_false_iff_ne.mpr h4] at c1
  by_cases h5 : b % 8 = 4
  · have c2 := cq 4
    rw [beq_iff_eq.mpr h5] at c2
    obtain ⟨g', e⟩ := s8 (b := b4) (l := (c8 a op short w).2) (g := g) hI (Nat.le_of_lt hm) op hop short hsl w hw
    exact ⟨_, 2, [.mut 3, .str op, .bytes short, .int w], b4, (c8 a op short w).2, (c8 a op short w).1, hgo _ _ (aa c0 (aa c1 (ai c2 (bv (cO (i6 (bA (D := gR) rfl (vs := [.mut 2, .str op, .bytes short, .int w]) (bw (af r1) (iO (af r7) (af r8) (af r5))) (pG hI (Nat.le_of_lt hm) op hop short hsl w hw)) (gB rfl (by simp [cz, r2, r7, r8, r5] <;> (first | rfl | exact ⟨rfl, rfl⟩))))) trivial)))), rfl, oV _ _ _ _, (sD hI op short hw).more, g', (lO (k := 2) (by decide) rfl rfl rfl (iO (af rfl) (af rfl) (af rfl))).trans e⟩
  have c2 := cq 4
  rw [beq_eq_false_iff_ne.mpr h5] at c2
  by_cases h6 : b % 8 = 5
  · have c3 := cq 5
    rw [beq_iff_eq.mpr h6] at c3
    obtain ⟨g', e⟩ := s9 (b := b4) (l := (bH a rc).2) (g := g) hI hm rc hrc
    exact ⟨_, 3, [.mut 3, .bytes rc], b4, (bH a rc).2, (bH a rc).1, hgo _ _ (aa c0 (aa c1 (aa c2 (ai c3 (bv (cO (i6 (bA (D := jy) rfl (vs := [.mut 2, .bytes rc]) (mI (af r1) (af r4)) (pH hI hm rc hrc)) (gB rfl (by simp [cz, r2, r4] <;> (first | rfl | exact ⟨rfl, rfl⟩))))) trivial))))), rfl, oW _ _, sE hI hrc, g', (lO (k := 3) (by decide) rfl rfl rfl (i5 (af rfl))).trans e⟩
  have c3 := cq 5
  rw [beq_eq_false_iff_ne.mpr h6] at c3
  by_cases h7 : b % 8 = 6
  · have c4 := cq 6
    rw [beq_iff_eq.mpr h7] at c4
    obtain ⟨g', e⟩ := nD (b := b4) (l := (bg a rc).2) (g := g) hI (Nat.le_of_lt hm) rc hrc
    exact ⟨_, 4, [.mut 3, .bytes rc], b4, (bg a rc).2, (bg a rc).1, hgo _ _ (aa c0 (aa c1 (aa c2 (aa c3 (ai c4 (bv (cO (i6 (bA (D := e8) rfl (vs := [.mut 2, .bytes rc, .bool false]) (iO (af r1) (af r4) bc) (j8 hI hm rc hrc false)) (gB rfl (by simp [cz, r2, r4] <;> (first | rfl | exact ⟨rfl, rfl⟩))))) trivial)))))), rfl, ln _ _, (oi hI hrc).more, g', (lO (k := 4) (by decide) rfl rfl rfl (i5 (af rfl))).trans e⟩
  have c4 := cq 6
  rw [beq_eq_false_iff_ne.mpr h7] at c4
  obtain ⟨g', e⟩ := pE (b := b4) (l := (bB a (part rc 0)).2) (g := g) hI (Nat.le_of_lt hm) (part rc 0)
  refine ⟨_, 5, [.mut 3, .bytes rc], b4, (bB a (part rc 0)).2, (bB a (part rc 0)).1, hgo _ _ (aa c0 (aa c1 (aa c2 (aa c3 (aa c4 (bv (cO (i6 (bA (D := e8) rfl (vs := [.mut 2, .bytes rc, .bool true]) (iO (af r1) (af r4) bc) (j8 hI hm rc hrc true)) (gB rfl (by simp [cz, r2, r4] <;> (first | rfl | exact ⟨rfl, rfl⟩))))) trivial)))))), rfl, n3 _ _, (ql hI _).more, g', ?_⟩
  exact (lO (k := 5) (by decide) rfl rfl rfl (bw (js (af rfl) bc bc (by simp [aF, hrc, mw, part, lo, hi] : pc (.bytes rc) .none (.int 2) = some (.bytes (part rc 0)))) eB)).trans e
end
noncomputable def ag : List (List UInt8) → Int → List Row
  | [], _ => []
  | c :: cs, k => ⟨k, k, k, c⟩ :: ag cs (k + 1)
theorem eh : ∀ (C : List (List UInt8)) (k : Int), (ag C k).length = C.length
  | [], _ => rfl
  | c :: cs, k => by simp [ag, eh cs]
theorem dr : ∀ {C : List (List UInt8)} {k : Int} {r : Row}, r ∈ ag C k → r.n1 = r.n0 ∧ r.n2 = r.n0 ∧ k ≤ r.n0 ∧ r.n0 < k + C.length ∧ r.r ∈ C
  | [], _, r, h => by cases h
  | c :: cs, k, r, h => by
    rcases List.mem_cons.mp h with rfl | h
    · exact ⟨rfl, rfl, Int.le_refl _, Int.lt_add_of_pos_right _ (Int.natCast_pos.mpr (Nat.succ_pos _)), .head _⟩
    · obtain ⟨h1, h2, h3, h4, h5⟩ := dr h
      exact ⟨h1, h2, Int.le_trans (Int.le_of_lt (Int.lt_succ k)) h3, by rw [List.length_cons, Int.natCast_succ, Int.add_comm _ 1, ← Int.add_assoc]; exact h4, .tail _ h5⟩
theorem kL : ∀ (C : List (List UInt8)) (k : Int), (ag C k).map da = C.map V.bytes
  | [], _ => rfl
  | c :: cs, k => by simp [ag, kL cs, da]
theorem oh : ∀ (C : List (List UInt8)) (k : Int), aL (C.map V.bytes) k = (ag C k).map fun r => .tup [.int r.n0, .bytes r.r]
  | [], _ => rfl
  | c :: cs, k => by simp [ag, aL, oh cs]
theorem lL : ∀ (C : List (List UInt8)) (k : Int), aR k C.length = (ag C k).map fun r => .int r.n0
  | [], _ => rfl
  | c :: cs, k => by simp [ag, aR, lL cs]
theorem ru : ∀ {C : List (List UInt8)} (k : Int), C.Pairwise (fun x y => part x 0 ≠ part y 0) → (ag C k).Pairwise pF
  | [], _, _ => List.Pairwise.nil
  | c :: cs, k, h => by
    obtain ⟨h1, h2⟩ := List.pairwise_cons.mp h
    refine List.pairwise_cons.mpr ⟨fun r hr => ?_, ru (k + 1) h2⟩
    obtain ⟨g1, g2, g3, g4, g5⟩ := dr hr
    have h : k ≠ r.n0 := Int.ne_of_lt (Int.lt_of_add_one_le g3)
    exact ⟨h1 _ g5, h, g1 ▸ h, g2 ▸ h⟩
noncomputable def px (C : List (List UInt8)) (mode acc : Nat) (dbl : Bool) (high : List UInt8) : Ab := ⟨ag C 0, C.length, mode, acc, dbl, 0, false, -1, [], -1, [], -1, high⟩
noncomputable def lJ (C : List (List UInt8)) (mode : Nat) : List UInt8 := if (mode == 0 && !C.isEmpty) = true then dC (ag C 0) else []
theorem EK {C : List (List UInt8)} {n mode acc : Nat} {dbl : Bool} (hn : C.length ≤ n) (h4 : ∀ c ∈ C, c.length = 4) (hp : C.Pairwise fun x y => part x 0 ≠ part y 0) (ho : mode = 2 → C = []) : Inv n (px C mode acc dbl (lJ C mode)) := by
  refine ⟨by show (ag C 0).length ≤ n; rw [eh]; exact hn, fun r hr => h4 _ (dr hr).2.2.2.2, fun r hr => ?_, Int.natCast_nonneg _, ru 0 hp, by show 0 < 3; decide, fun p m hm => ?_, fun h1 h2 h3 => ?_⟩
  · obtain ⟨g1, g2, g3, g4, g5⟩ := dr (C := C) hr
    rw [Int.zero_add] at g4
    show (0 ≤ r.n0 ∧ 0 ≤ r.n1 ∧ 0 ≤ r.n2) ∧ (r.n0 < (C.length : Int) ∧ r.n1 < (C.length : Int) ∧ r.n2 < (C.length : Int))
    rw [g1, g2]
    exact ⟨⟨g3, g3, g3⟩, g4, g4, g4⟩
  · show qk p m [] (-1) = y4 p m [] (-1)
    unfold qk y4
    have := ic p []
    cases h : p == [] with
    | false => rw [h] at this; simp at this; simp [this]
    | true =>
      have e2 : -1 < m := Int.lt_of_lt_of_le (by decide) hm
      have e : (m == -1) = false := beq_eq_false_iff_ne.mpr (Int.ne_of_gt e2)
      rw [e]
      have e1 : ¬ m < -1 := Int.not_lt.mpr (Int.le_of_lt e2)
      simp [e1, e2]
  · show dC (ag C 0) = lJ C mode
    have hne : C ≠ [] := fun z => h3 (by show ag C 0 = []; rw [z]; rfl)
    rcases h2 with h2 | h2
    · exact absurd (ho h2) hne
    · have h2' : mode = 0 := h2
      simp [lJ, h2', hne]
section
variable {Γ : Gam} {ρ : aj} {σ : St}
theorem sH (dbl : Bool) (h4 : ρ 4 = some (.tup [.int 0, .int 2])) (h5 : ρ 5 = some (.list [.tup [.int 2, .int 1, .bool true], .tup [.int 3, .int 1, .bool dbl]])) :
    a9 Γ (.bin .Add (.lst [(.tup [(.idx (.loc 4) (.lit (.int 0))), (.idx (.loc 4) (.lit (.int 1))), (.lit (.bool false))])]) (.bi .list [(.loc 5)])) ρ σ = some (bK dbl, σ) := by
  simp_arith [h4, h5, bK]
theorem td (C : List (List UInt8)) (b : Int) (l : Ab) (mode acc : Nat) (dbl : Bool) (hC : C.length ≤ 60) (h4 : ∀ c ∈ C, c.length = 4) :
    ((mode == 0 && !(acc == 1)) = true → ∃ σ', jR [.mut 3, .mut 1, .str mode, .str acc, .tup [.int 0, .int 2], .list [.tup [.int 2, .int 1, .bool true], .tup [.int 3, .int 1, .bool dbl]]] [.list [.int b], .list (C.map V.bytes), ar l, .inst [] []] = some (none, σ')) ∧
    ((mode == 0 && !(acc == 1)) = false → ∀ C', (C' = if (mode == 2) = true then [] else C) → jR [.mut 3, .mut 1, .str mode, .str acc, .tup [.int 0, .int 2], .list [.tup [.int 2, .int 1, .bool true], .tup [.int 3, .int 1, .bool dbl]]] [.list [.int b], .list (C.map V.bytes), ar l, .inst [] []] = some (some .none, W b (px C' mode acc dbl (lJ C' mode)) l [])) := by
  have hl1 := dB hC
  generalize hρ : upd (upd (upd (upd (upd (upd ao 1 (.mut 3)) 0 (.mut 1)) 2 (.str mode)) 3 (.str acc)) 4 (.tup [.int 0, .int 2])) 5 (.list [.tup [.int 2, .int 1, .bool true], .tup [.int 3, .int 1, .bool dbl]]) = ρ
  have r1 : ρ 1 = some (.mut 3) := by subst hρ; rfl
  have r0 : ρ 0 = some (.mut 1) := by subst hρ; rfl
  have r2 : ρ 2 = some (.str mode) := by subst hρ; rfl
  have r3 : ρ 3 = some (.str acc) := by subst hρ; rfl
  have r4 : ρ 4 = some (.tup [.int 0, .int 2]) := by subst hρ; rfl
  have r5 : ρ 5 = some (.list [.tup [.int 2, .int 1, .bool true], .tup [.int 3, .int 1, .bool dbl]]) := by subst hρ; rfl
  have hgo : ∀ (fl : Fl) (σ' : St), Rn aV cb (fb.drop 4) ρ [.list [.int b], .list (C.map V.bytes), ar l, .inst [0, 2, 3, 6] [.mut 1, .str mode, .str acc, bK dbl]] fl σ' → Rn aV cb fb ρ [.list [.int b], .list (C.map V.bytes), ar l, .inst [] []] fl σ' := by
    intro fl σ' e
    refine ap (v := .mut 1) (ρ' := ρ) (σ₂ := [.list [.int b], .list (C.map V.bytes), ar l, .inst [0] [.mut 1]]) (by simp_arith [r0]) (by simp_arith [r1]) ?_
    refine ap (v := .str mode) (ρ' := ρ) (σ₂ := [.list [.int b], .list (C.map V.bytes), ar l, .inst [0, 2] [.mut 1, .str mode]]) (by simp_arith [r2]) (by simp_arith [r1]) ?_
    refine ap (v := .str acc) (ρ' := ρ) (σ₂ := [.list [.int b], .list (C.map V.bytes), ar l, .inst [0, 2, 3] [.mut 1, .str mode, .str acc]]) (by simp_arith [r3]) (by simp_arith [r1]) ?_
    exact ap (ρ' := ρ) (sH dbl r4 r5) (by simp_arith [r1]) e
  have hrz : a9 aV (.and [(.cmp .Eq (.loc 2) (.lit (.str 0))), (.cmp .NotEq (.loc 3) (.lit (.str 1)))]) ρ [.list [.int b], .list (C.map V.bytes), ar l, .inst [0, 2, 3, 6] [.mut 1, .str mode, .str acc, bK dbl]] = some (.bool (mode == 0 && !(acc == 1)), [.list [.int b], .list (C.map V.bytes), ar l, .inst [0, 2, 3, 6] [.mut 1, .str mode, .str acc, bK dbl]]) :=
    bz (by simp_arith [r2]) fun H => by simp_arith [r3]
  refine ⟨fun hx => ?_, fun hx C' hC' => ?_⟩
  · rw [hx] at hrz
    exact ⟨_, mJ (I := cb) (ρ := ρ) (by subst hρ; rfl) (hgo _ _ (n6 hrz trivial))⟩
  · rw [hx] at hrz
    have hl2 : C'.length ≤ 60 := by
      rw [hC']
      split
      · exact Nat.zero_le _
      · exact hC
    have h4' : ∀ c ∈ C', c.length = 4 := by
      subst hC'
      split
      · intro c hc; cases hc
      · exact h4
    have hl3 := dB hl2
    have hl5 := zs hl2
    refine mK (I := cb) (ρ := ρ) (by subst hρ; rfl) (hgo _ _ (dP hrz ?_))
    -- the clearing
    have hclear : ∀ (ss : List S) (fl : Fl) (σ' : St), Rn aV cb ss ρ [.list [.int b], .list (C'.map V.bytes), ar l, .inst [0, 2, 3, 6] [.mut 1, .str mode, .str acc, bK dbl]] fl σ' → Rn aV cb (.if_ (.cmp .Eq (.loc 2) (.lit (.str 2))) [.ex (.bm (.loc 0) .clear [])] [] :: ss) ρ [.list [.int b], .list (C.map V.bytes), ar l, .inst [0, 2, 3, 6] [.mut 1, .str mode, .str acc, bK dbl]] fl σ' := by
      intro ss fl σ' e
      cases hm : mode == 2 with
      | true =>
        have : C' = [] := by rw [hC', hm]; rfl
        subst this
        exact db (J := fun ρ' => ρ' = ρ) (σ1 := [.list [.int b], .list (C.map V.bytes), ar l, .inst [0, 2, 3, 6] [.mut 1, .str mode, .str acc, bK dbl]]) (by simp_arith [r2, hm]) (fH (v := .none) (σ1 := [.list [.int b], .list (([] : List (List UInt8)).map V.bytes), ar l, .inst [0, 2, 3, 6] [.mut 1, .str mode, .str acc, bK dbl]]) (by simp_arith [r0, hl1]) (b9 rfl)) fun ρ' z => by subst z; exact e
      | false =>
        have : C' = C := by rw [hC', hm]; rfl
        subst this
        exact aa (by simp_arith [r2, hm]) e
    refine hclear _ _ _ ?_
    clear hclear hrz hgo hC'
    have hst : a9 aV (.comp [7] (.bin .Mult (.lst [(.loc 7)]) (.bi .len [(.attr (.loc 1) 6)])) (.bi .range [(.bi .len [(.loc 0)])]) [] true false) ρ [.list [.int b], .list (C'.map V.bytes), ar l, .inst [0, 2, 3, 6] [.mut 1, .str mode, .str acc, bK dbl]] = some (.mut 4, [.list [.int b], .list (C'.map V.bytes), ar l, .inst [0, 2, 3, 6] [.mut 1, .str mode, .str acc, bK dbl], .list ((ag C' 0).map aT)]) := by
      refine nX (σ₂ := [.list [.int b], .list (C'.map V.bytes), ar l, .inst [0, 2, 3, 6] [.mut 1, .str mode, .str acc, bK dbl]]) (vs := (ag C' 0).map aT) (v := .rng 0 C'.length) (o := none) (l := (ag C' 0).map fun r => .int r.n0) (σ1 := [.list [.int b], .list (C'.map V.bytes), ar l, .inst [0, 2, 3, 6] [.mut 1, .str mode, .str acc, bK dbl]]) (by simp_arith [r0, hl3, hl5]) (by simp [aF, hl5, lL]) ?_
      refine bj (elt := fun ρ' σ' => a9 aV (.bin .Mult (.lst [(.loc 7)]) (.bi .len [(.attr (.loc 1) 6)])) ρ' σ') (ifs := fun ρ' σ' => evAnd aV [] ρ' σ') (xs := [7]) (o := none) (l₀ := (ag C' 0).map fun r => .int r.n0) (fun r => V.int r.n0) aT aZ (ag C' 0) fun r hr => ⟨_, rfl, rfl, ?_⟩
      obtain ⟨g1, g2, _⟩ := dr hr
      simp_arith [r1, bK, aT, g1, g2]
    refine fG hst (ρ' := ρ) (σ₂ := [.list [.int b], .list (C'.map V.bytes), ar l, .inst [0, 2, 3, 6, 8] [.mut 1, .str mode, .str acc, bK dbl, .mut 4], .list ((ag C' 0).map aT)]) (by simp_arith [r1]) ?_
    refine ap (v := .int C'.length) (ρ' := ρ) (σ₂ := [.list [.int b], .list (C'.map V.bytes), ar l, .inst [0, 2, 3, 6, 8, 9] [.mut 1, .str mode, .str acc, bK dbl, .mut 4, .int C'.length], .list ((ag C' 0).map aT)]) (by simp_arith [r0, hl3]) (by simp_arith [r1]) ?_
    refine ap (v := .int 0) (ρ' := ρ) (σ₂ := [.list [.int b], .list (C'.map V.bytes), ar l, .inst [0, 2, 3, 6, 8, 9, 10] [.mut 1, .str mode, .str acc, bK dbl, .mut 4, .int C'.length, .int 0], .list ((ag C' 0).map aT)]) cD (by simp_arith [r1]) ?_
    refine ap (v := .tup [.bytes [], .int (-1)]) (ρ' := ρ) (σ₂ := [.list [.int b], .list (C'.map V.bytes), ar l, .inst [0, 2, 3, 6, 8, 9, 10, 11] [.mut 1, .str mode, .str acc, bK dbl, .mut 4, .int C'.length, .int 0, .tup [.bytes [], .int (-1)]], .list ((ag C' 0).map aT)]) (by simp_arith []) (by simp_arith [r1]) ?_
    refine ap (v := .bool false) (ρ' := ρ) (σ₂ := [.list [.int b], .list (C'.map V.bytes), ar l, .inst [0, 2, 3, 6, 8, 9, 10, 11, 12] [.mut 1, .str mode, .str acc, bK dbl, .mut 4, .int C'.length, .int 0, .tup [.bytes [], .int (-1)], .bool false], .list ((ag C' 0).map aT)]) cD (by simp_arith [r1]) ?_
    refine ap (v := .int (-1)) (ρ' := ρ) (σ₂ := [.list [.int b], .list (C'.map V.bytes), ar l, .inst [0, 2, 3, 6, 8, 9, 10, 11, 12, 13] [.mut 1, .str mode, .str acc, bK dbl, .mut 4, .int C'.length, .int 0, .tup [.bytes [], .int (-1)], .bool false, .int (-1)], .list ((ag C' 0).map aT)]) cD (by simp_arith [r1]) ?_
    refine ap (v := .bytes []) (ρ' := ρ) (σ₂ := W b (px C' mode acc dbl []) l []) bc (by simp_arith [r1, W, aJ, px, kL]) ?_
    have hlast : a9 aV (.and [(.cmp .Eq (.loc 2) (.lit (.str 0))), (.cmp .NotEq (.loc 0) (.lst []))]) ρ (W b (px C' mode acc dbl []) l []) = some (.bool (mode == 0 && !C'.isEmpty), W b (px C' mode acc dbl []) l []) := by
      refine bz (by simp_arith [r2]) fun H => az (u := .mut 1) (w := .list []) (by simp_arith [r0]) (by simp_arith []) ?_
      simp [eJ, px, kL]
    have hh : lJ C' mode = if (mode == 0 && !C'.isEmpty) = true then dC (ag C' 0) else [] := rfl
    rw [hh]
    cases hz : (mode == 0 && !C'.isEmpty) with
    | false =>
      rw [hz] at hlast
      exact aa hlast (b9 trivial)
    | true =>
      rw [hz] at hlast
      have hne : ag C' 0 ≠ [] := fun q => by
        have := eh C' 0
        rw [q] at this
        have : C' = [] := List.eq_nil_of_length_eq_zero this.symm
        simp [this] at hz
      have hmax : a9 aV (.bi .max [(.comp [15] (.meth (.loc 1) 16 [(.loc 15), (.lit (.int 0))]) (.loc 0) [] false false)]) ρ (W b (px C' mode acc dbl []) l []) = some (.bytes (dC (ag C' 0)), W b (px C' mode acc dbl []) l []) := by
        refine cX (v := .list ((ag C' 0).map fun r => .bytes (part r.r 0))) (bV (v := .mut 1) (o := some 1) (l := (ag C' 0).map da) (σ1 := W b (px C' mode acc dbl []) l []) (by simp_arith [r0]) (by simp [W, px, aF, eh, hl3]) ?_) (kU _ hne (by rw [eh]; exact hl2) _)
        refine bj da (fun r => .bytes (part r.r 0)) (eA rfl) (ag C' 0) fun r hr => ⟨_, rfl, rfl, ?_⟩
        exact av (k := 3) (vs := [.bytes r.r, .int (0 : Nat)]) (by simp_arith [r1]) rfl (by simp_arith [da]) (cJ b (px C' mode acc dbl []) l [] r.r 0 (by decide) (h4' _ (dr hr).2.2.2.2))
      exact db (J := cb) hlast (ap hmax (ρ' := ρ) (σ₂ := W b (px C' mode acc dbl (dC (ag C' 0))) l []) (by simp_arith [r1, W, aJ, px]) (b9 trivial)) fun ρ' H => b9 trivial
end
theorem E7 (k : Nat) (hk : k ≤ 400) : (10 : Nat) ^ k < 2 ^ 4000 := by
  have h1 : (10 : Nat) ^ k ≤ (2 ^ 4) ^ k := Nat.pow_le_pow_left (by decide) k
  rw [← Nat.pow_mul] at h1
  exact Nat.lt_of_le_of_lt h1 (Nat.pow_lt_pow_right (by decide) (Nat.lt_of_le_of_lt (Nat.mul_le_mul_left 4 hk) (by decide)))
theorem Bf {k : Nat} (h : k ≤ 24) : 121 + 7 * (0 + k) ≤ 289 := by rw [Nat.zero_add]; exact Nat.add_le_add_left (Nat.mul_le_mul_left 7 h) 121
theorem v8 (k : Nat) (hk : k ≤ 1000) : dA .Pow (.int 10) (.int k) = some (.int (10 ^ k)) := by
  have h0 : (10 : Int).natAbs < 2 ^ 4000 := by
    have := E7 1 (by decide)
    rw [Nat.pow_one] at this
    exact this
  have h1 : (k : Int) ≤ 1000 := Int.ofNat_le.mpr hk
  rw [yw, if_pos ⟨h0, Int.natCast_nonneg k, h1⟩, Int.toNat_natCast]
theorem w5 (ns : List Int) (h : ns.length ≤ 63) : ∃ b, w4 [.list (ns.map V.int)] [] = some (some (.mut 0), [.list [.int b]]) := by
  have hl : ns.length ≤ 1048576 := Nat.le_trans h (by decide)
  have key := dq (body := fun ρ' σ' => evSs bJ [.asg (.nm 46) (.bin .Add (.bin .Mult (.loc 46) (.lit (.int 1000033))) (.bin .Mod (.loc 47) (.bin .Pow (.lit (.int 10)) (.lit (.int 120)))))] ρ' σ') (x := 47) (fun k ρ σ => σ = [] ∧ ∃ m : Nat, m < 10 ^ (121 + 7 * k) ∧ ρ 46 = some (.int m)) V.int (ns.take 24) 0 (upd (upd ao 48 (.list (ns.map V.int))) 46 (.int 7)) []
    ⟨rfl, 7, by
      have : (10 : Nat) ^ 1 ≤ 10 ^ (121 + 7 * 0) := Nat.pow_le_pow_right (by decide) (by decide)
      exact Nat.lt_of_lt_of_le (by decide) this, rfl⟩ (fun k a ha ρ σ hI => by
      obtain ⟨rfl, m, hm, hr⟩ := hI
      have hk : k < 24 := by
        have := (List.getElem?_eq_some_iff.mp ha).1
        rw [List.length_take] at this
        exact Nat.lt_of_lt_of_le this (Nat.min_le_left _ _)
      have hp : (0 : Int) < 10 ^ 120 := by decide
      have e0 : 0 ≤ a % (10 : Int) ^ 120 := Int.emod_nonneg _ (by decide)
      have e1 : a % (10 : Int) ^ 120 < 10 ^ 120 := Int.emod_lt_of_pos _ hp
      obtain ⟨c, hc⟩ : ∃ c : Nat, (c : Int) = a % (10 : Int) ^ 120 := ⟨(a % (10 : Int) ^ 120).toNat, Int.toNat_of_nonneg e0⟩
      have hcl : c < 10 ^ 120 := by
        rw [← hc] at e1
        exact_mod_cast e1
      have hmul : dA .Mult (.int m) (.int 1000033) = some (.int (m * 1000033)) := by
        have h1 : (m : Int).natAbs < 2 ^ 4000 := by
          rw [Int.natAbs_natCast]
          exact Nat.lt_trans hm (E7 _ (Nat.le_trans (Bf (Nat.le_of_lt hk)) (by decide)))
        rw [AB, if_pos ⟨h1, by decide⟩]
      have hmod : dA .Mod (.int a) (.int (10 ^ 120)) = some (.int (a % 10 ^ 120)) := by
        rw [Dw, if_pos hp]
      have hadd : dA .Add (.int (m * 1000033)) (.int (a % 10 ^ 120)) = some (.int ((m * 1000033 + c : Nat) : Int)) := by
        rw [← hc]
        rfl
      refine ⟨_, [], .inl (iZ (dL (dL (af (dQ rfl hr)) cD hmul) (dL (af rfl) (dL cD cD (v8 120 (by decide))) hmod) hadd) rfl cG), rfl, m * 1000033 + c, ?_, by simp [upd]⟩
      have h7 : (10 : Nat) ^ (121 + 7 * (0 + k + 1)) = 10 ^ (121 + 7 * (0 + k)) * 10 ^ 7 := by rw [← Nat.pow_add]; congr 1
      have h8 : (10 : Nat) ^ 120 ≤ 10 ^ (121 + 7 * (0 + k)) := Nat.pow_le_pow_right (by decide) (Nat.le_add_right_of_le (by decide))
      rw [h7]
      generalize (10 : Nat) ^ (121 + 7 * (0 + k)) = P at *
      generalize (10 : Nat) ^ 120 = Q at *
      have : (10 : Nat) ^ 7 = 10000000 := by decide
      rw [this]
      omega)
  obtain ⟨ρ', σ', e, rfl, m, hm, hr⟩ := key
  have hm2 : m < 10 ^ 289 := Nat.lt_of_lt_of_le hm (Nat.pow_le_pow_right (by decide) (Bf (List.length_take_le ..)))
  have hlt : a9 bJ (.cmp .Lt (.loc 46) (.bin .Pow (.lit (.int 10)) (.lit (.int 50)))) ρ' [] = some (.bool (decide ((m : Int) < 10 ^ 50)), []) := az (u := .int m) (af hr) (dL cD cD (v8 50 (by decide))) rfl
  have hfor := fun (ss : List S) (fl : Fl) (σ2 : St) (k : Rn bJ cb ss ρ' [] fl σ2) => (show Rn bJ cb (.for_ 47 (.slc (.loc 48) (.lit .none) (.lit (.int 24))) [.asg (.nm 46) (.bin .Add (.bin .Mult (.loc 46) (.lit (.int 1000033))) (.bin .Mod (.loc 47) (.bin .Pow (.lit (.int 10)) (.lit (.int 120)))))] :: ss) (upd (upd ao 48 (.list (ns.map V.int))) 46 (.int 7)) [] fl σ2 from by
    obtain ⟨ρ'', h1, k⟩ := k
    exact ⟨ρ'', h1, e6 (v := .list ((ns.take 24).map V.int)) (σ1 := []) (by simp_arith [hl, List.map_take]) (by simp [aF]; omega) e k⟩)
  cases hz : decide ((m : Int) < 10 ^ 50) with
  | false =>
    rw [hz] at hlt
    exact ⟨m, aq (I := cb) (ρ := upd ao 48 (.list (ns.map V.int))) rfl (aH cD (hfor _ _ _ (aa hlt (bv (rY (i5 (af hr))) trivial))))⟩
  | true =>
    rw [hz] at hlt
    have hpw : dA .Pow (.int m) (.int 7) = some (.int ((m : Int) ^ 7)) := by
      have h1 : (m : Int).natAbs < 2 ^ 4000 := by
        rw [Int.natAbs_natCast]
        exact Nat.lt_trans hm2 (E7 _ (by decide))
      rw [yw, if_pos ⟨h1, by decide, by decide⟩]
      rfl
    exact ⟨(m : Int) ^ 7, aq (I := cb) (ρ := upd ao 48 (.list (ns.map V.int))) rfl (aH cD (hfor _ _ _ (db (J := fun ρ => ρ 46 = some (.int ((m : Int) ^ 7))) hlt (aH (dL (af hr) cD hpw) (b9 (by simp [upd]))) fun ρ2 z => bv (rY (i5 (af z))) trivial)))⟩
theorem fg {k : Nat} {cs : List V} {σ σ' : St} {r : Option V} (h : ia k cs σ = some (r, σ')) : cw [.clo k cs] σ = some (some (r.getD (.str 24)), σ') := by
  unfold cw
  rw [CW, CS, h]
  rfl
theorem lE : ∀ l : List (List UInt8), pA (l.map V.bytes) (l.map V.bytes) = some true
  | [] => rfl
  | a :: l => by simp [lE l]
theorem ro (rows : List Row) : pA (rows.map da) (rows.map da) = some true := by
  have := lE (rows.map (·.r))
  rw [List.map_map] at this
  exact this
theorem ua {r : Option V} (h : dZ r) (σ : St) : f6 .NotEq (r.getD (.str 24)) (r.getD (.str 24)) σ = some false := by
  rcases h with rfl | ⟨v, rfl, ⟨s, rfl⟩ | ⟨s, x, rfl⟩⟩ <;> simp_arith []
noncomputable def gf (b : Int) (C : List (List UInt8)) : St := [.list [.int b], .list (C.map V.bytes)]
section
variable {ρ : aj} {σ : St}
theorem sy {b : Int} {C : List (List UInt8)} {dbl : Bool} (hC : C.length ≤ 60) (h4 : ∀ c ∈ C, c.length = 4) (hp : C.Pairwise fun x y => part x 0 ≠ part y 0) (r44 : ρ 44 = some (.mut 0)) (r0 : ρ 0 = some (.mut 1)) (r19 : ρ 19 = some (.bool dbl)) :
    ∃ b' C' ρ', evSs ck [.asg (.nm 15) (.call 63 [(.loc 44)]),
    .if_ (.and [(.cmp .NotIn (.slc (.loc 15) (.lit .none) (.lit (.int 2))) (.comp [56] (.slc (.loc 56) (.lit .none) (.lit (.int 2))) (.loc 0) [] false false)), (.or [(.loc 19), (.cmp .NotIn (.slc (.loc 15) (.lit (.int 3)) (.lit .none)) (.comp [56] (.slc (.loc 56) (.lit (.int 3)) (.lit .none)) (.loc 0) [] false false))])]) [
      .ex (.bm (.loc 0) .append [(.loc 15)])] []] ρ (gf b C) = some (.next, ρ', gf b' C') ∧ C'.length ≤ C.length + 1 ∧ (∀ c ∈ C', c.length = 4) ∧ (C'.Pairwise fun x y => part x 0 ≠ part y 0) ∧ ∀ x, x ≠ 15 → ρ' x = ρ x := by
  obtain ⟨rc, b', hrc, hrec⟩ := jW b [.list (C.map V.bytes)]
  have hl := dB hC
  have hl2 := zw hC
  have r1 : ρ 0 = some (.mut 1) := r0
  have e1 : a9 ck (.call 63 [(.loc 44)]) ρ (gf b C) = some (.bytes rc, gf b' C) := bA (D := fS) rfl (i5 (af r44)) hrec
  have q0 : (upd ρ 15 (.bytes rc)) 0 = some (.mut 1) := by simp [upd, r0]
  have q15 : (upd ρ 15 (.bytes rc)) 15 = some (.bytes rc) := by simp [upd]
  have q19 : (upd ρ 15 (.bytes rc)) 19 = some (.bool dbl) := by simp [upd, r19]
  have m1 : a9 ck (.comp [56] (.slc (.loc 56) (.lit .none) (.lit (.int 2))) (.loc 0) [] false false) (upd ρ 15 (.bytes rc)) (gf b' C) = some (.list (C.map fun c => .bytes (part c 0)), gf b' C) := by
    refine bV (v := .mut 1) (o := some 1) (l := C.map V.bytes) (σ1 := gf b' C) (af q0) (by simp [gf, aF, hl]) ?_
    refine bj V.bytes (fun c => .bytes (part c 0)) (eA rfl) C fun c hc => ⟨_, rfl, rfl, ?_⟩
    have := h4 c hc
    exact js (af rfl) bc bc (by simp [aF, this, mw, part, lo, hi])
  have m2 : a9 ck (.comp [56] (.slc (.loc 56) (.lit (.int 3)) (.lit .none)) (.loc 0) [] false false) (upd ρ 15 (.bytes rc)) (gf b' C) = some (.list (C.map fun c => .bytes (c.drop 3)), gf b' C) := by
    refine bV (v := .mut 1) (o := some 1) (l := C.map V.bytes) (σ1 := gf b' C) (af q0) (by simp [gf, aF, hl]) ?_
    refine bj V.bytes (fun c => .bytes (c.drop 3)) (eA rfl) C fun c hc => ⟨_, rfl, rfl, ?_⟩
    have h4c := h4 c hc
    have t1 := rU h4c
    exact js (af rfl) bc bc (by simp [aF, h4c, mw, t1])
  have i1 := fW (part rc 0) (C.map fun c => part c 0)
  have i2 := fW (rc.drop 3) (C.map fun c => c.drop 3)
  simp only [List.map_map, Function.comp_def, List.any_map] at i1 i2
  have t1 := rU hrc
  have c1 : a9 ck (.cmp .NotIn (.slc (.loc 15) (.lit .none) (.lit (.int 2))) (.comp [56] (.slc (.loc 56) (.lit .none) (.lit (.int 2))) (.loc 0) [] false false)) (upd ρ 15 (.bytes rc)) (gf b' C) = some (.bool (!(C.any fun c => part c 0 == part rc 0)), gf b' C) :=
    az (u := .bytes (part rc 0)) (js (af q15) bc bc (by simp [aF, hrc, mw, part, lo, hi])) m1 (by simp [i1])
  have c2 : a9 ck (.cmp .NotIn (.slc (.loc 15) (.lit (.int 3)) (.lit .none)) (.comp [56] (.slc (.loc 56) (.lit (.int 3)) (.lit .none)) (.loc 0) [] false false)) (upd ρ 15 (.bytes rc)) (gf b' C) = some (.bool (!(C.any fun c => c.drop 3 == rc.drop 3)), gf b' C) :=
    az (u := .bytes (rc.drop 3)) (js (af q15) bc bc (by simp [aF, hrc, mw, t1])) m2 (by simp [i2])
  have c3 := bz c1 fun H => qg (a1 := .loc 19) (x := dbl) (af q19) fun H => c2
  have ho : ∀ x, x ≠ 15 → upd ρ 15 (V.bytes rc) x = ρ x := fun x hx => by simp [upd, hx]
  cases hz : (!(C.any fun c => part c 0 == part rc 0) && (dbl || !(C.any fun c => c.drop 3 == rc.drop 3))) with
  | false =>
    rw [hz] at c3
    exact ⟨b', C, _, iZ e1 rfl (dy c3 cG), Nat.le_succ _, h4, hp, ho⟩
  | true =>
    rw [hz] at c3
    have hk : ∀ c ∈ C, part c 0 ≠ part rc 0 := fun c hc z => by
      have : (C.any fun c => part c 0 == part rc 0) = true := List.any_eq_true.mpr ⟨c, hc, by simp [z]⟩
      rw [this] at hz
      simp at hz
    refine ⟨b', C ++ [rc], _, iZ e1 rfl (jL c3 (vA (v := .none) (σ1 := gf b' (C ++ [rc])) (qd (af q0) rfl (af q15) (by simp [gf, aF, hl2])) cG) cG), by simp, fun c hc => ?_, List.pairwise_append.mpr ⟨hp, List.pairwise_singleton _ _, fun x hx y hy => ?_⟩, ho⟩
    · rcases List.mem_append.mp hc with hc | hc
      · exact h4 c hc
      · cases List.mem_singleton.mp hc; exact hrc
    · cases List.mem_singleton.mp hy
      exact hk x hx
theorem sq {n : Nat} {b : Int} {a : Ab} {g : List M} (hI : Inv n a) (hn : n < 59) (r44 : ρ 44 = some (.mut 0)) (r52 : ρ 52 = some (.mut 2)) (r76 : ρ 76 = some (.mut 3)) (r0 : ρ 0 = some (.mut 1)) :
    ∃ b' a' g' ρ', evSs ck [.asg (.nms [78, 79]) (.call 77 [(.loc 44), (.loc 52), (.loc 76)]),
    .if_ (.cmp .NotEq (.call 75 [(.loc 79)]) (.loc 78)) [
      .ret (.lit (.bool false))] [],
    .if_ (.or [(.cmp .NotEq (.meth (.loc 76) 80 []) (.bi .tuple [(.comp [35, 15] (.loc 15) (.idx (.loc 52) (.lit (.str 18))) [] false false)])), (.cmp .NotEq (.loc 0) (.bi .list [(.meth (.loc 76) 80 [])]))]) [
      .ret (.lit (.bool false))] []] ρ (W b a a g) = some (.next, ρ', W b' a' a' g') ∧ Inv (n + 1) a' ∧ ∀ x, x ≠ 78 → x ≠ 79 → ρ' x = ρ x := by
  obtain ⟨due, k, cs, b', a', r, e1, rfl, hpl, hI', g', e2⟩ := tc hI hn b g
  have hl := hI'.l60 (Nat.succ_le_of_lt (ye hn))
  have hl1 := dB hl
  have f1 : a9 ck (.call 77 [(.loc 44), (.loc 52), (.loc 76)]) ρ (W b a a g) = some (.tup [r.getD (.str 24), .clo k cs], W b' a a' g) := bA (D := lu) rfl (iO (af r44) (af r52) (af r76)) e1
  obtain ⟨ρ', hρ⟩ : ∃ ρ', upd (upd ρ 78 (r.getD (.str 24))) 79 (.clo k cs) = ρ' := ⟨_, rfl⟩
  have q52 : ρ' 52 = some (.mut 2) := by subst hρ; simp [upd, r52]
  have q76 : ρ' 76 = some (.mut 3) := by subst hρ; simp [upd, r76]
  have q0 : ρ' 0 = some (.mut 1) := by subst hρ; simp [upd, r0]
  have q78 : ρ' 78 = some (r.getD (.str 24)) := by subst hρ; simp [upd]
  have q79 : ρ' 79 = some (.clo k cs) := by subst hρ; simp [upd]
  have f2 : a9 ck (.cmp .NotEq (.call 75 [(.loc 79)]) (.loc 78)) ρ' (W b' a a' g) = some (.bool false, W b' a' a' g') :=
    mH (bA (D := cw) rfl (i5 (af q79)) (fg e2)) (af q78) (ua hpl _)
  have f3 : a9 ck (.meth (.loc 76) 80 []) ρ' (W b' a' a' g') = some (.tup (a'.rows.map da), W b' a' a' g') := ue (D := nF) (k := 3) rfl (af q76) rfl eB (th b' a' a' g' hl)
  have f4 : a9 ck (.bi .tuple [(.comp [35, 15] (.loc 15) (.idx (.loc 52) (.lit (.str 18))) [] false false)]) ρ' (W b' a' a' g') = some (.tup (a'.rows.map da), W b' a' a' g') := by
    refine cX (v := .list (a'.rows.map da)) (bV (v := .list (a'.rows.map bW)) (σ1 := W b' a' a' g') (fO (af q52) bc rfl) (by simp [aF, hl1] <;> (first | rfl | exact ⟨rfl, rfl⟩)) ?_) (by simp [aF, hl1])
    exact bj bW da aZ a'.rows fun r hr => ⟨_, rfl, rfl, af rfl⟩
  have f5 : a9 ck (.or [(.cmp .NotEq (.meth (.loc 76) 80 []) (.bi .tuple [(.comp [35, 15] (.loc 15) (.idx (.loc 52) (.lit (.str 18))) [] false false)])), (.cmp .NotEq (.loc 0) (.bi .list [(.meth (.loc 76) 80 [])]))]) ρ' (W b' a' a' g') = some (.bool (false || false), W b' a' a' g') :=
    qg (az f3 f4 (by simp [ro])) fun H => az (u := .mut 1) (af q0) (cX (u := .list (a'.rows.map da)) f3 (by simp [aF, hl1])) (by simp [W, ro])
  exact ⟨b', a', g', ρ', iZ f1 (by rw [← hρ]; rfl) (dy f2 (dy f5 cG)), hI', fun x h1 h2 => by subst hρ; simp [upd, h1, h2]⟩
end
section
variable {ρ : aj}
theorem ud {Γ : Gam} {σ σ1 σ₂ : St} {v : V} {xs : List Nat} {elt it : E} {ifs : List E} {k : Nat} {l vs : List V} (h : a9 Γ it ρ σ = some (v, σ1)) (h1 : aS v σ1 = some (some k, l)) (h2 : cA (fun ρ' σ' => a9 Γ elt ρ' σ') (fun ρ' σ' => evAnd Γ ifs ρ' σ') xs (some k) l ρ (aL l 0) σ1 = some (vs, σ₂)) :
    a9 Γ (.comp xs elt it ifs false true) ρ σ = some (.list vs, σ₂) := by rw [jC, h, bM, h1, bM, if_pos (show (!true || (some k).isSome) = true from rfl), if_pos rfl, h2]; rfl
theorem l8 {b : Int} {s : St} (r44 : ρ 44 = some (.mut 0)) (k : Int) (hk : 0 < k ∧ k < 60) : ∃ n : Nat, (n : Int) < k ∧ a9 ck (.bi .range [(.call 49 [(.loc 44), (.lit (.int k))])]) ρ (.list [.int b] :: s) = some (.rng 0 n, .list [.int (b / k)] :: s) := by
  have h0 : 0 ≤ b % k := Int.emod_nonneg _ (Int.ne_of_gt hk.1)
  have h1 : b % k < k := Int.emod_lt_of_pos _ hk.1
  refine ⟨(b % k).toNat, by rw [Int.toNat_of_nonneg h0]; exact h1, ?_⟩
  refine cX (cH rfl r44 k ⟨hk.1, Int.lt_trans hk.2 (by decide)⟩ s) ?_
  rw [Int.toNat_of_nonneg h0]
  have h2 : b % k ≤ 1048576 := Int.le_of_lt (Int.lt_trans h1 (Int.lt_trans hk.2 (by decide)))
  simp [aF, h0, h2]
theorem sJ {n : Nat} {b : Int} {a : Ab} {g : List M} (hI : Inv n a) (hn : n ≤ 6) (r44 : ρ 44 = some (.mut 0)) (r52 : ρ 52 = some (.mut 2)) (r76 : ρ 76 = some (.mut 3)) (r0 : ρ 0 = some (.mut 1)) : ∃ σ', Rn ck cb (d4.drop 10) ρ (W b a a g) (.ret (.bool true)) σ' := by
  obtain ⟨t, ht, e⟩ := l8 (b := b) (s := (W b a a g).tail) r44 13 (by decide)
  have key := dq (body := fun ρ' σ' => evSs ck [.asg (.nms [78, 79]) (.call 77 [(.loc 44), (.loc 52), (.loc 76)]),
    .if_ (.cmp .NotEq (.call 75 [(.loc 79)]) (.loc 78)) [
      .ret (.lit (.bool false))] [],
    .if_ (.or [(.cmp .NotEq (.meth (.loc 76) 80 []) (.bi .tuple [(.comp [35, 15] (.loc 15) (.idx (.loc 52) (.lit (.str 18))) [] false false)])), (.cmp .NotEq (.loc 0) (.bi .list [(.meth (.loc 76) 80 [])]))]) [
      .ret (.lit (.bool false))] []] ρ' σ') (x := 73) (fun k ρ σ => (ρ 44 = some (.mut 0) ∧ ρ 52 = some (.mut 2) ∧ ρ 76 = some (.mut 3) ∧ ρ 0 = some (.mut 1)) ∧ ∃ b a g, σ = W b a a g ∧ Inv (n + k) a) (fun (i : Nat) => V.int i) (List.range t) 0 ρ (W (b / 13) a a g) ⟨⟨r44, r52, r76, r0⟩, _, _, _, rfl, hI⟩
    (fun k i hk ρ σ hJ => by
      obtain ⟨⟨r44, r52, r76, r0⟩, b, a, g, rfl, hI⟩ := hJ
      have hkt : k < t := by
        have := (List.getElem?_eq_some_iff.mp hk).1
        simpa using this
      obtain ⟨b', a', g', ρ', e1, hI', hρ⟩ := sq (ρ := upd ρ 73 (.int i)) (b := b) (g := g) hI (by omega) (by simp [upd, r44]) (by simp [upd, r52]) (by simp [upd, r76]) (by simp [upd, r0])
      exact ⟨ρ', _, .inl e1, ⟨by rw [hρ 44 (by decide) (by decide)]; simp [upd, r44], by rw [hρ 52 (by decide) (by decide)]; simp [upd, r52], by rw [hρ 76 (by decide) (by decide)]; simp [upd, r76], by rw [hρ 0 (by decide) (by decide)]; simp [upd, r0]⟩, b', a', g', rfl, hI'⟩)
  obtain ⟨ρ', σ', e2, _⟩ := key
  exact ⟨σ', gk (e6 e (ez t (H3 ht (by decide)) _) e2 (e7 cD)) trivial⟩
theorem Cz {b : Int} {C : List (List UInt8)} {a0 : Ab} {mode acc : Nat} {dbl : Bool} {r : Option V × St} {q : Option V × St} (e : jR [.mut 3, .mut 1, .str mode, .str acc, .tup [.int 0, .int 2], .list [.tup [.int 2, .int 1, .bool true], .tup [.int 3, .int 1, .bool dbl]]] [.list [.int b], .list (C.map V.bytes), ar a0, .inst [] []] = some r) (h : oE 3 r = some q) :
    ia 6 [.str acc, .mut 1, .bool dbl, .str mode] [.list [.int b], .list (C.map V.bytes), ar a0] = some q := by
  unfold ia CA
  rw [if_pos rfl, show ak [3, 0, 19, 2] [.str acc, .mut 1, .bool dbl, .str mode] ao = some (upd (upd (upd (upd ao 3 (.str acc)) 0 (.mut 1)) 19 (.bool dbl)) 2 (.str mode)) from rfl, Option.bind_some,
    show evEs bJ (vW 6) (upd (upd (upd (upd ao 3 (.str acc)) 0 (.mut 1)) 19 (.bool dbl)) 2 (.str mode)) [.list [.int b], .list (C.map V.bytes), ar a0] = some ([.mut 1, .str mode, .str acc, .tup [.int 0, .int 2], .list [.tup [.int 2, .int 1, .bool true], .tup [.int 3, .int 1, .bool dbl]]], [.list [.int b], .list (C.map V.bytes), ar a0]) from rfl, Option.bind_some]
  exact (congrArg (Option.bind · (oE 3)) e).trans h
theorem uE {b : Int} {C : List (List UInt8)} {mode acc : Nat} {dbl : Bool} (hC : C.length ≤ 6) (h4 : ∀ c ∈ C, c.length = 4) (hp : C.Pairwise fun x y => part x 0 ≠ part y 0) (r44 : ρ 44 = some (.mut 0)) (r0 : ρ 0 = some (.mut 1)) (r19 : ρ 19 = some (.bool dbl)) (r2 : ρ 2 = some (.str mode)) (r3 : ρ 3 = some (.str acc)) :
    ∃ σ', Rn ck cb (d4.drop 4) ρ (gf b C) (.ret (.bool true)) σ' := by
  have hl1 := dB (zr hC)
  obtain ⟨C', hC'⟩ : ∃ C', (if (mode == 2) = true then [] else C) = C' := ⟨_, rfl⟩
  have hl' : C'.length ≤ 6 := by
    rw [← hC']
    split
    · exact Nat.zero_le _
    · exact hC
  have h4' : ∀ c ∈ C', c.length = 4 := by
    rw [← hC']
    split
    · intro c hc; cases hc
    · exact h4
  have hp' : C'.Pairwise fun x y => part x 0 ≠ part y 0 := by
    rw [← hC']
    split
    · exact List.Pairwise.nil
    · exact hp
  have hl2 := dB (zr hl')
  have hrows : a9 ck (.ifx (.cmp .Eq (.loc 2) (.lit (.str 2))) (.lst []) (.comp [46, 15] (.tup [(.tup [(.loc 46), (.loc 46), (.loc 46)]), (.loc 15)]) (.loc 0) [] false true)) ρ (gf b C) = some (.list ((ag C' 0).map bW), gf b C) := by
    rw [← hC', show V.list ((ag (if (mode == 2) = true then [] else C) 0).map bW) = if (mode == 2) = true then V.list [] else V.list ((ag C 0).map bW) from by split <;> rfl]
    refine eK (by simp_arith [r2]) (fun H => rfl) fun H => ?_
    have hc := bj (elt := fun ρ' σ' => a9 ck (.tup [(.tup [(.loc 46), (.loc 46), (.loc 46)]), (.loc 15)]) ρ' σ') (ifs := fun ρ' σ' => evAnd ck [] ρ' σ') (xs := [46, 15]) (o := some 1) (l₀ := C.map V.bytes) (ρ := ρ) (σ := gf b C) (fun r => .tup [.int r.n0, .bytes r.r]) bW (eA rfl) (ag C 0) fun r hr => by
      obtain ⟨g1, g2, _⟩ := dr hr
      exact ⟨_, rfl, rfl, by simp_arith [bW, g1, g2]⟩
    rw [← oh] at hc
    have hi : aS (.mut 1) (gf b C) = some (some 1, C.map V.bytes) := by simp [gf, aF, hl1]
    exact ud (af r0) hi hc
  have hst : a9 ck (.mdct [18, 29, 25, 23, 28] [(.loc 74), (.bi .len [(.loc 74)]), (.loc 2), (.loc 3), (.loc 19)]) (upd ρ 74 (.list ((ag C' 0).map bW))) (gf b C) = some (.mut 2, gf b C ++ [.dict [18, 29, 25, 23, 28] [.list ((ag C' 0).map bW), .int C'.length, .str mode, .str acc, .bool dbl]]) := by
    rw [rh, bw (af rfl) (bw (xA (v := .int C'.length) (i5 (af rfl)) (by simp [aF, eh, hl2])) (iO (af (dQ rfl r2)) (af (dQ rfl r3)) (af (dQ rfl r19))))]
    rfl
  obtain ⟨a0, ha0⟩ : ∃ a0, px C' mode acc dbl (lJ C' mode) = a0 := ⟨_, rfl⟩
  have hI : Inv 6 a0 := by
    rw [← ha0]
    exact EK hl' h4' hp' fun z => by rw [← hC', z]; rfl
  obtain ⟨ρ1, hρ1⟩ : ∃ ρ1, upd (upd ρ 74 (.list ((ag C' 0).map bW))) 52 (.mut 2) = ρ1 := ⟨_, rfl⟩
  have q44 : ρ1 44 = some (.mut 0) := by subst hρ1; simp [upd, r44]
  have q0 : ρ1 0 = some (.mut 1) := by subst hρ1; simp [upd, r0]
  have q19 : ρ1 19 = some (.bool dbl) := by subst hρ1; simp [upd, r19]
  have q2 : ρ1 2 = some (.str mode) := by subst hρ1; simp [upd, r2]
  have q3 : ρ1 3 = some (.str acc) := by subst hρ1; simp [upd, r3]
  have q52 : ρ1 52 = some (.mut 2) := by subst hρ1; simp [upd]
  have hgo : ∀ (v : V) (σ' : St), Rn ck cb (d4.drop 8) ρ1 [.list [.int b], .list (C.map V.bytes), ar a0] (.ret v) σ' → Rn ck cb (d4.drop 4) ρ (gf b C) (.ret v) σ' := fun v σ' k =>
    aH hrows (d5 hst (ap (v := .tup [.int 0, .tup [.bytes [], .int (-1)], .bool false, .int (-1)]) (ρ' := ρ1) (σ₂ := [.list [.int b], .list (C.map V.bytes), ar a0]) (by simp_arith []) (by rw [hρ1, ← ha0]; simp_arith [q52, gf, ar, px]) (ym k)))
  obtain ⟨i1, i2⟩ := td C b a0 mode acc dbl (zr hC) h4
  have hcap : a9 ck (.lam 6) ρ1 [.list [.int b], .list (C.map V.bytes), ar a0] = some (.clo 6 [.str acc, .mut 1, .bool dbl, .str mode], [.list [.int b], .list (C.map V.bytes), ar a0]) := gB rfl (by simp [cz, q0, q19, q2, q3])
  have htest : ∀ (v : V) (σ : St), a9 ck (.and [(.cmp .Eq (.loc 2) (.lit (.str 0))), (.cmp .NotEq (.loc 3) (.lit (.str 1)))]) (upd ρ1 76 v) σ = some (.bool (mode == 0 && !(acc == 1)), σ) := fun v σ => bz (by simp_arith [q2]) fun H => by simp_arith [q3]
  cases hx : (mode == 0 && !(acc == 1)) with
  | true =>
    obtain ⟨σ', e⟩ := i1 hx
    have hl6 : ia 6 [.str acc, .mut 1, .bool dbl, .str mode] [.list [.int b], .list (C.map V.bytes), ar a0] = some (none, σ') := by
      exact Cz e rfl
    have hd6 := fg hl6
    have ht := htest (.str 24) σ'
    rw [hx] at ht
    exact ⟨σ', hgo _ _ (d5 (v := .str 24) (bA (D := cw) rfl (i5 hcap) hd6) (ai ht (ah (eZ (af lV) bc rfl) trivial)))⟩
  | false =>
    have e := i2 hx C' hC'.symm
    rw [ha0] at e
    have hl6 : ia 6 [.str acc, .mut 1, .bool dbl, .str mode] [.list [.int b], .list (C.map V.bytes), ar a0] = some (some (.mut 3), W b a0 a0 []) := by
      exact Cz e rfl
    have hd6 := fg hl6
    have ht := htest (.mut 3) (W b a0 a0 [])
    rw [hx] at ht
    obtain ⟨σ', k⟩ := sJ (ρ := upd ρ1 76 (.mut 3)) (b := b) (g := []) hI (by decide) (by simp [upd, q44]) (by simp [upd, q52]) (by simp [upd]) (by simp [upd, q0])
    exact ⟨σ', hgo _ _ (d5 (v := .mut 3) (bA (D := cw) rfl (i5 hcap) hd6) (aa ht k))⟩
end
theorem uF (ns : List Int) (h : ns.length ≤ 63) : ∃ σ', yA [.list (ns.map V.int)] [] = some (some (.bool true), σ') := by
  obtain ⟨b, hb⟩ := w5 ns h
  obtain ⟨v1, m1, e1⟩ := sU [.str 13, .str 26, .str 13, .str 2, .str 0] b 5 (by decide) rfl (by decide)
  obtain ⟨v2, m2, e2⟩ := sU [.str 30, .str 1, .str 5] (b / 5) 3 (by decide) rfl (by decide)
  obtain ⟨mode, rfl⟩ : ∃ mode, v1 = .str mode := by
    simp only [List.mem_cons, List.not_mem_nil, or_false] at m1
    rcases m1 with rfl | rfl | rfl | rfl | rfl <;> exact ⟨_, rfl⟩
  obtain ⟨acc, rfl⟩ : ∃ acc, v2 = .str acc := by
    simp only [List.mem_cons, List.not_mem_nil, or_false] at m2
    rcases m2 with rfl | rfl | rfl <;> exact ⟨_, rfl⟩
  obtain ⟨ρ, hρ⟩ : ∃ ρ, upd (upd (upd (upd (upd (upd ao 48 (.list (ns.map V.int))) 44 (.mut 0)) 2 (.str mode)) 3 (.str acc)) 19 (.bool (b / 5 / 3 % 2 == 1))) 0 (.mut 1) = ρ := ⟨_, rfl⟩
  have r44 : ρ 44 = some (.mut 0) := by subst hρ; rfl
  have r0 : ρ 0 = some (.mut 1) := by subst hρ; rfl
  have r19 : ρ 19 = some (.bool (b / 5 / 3 % 2 == 1)) := by subst hρ; rfl
  have r2 : ρ 2 = some (.str mode) := by subst hρ; rfl
  have r3 : ρ 3 = some (.str acc) := by subst hρ; rfl
  obtain ⟨t, ht, e3⟩ := l8 (b := b / 5 / 3 / 2) (s := [.list []]) r44 7 (by decide)
  have key := dq (body := fun ρ' σ' => evSs ck [.asg (.nm 15) (.call 63 [(.loc 44)]),
    .if_ (.and [(.cmp .NotIn (.slc (.loc 15) (.lit .none) (.lit (.int 2))) (.comp [56] (.slc (.loc 56) (.lit .none) (.lit (.int 2))) (.loc 0) [] false false)), (.or [(.loc 19), (.cmp .NotIn (.slc (.loc 15) (.lit (.int 3)) (.lit .none)) (.comp [56] (.slc (.loc 56) (.lit (.int 3)) (.lit .none)) (.loc 0) [] false false))])]) [
      .ex (.bm (.loc 0) .append [(.loc 15)])] []] ρ' σ') (x := 73) (fun k ρ σ => (ρ 44 = some (.mut 0) ∧ ρ 0 = some (.mut 1) ∧ ρ 19 = some (.bool (b / 5 / 3 % 2 == 1)) ∧ ρ 2 = some (.str mode) ∧ ρ 3 = some (.str acc)) ∧ ∃ b C, σ = gf b C ∧ C.length ≤ k ∧ (∀ c ∈ C, c.length = 4) ∧ C.Pairwise fun x y => part x 0 ≠ part y 0)
    (fun (i : Nat) => V.int i) (List.range t) 0 ρ (gf (b / 5 / 3 / 2 / 7) []) ⟨⟨r44, r0, r19, r2, r3⟩, _, [], rfl, Nat.le_refl _, (fun c hc => by cases hc), List.Pairwise.nil⟩
    (fun k i hk ρ σ hJ => by
      obtain ⟨⟨r44, r0, r19, r2, r3⟩, b', C, rfl, hC, h4, hp⟩ := hJ
      have hkt : k < t := by
        have := (List.getElem?_eq_some_iff.mp hk).1
        simpa using this
      obtain ⟨b2, C2, ρ', e4, g1, g2, g3, g4⟩ := sy (ρ := upd ρ 73 (.int i)) (b := b') (C := C) (dbl := (b / 5 / 3 % 2 == 1)) (by omega) h4 hp (by simp [upd, r44]) (by simp [upd, r0]) (by simp [upd, r19])
      exact ⟨ρ', _, .inl e4, ⟨by rw [g4 44 (by decide)]; simp [upd, r44], by rw [g4 0 (by decide)]; simp [upd, r0], by rw [g4 19 (by decide)]; simp [upd, r19], by rw [g4 2 (by decide)]; simp [upd, r2], by rw [g4 3 (by decide)]; simp [upd, r3]⟩, b2, C2, rfl, by omega, g2, g3⟩)
  obtain ⟨ρ2, σ2, e5, ⟨q44, q0, q19, q2, q3⟩, b5, C, rfl, hC, h4, hp⟩ := key
  rw [List.length_range] at hC
  obtain ⟨σ', k⟩ := uE (b := b5) (C := C) (by omega) h4 hp q44 q0 q19 q2 q3
  refine ⟨σ', aq (I := cb) (ρ := upd ao 48 (.list (ns.map V.int))) rfl ?_⟩
  refine d5 (v := .mut 0) (bA (D := w4) rfl (i5 (af rfl)) hb) ?_
  refine fG (v := .tup [.str mode, .str acc]) (σ1 := [.list [.int (b / 5 / 3)]]) (cO (i6 (σ1 := [.list [.int (b / 5)]]) (fU (u := .list [.str 13, .str 26, .str 13, .str 2, .str 0]) rfl (cH rfl rfl 5 (by decide) []) (e1 _)) (fU (u := .list [.str 30, .str 1, .str 5]) rfl (cH rfl rfl 3 (by decide) []) (e2 _)))) rfl ?_
  refine fG (v := .tup [.bool (b / 5 / 3 % 2 == 1), .mut 1]) (σ1 := gf (b / 5 / 3 / 2) []) (ρ' := ρ) (σ₂ := gf (b / 5 / 3 / 2) []) (cO (i6 (σ1 := [.list [.int (b / 5 / 3 / 2)]]) (mH (cH rfl rfl 2 (by decide) []) (w := .int 1) cD (by simp_arith [])) (rY eB))) (by rw [← hρ]; rfl) ?_
  obtain ⟨ρ3, h3, k⟩ := k
  exact ⟨ρ3, h3, e6 e3 (ez t (H3 ht (by decide)) _) e5 k⟩
end Mine
end
namespace Mine
open PySem PySem.W PyProof.Rows PySem.Calls PySem.SeqAt
theorem EO {h : Heap} {mg : Str → Option Value} {P : Params} {x : Str} {fa : Addr} (KX : (KK P).In h) (G : h.Ns mainGlobals mg) (hm : mg x = some (.ref fa)) (hx : nsIn (KK P) mainGlobals x = some (some (.ref 301))) : fa = 301 := by
  have := mg_of KX G hx
  rw [hm] at this
  cases this
  rfl
theorem DF {prog : Program} {p : Program} {loose : List Str} {mean : ExcName → Option Value} {w : World} {s₁ : Shared} {mg mb : Str → Option Value} {c : ClaimW} {cl : Str → Option Addr} {mean' : ExcName → Option Value} {args : List WData}
    (KX : (KK w.params).In s₁.heap) (hT8 : ∀ P ∈ [284, 298], s₁.heap.get? P = some (tabObj #[])) (T : Top p loose mean mg mb s₁.heap) (hg : s₁.gens = #[]) {a : Addr} {vals : List Value} {ns : List Int} (hL : s₁.heap.IsList a vals.toArray) (hI : IntsAre vals ns)
    (hn : ¬ ((63 : Nat) : Int) < (ns.length : Int)) (hr : ∀ x, c.raises args x = false) (hp : c.post args (.bool true) args = true) :
    wpAny (model prog w) callerA (call (.ref 301) [.ref a]) (fun v s' => GoodWG c cl mean' args s₁ (.ok (.ret v)) s') (fun e s' => GoodWG c cl mean' args s₁ (.error e) s') s₁ := by
  obtain ⟨σ', hD⟩ := uF ns (by omega)
  refine wpAny_mono (uD KX hT8 T hL hI hD) (fun v s' hv => ?_) fun H H x => x.elim
  obtain ⟨rfl, h1, h2, h3⟩ := hv
  exact ⟨.inl ⟨_, _, [], rfl, hr, ReadsW.bool true, hp, fun H => ⟨List.nodup_nil, fun H hm => (nomatch hm)⟩⟩, h1, h2, by rw [h3, hg]; exact AllBare.empty⟩
end Mine
theorem PySem.Challenge.cw_og0088_01_holds : PySem.Challenge.rw_og0088_01.Holds :=
  Mine.hd (by
  intro w s₀ s₁ mg mb G Y fa o pm cd doc dV kV ho hd hcd hD hmg hg args vals as hpre hlay hrd hwl hlo
  have KX : (Mine.KK w.params).In s₁.heap := Y.1
  have hT8 : ∀ P ∈ [284, 298], s₁.heap.get? P = some (PySem.W.tabObj #[]) := Y.2
  refine PySem.W.Ground.open G ?_
  intro T B D TE TW
  have hfa := Mine.EO KX T.g hmg (by kernel_rfl)
  clear hd hcd hD hmg ho Y G B TE TW
  subst hfa
  wrow_args hpre hlay hrd hwl hlo
  exact Mine.DF KX hT8 T hg ‹_› ‹_› ‹_› (fun x => rfl) (by kernel_rfl))
