import PyProof.Rows.All
import Wide.All
import OpenK.AllK
import Wide.FinOn
import Lean
import PySem.Challenge.RW_nt0139_02
set_option Elab.async false
set_option genInjectivity false
set_option genSizeOf false
set_option genCtorIdx false
set_option tactic.hygienic false
set_option bootstrap.genMatcherCode false
set_option linter.all false
section
open PySem PySem.W PySem.W.X PySem.Calls PyProof.Rows
set_option maxRecDepth 100000
set_option maxHeartbeats 0
namespace aD
abbrev oH : OpenLaw := PySem.Challenge.rw_nt0139_02
theorem Bn : oH.wellSaid = true := by kernel_rfl
end aD
end
namespace aD
@[elab_as_elim] theorem ae {α : Sort u} {a b : α} {p : α → Prop} (h : a = b) (x : p b) : p a := h ▸ x
@[elab_as_elim] theorem bK {α : Sort u} {a b : α} {p : α → Prop} (h : a = b) (x : p a) : p b := h ▸ x
theorem bf {P : Prop} (h : false = true) : P := nomatch h
theorem aO {α : Type u} {a b : α} (h : some a = some b) : a = b := Option.some.inj h
theorem eI {α : Type u} [BEq α] [LawfulBEq α] {a b : α} (h : (a == b) = true) : a = b := beq_iff_eq.mp h
theorem yr {α : Type u} [BEq α] [LawfulBEq α] {a b : α} (h : a ≠ b) : (a == b) = false := beq_eq_false_iff_ne.mpr h
theorem fg {α : Type u} {a b : α} {l : List α} (h : a ∈ b :: l) : a = b ∨ a ∈ l := List.mem_cons.mp h
theorem msg {α : Type u} {a b : α} (h : a ∈ [b]) : a = b := List.mem_singleton.mp h
theorem f9 {α : Type u} {β : Type v} {o : Option α} {f : α → Option β} {b : β} (h : o.bind f = some b) : ∃ a, o = some a ∧ f a = some b := Option.bind_eq_some_iff.mp h
theorem Dd {α : Type u} {β : Type v} {o : Option α} {f : α → β} {b : β} (h : o.map f = some b) : ∃ a, o = some a ∧ f a = b := Option.map_eq_some_iff.mp h
theorem lP {α : Type u} {p : α → Bool} {l : List α} (h : l.all p = true) : ∀ x ∈ l, p x = true := List.all_eq_true.mp h
theorem sY {α : Type u} {l : List α} (h : l.isEmpty = true) : l = [] := List.isEmpty_iff.mp h
theorem yt {α : Type u} {o : Option α} (h : o.isNone = true) : o = none := Option.isNone_iff_eq_none.mp h
theorem yu {a b : Bool} (h : (a || b) = true) : a = true ∨ b = true := Bool.or_eq_true_iff.mp h
theorem yv {α : Type u} {l : List α} {i : Nat} {a : α} (h : l[i]? = some a) : ∃ k : i < l.length, l[i] = a := List.getElem?_eq_some_iff.mp h
theorem yB {α : Type u} {β : Type v} {f : α → β} {l : List α} {b : β} (h : b ∈ l.map f) : ∃ a, a ∈ l ∧ f a = b := List.mem_map.mp h
theorem JX {α : Type u} {β : Type v} {o : Option α} {f : α → β} {b : β} (h : Option.rec (motive := fun _ => Option β) none (fun a => some (f a)) o = some b) : ∃ a, o = some a ∧ f a = b := by
 cases o with
 | none => cases h
 | some a => exact ⟨a, rfl, aO h⟩
theorem L3 {α : Type u} {x y : α} {b : Bool} (h : b = true) : Bool.rec (motive := fun _ => α) x y b = y := h ▸ rfl
theorem JY {α : Type u} {x y : α} {b : Bool} (h : b = false) : Bool.rec (motive := fun _ => α) x y b = x := h ▸ rfl
theorem JZ {α : Type u} {x y : α} {b : Bool} (h : ¬b = true) : Bool.rec (motive := fun _ => α) x y b = x := JY (Bool.eq_false_iff.mpr h)
end aD
section
open PySem
set_option genCtorIdx false
set_option backward.match.sparseCases false
noncomputable section
namespace aD
noncomputable def getL {α : Type} (l : List α) (n : Nat) : Option α := List.rec (motive := fun J => Nat → Option α) (fun J => none) (fun a J ih n => Nat.rec (motive := fun J => Option α) (some a) (fun m J => ih m) n) l n
noncomputable def ud {α : Type} (l k : List α) : List α := List.rec (motive := fun J => List α) k (fun a J ih => a :: ih) l
noncomputable def jG (l k : List Nat) : Bool := List.rec (motive := fun J => List Nat → Bool) (fun k => List.rec (motive := fun J => Bool) true (fun J J J => false) k)
 (fun a J ih k => List.rec (motive := fun J => Bool) false (fun b t J => Bool.rec (motive := fun J => Bool) false (ih t) (Nat.beq a b)) k) l k
inductive Bx (α : Type) where
 | mk (a : α)
inductive Tr (α : Type) where
 | nil
 | node (v : Option α) (l r : Tr α)
noncomputable def Tr.ctorIdx {α : Type} (x : Tr α) : Nat := Tr.casesOn (motive := fun J => Nat) x 0 (fun J J J => 1)
noncomputable def Tr.get {α : Type} (t : Tr α) (n : Nat) : Option α := Tr.rec (motive := fun J => Nat → Option α) (fun J => none)
 (fun v J J il ir n => Nat.rec (motive := fun J => Option α) v (fun m J => Bool.rec (motive := fun J => Option α) (ir (Nat.div m 2)) (il (Nat.div m 2)) (Nat.beq (Nat.mod m 2) 0)) n) t n
noncomputable def Tr.one {α : Type} (f n : Nat) (x : α) : Tr α := Nat.rec (motive := fun J => Nat → Tr α) (fun J => .nil)
 (fun J ih n => Nat.rec (motive := fun J => Tr α) (.node (some x) .nil .nil) (fun m J => Bool.rec (motive := fun J => Tr α) (.node none .nil (ih (Nat.div m 2))) (.node none (ih (Nat.div m 2)) .nil) (Nat.beq (Nat.mod m 2) 0)) n) f n
noncomputable def Tr.put {α : Type} (t : Tr α) (n : Nat) (x : α) : Tr α := Tr.rec (motive := fun J => Nat → Tr α) (fun n => Tr.one (Nat.succ n) n x)
 (fun v l r il ir n => Nat.rec (motive := fun J => Tr α) (.node (some x) l r) (fun m J => Bool.rec (motive := fun J => Tr α) (.node v l (ir (Nat.div m 2))) (.node v (il (Nat.div m 2)) r) (Nat.beq (Nat.mod m 2) 0)) n) t n
noncomputable def Tr.J0 {α : Type} (l : List α) (t : Tr α) (k : Nat) : Tr α := List.rec (motive := fun J => Tr α → Nat → Tr α) (fun t J => t) (fun a J ih t k => ih (t.put k a) (Nat.succ k)) l t k
noncomputable def Tr.yC {α : Type} (l : List α) : Tr α := Tr.J0 l .nil 0
set_option genCtorIdx true in
inductive SI where
 | lit (i : Int)
 | va (k : Nat) (o : Int)
 deriving DecidableEq
set_option genCtorIdx true in
inductive Seg where
 | lit (l : List Nat)
 | rep (k n : Nat)
 | d9 (k o n : Nat)
 | be (k : Nat) (o : Int) (n a m : Nat)
 deriving DecidableEq
abbrev BS := List Seg
set_option genCtorIdx true in
inductive Ty where
 | bytes | bytearray | int | list | dict | str | other
 deriving DecidableEq
set_option genCtorIdx true in
inductive Bi where
 | len | range | sorted | max
 deriving DecidableEq
set_option genCtorIdx true in
inductive V where
 | none
 | bool (b : Bool)
 | int (i : SI)
 | str (s : List Nat)
 | bytes (b : BS)
 | loc (i : Nat)
 | fn (a : Nat)
 | cls (a : Nat)
 | ty (t : Ty)
 | bi (b : Bi)
 | bb
 deriving DecidableEq
inductive VD where
 | int (lo hi : Int)
 | oct
 | lt (k : Nat)
 | gh (s : Nat)
 | any
noncomputable def VD.ctorIdx (x : VD) : Nat := VD.casesOn (motive := fun J => Nat) x (fun J J => 0) 1 (fun J => 2) (fun J => 3) 4
set_option genCtorIdx true in
inductive qP where
 | add | sub | mul | div | mod | pow
set_option genCtorIdx true in
inductive oG where
 | eq | ne | lt | le | gt | ge | is_ | lQ | in_ | jH
inductive E where
 | cst (v : V)
 | loc (x : Nat)
 | dc (x : Nat)
 | aH (x : Nat)
 | av (e : E) (f : Nat)
 | bin (o : qP) (a b : E)
 | neg (e : E)
 | not_ (e : E)
 | and_ (es : List E)
 | or_ (es : List E)
 | cmp (a : E) (ops : List oG) (es : List E)
 | ite_ (c a b : E)
 | call (f : E) (as : List E)
 | meth (o : E) (m : Nat) (as : List E)
 | sub (o i : E)
 | iA (o : E) (lo hi : Option E)
 | lst (es : List E)
 | tup (es : List E)
 | emp
 | eJ (elt : E) (Oi : List Nat) (it : E)
 | lam (fv : List Nat) (body : E)
noncomputable def E.ctorIdx (x : E) : Nat := E.casesOn (motive_1 := fun J => Nat) x (fun J => 0) (fun J => 1) (fun J => 2) (fun J => 3) (fun J J => 4) (fun J J J => 5) (fun J => 6) (fun J => 7) (fun J => 8) (fun J => 9) (fun J J J => 10) (fun J J J => 11) (fun J J => 12) (fun J J J => 13) (fun J J => 14) (fun J J J => 15) (fun J => 16) (fun J => 17) 18 (fun J J J => 19) (fun J J => 20)
inductive T where
 | loc (x : Nat)
 | dc (x : Nat)
 | av (e : E) (f : Nat)
 | sub (o i : E)
 | iA (o : E) (lo hi : Option E)
 | tup (xs : List Nat)
noncomputable def T.ctorIdx (x : T) : Nat := T.casesOn (motive := fun J => Nat) x (fun J => 0) (fun J => 1) (fun J J => 2) (fun J J => 3) (fun J J J => 4) (fun J => 5)
inductive S where
 | asg (t : T) (e : E)
 | lq (ts : List T) (es : List E)
 | aug (x : Nat) (o : qP) (e : E)
 | nh (e : E) (f : Nat) (o : qP) (v : E)
 | exp (e : E)
 | ret (e : Option E)
 | bE (c : E) (a b : List S)
 | for_ (xs : List Nat) (it : E) (b : List S)
 | try_ (b : List S) (hs : List (E × List S))
 | del (o i : E)
 | bad
 | iB (e : Option E)
 | CS
noncomputable def S.ctorIdx (x : S) : Nat := S.casesOn (motive_1 := fun J => Nat) x (fun J J => 0) (fun J J => 1) (fun J J J => 2) (fun J J J J => 3) (fun J => 4) (fun J => 5) (fun J J J => 6) (fun J J J => 7) (fun J J => 8) (fun J J => 9) 10 (fun J => 11) 12
inductive ax where
 | inst (c : Nat) (fs : List (Nat × V))
 | list (xs : List V)
 | tup (xs : List V)
 | aB (es : List (Int × V))
 | aR (es : List (List Nat × V))
 | a0
 | bT (b : BS)
 | cell (v : Option V)
 | iz (lo hi st : Int)
 | cU (n : Nat) (es : List (Int × V))
 | rl (n : Nat) (xs : List V)
 | gone
 | src
 | exc (c : Nat)
 | qS (c : Nat)
 | Ax (cs : List (Nat × Nat)) (body : E)
 | jl (m : Nat)
 | aw (es : List (Int × V))
noncomputable def ax.ctorIdx (x : ax) : Nat := ax.casesOn (motive := fun J => Nat) x (fun J J => 0) (fun J => 1) (fun J => 2) (fun J => 3) (fun J => 4) 5 (fun J => 6) (fun J => 7) (fun J J J => 8) (fun J J => 9) (fun J J => 10) 11 12 (fun J => 13) (fun J => 14) (fun J J => 15) (fun J => 16) (fun J => 17)
structure AS where
 heap : Tr ax
 n : Nat
 locs : List (Nat × V)
 cells : List (Nat × Nat)
 vars : List VD
 hd : Option Nat := none
noncomputable def De (a b : Int) : Bool := Int.rec (motive := fun J => Bool) (fun a => Int.rec (motive := fun J => Bool) (fun b => Nat.beq a b) (fun J => false) b) (fun a => Int.rec (motive := fun J => Bool) (fun J => false) (fun b => Nat.beq a b) b) a
noncomputable def lr (a b : Bool) : Bool := Bool.rec (motive := fun J => Bool) false b a
noncomputable def Ay (x y : Seg) : Bool := Seg.rec (motive := fun J => Bool) (fun l => Seg.rec (motive := fun J => Bool) (fun k => jG l k) (fun J J => false) (fun J J J => false) (fun J J J J J => false) y)
 (fun k n => Seg.rec (motive := fun J => Bool) (fun J => false) (fun j m => lr (Nat.beq k j) (Nat.beq n m)) (fun J J J => false) (fun J J J J J => false) y)
 (fun k o n => Seg.rec (motive := fun J => Bool) (fun J => false) (fun J J => false) (fun j p m => lr (Nat.beq k j) (lr (Nat.beq o p) (Nat.beq n m))) (fun J J J J J => false) y)
 (fun k o n a m => Seg.rec (motive := fun J => Bool) (fun J => false) (fun J J => false) (fun J J J => false) (fun j p q b r => lr (Nat.beq k j) (lr (De o p) (lr (Nat.beq n q) (lr (Nat.beq a b) (Nat.beq m r))))) y) x
noncomputable def yD (x y : BS) : Bool := List.rec (motive := fun J => BS → Bool) (fun y => List.rec (motive := fun J => Bool) true (fun J J J => false) y) (fun a J ih y => List.rec (motive := fun J => Bool) false (fun b t J => lr (Ay a b) (ih t)) y) x y
noncomputable def Bo (x : Nat) (l : List Nat) : Bool := List.rec (motive := fun J => Bool) false (fun a J ih => Bool.rec (motive := fun J => Bool) ih true (Nat.beq a x)) l
noncomputable def Bp {α : Type} (l : List α) : Nat := List.rec (motive := fun J => Nat) 0 (fun J J n => Nat.succ n) l
namespace BS
noncomputable def a5 : Seg → Nat
 | .lit l => l.length
 | .rep _ n => n
 | .d9 _ _ n => n
 | .be _ _ _ _ m => m
noncomputable def len (l : BS) : Nat := List.rec (motive := fun J => Nat) 0 (fun x J ih => a5 x + ih) l
noncomputable def cons (x : Seg) (r : BS) : BS := if a5 x = 0 then r else match r with
 | [] => [x]
 | y :: r' => match x with
  | .lit a => (match y with
   | .lit b => .lit (a ++ b) :: r'
   | _ => x :: y :: r')
  | .rep k n => (match y with
   | .rep k' n' => if k = k' then .rep k (n + n') :: r' else x :: y :: r'
   | _ => x :: y :: r')
  | _ => x :: y :: r'
noncomputable def app (a b : BS) : BS := List.rec (motive := fun J => BS) b (fun x J ih => cons x ih) a
noncomputable def fM (d : Nat) : Seg → Seg
 | .lit l => .lit (l.drop d)
 | .rep k n => .rep k (n - d)
 | .d9 k o n => .d9 k (o + d) (n - d)
 | .be k o n a m => .be k o n (a + d) (m - d)
noncomputable def fN (d : Nat) : Seg → Seg
 | .lit l => .lit (l.take d)
 | .rep k n => .rep k (min d n)
 | .d9 k o n => .d9 k o (min d n)
 | .be k o n a m => .be k o n a (min d m)
noncomputable def drop (d : Nat) (l : BS) : BS := List.rec (motive := fun J => Nat → BS) (fun J => []) (fun x r ih d => if a5 x ≤ d then ih (d - a5 x) else fM d x :: r) l d
noncomputable def take (d : Nat) (l : BS) : BS := List.rec (motive := fun J => Nat → BS) (fun J => []) (fun x J ih d => if a5 x ≤ d then x :: ih (d - a5 x) else if d = 0 then [] else [fN d x]) l d
noncomputable def slice (a b : Nat) (x : BS) : BS := take (b - a) (drop a x)
noncomputable def vY : (x : BS) → Option { p : Nat × Nat // x = [.rep p.1 p.2] }
 | [.rep k m] => some ⟨(k, m), rfl⟩
 | _ => none
noncomputable def vZ (n : Nat) (x ih : BS) : BS := match vY x with
 | some p => [.rep p.1.1 (p.1.2 * (n + 1))]
 | none => app x ih
noncomputable def mul (n : Nat) (x : BS) : BS := Nat.rec (motive := fun J => BS) [] (fun n ih => vZ n x ih) n
noncomputable def atS (x : Seg) (i : Nat) : Option SI := match x with
 | .lit l => (l[i]?).map fun n => SI.lit (Int.ofNat n)
 | .rep k _ => some (.va k 0)
 | _ => Option.none
noncomputable def Df (l : BS) (i : Nat) : Option SI := List.rec (motive := fun J => Nat → Option SI) (fun J => Option.none) (fun x J ih i => if a5 x ≤ i then ih (i - a5 x) else atS x i) l i
noncomputable def bnd (vs : List VD) : SI → Option (Int × Int)
 | .lit i => some (i, i + 1)
 | .va k o => match getL vs k with
  | some (.int lo hi) => some (lo + o, hi + o)
  | some (.gh s) => some (o, if o ≤ s then 2147483649 else 2147483649 + o)
  | some (.lt _) => some (o, 2147483648 + o)
  | _ => none
noncomputable def iC (vs : List VD) (k : Nat) (o : Int) (j : Nat) (p : Int) : Bool := match getL vs k with
 | some (.lt i) => Nat.beq i j && decide (o ≤ p)
 | _ => false
noncomputable def Dg (vs : List VD) (x y : SI) : Bool := (match bnd vs x, bnd vs y with
 | some (a, b), some (c, d) => decide (b ≤ c) || decide (d ≤ a)
 | _, _ => false) || (match x, y with
 | .va k o, .va j p => (Nat.beq k j && o != p) || iC vs k o j p || iC vs j p k o
 | _, _ => false)
noncomputable def eq? (vs : List VD) (x y : BS) : Option Bool :=
 if len x ≠ len y then some false
 else if yD x y then some true
 else Option.none
end BS
inductive bC (α : Type) where
 | one (a : α) (A : AS)
 | many (l : List (Except Nat α × AS))
noncomputable def bC.ctorIdx {α : Type} (x : bC α) : Nat := bC.casesOn (motive := fun J => Nat) x (fun J J => 0) (fun J => 1)
noncomputable def bC.list {α : Type} (o : bC α) : List (Except Nat α × AS) := bC.rec (motive := fun J => List (Except Nat α × AS)) (fun a A => [(.ok a, A)]) (fun l => l) o
abbrev Res (α : Type) := Option (bC α)
noncomputable def ok {α : Type} (a : α) (A : AS) : Res α := some (.one a A)
noncomputable def wa {β : Type} (r t : Res β) : Res β := Option.rec (motive := fun J => Res β) none (fun u => Option.rec (motive := fun J => Res β) none (fun v => some (.many (ud u.list v.list))) t) r
noncomputable def bindR {α β : Type} (f : α → AS → Res β) (l : List (Except Nat α × AS)) : Res β := List.rec (motive := fun J => Res β) (some (.many []))
 (fun x r ih => Prod.rec (motive := fun J => Res β) (fun e A => Except.rec (motive := fun J => Res β) (fun i => wa (some (.many [(.error i, A)])) ih)
  (fun a => List.rec (motive := fun J => Res β) (f a A) (fun J J J => wa (f a A) ih) r) e) x) l
noncomputable def Res.bind {α β : Type} (r : Res α) (f : α → AS → Res β) : Res β := Option.rec (motive := fun J => Res β) none (fun o => bC.rec (motive := fun J => Res β) (fun a A => f a A) (fun l => bindR f l) o) r
noncomputable def bA {α : Type} (o : Option α) (A : AS) : Res α := Option.rec (motive := fun J => Res α) none (fun a => ok a A) o
inductive Fl where
 | next | brk | cont
 | ret (v : V)
noncomputable def Fl.ctorIdx (x : Fl) : Nat := Fl.casesOn (motive := fun J => Nat) x 0 1 2 (fun J => 3)
structure Fn where
 params : List Nat
 dflts : List V
 cells : List Nat
 body : List S
structure gT where
 meths : List (Nat × Bool × Nat)
 dp : List Nat
structure Ctx where
 glob : List (Nat × V)
 fns : List (Nat × Fn)
 dq : List (Nat × gT)
 take : Option Nat
 cf : List (Nat × List Nat) := []
structure bM where
 e : E → AS → Res V
 c : E → AS → Res Bool
 s : S → AS → Res Fl
 fuel : Nat
namespace N
abbrev get := 0
abbrev pop := 1
abbrev bO := 2
abbrev append := 3
abbrev extend := 4
abbrev to_bytes := 5
abbrev from_bytes := 6
abbrev values := 7
abbrev init := 8
end N
noncomputable def AS.alloc (A : AS) (o : ax) : Nat × AS := AS.rec (motive := fun J => Nat × AS) (fun h n l c v d => (n, ⟨h.put n o, Nat.succ n, l, c, v, d⟩)) A
noncomputable def AS.put (A : AS) (i : Nat) (o : ax) : AS := AS.rec (motive := fun J => AS) (fun h n l c v d => ⟨h.put i o, n, l, c, v, d⟩) A
noncomputable def AS.env (A : AS) (l : List (Nat × V)) (c : List (Nat × Nat)) : AS := AS.rec (motive := fun J => AS) (fun h n J J v d => ⟨h, n, l, c, v, d⟩) A
noncomputable def AS.fresh (A : AS) (d : VD) : Nat × AS := AS.rec (motive := fun J => Nat × AS) (fun h n l c v e => (v.length, ⟨h, n, l, c, ud v [d], e⟩)) A
noncomputable def af {α : Type} (x : Nat) (l : List (Nat × α)) : Option α := List.rec (motive := fun J => Option α) none (fun p J ih => Bool.rec (motive := fun J => Option α) ih (some p.2) (Nat.beq p.1 x)) l
noncomputable def fj {α : Type} (x : Nat) (v : α) (l : List (Nat × α)) : List (Nat × α) := List.rec (motive := fun J => List (Nat × α)) [(x, v)] (fun p r ih => Bool.rec (motive := fun J => List (Nat × α)) (p :: ih) ((x, v) :: r) (Nat.beq p.1 x)) l
noncomputable def dN {κ α : Type} (q : κ → κ → Bool) (x : κ) (l : List (κ × α)) : Option α := List.rec (motive := fun J => Option α) none (fun p J ih => Bool.rec (motive := fun J => Option α) ih (some p.2) (q p.1 x)) l
noncomputable def setG {κ α : Type} (q : κ → κ → Bool) (x : κ) (v : α) (l : List (κ × α)) : List (κ × α) := List.rec (motive := fun J => List (κ × α)) [(x, v)] (fun p r ih => Bool.rec (motive := fun J => List (κ × α)) (p :: ih) ((x, v) :: r) (q p.1 x)) l
noncomputable def oI {κ α : Type} (q : κ → κ → Bool) (x : κ) (l : List (κ × α)) : List (κ × α) := List.rec (motive := fun J => List (κ × α)) [] (fun p r ih => Bool.rec (motive := fun J => List (κ × α)) (p :: ih) r (q p.1 x)) l
noncomputable def eqZ (a b : Int) : Bool := decide (a = b)
noncomputable def bp {α : Type} (x : Int) (l : List (Int × α)) : Option α := dN eqZ x l
noncomputable def ni {α : Type} (x : Int) (v : α) (l : List (Int × α)) : List (Int × α) := setG eqZ x v l
noncomputable def yE {α : Type} (x : Int) (v : α) (l : List (Int × α)) : List (Int × α) := List.rec (motive := fun J => List (Int × α)) [(x, v)] (fun p r ih => Bool.rec (motive := fun J => List (Int × α)) (p :: ih) ((x, v) :: p :: r) (decide (x < p.1))) l
noncomputable def yF {α : Type} (x : Int) (v : α) (l : List (Int × α)) : List (Int × α) := if (bp x l).isSome then ni x v l else yE x v l
noncomputable def iD {α : Type} (x : Int) (l : List (Int × α)) : List (Int × α) := oI eqZ x l
noncomputable def ez {α : Type} (x : List Nat) (l : List (List Nat × α)) : Option α := dN jG x l
noncomputable def qT {α : Type} (x : List Nat) (v : α) (l : List (List Nat × α)) : List (List Nat × α) := setG jG x v l
noncomputable def FJ {α : Type} (x : List Nat) (l : List (List Nat × α)) : List (List Nat × α) := oI jG x l
noncomputable def bnd := @BS.bnd
noncomputable def ltI (vs : List VD) (a b : SI) : Option Bool := match a, b with
 | .va k o, .va j p => if Nat.beq k j then some (decide (o < p)) else if BS.iC vs k o j p then some true else if BS.iC vs j p k o then some false else none
 | a, b => match bnd vs a, bnd vs b with
  | some (al, ah), some (bl, bh) => if ah ≤ bl then some true else if bh ≤ al + 1 then some false else none
  | _, _ => none
noncomputable def FK (vs : List VD) (a b : SI) : Option Bool := if a = b then some true else if BS.Dg vs a b then some false else none
noncomputable def Dh : (v : V) → Option { x : SI // v = .int x }
 | .int x => some ⟨x, rfl⟩
 | _ => none
noncomputable def Di : (v : V) → Option { x : List Nat // v = .str x }
 | .str x => some ⟨x, rfl⟩
 | _ => none
noncomputable def CT : (v : V) → Option { n : Int // v = .int (.lit n) }
 | .int (.lit n) => some ⟨n, rfl⟩
 | _ => none
noncomputable def Az : (v : V) → Option { b : Bool // v = .bool b }
 | .bool b => some ⟨b, rfl⟩
 | _ => none
noncomputable def wb : (v : V) → Option { i : Nat // v = .loc i }
 | .loc i => some ⟨i, rfl⟩
 | _ => none
noncomputable def yG : (v : V) → Option { b : BS // v = .bytes b }
 | .bytes b => some ⟨b, rfl⟩
 | _ => none
noncomputable def Bq (vs : List VD) (a b : V) : Option Bool := match a with
 | .int x => (Dh b).bind fun y => FK vs x y.1
 | .bytes x => (yG b).bind fun y => BS.eq? vs x y.1
 | .str x => (Di b).bind fun y => some (jG x y.1)
 | .bool x => (Az b).bind fun y => some (x == y.1)
 | _ => none
noncomputable def Dj (vs : List VD) (l : List V) : List V → Option Bool := List.rec (motive := fun J => List V → Option Bool) (fun k => List.rec (motive := fun J => Option Bool) (some true) (fun J J J => none) k)
 (fun a J ih k => List.rec (motive := fun J => Option Bool) none (fun b t J => (Bq vs a b).bind fun q => Bool.rec (motive := fun J => Option Bool) none (ih t) q) k) l
noncomputable def dz : (o : Option ax) → Option { xs : List V // o = some (.list xs) }
 | some (.list xs) => some ⟨xs, rfl⟩
 | _ => none
noncomputable def FL : (o : Option ax) → Option (PLift (o = some .a0))
 | some .a0 => some ⟨rfl⟩
 | _ => none
noncomputable def AA : (o : Option ax) → Option { v : V // o = some (.cell (some v)) }
 | some (.cell (some v)) => some ⟨v, rfl⟩
 | _ => none
noncomputable def Br : (o : Option ax) → Option { p : Nat × List (Nat × V) // o = some (.inst p.1 p.2) }
 | some (.inst C fs) => some ⟨(C, fs), rfl⟩
 | _ => none
noncomputable def Dk : (o : Option ax) → Option { C : Nat // o = some (.exc C) }
 | some (.exc C) => some ⟨C, rfl⟩
 | _ => none
noncomputable def AB : (o : Option V) → Option { C : Nat // o = some (.cls C) }
 | some (.cls C) => some ⟨C, rfl⟩
 | _ => none
noncomputable def Dm : (e : E) → Option { x : Nat // e = .aH x }
 | .aH x => some ⟨x, rfl⟩
 | _ => none
noncomputable def wc : (o : Option ax) → Option { b : BS // o = some (.bT b) }
 | some (.bT b) => some ⟨b, rfl⟩
 | _ => none
noncomputable def Dn : (o : Option ax) → Option { es : List (Int × V) // o = some (.aB es) ∨ o = some (.aw es) }
 | some (.aB es) => some ⟨es, .inl rfl⟩
 | some (.aw es) => some ⟨es, .inr rfl⟩
 | _ => none
noncomputable def L4 : (o : Option ax) → Option { es : List (List Nat × V) // o = some (.aR es) ∨ o = some .a0 ∧ es = [] }
 | some (.aR es) => some ⟨es, .inl rfl⟩
 | some .a0 => some ⟨[], .inr ⟨rfl, rfl⟩⟩
 | _ => none
noncomputable def L5 : (o : Option ax) → Option { es : List (Int × V) // o = some (.aw es) ∨ o = some .a0 ∧ es = [] }
 | some (.aw es) => some ⟨es, .inl rfl⟩
 | some .a0 => some ⟨[], .inr ⟨rfl, rfl⟩⟩
 | _ => none
noncomputable def FN (A : AS) (i j : Nat) : Option Bool := match dz (A.heap.get i) with
 | some a => (dz (A.heap.get j)).bind fun b => Dj A.vars a.1 b.1
 | none => (Dn (A.heap.get i)).bind fun es => (FL (A.heap.get j)).bind fun J => some es.1.isEmpty
noncomputable def FO (A : AS) (a b : V) : Option Bool := match a with
 | .loc i => (wb b).bind fun j => FN A i j.1
 | .int x => Bq A.vars (.int x) b
 | .bytes x => Bq A.vars (.bytes x) b
 | .str x => Bq A.vars (.str x) b
 | .bool x => Bq A.vars (.bool x) b
 | _ => none
noncomputable def isIn (a : V) : List V → Option Bool
 | [] => some false
 | b :: r => match a with
  | .bool x => (match b with
   | .bool y => (isIn a r).map fun t => (x == y) || t
   | _ => none)
  | _ => none
noncomputable def L6 (A : AS) (a : V) (o : Option ax) : Option Bool := match a with
 | .str k => (L4 o).bind fun es => some (ez k es.1).isSome
 | .int x => (match x with
  | .lit k => (L5 o).bind fun es => some (bp k es.1).isSome
  | .va _ _ => none)
 | .bool b => (dz o).bind fun xs => isIn (.bool b) xs.1
 | _ => none
noncomputable def inD (A : AS) (a b : V) : Option Bool := match b with
 | .loc j => L6 A a (A.heap.get j)
 | _ => none
noncomputable def lR (a b : V) : Option (SI × SI) := match a with
 | .int x => (match b with
  | .int y => some (x, y)
  | _ => none)
 | _ => none
noncomputable def FP (vs : List VD) (p : Option (SI × SI)) : Option Bool := match p with
 | some p => ltI vs p.1 p.2
 | none => none
noncomputable def FQ (vs : List VD) (p : Option (SI × SI)) : Option Bool := match p with
 | some p => ltI vs p.2 p.1
 | none => none
noncomputable def isNone (a b : V) : Option Bool := match b with
 | .none => (match a with
  | .bi _ => none
  | .bb => none
  | .none => some true
  | _ => some false)
 | _ => none
noncomputable def nj (A : AS) (o : oG) (a b : V) : Option Bool := match o with
 | .eq => FO A a b
 | .ne => (FO A a b).map not
 | .lt => FP A.vars (lR a b)
 | .gt => FQ A.vars (lR a b)
 | .le => (FQ A.vars (lR a b)).map not
 | .ge => (FP A.vars (lR a b)).map not
 | .is_ => isNone a b
 | .lQ => (isNone a b).map not
 | .in_ => inD A a b
 | .jH => (inD A a b).map not
noncomputable def ea (A : AS) (o : oG) (a b : V) : Res Bool := match nj A o a b with
 | some t => ok t A
 | none => (match o with
  | .eq | .ne | .lt => (match a, b with
   | .int _, .int _ => some (.many [(.ok true, A), (.ok false, A)])
   | _, _ => none)
  | _ => none)
noncomputable def jI : V → Option Bool
 | .bool b => some b
 | .none => some false
 | _ => none
noncomputable def cg : Nat → Nat → List Nat
 | 0, _ => []
 | k + 1, n => cg k (n / 256) ++ [n % 256]
noncomputable def qU : List Nat → Nat → Nat
 | [], acc => acc
 | b :: r, acc => qU r (acc * 256 + b)
noncomputable def sZ (a b : V) : Option (Int × Int) := (CT a).bind fun x => (CT b).bind fun y => some (x.1, y.1)
noncomputable def Bs (x : SI) (b : V) (A : AS) : Res V := match x with
 | .lit x => (match b with
  | .int (.lit y) => ok (.int (.lit (x + y))) A
  | _ => none)
 | .va k o => (match b with
  | .int (.lit y) => ok (.int (.va k (o + y))) A
  | .int (.va _ _) => let (k', A') := A.fresh .any; ok (.int (.va k' 0)) A'
  | _ => none)
noncomputable def Dp (i j : Nat) (A : AS) : Res V := (dz (A.heap.get i)).bind fun x => (dz (A.heap.get j)).bind fun y =>
 if x.1.length + y.1.length ≤ 4096 then ok (.loc (A.alloc (.list (x.1 ++ y.1))).1) (A.alloc (.list (x.1 ++ y.1))).2 else none
noncomputable def Dq (a b : V) (A : AS) : Res V := match a with
 | .int x => Bs x b A
 | .str x => (Di b).bind fun y => if x.length + y.1.length ≤ 4096 then ok (.str (x ++ y.1)) A else none
 | .bytes x => (yG b).bind fun y => if BS.len x + BS.len y.1 ≤ 65536 then ok (.bytes (BS.app x y.1)) A else none
 | .loc i => (wb b).bind fun j => Dp i j.1 A
 | _ => none
noncomputable def FT (x : SI) (y : Int) (A : AS) : Res V := match x with
 | .lit i => if y.natAbs < 18446744073709551616 ∨ Builtin.Int.intBits i + Builtin.Int.intBits y ≤ 134217728 then ok (.int (.lit (i * y))) A else none
 | .va k o => if y.natAbs < 4294967296 ∧ (bnd A.vars (.va k o)).isSome then ok (.int (.va (A.fresh .any).1 0)) (A.fresh .any).2 else none
noncomputable def Dr (a b : V) (A : AS) : Res V := match a with
 | .bytes x => (CT b).bind fun n => if 0 ≤ n.1 ∧ n.1 ≤ 4096 ∧ BS.len x ≤ 16 ∧ BS.len x ≠ 0 then ok (.bytes (BS.mul n.1.toNat x)) A else none
 | .int x => (CT b).bind fun y => FT x y.1 A
 | _ => none
noncomputable def Bt (y : Int) (A : AS) : Res V := if 0 < y then ok (.int (.va (A.fresh (.int 0 y)).1 0)) (A.fresh (.int 0 y)).2 else none
noncomputable def Ds (q : Option (Int × Int)) (k : Nat) (o y : Int) (A : AS) : Res V := match q with
 | some p => if 0 ≤ p.1 ∧ p.2 ≤ y then ok (.int (.va k o)) A else Bt y A
 | none => Bt y A
noncomputable def FU (x : SI) (y : Int) (A : AS) : Res V := match x with
 | .va k o => Ds (bnd A.vars (.va k o)) k o y A
 | .lit x => if y ≠ 0 then ok (.int (.lit (x.fmod y))) A else none
noncomputable def Dt (a b : V) (A : AS) : Res V := (Dh a).bind fun x => (CT b).bind fun y => FU x.1 y.1 A
noncomputable def Du (a b : V) (A : AS) : Res V := (sZ a b).bind fun p => ok (.int (.lit (p.1 - p.2))) A
noncomputable def FV (a b : V) (A : AS) : Res V := (sZ a b).bind fun p => if ¬(p.2 = 0 ∨ 1073741824 ≤ p.2.natAbs) then ok (.int (.lit (p.1.fdiv p.2))) A else none
noncomputable def FW (a b : V) (A : AS) : Res V := (sZ a b).bind fun p => if 0 ≤ p.2 ∧ p.2 ≤ 64 ∧ p.1.natAbs < 65536 then ok (.int (.lit (p.1 ^ p.2.toNat))) A else none
noncomputable def ee (o : qP) (a b : V) (A : AS) : Res V := match o with
 | .add => Dq a b A
 | .sub => Du a b A
 | .mul => Dr a b A
 | .div => FV a b A
 | .mod => Dt a b A
 | .pow => FW a b A
noncomputable def we (vs : List V) (A : AS) : Res V := if vs.length ≤ 4096 then ok (V.loc (A.alloc (.list vs)).1) (A.alloc (.list vs)).2 else none
noncomputable def ue (vs : List V) (A : AS) : Res V := if vs.length ≤ 4096 then ok (V.loc (A.alloc (.tup vs)).1) (A.alloc (.tup vs)).2 else none
noncomputable def s8 (o : qP) (a b : V) (A : AS) : Res V := match o with
 | .add => (match a with
  | .int x => Bs x b A
  | .bytes x => (yG b).bind fun y => if BS.len x + BS.len y.1 ≤ 65536 then ok (.bytes (BS.app x y.1)) A else none
  | _ => none)
 | _ => none
noncomputable def Bu (n : Nat) (v : V) (d : Nat) : Option Nat := match v with
 | .none => some d
 | .int x => (match x with
  | .lit i => if 0 ≤ i then some (min i.toNat n) else none
  | .va _ _ => none)
 | _ => none
noncomputable def cut (n : Nat) (lo hi : V) : Option (Nat × Nat) := (Bu n lo 0).bind fun a => (Bu n hi n).bind fun b => some (a, max a b)
noncomputable def qW (o lo hi : V) (A : AS) : Res V := match o with
 | .bytes b => if BS.len b ≤ 65536 then (cut (BS.len b) lo hi).bind fun p => ok (.bytes (BS.slice p.1 p.2 b)) A else none
 | .loc i => match dz (A.heap.get i) with
  | some xs => if xs.1.length ≤ 4096 then (cut xs.1.length lo hi).bind fun p => ok (.loc (A.alloc (.list ((xs.1.drop p.1).take (p.2 - p.1)))).1) (A.alloc (.list ((xs.1.drop p.1).take (p.2 - p.1)))).2 else none
  | none => (wc (A.heap.get i)).bind fun b => if BS.len b.1 ≤ 65536 then (cut (BS.len b.1) lo hi).bind fun p => ok (.loc (A.alloc (.bT (BS.slice p.1 p.2 b.1))).1) (A.alloc (.bT (BS.slice p.1 p.2 b.1))).2 else none
 | _ => none
noncomputable def lu (as : List V) : Option V := match as with
 | [v] => some v
 | _ => none
noncomputable def lx (as : List V) : Option (V × V) := match as with
 | [v, w] => some (v, w)
 | _ => none
noncomputable def jr (v : V) : Option Int := match v with
 | .int x => (match x with
  | .lit i => some i
  | .va _ _ => none)
 | _ => none
noncomputable def eY (j : Nat) (k : Int) (A : AS) : Res V := match A.heap.get j with
 | some (.list xs) => if 0 ≤ k ∧ k ≤ 4096 then bA (getL xs k.toNat) A else none
 | some (.aB es) => bA (bp k es) A
 | some (.aw es) => bA (bp k es) A
 | some (.cU _ es) => bA (bp k es) A
 | _ => none
noncomputable def AD (b : BS) (k : Int) (A : AS) : Res V := if 0 ≤ k ∧ BS.len b ≤ 65536 then (BS.Df b k.toNat).bind fun x => (bnd A.vars x).bind fun p => if 0 ≤ p.1 ∧ p.2 ≤ 256 then ok (.int x) A else none else none
noncomputable def wg (j : Nat) (s : List Nat) (A : AS) : Res V := match A.heap.get j with
 | some (.aR es) => bA (ez s es) A
 | _ => none
noncomputable def gU (o i : V) (A : AS) : Res V := match o with
 | .bytes b => (jr i).bind fun k => AD b k A
 | .loc j => (match i with
  | .int x => (match x with
   | .lit k => eY j k A
   | .va _ _ => none)
  | .str s => wg j s A
  | _ => none)
 | _ => none
noncomputable def nk (j : Nat) (k : Int) (v : V) (A : AS) : Res Unit := match A.heap.get j with
 | none => none
 | some ob => match ob with
  | .aB es => if es.length ≤ 4096 then ok () (A.put j (.aB (ni k v es))) else none
  | .aw es => if es.length ≤ 4096 then ok () (A.put j (.aw (yF k v es))) else none
  | .a0 => ok () (A.put j (.aB [(k, v)]))
  | .list xs => if 0 ≤ k ∧ k.toNat < xs.length ∧ xs.length ≤ 4096 then ok () (A.put j (.list (xs.set k.toNat v))) else none
  | _ => none
noncomputable def qX (j : Nat) (s : List Nat) (v : V) (A : AS) : Res Unit := match A.heap.get j with
 | none => none
 | some ob => match ob with
  | .aR es => if es.length ≤ 4096 then ok () (A.put j (.aR (qT s v es))) else none
  | .a0 => ok () (A.put j (.aR [(s, v)]))
  | _ => none
noncomputable def eA (o i v : V) (A : AS) : Res Unit := match o with
 | .loc j => (match i with
  | .int x => (match x with
   | .lit k => nk j k v A
   | .va _ _ => none)
  | .str s => qX j s v A
  | _ => none)
 | _ => none
noncomputable def wh (j : Nat) (k : Int) (A : AS) : Res Unit := match A.heap.get j with
 | none => none
 | some ob => match ob with
  | .aB es => if (bp k es).isSome ∧ es.length ≤ 4096 then ok () (A.put j (.aB (iD k es))) else none
  | .aw es => if (bp k es).isSome ∧ es.length ≤ 4096 then ok () (A.put j (.aw (iD k es))) else none
  | _ => none
noncomputable def wi (j : Nat) (s : List Nat) (A : AS) : Res Unit := match A.heap.get j with
 | none => none
 | some ob => match ob with
  | .aR es => if (ez s es).isSome ∧ es.length ≤ 4096 then ok () (A.put j (.aR (FJ s es))) else none
  | _ => none
noncomputable def jJ (o i : V) (A : AS) : Res Unit := match o with
 | .loc j => (match i with
  | .int x => (match x with
   | .lit k => wh j k A
   | .va _ _ => none)
  | .str s => wi j s A
  | _ => none)
 | _ => none
noncomputable def gw (o lo hi v : V) (A : AS) : Res Unit := (wb o).bind fun j => (yG v).bind fun x => (wc (A.heap.get j.1)).bind fun b =>
 if BS.len b.1 ≤ 65536 ∧ BS.len x.1 ≤ 65536 then (cut (BS.len b.1) lo hi).bind fun p => ok () (A.put j.1 (.bT (BS.app (BS.take p.1 b.1) (BS.app x.1 (BS.drop p.2 b.1))))) else none
noncomputable def s9 (o : V) (f : Nat) (A : AS) : Res V := (wb o).bind fun i => (Br (A.heap.get i.1)).bind fun p => bA (af f p.1.2) A
noncomputable def gW (Γ : Ctx) (o : V) (f : Nat) (v : V) (A : AS) : Res Unit := match o with
 | .loc i => match A.heap.get i with
  | some (.qS c) => match af c Γ.dq with
   | some k => (match af c Γ.cf with
    | some _ => if k.dp.contains f then ok () (A.put i (.exc c)) else none
    | none => none)
   | none => none
  | some (.inst c fs) => match af c Γ.dq with
   | some k => Bool.rec (motive := fun J => Res Unit) none (ok () (A.put i (.inst c (fj f v fs)))) (lr (Bo f k.dp) (Nat.ble (Bp fs) 900))
   | none => none
  | _ => none
 | _ => none
inductive It where
 | iz (x : Int) (left : Nat) (st : Int)
 | lst (i k : Nat)
 | tup (i k : Nat)
 | keys (i n k : Nat)
noncomputable def It.ctorIdx (x : It) : Nat := It.casesOn (motive := fun J => Nat) x (fun J J J => 0) (fun J J => 1) (fun J J => 2) (fun J J J => 3)
inductive Itm where
 | fin
 | one (v : V) (it : It)
noncomputable def Itm.ctorIdx (x : Itm) : Nat := Itm.casesOn (motive := fun J => Nat) x 0 (fun J J => 1)
noncomputable def freeze (i : Nat) (es : List (Int × V)) (A : AS) : It × AS := (.keys i A.vars.length 0, (A.fresh .oct).2.put i (.cU A.vars.length es))
noncomputable def cV (v : V) (A : AS) : Option (It × AS) := match v with
 | .loc i => match A.heap.get i with
  | some (.iz lo hi st) => if Builtin.Range.small lo hi st && decide (0 ≤ Builtin.Range.rangeSize lo hi st) then some (.iz lo (Builtin.Range.rangeSize lo hi st).toNat st, A) else none
  | some (.list _) => some (.lst i 0, A)
  | some (.rl _ _) => some (.lst i 0, A)
  | some (.tup _) => some (.tup i 0, A)
  | some (.aB es) => some (freeze i es A)
  | some .a0 => some (freeze i [] A)
  | _ => none
 | _ => none
noncomputable def cJ (it : It) (A : AS) : Option (Itm × AS) := match it with
 | .iz x left st => match left with
  | 0 => some (.fin, A)
  | n + 1 => some (.one (.int (.lit x)) (.iz (x + st) n st), A)
 | .lst i k => match A.heap.get i with
  | some (.list xs) => match getL xs k with
   | some v => some (.one v (.lst i (k + 1)), A)
   | none => some (.fin, A)
  | some (.rl _ xs) => match getL xs k with
   | some v => some (.one v (.lst i (k + 1)), A)
   | none => some (.fin, A)
  | _ => none
 | .tup i k => match A.heap.get i with
  | some (.tup xs) => match getL xs k with
   | some v => some (.one v (.tup i (k + 1)), A)
   | none => some (.fin, A)
  | _ => none
 | .keys i n k => match A.heap.get i with
  | some (.cU m es) => if Nat.beq n m then (match getL es k with
   | some e => some (.one (.int (.lit e.1)) (.keys i n (k + 1)), A)
   | none => some (.fin, A.put i (.aB es))) else none
  | _ => none
noncomputable def insI (x : Int) : List Int → List Int
 | [] => [x]
 | y :: r => if x ≤ y then x :: y :: r else y :: insI x r
noncomputable def sortI : List Int → List Int
 | [] => []
 | x :: r => insI x (sortI r)
noncomputable def cW (vs : List VD) : List V → Option BS
 | [] => some []
 | .int (.lit n) :: r => if 0 ≤ n ∧ n < 256 then (cW vs r).map (BS.cons (.lit [n.toNat])) else none
 | .int (.va k o) :: r => if o = 0 then (match getL vs k with
  | some (.int lo hi) => if 0 ≤ lo ∧ hi ≤ 256 then (cW vs r).map (BS.cons (.rep k 1)) else none
  | _ => none) else none
 | _ => none
noncomputable def wj (n : Int) (A : AS) : Res V := if 0 ≤ n ∧ n ≤ 4096 then ok (.bytes (if n = 0 then [] else [.lit (List.replicate n.toNat 0)])) A else none
noncomputable def qY (i : Nat) (A : AS) : Res V := match A.heap.get i with
 | some (.bT b) => if BS.len b ≤ 65536 then ok (.bytes b) A else none
 | some (.list xs) => if xs.length ≤ 4096 ∧ A.hd.isNone then bA ((cW A.vars xs).map .bytes) A else none
 | _ => none
noncomputable def Bw (v : V) (A : AS) : Res V := match v with
 | .int x => (match x with
  | .lit n => wj n A
  | .va _ _ => none)
 | .bytes b => ok (.bytes b) A
 | .loc i => qY i A
 | _ => none
noncomputable def tc (as : List V) (A : AS) : Res V := (lu as).bind fun v => Bw v A
noncomputable def qZ (as : List V) (A : AS) : Res V := match as with
 | [] => ok (V.loc (A.alloc (.bT [])).1) (A.alloc (.bT [])).2
 | _ => none
noncomputable def Dv (as : List V) (A : AS) : Res V := (lu as).bind fun v => (Az v).bind fun b => ok (.int (.lit (if b.1 then 1 else 0))) A
noncomputable def Dw (as : List V) (A : AS) : Res V := (lu as).bind fun v => (jr v).bind fun n => if 0 ≤ n ∧ n < 10 then ok (.str [48 + n.toNat]) A else none
noncomputable def wk (t : Ty) (as : List V) (A : AS) : Res V := match t with
 | .bytes => tc as A
 | .bytearray => qZ as A
 | .int => Dv as A
 | .str => Dw as A
 | _ => none
noncomputable def yH (as : List V) (A : AS) : Res V := match as with
 | [.bytes x] => if BS.len x ≤ 65536 then ok (.int (.lit (BS.len x))) A else none
 | [.loc i] => match A.heap.get i with
  | some (.list xs) => if xs.length ≤ 65536 then ok (.int (.lit xs.length)) A else none
  | some (.bT x) => if BS.len x ≤ 65536 then ok (.int (.lit (BS.len x))) A else none
  | _ => none
 | _ => none
noncomputable def wm (as : List V) : Option (V × V × V) := match as with
 | [v, w, x] => some (v, w, x)
 | _ => none
noncomputable def Bz (a b st : Int) (A : AS) : Res V := ok (V.loc (A.alloc (.iz a b st)).1) (A.alloc (.iz a b st)).2
noncomputable def rg (as : List V) (A : AS) : Res V := match lu as with
 | some v => (jr v).bind fun b => Bz 0 b 1 A
 | none => match lx as with
  | some p => (jr p.1).bind fun a => (jr p.2).bind fun b => Bz a b 1 A
  | none => (wm as).bind fun p => (jr p.1).bind fun a => (jr p.2.1).bind fun b => (jr p.2.2).bind fun c => if c = 0 ∨ 1073741824 ≤ c.natAbs then none else Bz a b c A
noncomputable def AE (es : List (Int × V)) (A : AS) : Res V := if es.length < 64 ∧ A.hd.isNone = true then ok (V.loc (A.alloc (.list ((sortI (es.map (·.1))).map fun i => .int (.lit i)))).1) (A.alloc (.list ((sortI (es.map (·.1))).map fun i => .int (.lit i)))).2 else none
noncomputable def wo (as : List V) (A : AS) : Res V := (lu as).bind fun v => (wb v).bind fun i => (Dn (A.heap.get i.1)).bind fun es => AE es.1 A
noncomputable def Dx (as : List V) (A : AS) : Res V := if A.hd.isNone then (lx as).bind fun p => (jr p.1).bind fun a => match jr p.2 with
 | some b => ok (.int (.lit (if a < b then b else a))) A
 | none => (match p.2 with
  | .int x => (bnd A.vars x).bind fun q => if a ≤ q.1 then ok (.int x) A else none
  | _ => none) else none
noncomputable def BB (b : Bi) (as : List V) (A : AS) : Res V := match b with
 | .len => yH as A
 | .range => rg as A
 | .sorted => wo as A
 | .max => Dx as A
inductive yI where
 | fn (f : Nat) (first : List V)
 | dict (i : Nat)
 | list (i : Nat)
 | int (x : SI)
 | jK
noncomputable def yI.ctorIdx (x : yI) : Nat := yI.casesOn (motive := fun J => Nat) x (fun J J => 0) (fun J => 1) (fun J => 2) (fun J => 3) 4
noncomputable def wq (i : Nat) (v : V) (A : AS) : Res V := match v with
 | .int (.lit k) => (match A.heap.get i with
  | some (.aB es) => ok ((bp k es).getD .none) A
  | some (.aw es) => ok ((bp k es).getD .none) A
  | _ => none)
 | _ => none
noncomputable def te (i : Nat) (v d : V) (A : AS) : Res V := match v with
 | .int (.lit k) => (match A.heap.get i with
  | some (.aB es) => ok ((bp k es).getD d) A
  | some .a0 => ok d A
  | _ => none)
 | .str k => (match A.heap.get i with
  | some (.aR es) => ok ((ez k es).getD d) A
  | some .a0 => ok d A
  | _ => none)
 | _ => none
noncomputable def BC (i : Nat) (as : List V) (A : AS) : Res V := match lu as with
 | some v => wq i v A
 | none => (match lx as with
  | some p => te i p.1 p.2 A
  | none => none)
noncomputable def AF (i : Nat) (v d : V) (A : AS) : Res V := match v with
 | .int (.lit k) => (match A.heap.get i with
  | some (.aB es) => if es.length ≤ 4096 then ok ((bp k es).getD d) (A.put i (.aB (iD k es))) else none
  | some .a0 => ok d A
  | _ => none)
 | _ => none
noncomputable def BD (i : Nat) (as : List V) (A : AS) : Res V := match lx as with
 | some p => AF i p.1 p.2 A
 | none => none
noncomputable def wt (i : Nat) (v d : V) (A : AS) : Res V := match v with
 | .str k => (match A.heap.get i with
  | some (.aR es) => if es.length ≤ 4096 then (match ez k es with
   | some v => ok v A
   | none => ok d (A.put i (.aR (qT k d es)))) else none
  | some .a0 => ok d (A.put i (.aR [(k, d)]))
  | _ => none)
 | _ => none
noncomputable def wu (i : Nat) (as : List V) (A : AS) : Res V := match lx as with
 | some p => wt i p.1 p.2 A
 | none => none
noncomputable def gX (i m : Nat) (as : List V) (A : AS) : Res V := if m = N.get then BC i as A else if m = N.pop then BD i as A else if m = N.bO then wu i as A else none
noncomputable def jL (i m : Nat) (as : List V) (A : AS) : Res V := match lu as with
 | some v => (match A.heap.get i with
  | some (.list xs) => if m = N.append ∧ xs.length ≤ 4096 then ok .none (A.put i (.list (xs ++ [v]))) else none
  | some (.jl k) => if m = N.append ∧ k ≤ 4096 then ok .none (A.put i (.jl (k + 1))) else none
  | _ => none)
 | none => none
noncomputable def J1 (x : SI) (v : V) (A : AS) : Res V := (CT v).bind fun k => match x with
 | .lit n => if 0 ≤ n ∧ 0 < k.1 ∧ k.1 ≤ 8 ∧ n.toNat < 256 ^ k.1.toNat then ok (.bytes [.lit (cg k.1.toNat n.toNat)]) A else none
 | .va j o => (bnd A.vars (.va j o)).bind fun q => if 0 < k.1 ∧ k.1 ≤ 8 ∧ 0 ≤ q.1 ∧ q.2 ≤ 256 ^ k.1.toNat then (if k.1 = 1 ∧ o = 0 then ok (.bytes [.rep j 1]) A else ok (.bytes [.be j o k.1.toNat 0 k.1.toNat]) A) else none
noncomputable def toBytes (x : SI) (as : List V) (A : AS) : Res V := match lx as with
 | some p => if p.2 = .str [98, 105, 103] then J1 x p.1 A else none
 | none => none
noncomputable def Dy (x : Seg) (A : AS) : Res V := match x with
 | .lit l => if l.length ≤ 8 ∧ l.all (fun x => Nat.blt x 256) then ok (.int (.lit (qU l 0))) A else none
 | .be k o n a m => (bnd A.vars (.va k o)).bind fun q => if a = 0 ∧ m = n ∧ n ≤ 8 ∧ 0 ≤ q.1 ∧ q.2 ≤ 256 ^ n then ok (.int (.va k o)) A else none
 | .d9 _ _ n => if n ≤ 8 then (let (k', A') := A.fresh (.int 0 (256 ^ n)); ok (.int (.va k' 0)) A') else none
 | _ => none
noncomputable def AG (b : BS) (A : AS) : Res V := match b with
 | [] => none
 | x :: r => match r with
  | [] => Dy x A
  | _ :: _ => none
noncomputable def fromBytes (as : List V) (A : AS) : Res V := match lx as with
 | some p => if p.2 = .str [98, 105, 103] then (match p.1 with
  | .bytes b => AG b A
  | _ => none) else none
 | none => none
noncomputable def drawn (n : Nat) (A : AS) : Nat → List (Except Nat V × AS)
 | 0 => []
 | k + 1 => (.ok (.int (.lit ((n - (k + 1) : Nat) : Int))), A) :: drawn n A k
noncomputable def pieces (A : AS) : List (Int × Int) → List (Except Nat V × AS)
 | [] => []
 | p :: r => (if p.1 + 1 = p.2 then (.ok (.int (.lit p.1)), A) else (.ok (.int (.va (A.fresh (.int p.1 p.2)).1 0)), (A.fresh (.int p.1 p.2)).2)) :: pieces A r
noncomputable def wx : (o : Option V) → Option { i : Nat // o = some (.loc i) }
 | some (.loc i) => some ⟨i, rfl⟩
 | _ => none
noncomputable def rj : (r : Res V) → Option { t : List Nat × AS // r = some (.one (.str t.1) t.2) }
 | some (.one (.str t) B) => some ⟨(t, B), rfl⟩
 | _ => none
noncomputable def ways (A : AS) : List (Int × Int) := match wx (af (nat_lit 91) A.locs) with
 | some i => (match rj (eY i.1 0 A) with
  | some t => if jG t.1.1 [105, 100, 108, 101] then [(0, 1), (1, 3), (3, 8)] else if jG t.1.1 [114, 101, 97, 100, 115] then [(0, 1), (1, 3), (3, 7), (7, 8)] else [(0, 1), (1, 5), (5, 6), (6, 7), (7, 8)]
  | none => [(0, 8)])
 | none => [(0, 8)]
noncomputable def oJ : (as : List V) → Option { p : Nat × Int // as = [.loc p.1, .int (.lit p.2)] }
 | [.loc i, .int (.lit t)] => some ⟨(i, t), rfl⟩
 | _ => none
noncomputable def AH : (o : Option ax) → Option (PLift (o = some .src))
 | some .src => some ⟨rfl⟩
 | _ => none
noncomputable def tf (as : List V) (A : AS) : Res V := (oJ as).bind fun p => (AH (A.heap.get p.1.1)).bind fun J =>
 if p.1.2 = 8 then some (.many (pieces A (ways A)))
 else if 0 < p.1.2 ∧ p.1.2 ≤ 8 then some (.many (drawn p.1.2.toNat A p.1.2.toNat))
 else if 8 < p.1.2 ∧ p.1.2 ≤ 256 then (let (k, A') := A.fresh (.int 0 p.1.2); ok (.int (.va k 0)) A') else none
noncomputable def fk (ps : List Nat) (n : Nat) (ds as : List V) : Option (List (Nat × V)) := List.rec (motive := fun J => Nat → List V → Option (List (Nat × V))) (fun J as => List.rec (motive := fun J => Option (List (Nat × V))) (some []) (fun J J J => none) as)
 (fun p J ih n as => List.rec (motive := fun J => Option (List (Nat × V))) (if n ≤ ds.length then (ds[ds.length - n]?).bind fun d => (ih (n - 1) []).map ((p, d) :: ·) else none) (fun a r J => Option.rec (motive := fun J => Option (List (Nat × V))) none (fun l => some ((p, a) :: l)) (ih (Nat.pred n) r)) as) ps n as
noncomputable def bW (binds : List (Nat × V)) (l : List Nat) (A : AS) : AS × List (Nat × Nat) := List.rec (motive := fun J => AS → AS × List (Nat × Nat)) (fun A => (A, [])) (fun c J g A => ((g (A.alloc (.cell (af c binds))).2).1, (c, A.n) :: (g (A.alloc (.cell (af c binds))).2).2)) l A
noncomputable def back {α β : Type} (A : AS) (f : α → β) (l : List (Except Nat α × AS)) : List (Except Nat β × AS) := AS.rec (motive := fun J => List (Except Nat β × AS)) (fun J J lo c J J => List.rec (motive := fun J => List (Except Nat β × AS)) [] (fun p J g => Prod.rec (motive := fun J => List (Except Nat β × AS)) (fun r B => (Except.rec (motive := fun J => Except Nat β) (fun i => .error i) (fun a => .ok (f a)) r, AS.env B lo c) :: g) p) l) A
noncomputable def ef {α : Type} (r : Res α) : Res α := match r with
 | none => none
 | some (.one a A) => some (.one a A)
 | some (.many l) => if l.all (fun x => match x.1 with | .ok _ => true | .error _ => false) then some (.many l) else none
noncomputable def eB {α β : Type} (A : AS) (f : α → β) (o : bC α) : bC β := AS.rec (motive := fun J => bC β) (fun J J lo c J J => bC.rec (motive := fun J => bC β) (fun a B => .one (f a) (AS.env B lo c)) (fun l => .many (back A f l)) o) A
noncomputable def AI (f : Fl) : V := Fl.rec (motive := fun J => V) .none .none .none (fun v => v) f
section
variable (Γ : Ctx) (ih : bM)
noncomputable def eZ (l : List E) (A : AS) : Res (List V) := List.rec (motive := fun J => AS → Res (List V)) (fun A => ok [] A) (fun e J g A => Res.bind (ih.e e A) fun v A => Res.bind (g A) fun vs A => ok (v :: vs) A) l A
noncomputable def J2 (g : AS → Res Fl) (f : Fl) (A : AS) : Res Fl := Fl.rec (motive := fun J => Res Fl) (g A) (ok f A) (ok f A) (fun J => ok f A) f
noncomputable def aX (l : List S) (A : AS) : Res Fl := List.rec (motive := fun J => AS → Res Fl) (fun A => ok .next A) (fun s J g A => Res.bind (ih.s s A) (J2 g)) l A
noncomputable def iE (Γ : Ctx) (a : Nat) : Bool := Option.rec (motive := fun J => Bool) false (fun b => Nat.beq b a) Γ.take
noncomputable def jM (fn : Fn) (A : AS) (binds : List (Nat × V)) : Res Fl := List.rec (motive := fun J => Res Fl) (aX ih fn.body (A.env binds []))
 (fun J J J => Prod.rec (motive := fun J => Res Fl) (fun B cs => aX ih fn.body (B.env (binds.filter fun b => !fn.cells.contains b.1) cs)) (bW binds fn.cells A)) fn.cells
noncomputable def dO (a : Nat) (as : List V) (A : AS) : Res V :=
 Bool.rec (motive := fun J => Res V) (Option.rec (motive := fun J => Res V) none (fun fn => Option.rec (motive := fun J => Res V) none (fun binds => Option.rec (motive := fun J => Res V) none (fun l => some (eB A AI l)) (jM ih fn A binds)) (fk fn.params fn.params.length fn.dflts as)) (af a Γ.fns))
  (if 20 ≤ ih.fuel then tf as A else none) (iE Γ a)
noncomputable def callC (c : Nat) (as : List V) (A : AS) : Res V := match af c Γ.dq with
 | none => none
 | some k => if Nat.blt as.length 30 = true then (let (i, A') := A.alloc (if (af c Γ.cf).isSome then .qS c else .inst c [])
  match af N.init k.meths with
  | some (false, f) => if Γ.take = some f then none else Res.bind (ef (dO Γ ih f (.loc i :: as) A')) fun v A => match v with | .none => ok (.loc i) A | _ => none
  | some (true, _) => none
  | none => none) else none
noncomputable def jN (i : Nat) (as : List V) (A : AS) : Res V := match as with
 | [] => (match A.heap.get i with
  | some (.Ax cs body) => (match ih.e body { A with locs := [], cells := cs } with
   | none => none
   | some l => some (eB A id l))
  | _ => none)
 | _ => none
noncomputable def lS (f : V) (as : List V) (A : AS) : Res V := match f with
 | .fn a => dO Γ ih a as A
 | .cls c => callC Γ ih c as A
 | .ty t => wk t as A
 | .bi b => BB b as A
 | .loc i => jN ih i as A
 | _ => none
noncomputable def iZ (o : V) (m : Nat) (A : AS) : Option yI := match o with
 | .cls c => match af c Γ.dq with
  | some k => match af c Γ.cf with
   | some _ => none
   | none => match af m k.meths with
    | some (true, f) => some (.fn f [])
    | _ => none
  | none => none
 | .loc i => match A.heap.get i with
  | some (.inst c fs) => match af m fs with
   | some _ => none
   | none => match af c Γ.dq with
    | some k => match af m k.meths with
     | some (false, f) => some (.fn f [o])
     | _ => none
    | none => none
  | some (.aB _) => if m = N.get ∨ m = N.pop then some (.dict i) else none
  | some (.aw _) => if m = N.get ∨ m = N.pop then some (.dict i) else none
  | some (.aR _) => if m = N.get ∨ m = N.bO then some (.dict i) else none
  | some .a0 => if m = N.get ∨ m = N.pop ∨ m = N.bO then some (.dict i) else none
  | some (.list _) => if m = N.append then some (.list i) else none
  | some (.jl _) => if m = N.append then some (.list i) else none
  | _ => none
 | .int x => if m = N.to_bytes then some (.int x) else none
 | .ty .int => if m = N.from_bytes then some .jK else none
 | _ => none
noncomputable def wy (k : yI) (m : Nat) (as : List V) (A : AS) : Res V := match k with
 | .fn f first => dO Γ ih f (first ++ as) A
 | .dict i => gX i m as A
 | .list i => jL i m as A
 | .int x => toBytes x as A
 | .jK => fromBytes as A
noncomputable def lT : Option E → AS → Res V
 | none, A => ok .none A
 | some e, A => ih.e e A
noncomputable def chain (a : V) (ops : List oG) (es : List E) (A : AS) : Res Bool := List.rec (motive := fun J => V → List E → AS → Res Bool) (fun J J J => none)
 (fun op ops g a es A => List.rec (motive := fun J => Res Bool) none (fun e es J => Res.bind (ih.e e A) fun b A => List.rec (motive := fun J => Res Bool) (List.rec (motive := fun J => Res Bool) (ea A op a b) (fun J J J => none) es) (fun J J J => Res.bind (ea A op a b) fun t A => Bool.rec (motive := fun J => Res Bool) (ok false A) (g b es A) t) ops) es) ops a es A
noncomputable def J3 (l : List E) (A : AS) : Res V := List.rec (motive := fun J => AS → Res V) (fun J => none) (fun e r g A => List.rec (motive := fun J => Res V) (ih.e e A) (fun J J J => Res.bind (ih.e e A) fun v A => Res.bind (bA (jI v) A) fun t A => Bool.rec (motive := fun J => Res V) (g A) (ok v A) t) r) l A
inductive Dz (A : AS) : E → Prop
 | mk {x op k n o} (h : op = .eq ∨ op = .lt) (l : af x A.locs = some (.int (.va n o))) : Dz A (.cmp (.loc x) [op] [.cst (.int (.lit k))])
noncomputable def FX : (op : oG) → Option (PLift (op = .eq ∨ op = .lt))
 | .eq => some ⟨.inl rfl⟩
 | .lt => some ⟨.inr rfl⟩
 | _ => none
noncomputable def FY : (o : Option V) → Option (PLift (∃ n k, o = some (.int (.va n k))))
 | some (.int (.va n k)) => some ⟨⟨n, k, rfl⟩⟩
 | _ => none
noncomputable def DA (A : AS) : (e : E) → Option (PLift (Dz A e))
 | .cmp (.loc x) [op] [.cst (.int (.lit _))] => (FX op).bind fun h => (FY (af x A.locs)).map fun l => ⟨l.down.elim fun J r => r.elim fun J l => .mk h.down l⟩
 | _ => none
inductive DB (A : AS) : E → Prop
 | mk {y j op s i t B} (l : af y A.locs = some (.loc i)) (h : eY i j A = some (.one (.str t) B)) (q : (op = .eq ∧ jG t s = false) ∨ (op = .ne ∧ jG t s = true)) : DB A (.cmp (.sub (.loc y) (.cst (.int (.lit j)))) [op] [.cst (.str s)])
noncomputable def FZ (b : Bool) : (op : oG) → Option (PLift ((op = .eq ∧ b = false) ∨ (op = .ne ∧ b = true)))
 | .eq => match b with
  | false => some ⟨.inl ⟨rfl, rfl⟩⟩
  | true => none
 | .ne => match b with
  | true => some ⟨.inr ⟨rfl, rfl⟩⟩
  | false => none
 | _ => none
noncomputable def DC (A : AS) : (e : E) → Option (PLift (DB A e))
 | .cmp (.sub (.loc y) (.cst (.int (.lit j)))) [op] [.cst (.str s)] => (wx (af y A.locs)).bind fun l => (rj (eY l.1 j A)).bind fun t => (FZ (jG t.1.1 s) op).map fun q => ⟨.mk l.2 t.2 q.down⟩
 | _ => none
noncomputable def nq (e : E) (r : List E) (A : AS) : Bool := (DA A e).isSome && (match r with
 | [e2] => (DC A e2).isSome
 | _ => false)
noncomputable def wz (l : List E) (A : AS) : Res Bool := List.rec (motive := fun J => AS → Res Bool) (fun A => ok true A) (fun e r g A => Bool.rec (motive := fun J => Res Bool) (Res.bind (ih.c e A) fun t A => Bool.rec (motive := fun J => Res Bool) (ok false A) (g A) t) (ok false A) (nq e r A)) l A
noncomputable def J4 (l : List E) (A : AS) : Res Bool := List.rec (motive := fun J => AS → Res Bool) (fun A => ok false A) (fun e J g A => Res.bind (ih.c e A) fun t A => Bool.rec (motive := fun J => Res Bool) (g A) (ok true A) t) l A
noncomputable def aN (x : Nat) (v : V) (A : AS) : AS := AS.rec (motive := fun J => AS) (fun h n l c w d => ⟨h, n, fj x v l, c, w, d⟩) A
noncomputable def cT (l : List Nat) (k : List V) (A : AS) : Option AS := List.rec (motive := fun J => List V → AS → Option AS) (fun k A => List.rec (motive := fun J => Option AS) (some A) (fun J J J => none) k) (fun x J g k A => List.rec (motive := fun J => Option AS) none (fun v t J => g t (aN x v A)) k) l k A
noncomputable def jO (xs : List Nat) (v : V) (A : AS) : Option AS := match xs with
 | [x] => some (aN x v A)
 | xs => match A.hd with
  | some _ => none
  | none => match v with
   | .loc i => match A.heap.get i with
    | some (.tup vs) => cT xs vs A
    | _ => none
   | _ => none
noncomputable def asg (t : T) (v : V) (A : AS) : Res Unit := match t with
 | .loc x => ok () (aN x v A)
 | .dc _ => none
 | .av e f => Res.bind (ih.e e A) fun o A => gW Γ o f v A
 | .sub o i => Res.bind (ih.e o A) fun o A => Res.bind (ih.e i A) fun i A => eA o i v A
 | .iA o lo hi => Res.bind (ih.e o A) fun o A => Res.bind (lT ih lo A) fun lo A => Res.bind (lT ih hi A) fun hi A => gw o lo hi v A
 | .tup xs => match jO xs v A with
  | some A => ok () A
  | none => none
noncomputable def BE : List T → List V → AS → Res Unit
 | [], [], A => ok () A
 | t :: ts, v :: vs, A => Res.bind (asg Γ ih t v A) fun J A => BE ts vs A
 | _, _, _ => none
noncomputable def oK {β : Type} (xs : List Nat) (it : It) (A : AS) (fin : AS → Res β) (k : It × AS → Res β) : Res β := (cJ it A).bind fun p => match p.1 with
 | .fin => fin p.2
 | .one v it => (jO xs v p.2).bind fun A => k (it, A)
noncomputable def wA (f : It → AS → Res Fl) (it : It) (fl : Fl) (A : AS) : Res Fl := match fl with
 | .next => f it A
 | .cont => f it A
 | .brk => ok .next A
 | .ret v => ok (.ret v) A
noncomputable def loop (xs : List Nat) (b : List S) (n : Nat) : It → AS → Res Fl := Nat.rec (motive := fun J => It → AS → Res Fl) (fun J J => none)
 (fun J f it A => oK xs it A (fun A => ok .next A) fun p => Res.bind (aX ih b p.2) (wA f p.1)) n
noncomputable def turns (elt : E) (xs : List Nat) (acc : Nat) (n : Nat) : It → AS → Res Unit := Nat.rec (motive := fun J => It → AS → Res Unit) (fun J J => none)
 (fun J f it A => oK xs it A (fun A => ok () A) fun p => Res.bind (ih.e elt p.2) fun u A => (dz (A.heap.get acc)).bind fun us => if us.1.length ≤ 4096 then f p.1 (A.put acc (.list (us.1 ++ [u]))) else none) n
noncomputable def F0 (x : Nat) (A : AS) : Res V := (af x A.cells).bind fun i => (AA (A.heap.get i)).bind fun v => ok v.1 A
noncomputable def F2 (e : E) (f : Nat) (A : AS) : Res V := Res.bind (ih.e e A) fun o A => s9 o f A
noncomputable def F3 (o : qP) (a : E) (b : E) (A : AS) : Res V := Res.bind (ih.e a A) fun a A => Res.bind (ih.e b A) fun b A => ee o a b A
noncomputable def F4 (e : E) (A : AS) : Res V := Res.bind (ih.e e A) fun v A => match v with | .int (.lit i) => ok (.int (.lit (-i))) A | _ => none
noncomputable def xor_ (es : List E) (A : AS) : Res V := J3 ih es A
noncomputable def F5 (a : E) (ops : List oG) (es : List E) (A : AS) : Res V := Res.bind (ih.e a A) fun a A => Res.bind (chain ih a ops es A) fun t A => ok (.bool t) A
noncomputable def DD (c : E) (a : E) (b : E) (A : AS) : Res V := Res.bind (ih.c c A) fun t A => Bool.rec (motive := fun J => Res V) (ih.e b A) (ih.e a A) t
noncomputable def DE (f : E) (as : List E) (A : AS) : Res V := Res.bind (ih.e f A) fun f A => Res.bind (eZ ih as A) fun as A => lS Γ ih f as A
noncomputable def DF (o : E) (m : Nat) (as : List E) (A : AS) : Res V := Res.bind (ih.e o A) fun o A => match iZ Γ o m A with
 | none => none
 | some k => Res.bind (eZ ih as A) fun as A => wy Γ ih k m as A
noncomputable def F6 (o : E) (i : E) (A : AS) : Res V := Res.bind (ih.e o A) fun o A => Res.bind (ih.e i A) fun i A => gU o i A
noncomputable def F7 (o : E) (lo : Option E) (hi : Option E) (A : AS) : Res V := Res.bind (ih.e o A) fun o A => Res.bind (lT ih lo A) fun lo A => Res.bind (lT ih hi A) fun hi A => qW o lo hi A
noncomputable def F8 (es : List E) (A : AS) : Res V := Res.bind (eZ ih es A) fun vs A => we vs A
noncomputable def F9 (es : List E) (A : AS) : Res V := Res.bind (eZ ih es A) fun vs A => ue vs A
noncomputable def Ga  (A : AS) : Res V := let (k, A) := A.alloc .a0; ok (.loc k) A
noncomputable def Gb (fv : List Nat) (body : E) (A : AS) : Res V := let (k, A) := A.alloc (.Ax (A.cells.filter fun x => fv.contains x.1) body); ok (.loc k) A
noncomputable def DG (elt : E) (xs : List Nat) (it : E) (A : AS) : Res V := Res.bind (ih.e it A) fun v A => match cV v A with
 | none => none
 | some (it, A) => if A.hd.isNone = true then (match ef (turns ih elt xs A.n 300 it { (A.alloc (.list [])).2 with locs := [] }) with
  | none => none
  | some l => some (eB A (fun J => V.loc A.n) l)) else none
noncomputable def dE (e : E) : Bx (Ctx → bM → AS → Res V) := match e with
 | .cst v => ⟨fun (Γ : Ctx) (ih : bM) (A : AS) => (some (.one v A) : Res V)⟩
 | .loc x => ⟨fun (Γ : Ctx) (ih : bM) (A : AS) => Option.rec (motive := fun J => Res V) none (fun v => some (.one v A)) (af x A.locs)⟩
 | .dc x => ⟨fun (Γ : Ctx) (ih : bM) (A : AS) => (F0 x A : Res V)⟩
 | .aH x => ⟨fun (Γ : Ctx) (ih : bM) (A : AS) => Option.rec (motive := fun J => Res V) none (fun v => some (.one v A)) (af x Γ.glob)⟩
 | .av e f => ⟨fun (Γ : Ctx) (ih : bM) (A : AS) => (F2 ih e f A : Res V)⟩
 | .bin o a b => ⟨fun (Γ : Ctx) (ih : bM) (A : AS) => (F3 ih o a b A : Res V)⟩
 | .neg e => ⟨fun (Γ : Ctx) (ih : bM) (A : AS) => (F4 ih e A : Res V)⟩
 | .not_ _ => ⟨fun J J J => none⟩
 | .and_ _ => ⟨fun J J J => none⟩
 | .or_ es => ⟨fun (Γ : Ctx) (ih : bM) (A : AS) => (xor_ ih es A : Res V)⟩
 | .cmp a ops es => ⟨fun (Γ : Ctx) (ih : bM) (A : AS) => (F5 ih a ops es A : Res V)⟩
 | .ite_ c a b => ⟨fun (Γ : Ctx) (ih : bM) (A : AS) => (DD ih c a b A : Res V)⟩
 | .call f as => ⟨fun (Γ : Ctx) (ih : bM) (A : AS) => (DE Γ ih f as A : Res V)⟩
 | .meth o m as => ⟨fun (Γ : Ctx) (ih : bM) (A : AS) => (DF Γ ih o m as A : Res V)⟩
 | .sub o i => ⟨fun (Γ : Ctx) (ih : bM) (A : AS) => (F6 ih o i A : Res V)⟩
 | .iA o lo hi => ⟨fun (Γ : Ctx) (ih : bM) (A : AS) => (F7 ih o lo hi A : Res V)⟩
 | .lst es => ⟨fun (Γ : Ctx) (ih : bM) (A : AS) => (F8 ih es A : Res V)⟩
 | .tup es => ⟨fun (Γ : Ctx) (ih : bM) (A : AS) => (F9 ih es A : Res V)⟩
 | .emp => ⟨fun (Γ : Ctx) (ih : bM) (A : AS) => (Ga A : Res V)⟩
 | .lam fv body => ⟨fun (Γ : Ctx) (ih : bM) (A : AS) => (Gb fv body A : Res V)⟩
 | .eJ elt xs it => ⟨fun (Γ : Ctx) (ih : bM) (A : AS) => (DG ih elt xs it A : Res V)⟩
noncomputable def AJ (e : E) (A : AS) : Res V := Bx.rec (motive := fun J => Res V) (fun k => k Γ ih A) (dE e)
noncomputable def DH (e : E) (A : AS) : Res Bool := Res.bind (ih.c e A) fun t A => ok (!t) A
noncomputable def DI (es : List E) (A : AS) : Res Bool := wz ih es A
noncomputable def Gd (es : List E) (A : AS) : Res Bool := J4 ih es A
noncomputable def Ge (a : E) (ops : List oG) (es : List E) (A : AS) : Res Bool := Res.bind (ih.e a A) fun a A => chain ih a ops es A
noncomputable def dC (e : E) : Bx (Ctx → bM → AS → Res Bool) := match e with
 | .not_ e => ⟨fun (Γ : Ctx) (ih : bM) (A : AS) => (DH ih e A : Res Bool)⟩
 | .and_ es => ⟨fun (Γ : Ctx) (ih : bM) (A : AS) => (DI ih es A : Res Bool)⟩
 | .or_ es => ⟨fun (Γ : Ctx) (ih : bM) (A : AS) => (Gd ih es A : Res Bool)⟩
 | .cmp a ops es => ⟨fun (Γ : Ctx) (ih : bM) (A : AS) => (Ge ih a ops es A : Res Bool)⟩
 | .ite_ .. => ⟨fun J J J => none⟩
 | e => ⟨fun (Γ : Ctx) (ih : bM) (A : AS) => (Res.bind (ih.e e A) fun v A => bA (jI v) A : Res Bool)⟩
noncomputable def J5 (e : E) (A : AS) : Res Bool := Bx.rec (motive := fun J => Res Bool) (fun k => k Γ ih A) (dC e)
noncomputable def handle (i : Nat) (hs : List (E × List S)) : AS → Res Fl := List.rec (motive := fun J => AS → Res Fl) (fun A => some (.many [(.error i, A)]))
 (fun x J Gf A => (Dm x.1).bind fun g => (AB (af g.1 Γ.glob)).bind fun C => (Dk (A.heap.get i)).bind fun D => (af D.1 Γ.cf).bind fun bs => if (af C.1 Γ.cf).isSome then (if bs.contains C.1 then Option.bind (aX ih x.2 { A with hd := some i }) fun l => some (.many (l.list.map fun x => (x.1, { x.2 with hd := A.hd }))) else Gf A) else none) hs
noncomputable def uf (hs : List (E × List S)) : List (Except Nat Fl × AS) → Res Fl
 | [] => some (.many [])
 | (.ok f, A) :: r => wa (some (.one f A)) (uf hs r)
 | (.error i, A) :: r => wa (handle Γ ih i hs A) (uf hs r)
set_option tactic.hygienic true in
noncomputable def Gg (t : T) (e : E) (A : AS) : Res Fl := Res.bind (ih.e e A) fun v A => Res.bind (asg Γ ih t v A) fun J A => ok .next A
set_option tactic.hygienic true in
noncomputable def AK (ts : List T) (es : List E) (A : AS) : Res Fl := Res.bind (eZ ih es A) fun vs A => Res.bind (ue vs A) fun J A => if ts.length = vs.length ∧ A.hd.isNone = true then Res.bind (BE Γ ih ts vs A) fun J A => ok .next A else none
noncomputable def Gh (x : Nat) (o : qP) (e : E) (A : AS) : Res Fl := Res.bind (bA (af x A.locs) A) fun a A => Res.bind (ih.e e A) fun b A => Res.bind (s8 o a b A) fun v A => ok .next (aN x v A)
set_option tactic.hygienic true in
noncomputable def DJ (e : E) (f : Nat) (o : qP) (v : E) (A : AS) : Res Fl := Res.bind (ih.e e A) fun ob A => Res.bind (s9 ob f A) fun a A => Res.bind (ih.e v A) fun b A => Res.bind (s8 o a b A) fun v A =>
 Res.bind (gW Γ ob f v A) fun J A => ok .next A
set_option tactic.hygienic true in
noncomputable def Gi (e : E) (A : AS) : Res Fl := Res.bind (ih.e e A) fun J A => ok .next A
noncomputable def Gj (e : Option E) (A : AS) : Res Fl := Res.bind (lT ih e A) fun v A => ok (.ret v) A
noncomputable def Gk (c : E) (a : List S) (b : List S) (A : AS) : Res Fl := Res.bind (ih.c c A) fun t A => aX ih (Bool.rec (motive := fun J => List S) b a t) A
noncomputable def DK (xs : List Nat) (it : E) (b : List S) (A : AS) : Res Fl := Res.bind (ih.e it A) fun v A => match cV v A with
 | some (it, A) => if A.hd.isNone = true then ef (loop ih xs b 300 it A) else none
 | none => none
noncomputable def th (b : List S) (hs : List (E × List S)) (A : AS) : Res Fl := match aX ih b A with
 | some (.one f A) => some (.one f A)
 | some (.many l) => uf Γ ih hs l
 | none => none
set_option tactic.hygienic true in
noncomputable def Gl (o : E) (i : E) (A : AS) : Res Fl := Res.bind (ih.e o A) fun o A => Res.bind (ih.e i A) fun i A => Res.bind (jJ o i A) fun J A => ok .next A
set_option tactic.hygienic true in
noncomputable def Gm  (A : AS) : Res Fl := ok .next A
noncomputable def jP (i : Nat) (A : AS) : Res Fl := match A.heap.get i with
 | some (.exc D) => (match af D Γ.cf with
  | some _ => some (.many [(.error i, A)])
  | none => none)
 | _ => none
noncomputable def BF (e : Option E) (A : AS) : Res Fl := match e with
 | none => (match A.hd with
  | some i => jP Γ i A
  | none => none)
 | some e => Res.bind (ih.e e A) fun v A => match v with
  | .loc i => (match A.hd with
   | none => jP Γ i A
   | some _ => none)
  | _ => none
noncomputable def dS (e : S) : Bx (Ctx → bM → AS → Res Fl) := match e with
 | .asg t e => ⟨fun (Γ : Ctx) (ih : bM) (A : AS) => (Gg Γ ih t e A : Res Fl)⟩
 | .lq ts es => ⟨fun (Γ : Ctx) (ih : bM) (A : AS) => (AK Γ ih ts es A : Res Fl)⟩
 | .aug x o e => ⟨fun (Γ : Ctx) (ih : bM) (A : AS) => (Gh ih x o e A : Res Fl)⟩
 | .nh e f o v => ⟨fun (Γ : Ctx) (ih : bM) (A : AS) => (DJ Γ ih e f o v A : Res Fl)⟩
 | .exp e => ⟨fun (Γ : Ctx) (ih : bM) (A : AS) => (Gi ih e A : Res Fl)⟩
 | .ret e => ⟨fun (Γ : Ctx) (ih : bM) (A : AS) => (Gj ih e A : Res Fl)⟩
 | .bE c a b => ⟨fun (Γ : Ctx) (ih : bM) (A : AS) => (Gk ih c a b A : Res Fl)⟩
 | .for_ xs it b => ⟨fun (Γ : Ctx) (ih : bM) (A : AS) => (DK ih xs it b A : Res Fl)⟩
 | .try_ b hs => ⟨fun (Γ : Ctx) (ih : bM) (A : AS) => (th Γ ih b hs A : Res Fl)⟩
 | .del o i => ⟨fun (Γ : Ctx) (ih : bM) (A : AS) => (Gl ih o i A : Res Fl)⟩
 | .bad => ⟨fun J J J => none⟩
 | .iB e => ⟨fun (Γ : Ctx) (ih : bM) (A : AS) => (BF Γ ih e A : Res Fl)⟩
 | .CS => ⟨fun (Γ : Ctx) (ih : bM) (A : AS) => (Gm A : Res Fl)⟩
noncomputable def Gq (e : S) (A : AS) : Res Fl := Bx.rec (motive := fun J => Res Fl) (fun k => k Γ ih A) (dS e)
noncomputable def BG : bM := ⟨AJ Γ ih, J5 Γ ih, Gq Γ ih, ih.fuel + 1⟩
end
noncomputable def bH (Γ : Ctx) (n : Nat) : bM := Nat.rec (motive := fun J => bM) ⟨fun J J => none, fun J J => none, fun J J => none, 0⟩ (fun J g => BG Γ g) n
end aD
end
end
section
open PySem
set_option backward.match.sparseCases false
namespace aD
theorem nr {α : Type} (l k : List α) : ud l k = l ++ k := by
 induction l with
 | nil => rfl
 | cons a r ih => exact congrArg (a :: ·) ih
theorem half_lt (m : Nat) : Nat.div m 2 < m + 1 := Nat.lt_succ_of_le (Nat.div_le_self m 2)
theorem par {m k : Nat} (h : Nat.beq (Nat.mod m 2) 0 = Nat.beq (Nat.mod k 2) 0) (hd : Nat.div m 2 = Nat.div k 2) : m = k := by
 have h1 : m % 2 = 0 ↔ k % 2 = 0 := ⟨fun e => Nat.eq_of_beq_eq_true (h ▸ (show Nat.beq (m % 2) 0 = true by rw [e]; rfl)), fun e => Nat.eq_of_beq_eq_true (h.symm ▸ (show Nat.beq (k % 2) 0 = true by rw [e]; rfl))⟩
 have h2 : m / 2 = k / 2 := hd
 omega
theorem Tr.get_one {α : Type} (x : α) : ∀ f n m, n < f → (Tr.one f n x).get m = if m = n then some x else none
 | 0, _, _, h => absurd h (Nat.not_lt_zero _)
 | f + 1, 0, 0, _ => rfl
 | f + 1, 0, m + 1, _ => by
  refine (?_ : (Bool.rec (motive := fun J => Option α) none none (Nat.beq (Nat.mod m 2) 0)) = none)
  cases Nat.beq (Nat.mod m 2) 0 <;> rfl
 | f + 1, n + 1, 0, _ => by
  refine (?_ : (Tr.get (Bool.rec (motive := fun J => Tr α) (.node none .nil _) (.node none _ .nil) (Nat.beq (Nat.mod n 2) 0)) 0) = none)
  cases Nat.beq (Nat.mod n 2) 0 <;> rfl
 | f + 1, n + 1, m + 1, h => by
  have ih := Tr.get_one x f (Nat.div n 2) (Nat.div m 2) (Nat.lt_of_lt_of_le (half_lt n) (Nat.le_of_lt_succ h))
  have e : (Tr.one (f + 1) (n + 1) x).get (m + 1) = Tr.get (Bool.rec (motive := fun J => Tr α) (.node none .nil (Tr.one f (Nat.div n 2) x)) (.node none (Tr.one f (Nat.div n 2) x) .nil) (Nat.beq (Nat.mod n 2) 0)) (m + 1) := rfl
  refine ae e ?_
  cases hn : Nat.beq (Nat.mod n 2) 0 <;> cases hm : Nat.beq (Nat.mod m 2) 0
  ·refine (?_ : Bool.rec (motive := fun J => Option α) ((Tr.one f (Nat.div n 2) x).get (Nat.div m 2)) none (Nat.beq (Nat.mod m 2) 0) = _)
   refine ae hm ?_; refine ih.trans ?_
   by_cases hq : Nat.div m 2 = Nat.div n 2
   ·rw [if_pos hq, if_pos (congrArg Nat.succ (par (hm.trans hn.symm) hq))]
   ·rw [if_neg hq, if_neg fun q => hq (by rw [Nat.succ.inj q])]
  ·refine (?_ : Bool.rec (motive := fun J => Option α) ((Tr.one f (Nat.div n 2) x).get (Nat.div m 2)) none (Nat.beq (Nat.mod m 2) 0) = _)
   refine ae hm ?_; exact (if_neg fun q => by rw [Nat.succ.inj q, hn] at hm; cases hm).symm
  ·refine (?_ : Bool.rec (motive := fun J => Option α) none ((Tr.one f (Nat.div n 2) x).get (Nat.div m 2)) (Nat.beq (Nat.mod m 2) 0) = _)
   refine ae hm ?_; exact (if_neg fun q => by rw [Nat.succ.inj q, hn] at hm; cases hm).symm
  ·refine (?_ : Bool.rec (motive := fun J => Option α) none ((Tr.one f (Nat.div n 2) x).get (Nat.div m 2)) (Nat.beq (Nat.mod m 2) 0) = _)
   refine ae hm ?_; refine ih.trans ?_
   by_cases hq : Nat.div m 2 = Nat.div n 2
   ·rw [if_pos hq, if_pos (congrArg Nat.succ (par (hm.trans hn.symm) hq))]
   ·rw [if_neg hq, if_neg fun q => hq (by rw [Nat.succ.inj q])]
theorem Tr.ba {α : Type} (x : α) : ∀ (t : Tr α) n m, (t.put n x).get m = if m = n then some x else t.get m
 | .nil, n, m => (Tr.get_one x (n + 1) n m (Nat.lt_succ_self n)).trans (by split <;> rfl)
 | .node v l r, 0, 0 => rfl
 | .node v l r, 0, m + 1 => rfl
 | .node v l r, n + 1, 0 => by
  refine (?_ : (Tr.get (Bool.rec (motive := fun J => Tr α) (.node v l (r.put (Nat.div n 2) x)) (.node v (l.put (Nat.div n 2) x) r) (Nat.beq (Nat.mod n 2) 0)) 0) = v)
  cases Nat.beq (Nat.mod n 2) 0 <;> rfl
 | .node v l r, n + 1, m + 1 => by
  have il := Tr.ba x l (Nat.div n 2) (Nat.div m 2)
  have ir := Tr.ba x r (Nat.div n 2) (Nat.div m 2)
  refine (?_ : (Tr.get (Bool.rec (motive := fun J => Tr α) (.node v l (r.put (Nat.div n 2) x)) (.node v (l.put (Nat.div n 2) x) r) (Nat.beq (Nat.mod n 2) 0)) (m + 1)) =
   if m + 1 = n + 1 then some x else Bool.rec (motive := fun J => Option α) (r.get (Nat.div m 2)) (l.get (Nat.div m 2)) (Nat.beq (Nat.mod m 2) 0))
  cases hn : Nat.beq (Nat.mod n 2) 0 <;> cases hm : Nat.beq (Nat.mod m 2) 0
  ·refine (?_ : Bool.rec (motive := fun J => Option α) ((r.put (Nat.div n 2) x).get (Nat.div m 2)) (l.get (Nat.div m 2)) (Nat.beq (Nat.mod m 2) 0) = _)
   refine ae hm ?_; refine ir.trans ?_
   by_cases hq : Nat.div m 2 = Nat.div n 2
   ·refine ae (if_pos hq) ?_; refine ae (if_pos (congrArg Nat.succ (par (hm.trans hn.symm) hq))) ?_; rfl
   ·refine ae (if_neg hq) ?_; refine ae (if_neg fun q => hq (by rw [Nat.succ.inj q])) ?_; rfl
  ·refine (?_ : Bool.rec (motive := fun J => Option α) ((r.put (Nat.div n 2) x).get (Nat.div m 2)) (l.get (Nat.div m 2)) (Nat.beq (Nat.mod m 2) 0) = _)
   refine ae hm ?_; exact (if_neg fun q => by rw [Nat.succ.inj q, hn] at hm; cases hm).symm
  ·refine (?_ : Bool.rec (motive := fun J => Option α) (r.get (Nat.div m 2)) ((l.put (Nat.div n 2) x).get (Nat.div m 2)) (Nat.beq (Nat.mod m 2) 0) = _)
   refine ae hm ?_; exact (if_neg fun q => by rw [Nat.succ.inj q, hn] at hm; cases hm).symm
  ·refine (?_ : Bool.rec (motive := fun J => Option α) (r.get (Nat.div m 2)) ((l.put (Nat.div n 2) x).get (Nat.div m 2)) (Nat.beq (Nat.mod m 2) 0) = _)
   refine ae hm ?_; refine il.trans ?_
   by_cases hq : Nat.div m 2 = Nat.div n 2
   ·refine ae (if_pos hq) ?_; refine ae (if_pos (congrArg Nat.succ (par (hm.trans hn.symm) hq))) ?_; rfl
   ·refine ae (if_neg hq) ?_; refine ae (if_neg fun q => hq (by rw [Nat.succ.inj q])) ?_; rfl
end aD
end
section
open PySem PySem.Calls PyProof.Rows PySem.W
open PySem.Sem (wp)
namespace aD
noncomputable def lU (id : String) : Bool := Builtin.Bytes.decodersThatHold.contains id || guardIds.contains id
noncomputable def lV : Code → Bool
 | .builtin id _ => lU id
 | _ => false
def rk (l : List (Code × Pos)) : Prop := ∀ x ∈ l, lV x.1 = false
structure Clean (Γ : PySem.Ctx) : Prop where
 code : lV Γ.code = false
 below : rk Γ.below
theorem Clean.enter {Γ : PySem.Ctx} (h : Clean Γ) (c : Code) (hd : Option Value) (p : Pos) : rk (Γ.enter c hd p).below := fun x hx => by
 rcases fg hx with rfl | hx
 ·exact h.code
 ·exact h.below x hx
def bt {α : Type} (M : Model) (A : Around) (t : Sem α) (Q : α → Shared → Prop) (E : Value → Shared → Prop) (s : Shared) : Prop :=
 ∀ (Γ : PySem.Ctx) p, Γ.In A → Clean Γ → wp M Γ t (fun a J s' => Q a s') (fun e J s' => E e s') p s
def bj (M : Model) (A : Around) (c : Code) (R : Result → Shared → Prop) (s : Shared) : Prop :=
 ∀ (Γ : PySem.Ctx) p, Γ.code = c → Γ.Below A → rk Γ.below → wpCode M Γ R p s
section
variable {α β : Type} {M : Model} {A : Around} {E : Value → Shared → Prop} {s : Shared}
theorem bt.of {t : Sem α} {Q : α → Shared → Prop} (h : wpAny M A t Q E s) : bt M A t Q E s := fun Γ p fh J => h Γ p fh
theorem aq {a : α} {Q : α → Shared → Prop} (h : Q a s) : bt M A (pure a) Q E s := fun J J J J => h
theorem az {t : Sem α} {Q Q' : α → Shared → Prop} {E' : Value → Shared → Prop} (h : bt M A t Q E s) (hQ : ∀ a s, Q a s → Q' a s) (hE : ∀ e s, E e s → E' e s) : bt M A t Q' E' s :=
 fun Γ p fh hC => Sem.wp_mono M Γ t (fun a J s => hQ a s) (fun e J s => hE e s) p s (h Γ p fh hC)
theorem aa {m : Sem α} {f : α → Sem β} {Q : β → Shared → Prop} (h : bt M A m (fun a s' => bt M A (f a) Q E s') E s) : bt M A (m >>= f) Q E s := fun Γ p fh hC => by
 rw [Sem.wp_bind']
 exact Sem.wp_mono M Γ m (fun a p' s' h' => h' Γ p' fh hC) (fun J J J h' => h') p s (h Γ p fh hC)
theorem wB {m : Sem α} {f : α → Sem β} {Q : β → Shared → Prop} (h : wpAny M A m (fun a s' => bt M A (f a) Q E s') E s) : bt M A (m >>= f) Q E s := aa (.of h)
theorem aA {vs : List Value} {m : Sem α} {Q : α → Shared → Prop} (h : bt M A m Q E s) : bt M A (holding vs m) Q E s := fun Γ p fh hC => by rw [Sem.wp_holding]; exact h Γ p fh hC
theorem jQ {tag : String} {Q : Unit → Shared → Prop} (h : Q () s) : bt M A (rule tag) Q E s := fun J J J J => h
theorem aY {pos : Pos} {Q : Unit → Shared → Prop} (h : Q () s) : bt M A (standAt pos) Q E s := fun J J J J => h
theorem lW {Q : Unit → Shared → Prop} (h : Q () s) : bt M A point Q E s := fun J J J J => h
theorem fo {vs ks : List Value} {Q : Unit → Shared → Prop} (h : Q () s) : bt M A (release vs ks) Q E s := .of (wpAny_release h)
theorem oL {vs : List Value} {m : Sem Value} {Q : Value → Shared → Prop} (h : bt M A m Q E s) : bt M A (operate vs m) Q E s := fun Γ p fh hC => by rw [Sem.wp_operate]; exact h Γ p fh hC
theorem gx {prog : Program} {w : World} {base : Expr} {o r : Value} {Q : Unit → Shared → Prop} (h : Q () s) : bt (model prog w) A (letTemporaryGo base o r) Q E s := .of (wpAny_letTemporaryGo h)
theorem lX {t : Sem α} {a : α} {Q : α → Shared → Prop} (e : t = pure a) (h : Q a s) : bt M A t Q E s := e ▸ aq h
theorem yJ {p : Prop} [Decidable p] {a b : Sem α} {Q : α → Shared → Prop} (ha : bt M A a Q E s) (hb : bt M A b Q E s) : bt M A (if p then a else b) Q E s := by
 by_cases h : p
 ·refine ae (if_pos h) ?_; exact ha
 ·refine ae (if_neg h) ?_; exact hb
theorem bP {p : Prop} [Decidable p] {a b : Sem α} {Q : α → Shared → Prop} (h : ¬p) (hb : bt M A b Q E s) : bt M A (if p then a else b) Q E s := by
 refine ae (if_neg h) ?_; exact hb
theorem tj {p : Prop} [Decidable p] {a b : Sem α} {Q : α → Shared → Prop} (h : p) (hb : bt M A a Q E s) : bt M A (if p then a else b) Q E s := by
 refine ae (if_pos h) ?_; exact hb
theorem yK {c : Prop} [Decidable c] {a b : Sem α} {Q : α → Shared → Prop} (h : if c then bt M A a Q E s else bt M A b Q E s) : bt M A (if c then a else b) Q E s := by split <;> simp_all
theorem yL {p : Prop} {i : Decidable p} {a b : Sem α} {Q : α → Shared → Prop} (h : bt M A a Q E s) (k : bt M A b Q E s) : bt M A (@ite _ p i a b) Q E s := by
 by_cases q : p
 ·rw [if_pos q]; exact h
 ·rw [if_neg q]; exact k
theorem i0 {m : Sem α} {Q : Except Value α → Shared → Prop} (h : bt M A m (fun a => Q (.ok a)) (fun e => Q (.error e)) s) : bt M A m.attempt Q E s := fun Γ p fh hC => by
 rw [Sem.wp_attempt]; exact h Γ p fh hC
theorem ug {Γ : PySem.Ctx} (h : Clean Γ) (p : Pos) : ∀ x ∈ (Γ.code, p) :: Γ.below, lV x.1 = false := fun x hx => by
 rcases fg hx with rfl | hx
 ·exact h.code
 ·exact h.below x hx
theorem ny {f : Code × Pos → Bool} {Q : Bool → Shared → Prop} (hf : ∀ c p, lV c = false → f (c, p) = false) (h : Q false s) : bt M A (do return (← stack).any f) Q E s := fun Γ p fh hC => by
 refine (?_ : Q (((Γ.code, p) :: Γ.below).any f) s)
 refine ae (List.any_eq_false.mpr fun x hx => by rw [hf x.1 x.2 (ug hC p x hx)]; decide) ?_
 exact h
theorem Gr {α : Type} {a : α} : none ≠ some a := fun h => nomatch h
theorem jw {c : Code} {h : Option Value} {Q : Flow → Shared → Prop}
 (hc : bj M (A.mark h) c (fun r s' => match r with | .ok f => Q f s' | .error e => E e s') s) (Gs : h ≠ some byPass) : bt M A (run c h) Q E s :=
 fun Γ p fh hC => by rw [Sem.wp_run]; exact hc _ p rfl (fh.enter c h p Gs) (hC.enter c h p)
theorem nz {c : Code} {Q : Value → Shared → Prop}
 (hc : bj M A c (fun r s' => match r with | .ok (.ret v) => Q v s' | .ok _ => False | .error e => E e s') s) : bt M A (runValue c) Q E s :=
 fun Γ p fh hC => by rw [Sem.wp_runValue]; exact hc _ p rfl (fh.enter c none p (by intro x; cases x)) (hC.enter c none p)
theorem cy {f : Value} {pos : List Value} {kw : List (Str × Value)} {Q : Value → Shared → Prop}
 (hc : bj M A (.call f ⟨pos, kw⟩) (fun r s' => match r with | .ok (.ret v) => Q v s' | .ok _ => False | .error e => E e s') s) : bt M A (call f pos kw) Q E s := nz hc
theorem aZ {c : Code} {R : Result → Shared → Prop} (hd : lV c = false)
 (h : bt M (A.under c) (M.den c) (fun fin s' => match fin with | .done f => R (.ok f) s' | .again c' => c'.quiet = true ∧ bj M A c' R s')
  (fun e s' => R (.error e) s') s) : bj M A c R s := fun Γ p hc fh hC => by
 rw [wpCode_iff_wp, hc]
 refine Sem.wp_mono M Γ _ (fun fin p' s' h' => ?_) (fun J J J h' => h') p s (h Γ p (hc ▸ fh.in) ⟨by refine ae hc ?_; exact hd, hC⟩)
 cases fin with
 | done f => exact h'
 | again c' => exact ⟨h'.1, h'.2 (Γ.goto c') p' rfl (fh.goto c') hC⟩
theorem bg {c : Code} {R R' : Result → Shared → Prop} (h : bj M A c R s) (hR : ∀ r s, R r s → R' r s) : bj M A c R' s :=
 fun Γ p hc fh hC => wpCode_mono hR (h Γ p hc fh hC)
theorem cj {c : Code} {R : Result → Shared → Prop} (hd : lV c = false)
 (h : wpAny M (A.under c) (M.den c) (fun fin s' => match fin with | .done f => R (.ok f) s' | .again c' => c'.quiet = true ∧ bj M A c' R s')
  (fun e s' => R (.error e) s') s) : bj M A c R s := aZ hd (.of h)
end
end aD
end
section
open PySem PySem.Calls PyProof.Rows PySem.W
set_option backward.match.sparseCases false
namespace aD
structure Val where
 g : Nat
 i : Nat → Int
 bo : Nat → (Nat → UInt8) × Obj
noncomputable def Val.b (ρ : Val) (k : Nat) : Nat → UInt8 := (ρ.bo k).1
noncomputable def Val.o (ρ : Val) (k : Nat) : Obj := (ρ.bo k).2
structure Cfg where
 ρ : Val
 σ : Nat → Nat × Nat
 n : Nat
 nv : Nat
noncomputable def SI.den (ρ : Val) : SI → Int
 | .lit i => i
 | .va k o => ρ.i k + o
noncomputable def SI.lt (n : Nat) : SI → Prop
 | .lit _ => True
 | .va k _ => k < n
noncomputable def ly (n v i : Nat) : UInt8 := UInt8.ofNat (v / 256 ^ (n - 1 - i) % 256)
noncomputable def Seg.den (ρ : Val) : Seg → List UInt8
 | .lit l => l.map UInt8.ofNat
 | .rep k n => List.replicate n (UInt8.ofNat (ρ.i k).toNat)
 | .d9 k o n => (List.range n).map fun j => ρ.b k (o + j)
 | .be k o n a m => (List.range m).map fun j => ly n (ρ.i k + o).toNat (a + j)
noncomputable def Seg.lt (m : Nat) : Seg → Prop
 | .lit _ => True
 | .rep k _ => k < m
 | .d9 k _ _ => k < m
 | .be k _ _ _ _ => k < m
noncomputable def BS.den (ρ : Val) : BS → List UInt8
 | [] => []
 | x :: r => Seg.den ρ x ++ BS.den ρ r
noncomputable def BS.lt (m : Nat) : BS → Prop
 | [] => True
 | x :: r => Seg.lt m x ∧ BS.lt m r
noncomputable def VD.ok (ρ : Val) (k : Nat) : VD → Prop
 | .int lo hi => lo ≤ ρ.i k ∧ ρ.i k < hi
 | .oct => True
 | .lt j => j < k ∧ 0 ≤ ρ.i k ∧ ρ.i k < ρ.i j ∧ ρ.i k < 2147483648
 | .gh m => 0 ≤ ρ.i k ∧ ρ.i k + m + ρ.g ≤ 2147483648
 | .any => True
noncomputable def Ty.name : Ty → String
 | .bytes => "bytes" | .bytearray => "bytearray" | .int => "int" | .list => "list" | .dict => "dict" | .str => "str" | .other => "object"
noncomputable def Bi.name : Bi → String
 | .len => "len" | .range => "range" | .sorted => "sorted" | .max => "max"
noncomputable def Bi.val : Bi → Value
 | .range => .type "range"
 | b => .builtin b.name
noncomputable def strOf (l : List Nat) : Str := ⟨l.toArray⟩
noncomputable def VR (c : Cfg) : V → Value → Prop
 | .none, u => u = .none
 | .bool b, u => u = .bool b
 | .int i, u => SI.lt c.nv i ∧ ∃ t, u = .int (SI.den c.ρ i) t
 | .str l, u => ∃ t, u = .str (strOf l) t
 | .bytes b, u => BS.lt c.nv b ∧ ∃ t, u = .bytes (BS.den c.ρ b).toArray t
 | .loc i, u => i < c.n ∧ u = .ref (c.σ i).1
 | .fn a, u => u = .ref a
 | .cls a, u => u = .ref a
 | .ty t, u => u = .type t.name
 | .bi b, u => u = b.val
 | .bb, u => handedIn u = true
inductive aT {α β : Type} (R : α → β → Prop) : List α → List β → Prop
 | nil : aT R [] []
 | cons {a b l m} (h : R a b) (t : aT R l m) : aT R (a :: l) (b :: m)
theorem aT.nil_inv {α β : Type} {R : α → β → Prop} {l : List β} (h : aT R [] l) : l = [] := by cases h; rfl
theorem aT.cons_inv {α β : Type} {R : α → β → Prop} {a : α} {k : List α} {l : List β} (h : aT R (a :: k) l) : ∃ b t, l = b :: t ∧ R a b ∧ aT R k t := by cases h with | cons h t => exact ⟨_, _, rfl, h, t⟩
abbrev cG := List (Str × NameKind)
noncomputable def cu (sc : cG) (x : Str) (k : NameKind) : Bool := sc.lookup x == some k
noncomputable def cK (sc : cG) (x : Str) : Bool := cu sc x .cell || cu sc x .free
structure aL where
 prog : Program
 w : World
 Γ : Ctx
 nm : Nat → Str
 K : Frag
 h₀ : Heap
 tl : OsState
 mg : Str → Option Value
 mb : Str → Option Value
 tabs : List Addr
 lam : E → Arguments → Expr → Scope → Prop
section
variable (Z : aL)
abbrev aL.M : Model := model Z.prog Z.w
noncomputable def yM (c : Cfg) : Option V → Option Value → Prop
 | some v, some u => VR c v u
 | none, none => True
 | _, _ => False
def a9 (o : Obj) : Prop := o.cls = .type "traceback" ∧ ∃ vs, o.data = .fields vs ∧ 3 < vs.size
def dP (o : Obj) : Prop := (∃ C, o.cls = .ref C) ∧ ∃ vs T, o.data = .fields vs ∧ vs[1]? = some (Value.ref T)
def bc (o : Obj) : Prop := o.cls = .type "code" ∧ ∃ vs q t, o.data = .fields vs ∧ vs[1]? = some (.str q t)
def yN (o : Obj) : Prop := o.cls = .none ∧ ∃ vs, o.data = .fields vs
def dA (o : Obj) : Prop := a9 o ∨ yN o
def de (h : Heap) (v : Value) : Prop := ∃ c o, v = .ref c ∧ h.get? c = some o ∧ bc o
def gi (h : Heap) (o : Obj) : Prop := ∃ ps, o = tabObj ps ∧ TriplesOk ps.toList ∧ ∀ pos v, codeAmong pos ps.toList = some v → de h v
def jR (o : Obj) : Prop := ¬ dA o ∧ ¬ dP o ∧ ¬ bc o
theorem gi.l {h : Heap} {o : Obj} (x : gi h o) : yN o := by refine (x).elim fun _ aj => (aj).elim fun e _ => ?_; exact ⟨by refine ae e ?_; rfl, _, by refine ae e ?_; rfl⟩
theorem dA.fields {o : Obj} (x : dA o) : ∃ vs, o.data = .fields vs := by
 rcases x with ⟨_, vs, e, _⟩ | ⟨_, vs, e⟩ <;> exact ⟨vs, e⟩
theorem dA.notRef {o : Obj} {C : Nat} (x : dA o) (h : o.cls = .ref C) : False := by
 rcases x with ⟨e, _⟩ | ⟨e, _⟩ <;> (rw [h] at e; cases e)
theorem bD {o : Obj} (n : ∀ vs, o.data ≠ .fields vs) : jR o := ⟨fun t => by refine (t.fields).elim fun vs e => ?_; exact n vs e, fun t => by refine (t).elim fun _ aj => (aj).elim fun vs ay => (ay).elim fun _ aP => (aP).elim fun e _ => ?_; exact n vs e, fun t => by refine (t).elim fun _ aj => (aj).elim fun vs ay => (ay).elim fun _ aP => (aP).elim fun _ bF => (bF).elim fun e _ => ?_; exact n vs e⟩
theorem a7 {o : Obj} {t : String} (e : o.cls = .type t) (n : t ≠ "traceback" ∧ t ≠ "code") : jR o :=
 ⟨fun q => q.elim (fun q => n.1 (by have := e.symm.trans q.1; injection this)) (fun q => by have := e.symm.trans q.1; cases this), fun q => by refine (q).elim fun aj _ => (aj).elim fun _ q => ?_; exact (by rw [e] at q; cases q), fun q => n.2 (by have := e.symm.trans q.1; injection this)⟩
def oM (h₀ h : Heap) (v : Option Value) : Prop := v = some .none ∨ ∃ T o, v = some (.ref T) ∧ h₀.get? T = none ∧ h.get? T = some o ∧ a9 o
def gY (o o' : Obj) : Prop := o' = o ∨ ((∃ es ep, o.data = .dict es ep) ∧ ∃ sl, o' = { o with slots := sl }) ∨ (dA o ∧ dA o')
inductive DL (X : List (Nat × gT)) (Y : List (Nat × List Nat)) (nm : Nat → Str) (c : Cfg) (h : Heap) (p : Nat × Nat) (C : Nat) (fs : List (Nat × V)) : Prop
 | mk (h1 : h.get? p.1 = some (instObj C p.2)) (h2 : ∃ k, af C X = some k ∧ af C Y = none ∧ ∀ f ∈ fs, f.1 ∈ k.dp) (es : List DictEntry) (n : Nat) (h3 : h.get? p.2 = some (dictOf es n)) (h4 : aT (fun (f : Nat × V) (y : DictEntry) => (∃ t, y.key = .str (nm f.1) t) ∧ VR c f.2 y.val) fs es)
inductive Gu (c : Cfg) (h : Heap) (a : Nat) (xs : List V) : Prop
 | mk (vs : Array Value) (ep : Nat) (h1 : h.get? a = some { cls := .type "list", data := .seq vs ep }) (h2 : aT (VR c) xs vs.toList)
inductive L7 (pr : Program) (w : World) (c : Cfg) (h : Heap) (a : Nat) (es : List (Int × V)) : Prop
 | mk (o : Obj) (aF : List (Int × Value)) (h1 : h.get? a = some o) (h2 : o.IsDictOf (intKind pr w) aF) (h3 : aT (fun (f : Int × V) (y : Int × Value) => y.1 = f.1 ∧ VR c f.2 y.2) es aF)
inductive L8 (pr : Program) (w : World) (c : Cfg) (h : Heap) (a : Nat) (es : List (List Nat × V)) : Prop
 | mk (o : Obj) (aF : List (Str × Value)) (h1 : h.get? a = some o) (h2 : o.IsDictOf (strKind pr w) aF) (h3 : aT (fun (f : List Nat × V) (y : Str × Value) => y.1 = strOf f.1 ∧ VR c f.2 y.2) es aF)
inductive L9 (pr : Program) (w : World) (c : Cfg) (h : Heap) (a : Nat) (es : List (Int × V)) : Prop
 | mk (fs : List (Int × V)) (o : Obj) (aF : List (Int × Value)) (h1 : h.get? a = some o) (h2 : o.IsDictOf (intKind pr w) aF) (h3 : fs.Perm es) (h4 : aT (fun (f : Int × V) (y : Int × Value) => y.1 = f.1 ∧ VR c f.2 y.2) fs aF)
inductive Gv (h : Heap) (a : Nat) : Prop
 | mk (d m : Int) (t t' : Tok) (ep : Nat) (h1 : h.get? a = some { cls := .type "list", data := .seq #[.int d t, .int m t'] ep }) (h2 : 0 ≤ d ∧ 0 ≤ m ∧ m < 2147483647)
inductive Gw (h₀ h : Heap) (a C : Nat) : Prop
 | mk (oe : Obj) (vs : Array Value) (h1 : h.get? a = some oe) (h2 : oe.cls = .ref C) (h3 : oe.data = .fields vs) (h4 : 4 < vs.size) (h5 : oM h₀ h (vs[1]?))
inductive DM (h₀ h : Heap) (a C : Nat) : Prop
 | mk (oe : Obj) (vs : Array Value) (h1 : h.get? a = some oe) (h2 : oe.cls = .ref C) (h3 : oe.data = .fields vs) (h4 : 4 < vs.size) (h5 : oM h₀ h (vs[1]?)) (h6 : oe.dict = none)
inductive Gx (lam : E → Arguments → Expr → Scope → Prop) (nm : Nat → Str) (c : Cfg) (h : Heap) (a : Nat) (ks : List (Nat × Nat)) (b : E) : Prop
 | mk (name qual : Str) (ar : Arguments) (x : Expr) (scope : Scope) (cl : List (Str × Addr)) (pm : Value) (cv : Value) (ct : Value) (h1 : h.get? a = some { cls := .type "function", data := .func (kla_fn name qual ar x scope cl pm cv ct) }) (h2 : de h cv) (h3 : lam b ar x scope)
  (h4 : ∀ n, cK scope.names n = true → ∃ a, cl.lookup n = some a) (h5 : ∀ y i, cK scope.names (nm y) = true → af y ks = some i → i < c.n ∧ cl.lookup (nm y) = some (c.σ i).1)
noncomputable def wC (c : Cfg) (h : Heap) (p : Nat × Nat) : ax → Prop
 | .inst C fs => DL Z.Γ.dq Z.Γ.cf Z.nm c h p C fs
 | .list xs => Gu c h p.1 xs
 | .tup xs => ∃ vs, h.get? p.1 = some { cls := .type "tuple", data := .seq vs } ∧ aT (VR c) xs vs.toList
 | .aB es => L7 Z.prog Z.w c h p.1 es
 | .aR es => L8 Z.prog Z.w c h p.1 es
 | .a0 => ∃ o, h.get? p.1 = some o ∧ o.ExactDict ∧ ∃ ep, o.data = .dict #[] ep
 | .bT b => BS.lt c.nv b ∧ h.get? p.1 = some { cls := .type "bytearray", data := .bytearray (BS.den c.ρ b).toArray }
 | .cell v => ∃ u, h.IsCell p.1 u ∧ yM c v u
 | .iz lo hi st => ∃ t t' CU, h.get? p.1 = some { cls := .type "range", data := .fields #[.int lo t, .int hi t', .int st CU] }
 | .cU n es => n < c.nv ∧ h.get? p.1 = some (c.ρ.o n) ∧ ∃ aF, (c.ρ.o n).IsDictOf (intKind Z.prog Z.w) aF ∧ aT (fun (f : Int × V) (y : Int × Value) => y.1 = f.1 ∧ VR c f.2 y.2) es aF
 | .rl n xs => n < c.nv ∧ h.get? p.1 = some (c.ρ.o n) ∧ ∃ vs ep, c.ρ.o n = { cls := .type "list", data := .seq vs ep } ∧ aT (VR c) xs vs.toList
 | .gone => True
 | .src => Gv h p.1
 | .exc C => Gw Z.h₀ h p.1 C
 | .qS C => DM Z.h₀ h p.1 C
 | .Ax ks b => Gx Z.lam Z.nm c h p.1 ks b
 | .jl m => ∃ vs ep, h.get? p.1 = some { cls := .type "list", data := .seq vs ep } ∧ vs.size ≤ m
 | .aw es => L9 Z.prog Z.w c h p.1 es
def br (c : Cfg) (h : Heap) (i : Nat) (o : ax) : Prop := wC Z c h (c.σ i) o
abbrev Has (h : Heap) (b : Nat) : Prop := ∃ o, h.get? b = some o
theorem Has.ne {h : Heap} {a b : Nat} (x : Has h a) (y : h.get? b = none) : a ≠ b := fun e => by
 refine (x).elim fun o x => ?_
 rw [e, y] at x
 cases x
structure Kept (h h' : Heap) (o o' : Obj) : Prop where
 tb : a9 o → a9 o'
 no : dP o → dP o'
 cd : bc o → bc o'
 tab : gi h o → gi h' o'
def a6 (h h' : Heap) : Prop := ∀ b o, h.get? b = some o → ∃ o', h'.get? b = some o' ∧ Kept h h' o o'
theorem a6.has {h h' : Heap} (x : a6 h h') {b : Nat} (y : Has h b) : Has h' b := by refine (y).elim fun o e => ?_; exact by refine (x b o e).elim fun o' aj => (aj).elim fun e' _ => ?_; exact ⟨o', e'⟩
theorem gi.mk' {h h' : Heap} {o : Obj} (x : gi h o) (k : ∀ b o, h.get? b = some o → bc o → ∃ o', h'.get? b = some o' ∧ bc o') : gi h' o :=
 by refine (x).elim fun ps aj => (aj).elim fun e ay => (ay).elim fun t y => ?_; exact ⟨ps, e, t, fun pos v q => by refine (y pos v q).elim fun c aj => (aj).elim fun ob ay => (ay).elim fun e1 aP => (aP).elim fun e2 e3 => ?_; exact by refine (k c ob e2 e3).elim fun o' aj => (aj).elim fun f1 f2 => ?_; exact ⟨c, o', e1, f1, f2⟩⟩
theorem a6.mk' {h h' : Heap} (x : ∀ b o, h.get? b = some o → ∃ o', h'.get? b = some o' ∧ (a9 o → a9 o') ∧ (dP o → dP o') ∧ (bc o → bc o') ∧ (yN o → o' = o)) : a6 h h' := fun b o e =>
 let ⟨o', e', w1, w2, w3, w4⟩ := x b o e
 ⟨o', e', w1, w2, w3, fun t => (w4 t.l).symm ▸ t.mk' fun b o e y => by refine (x b o e).elim fun o' aj => (aj).elim fun e' ay => (ay).elim fun _ aP => (aP).elim fun _ bF => (bF).elim fun w3 _ => ?_; exact ⟨o', e', w3 y⟩⟩
theorem a6.of {h h' : Heap} (x : ∀ b o, h.get? b = some o → h'.get? b = some o) : a6 h h' := a6.mk' fun b o e => ⟨o, x b o e, id, id, id, fun J => rfl⟩
theorem a6.trans {h h' Fe : Heap} (x : a6 h h') (y : a6 h' Fe) : a6 h Fe := fun b o e => by refine (x b o e).elim fun _ aj => (aj).elim fun e1 w => ?_; exact by refine (y b _ e1).elim fun o2 aj => (aj).elim fun e2 v => ?_; exact ⟨o2, e2, fun t => v.tb (w.tb t), fun t => v.no (w.no t), fun t => v.cd (w.cd t), fun t => v.tab (w.tab t)⟩
theorem a6.tb {h h' : Heap} (x : a6 h h') : ∀ b o, h.get? b = some o → a9 o → ∃ o', h'.get? b = some o' ∧ a9 o' := fun b o e t => by refine (x b o e).elim fun o' aj => (aj).elim fun e' w => ?_; exact ⟨o', e', w.tb t⟩
theorem de.ck {h h' : Heap} {v : Value} (y : de h v) (x : a6 h h') : de h' v := by refine (y).elim fun c aj => (aj).elim fun o ay => (ay).elim fun e aP => (aP).elim fun e1 w => ?_; exact by refine (x c o e1).elim fun o' aj => (aj).elim fun e' k => ?_; exact ⟨c, o', e, e', k.cd w⟩
def oN (h h' : Heap) : Prop := ∀ b o, h.get? b = some o → a9 o ∨ bc o → ∃ o', h'.get? b = some o' ∧ (a9 o → a9 o') ∧ (bc o → bc o')
theorem a6.l {h h' : Heap} (x : a6 h h') : oN h h' := fun b o e J => by refine (x b o e).elim fun o' aj => (aj).elim fun e' w => ?_; exact ⟨o', e', w.tb, w.cd⟩
theorem oN.tb {h h' : Heap} (x : oN h h') : ∀ b o, h.get? b = some o → a9 o → ∃ o', h'.get? b = some o' ∧ a9 o' := fun b o e t => by refine (x b o e (.inl t)).elim fun o' aj => (aj).elim fun e' ay => (ay).elim fun w _ => ?_; exact ⟨o', e', w t⟩
theorem de.DN {h h' : Heap} {v : Value} (y : de h v) (x : oN h h') : de h' v := by refine (y).elim fun c aj => (aj).elim fun o ay => (ay).elim fun e aP => (aP).elim fun e1 w => ?_; exact by refine (x c o e1 (.inr w)).elim fun o' aj => (aj).elim fun e' ay => (ay).elim fun _ k => ?_; exact ⟨c, o', e, e', k w⟩
def TabAt (h : Heap) (P : Nat) : Prop := ∃ o, h.get? P = some o ∧ gi h o
theorem TabAt.ck {h h' : Heap} {P : Nat} (y : TabAt h P) (x : a6 h h') : TabAt h' P := by refine (y).elim fun o aj => (aj).elim fun e w => ?_; exact by refine (x P o e).elim fun o' aj => (aj).elim fun e' k => ?_; exact ⟨o', e', k.tab w⟩
structure Le (Z : aL) (L : Nat) (c : Cfg) (s : Shared) (c' : Cfg) (s' : Shared) : Prop where
 n : c.n ≤ c'.n
 nv : c.nv ≤ c'.nv
 σ : ∀ i, i < c.n → c'.σ i = c.σ i
 ρ : ∀ k, k < c.nv → c'.ρ.i k = c.ρ.i k ∧ c'.ρ.bo k = c.ρ.bo k ∧ c'.ρ.g = c.ρ.g
 ck : a6 s.heap s'.heap
 old : ∀ b o, Z.h₀.get? b = some o → s.heap.get? b = some o → s'.heap.get? b = some o
 keep : ∀ b o, s.heap.get? b = some o → b ≠ L → (∀ i, i < c.n → b ≠ (c.σ i).1 ∧ b ≠ (c.σ i).2) → ∃ o', s'.heap.get? b = some o' ∧ gY o o'
 new : ∀ i, c.n ≤ i → i < c'.n → s.heap.get? (c'.σ i).1 = none ∧ s.heap.get? (c'.σ i).2 = none
structure Hp (c : Cfg) (A : AS) (s : Shared) : Prop where
 base : ∀ b o, Z.h₀.get? b = some o → s.heap.get? b = some o
 gens : s.gens = #[]
 os : s.os = Z.tl
 n : c.n = A.n
 nv : c.nv = A.vars.length
 vars : ∀ k d, A.vars[k]? = some d → VD.ok c.ρ k d
 objs : ∀ i o, A.heap.get i = some o → br Z c s.heap i o
 lt : ∀ i o, A.heap.get i = some o → i < c.n
 lo : ∀ i, i < c.n → Z.h₀.get? (c.σ i).1 = none ∧ Z.h₀.get? (c.σ i).2 = none
 up : ∀ i, i < c.n → Has s.heap (c.σ i).1 ∧ Has s.heap (c.σ i).2
 apart : ∀ i j, i < c.n → j < c.n → i ≠ j → (c.σ i).1 ≠ (c.σ j).1 ∧ (c.σ i).1 ≠ (c.σ j).2 ∧ (c.σ i).2 ≠ (c.σ j).1 ∧ (c.σ i).2 ≠ (c.σ j).2
structure Frm (L : Nat) (c : Cfg) (locs : List (Nat × V)) (s : Shared) : Prop where
 oO : Z.h₀.get? L = none
 bw : Has s.heap L
 off : ∀ i, i < c.n → L ≠ (c.σ i).1 ∧ L ≠ (c.σ i).2
 ns : ∃ m, s.heap.Ns L m ∧ ∀ x v, af x locs = some v → ∃ u, m (Z.nm x) = some u ∧ VR c v u
structure Fm where
 cs : List (Nat × Nat)
 hd : Option Nat
 frs : List Env
def CV (c : Cfg) (h : Heap) (a b : Option Nat) : Prop := match a, b with
 | none, none => True
 | some i, some x => i < c.n ∧ (c.σ i).1 = x ∧ ∃ o, h.get? x = some o ∧ dP o
 | _, _ => False
def uh (c : Cfg) (s : Shared) (b : Nat) : Prop := Z.h₀.get? b = none ∧ (∃ o, s.heap.get? b = some o ∧ ∃ es ep, o.data = .dict es ep) ∧ ∀ i, i < c.n → b ≠ (c.σ i).1 ∧ b ≠ (c.σ i).2
structure St (L : Nat) (cs : Fm) (c : Cfg) (A : AS) (s : Shared) : Prop extends Hp Z c A s, Frm Z L c A.locs s where
 cells : A.cells = cs.cs
 hd : CV c s.heap A.hd cs.hd
 outs : ∀ b ∈ cs.frs.filterMap (·.frame), uh Z c s b
 tabs : ∀ P ∈ Z.tabs, TabAt s.heap P
end
theorem SI.lt.mono {n m : Nat} (h : n ≤ m) : ∀ {x : SI}, SI.lt n x → SI.lt m x
 | .lit _, _ => trivial
 | .va .., x => Nat.lt_of_lt_of_le x h
theorem Seg.lt.mono {n m : Nat} (h : n ≤ m) : ∀ {x : Seg}, Seg.lt n x → Seg.lt m x
 | .lit _, _ => trivial
 | .rep .., x => Nat.lt_of_lt_of_le x h
 | .d9 .., x => Nat.lt_of_lt_of_le x h
 | .be .., x => Nat.lt_of_lt_of_le x h
theorem BS.lt.mono {n m : Nat} (h : n ≤ m) : ∀ {x : BS}, BS.lt n x → BS.lt m x
 | [], _ => trivial
 | _ :: _, x => ⟨x.1.mono h, BS.lt.mono h x.2⟩
def Agree (m : Nat) (ρ nA : Val) : Prop := ∀ k, k < m → nA.i k = ρ.i k ∧ nA.bo k = ρ.bo k ∧ nA.g = ρ.g
theorem SI.cO {m : Nat} {ρ nA : Val} (h : Agree m ρ nA) : ∀ {x : SI}, SI.lt m x → SI.den nA x = SI.den ρ x
 | .lit _, _ => rfl
 | .va k o, x => congrArg (· + o) (h k x).1
theorem Seg.cO {m : Nat} {ρ nA : Val} (h : Agree m ρ nA) : ∀ {x : Seg}, Seg.lt m x → Seg.den nA x = Seg.den ρ x
 | .lit _, _ => rfl
 | .rep k n, x => by refine (?_ : List.replicate _ _ = List.replicate _ _); refine ae ((h k x).1) ?_; rfl
 | .d9 k o n, x => by refine (?_ : List.map (fun j => (nA.bo k).1 (o + j)) _ = List.map (fun j => (ρ.bo k).1 (o + j)) _); refine ae ((h k x).2.1) ?_; rfl
 | .be k o n a m, x => by refine (?_ : List.map (fun j => ly n (nA.i k + o).toNat (a + j)) _ = List.map (fun j => ly n (ρ.i k + o).toNat (a + j)) _); refine ae ((h k x).1) ?_; rfl
theorem BS.cO {m : Nat} {ρ nA : Val} (h : Agree m ρ nA) : ∀ {x : BS}, BS.lt m x → BS.den nA x = BS.den ρ x
 | [], _ => rfl
 | y :: r, x => by refine (?_ : Seg.den nA y ++ BS.den nA r = _); refine ae (Seg.cO h x.1) ?_; refine ae (BS.cO h x.2) ?_; rfl
theorem VD.wD {m : Nat} {ρ nA : Val} (h : Agree m ρ nA) {k : Nat} (hk : k < m) : ∀ {d : VD}, VD.ok ρ k d → VD.ok nA k d
 | .int lo hi, x => by dsimp only [VD.ok]; refine ae ((h k hk).1) ?_; exact x
 | .oct, _ => trivial
 | .lt j, ⟨h1, x⟩ => ⟨h1, by refine ae ((h k hk).1) ?_; refine ae ((h j (Nat.lt_trans h1 hk)).1) ?_; exact x⟩
 | .gh m, x => by dsimp only [VD.ok]; refine ae ((h k hk).1) ?_; refine ae ((h k hk).2.2) ?_; exact x
 | .any, x => x
structure bu (c c' : Cfg) : Prop where
 n : c.n ≤ c'.n
 nv : c.nv ≤ c'.nv
 σ : ∀ i, i < c.n → c'.σ i = c.σ i
 ρ : Agree c.nv c.ρ c'.ρ
theorem bu.refl (c : Cfg) : bu c c := ⟨Nat.le_refl _, Nat.le_refl _, fun J J => rfl, fun J J => ⟨rfl, rfl, rfl⟩⟩
theorem bu.trans {a b c : Cfg} (x : bu a b) (y : bu b c) : bu a c :=
 ⟨Nat.le_trans x.n y.n, Nat.le_trans x.nv y.nv, fun i h => (y.σ i (Nat.lt_of_lt_of_le h x.n)).trans (x.σ i h),
  fun k h => ⟨(y.ρ k (Nat.lt_of_lt_of_le h x.nv)).1.trans (x.ρ k h).1, (y.ρ k (Nat.lt_of_lt_of_le h x.nv)).2.1.trans (x.ρ k h).2.1, (y.ρ k (Nat.lt_of_lt_of_le h x.nv)).2.2.trans (x.ρ k h).2.2⟩⟩
theorem Le.grown {Z L c s c' s'} (x : Le Z L c s c' s') : bu c c' := ⟨x.n, x.nv, x.σ, x.ρ⟩
theorem VR.mono {c c' : Cfg} (g : bu c c') : ∀ {v : V} {u : Value}, VR c v u → VR c' v u
 | .none, _, x => x
 | .bool _, _, x => x
 | .int i, _, ⟨h, t, e⟩ => ⟨h.mono g.nv, t, by refine ae (SI.cO g.ρ h) ?_; exact e⟩
 | .str _, _, x => x
 | .bytes b, _, ⟨h, t, e⟩ => ⟨h.mono g.nv, t, by refine ae (BS.cO g.ρ h) ?_; exact e⟩
 | .loc i, _, ⟨h, e⟩ => ⟨Nat.lt_of_lt_of_le h g.n, by refine ae (g.σ i h) ?_; exact e⟩
 | .fn _, _, x => x
 | .cls _, _, x => x
 | .ty _, _, x => x
 | .bi _, _, x => x
 | .bb, _, x => x
theorem aT.imp {α β : Type} {R R' : α → β → Prop} (h : ∀ a b, R a b → R' a b) {l : List α} {m : List β} (x : aT R l m) : aT R' l m := by
 induction x with
 | nil => exact .nil
 | cons a _ ih => exact .cons (h _ _ a) ih
theorem aT.length {α β : Type} {R : α → β → Prop} {l : List α} {m : List β} (x : aT R l m) : l.length = m.length := by
 induction x with
 | nil => rfl
 | cons _ _ ih => (refine ae List.length_cons ?_; refine ae List.length_cons ?_; refine ae ih ?_; rfl)
theorem aT.at {α β : Type} {R : α → β → Prop} {l : List α} {m : List β} (x : aT R l m) : ∀ {i : Nat} {a : α}, l[i]? = some a → ∃ b, m[i]? = some b ∧ R a b := by
 induction x with
 | nil => intro i a h; cases h
 | cons r _ ih =>
  intro i a h
  cases i with
  | zero => obtain rfl := aO h; exact ⟨_, rfl, r⟩
  | succ i => exact ih h
theorem aT.append {α β : Type} {R : α → β → Prop} {l l' : List α} {m m' : List β} (x : aT R l m) (y : aT R l' m') : aT R (l ++ l') (m ++ m') := by
 induction x with
 | nil => exact y
 | cons r _ ih => exact .cons r ih
theorem aT.drop {α β : Type} {R : α → β → Prop} {l : List α} {m : List β} (x : aT R l m) : ∀ n, aT R (l.drop n) (m.drop n) := by
 induction x with
 | nil => intro n; simp -iota only [List.drop_nil]; exact .nil
 | cons r t ih =>
  intro n
  cases n with
  | zero => exact .cons r t
  | succ n => exact ih n
theorem aT.take {α β : Type} {R : α → β → Prop} {l : List α} {m : List β} (x : aT R l m) : ∀ n, aT R (l.take n) (m.take n) := by
 induction x with
 | nil => intro n; simp -iota only [List.take_nil]; exact .nil
 | cons r t ih =>
  intro n
  cases n with
  | zero => exact .nil
  | succ n => exact .cons r (ih n)
section
variable {Z : aL}
theorem yM.mono {c c' : Cfg} (g : bu c c') {v : Option V} {u : Option Value} (x : yM c v u) : yM c' v u := by
 cases v <;> cases u <;> first | exact x | exact VR.mono g x
theorem oM.keep {h₀ h h' : Heap} {v : Option Value} (x : oM h₀ h v) (kt : ∀ b o, h.get? b = some o → a9 o → ∃ o', h'.get? b = some o' ∧ a9 o') : oM h₀ h' v := by
 rcases x with x | ⟨T, o, h1, h0, h2, h3⟩
 ·exact .inl x
 ·refine (kt T o h2 h3).elim fun o' aj => (aj).elim fun q q' => ?_
  exact .inr ⟨T, o', h1, h0, q, q'⟩
theorem IsDictOf.gj {K : Type} [DecidableEq K] {prog : Program} {w : World} {knd : KeyKind prog w K} {o : Obj} {aF : List (K × Value)} (x : o.IsDictOf knd aF) : ¬ dA o := by refine (x).elim fun _ aj => (aj).elim fun _ ay => (ay).elim fun x _ => ?_; exact (a7 x.1 (by decide)).1
theorem br.keep {c c' : Cfg} {h h' : Heap} {i : Nat} {o : ax} (g : bu c c') (hi : i < c.n) (x : br Z c h i o)
 (k1 : ∀ ob, h.get? (c.σ i).1 = some ob → ¬ dA ob → h'.get? (c.σ i).1 = some ob) (k2 : ∀ ob, h.get? (c.σ i).2 = some ob → ¬ dA ob → h'.get? (c.σ i).2 = some ob)
 (kt : oN h h') : br Z c' h' i o := by
 refine (?_ : wC Z c' h' (c'.σ i) o)
 refine ae (g.σ i hi) ?_
 have x : wC Z c h (c.σ i) o := x
 cases o with
 | inst C fs =>
  obtain ⟨h1, h3, es, n, h2, h4⟩ := x
  exact ⟨k1 _ h1 (bD (fun J q => Data.noConfusion q)).1, h3, es, n, k2 _ h2 (bD (fun J q => Data.noConfusion q)).1, h4.imp fun J J y => ⟨y.1, y.2.mono g⟩⟩
 | list xs => obtain ⟨vs, ep, h1, h2⟩ := x; exact ⟨vs, ep, k1 _ h1 (bD (fun J q => Data.noConfusion q)).1, h2.imp fun J J y => y.mono g⟩
 | tup xs => refine (x).elim fun vs aj => (aj).elim fun h1 h2 => ?_; exact ⟨vs, k1 _ h1 (bD (fun J q => Data.noConfusion q)).1, h2.imp fun J J y => y.mono g⟩
 | aB es => obtain ⟨ob, aF, h1, h2, h3⟩ := x; exact ⟨ob, aF, k1 _ h1 (IsDictOf.gj h2), h2, h3.imp fun J J y => ⟨y.1, y.2.mono g⟩⟩
 | aR es => obtain ⟨ob, aF, h1, h2, h3⟩ := x; exact ⟨ob, aF, k1 _ h1 (IsDictOf.gj h2), h2, h3.imp fun J J y => ⟨y.1, y.2.mono g⟩⟩
 | a0 => refine (x).elim fun ob aj => (aj).elim fun h1 h2 => ?_; exact ⟨ob, k1 _ h1 (a7 h2.1.1 (by decide)).1, h2⟩
 | bT b => refine (x).elim fun h0 h1 => ?_; exact ⟨h0.mono g.nv, by refine ae (BS.cO g.ρ h0) ?_; exact k1 _ h1 (bD (fun J q => Data.noConfusion q)).1⟩
 | cell v => refine (x).elim fun u aj => (aj).elim fun ay h2 => (ay).elim fun ob aP => (aP).elim fun h1 Ff => ?_; exact ⟨u, ⟨ob, k1 _ h1 (bD fun J q => by rw [Ff] at q; cases q).1, Ff⟩, h2.mono g⟩
 | iz lo hi st => refine (x).elim fun t aj => (aj).elim fun t' ay => (ay).elim fun CU h1 => ?_; exact ⟨t, t', CU, k1 _ h1 (a7 rfl (by decide)).1⟩
 | cU n es =>
  refine (x).elim fun h1 aj => (aj).elim fun h2 ay => (ay).elim fun aF aP => (aP).elim fun h3 h4 => ?_
  have eo : c'.ρ.o n = c.ρ.o n := congrArg Prod.snd (g.ρ n h1).2.1
  exact ⟨Nat.lt_of_lt_of_le h1 g.nv, eo ▸ k1 _ h2 (IsDictOf.gj h3), aF, eo ▸ h3, h4.imp fun J J y => ⟨y.1, y.2.mono g⟩⟩
 | rl n xs =>
  refine (x).elim fun h1 aj => (aj).elim fun h2 ay => (ay).elim fun vs aP => (aP).elim fun ep bF => (bF).elim fun h3 h4 => ?_
  have eo : c'.ρ.o n = c.ρ.o n := congrArg Prod.snd (g.ρ n h1).2.1
  exact ⟨Nat.lt_of_lt_of_le h1 g.nv, eo ▸ k1 _ h2 (by refine ae h3 ?_; exact (bD (fun J q => Data.noConfusion q)).1), vs, ep, eo ▸ h3, h4.imp fun J J y => y.mono g⟩
 | gone => trivial
 | src => obtain ⟨d, m, t, t', ep, h1, h2⟩ := x; exact ⟨d, m, t, t', ep, k1 _ h1 (bD (fun J q => Data.noConfusion q)).1, h2⟩
 | exc C =>
  obtain ⟨oe, vs, h1, h2, h4, h5, h6⟩ := x
  exact ⟨oe, vs, k1 _ h1 (fun q => q.notRef h2), h2, h4, h5, h6.keep kt.tb⟩
 | qS C =>
  obtain ⟨oe, vs, h1, h2, h4, h5, h6, h7⟩ := x
  exact ⟨oe, vs, k1 _ h1 (fun q => q.notRef h2), h2, h4, h5, h6.keep kt.tb, h7⟩
 | Ax cs b =>
  obtain ⟨name, qual, ar, y, scope, cl, pm, cv, ct, h1, h2, h3, h4, h5⟩ := x
  exact ⟨name, qual, ar, y, scope, cl, pm, cv, ct, k1 _ h1 (bD (fun J q => Data.noConfusion q)).1, h2.DN kt, h3, h4, fun z j q e => ⟨Nat.lt_of_lt_of_le (h5 z j q e).1 g.n, by refine ae (g.σ j (h5 z j q e).1) ?_; exact (h5 z j q e).2⟩⟩
 | jl m => refine (x).elim fun vs aj => (aj).elim fun ep ay => (ay).elim fun h1 h2 => ?_; exact ⟨vs, ep, k1 _ h1 (bD (fun J q => Data.noConfusion q)).1, h2⟩
 | aw es => obtain ⟨fs, ob, aF, h1, h2, h3, h4⟩ := x; exact ⟨fs, ob, aF, k1 _ h1 (IsDictOf.gj h2), h2, h3, h4.imp fun J J y => ⟨y.1, y.2.mono g⟩⟩
theorem dA.notDict {o : Obj} (x : dA o) (h : ∃ es ep, o.data = .dict es ep) : False := by
 refine (x.fields).elim fun vs e => ?_
 refine (h).elim fun es aj => (aj).elim fun ep h => ?_
 rw [e] at h; cases h
theorem gY.trans {o o' Fg : Obj} (x : gY o o') (y : gY o' Fg) : gY o Fg := by
 rcases x with rfl | ⟨h, sl, rfl⟩ | ⟨h, h'⟩
 ·exact y
 ·rcases y with rfl | ⟨_, Ma, rfl⟩ | ⟨k, _⟩
  ·exact .inr (.inl ⟨h, sl, rfl⟩)
  ·exact .inr (.inl ⟨h, Ma, rfl⟩)
  ·exact (dA.notDict k h).elim
 ·rcases y with rfl | ⟨k, _⟩ | ⟨_, k⟩
  ·exact .inr (.inr ⟨h, h'⟩)
  ·exact (dA.notDict h' k).elim
  ·exact .inr (.inr ⟨h, k⟩)
theorem gY.same {o o' : Obj} (x : gY o o') (h1 : ∀ es ep, o.data ≠ .dict es ep) (h2 : ¬ dA o) : o' = o := by
 rcases x with h | ⟨⟨es, ep, h⟩, _⟩ | ⟨h, _⟩
 ·exact h
 ·exact absurd h (h1 es ep)
 ·exact absurd h h2
theorem Le.refl (L : Nat) (c : Cfg) (s : Shared) : Le Z L c s c s :=
 ⟨Nat.le_refl _, Nat.le_refl _, fun J J => rfl, fun J J => ⟨rfl, rfl, rfl⟩, a6.of fun J J e => e, fun J J J e => e, fun J o e J J => ⟨o, e, .inl rfl⟩, fun i h h' => absurd h (Nat.not_le_of_lt h')⟩
theorem Le.trans {L : Nat} {c c' wF : Cfg} {s s' ew : Shared} (x : Le Z L c s c' s') (y : Le Z L c' s' wF ew) : Le Z L c s wF ew where
 n := Nat.le_trans x.n y.n
 nv := Nat.le_trans x.nv y.nv
 σ := (x.grown.trans y.grown).σ
 ρ := (x.grown.trans y.grown).ρ
 ck := x.ck.trans y.ck
 old := fun b o e0 e => y.old b o e0 (x.old b o e0 e)
 keep := fun b o e hb hn => by
  refine (x.keep b o e hb hn).elim fun o' aj => (aj).elim fun e' w => ?_
  obtain ⟨Fg, Gy, w'⟩ := y.keep b o' e' hb fun i hi => by
   by_cases q : i < c.n
   ·refine ae (x.σ i q) ?_; exact hn i q
   ·have := x.new i (Nat.le_of_not_lt q) hi
    exact ⟨Has.ne ⟨o, e⟩ this.1, Has.ne ⟨o, e⟩ this.2⟩
  exact ⟨Fg, Gy, w.trans w'⟩
 new := fun i h1 h2 => by
  by_cases q : i < c'.n
  ·refine ae (y.σ i q) ?_; exact x.new i h1 q
  ·have h := y.new i (Nat.le_of_not_lt q) h2
   have go : ∀ b, s'.heap.get? b = none → s.heap.get? b = none := fun b e => by
    cases e' : s.heap.get? b with
    | none => rfl
    | some o => refine (x.ck b o e').elim fun o' aj => (aj).elim fun h' _ => ?_; rw [e] at h'; cases h'
   exact ⟨go _ h.1, go _ h.2⟩
theorem CV.le {L : Nat} {c c' : Cfg} {s s' : Shared} {a b : Option Nat} (x : CV c s.heap a b) (le : Le Z L c s c' s') : CV c' s'.heap a b := by
 cases a <;> cases b <;> first | exact x | skip
 refine (x).elim fun h1 aj => (aj).elim fun h2 ay => (ay).elim fun o aP => (aP).elim fun h3 h4 => ?_
 refine (le.ck _ o h3).elim fun o' aj => (aj).elim fun e' w => ?_
 exact ⟨Nat.lt_of_lt_of_le h1 le.n, by refine ae (le.σ _ h1) ?_; exact h2, o', e', w.no h4⟩
theorem uh.le {L : Nat} {c c' : Cfg} {s s' : Shared} {b : Nat} (x : uh Z c s b) (le : Le Z L c s c' s') (hL : ∀ o, s'.heap.get? L = some o → ∃ es ep, o.data = .dict es ep) : uh Z c' s' b := by
 refine (x).elim fun h0 aj => (aj).elim fun ay h3 => (ay).elim fun o aP => (aP).elim fun h1 h2 => ?_
 refine ⟨h0, ?_, fun i hi => ?_⟩
 ·by_cases q : b = L
  ·obtain ⟨o', e', _⟩ := le.ck _ o h1
   exact ⟨o', e', hL o' (q ▸ e')⟩
  ·obtain ⟨o', e', w⟩ := le.keep b o h1 q h3
   refine ⟨o', e', ?_⟩
   rcases w with rfl | ⟨_, sl, rfl⟩ | ⟨t, _⟩
   ·exact h2
   ·exact h2
   ·exact (t.notDict h2).elim
 ·by_cases q : i < c.n
  ·refine ae (le.σ i q) ?_; exact h3 i q
  ·have := le.new i (Nat.le_of_not_lt q) hi
   exact ⟨Has.ne ⟨o, h1⟩ this.1, Has.ne ⟨o, h1⟩ this.2⟩
theorem Ns.data {h : Heap} {a : Nat} {m : Str → Option Value} (x : h.Ns a m) : ∀ o, h.get? a = some o → ∃ es ep, o.data = .dict es ep := fun o e => by
 obtain ⟨o', es, ep, h1, h2, _⟩ := x
 rw [e] at h1; obtain rfl := aO h1
 exact ⟨es, ep, h2⟩
theorem St.next {L : Nat} {cs : Fm} {c c' : Cfg} {A A' : AS} {s s' : Shared} (H : St Z L cs c A s) (hp : Hp Z c' A' s') (fr : Frm Z L c' A'.locs s') (hc : A'.cells = A.cells) (hh : A'.hd = A.hd) (le : Le Z L c s c' s') : St Z L cs c' A' s' :=
 ⟨hp, fr, hc.trans H.cells, hh ▸ H.hd.le le, fun b m => (H.outs b m).le le (by refine (fr.ns).elim fun _ aj => (aj).elim fun h1 _ => ?_; exact Ns.data h1), fun P m => (H.tabs P m).ck le.ck⟩
end
section
variable {Z : aL} {L : Nat} {cs : Fm} {c c' : Cfg} {A A' : AS} {s s' : Shared}
theorem cP {d : Nat} {h h' : Heap} (x : Heap.SameBut d h h') (p : Has h' d) (hn : ∀ o, h.get? d = some o → jR o) : a6 h h' := a6.mk' fun b o e =>
 (Decidable.em (b = d)).elim (fun q => by refine (p).elim fun o' e' => ?_; exact let n := hn o (q ▸ e); ⟨o', q ▸ e', fun t => absurd (.inl t) n.1, fun t => absurd t n.2.1, fun t => absurd t n.2.2, fun t => absurd (.inr t) n.1⟩) fun q => ⟨o, (x.2 b q).trans e, id, id, id, fun J => rfl⟩
theorem Ns.gj {h : Heap} {a : Nat} {m : Str → Option Value} (x : h.Ns a m) : ∀ o, h.get? a = some o → jR o := fun o e => by refine (Ns.data x o e).elim fun _ aj => (aj).elim fun _ q => ?_; exact bD fun J r => by rw [q] at r; cases r
theorem Ns.at {h h' : Heap} {a : Addr} {m : Str → Option Value} (x : h.Ns a m) (k : ∀ o, h.get? a = some o → h'.get? a = some o) : h'.Ns a m := by
 refine (x).elim fun o aj => (aj).elim fun es ay => (ay).elim fun ep aP => (aP).elim fun h1 h2 => ?_
 exact ⟨o, es, ep, k o h1, h2⟩
theorem Hp.still (H : Hp Z c A s) (hk : ∀ b o, s.heap.get? b = some o → b ≠ L → s'.heap.get? b = some o) (hs : a6 s.heap s'.heap) (hg : s'.gens = #[]) (ho : s'.os = s.os)
 (Fh : Z.h₀.get? L = none) (eg : ∀ i, i < c.n → L ≠ (c.σ i).1 ∧ L ≠ (c.σ i).2) : Hp Z c A s' where
 base := fun b o e => hk b o (H.base b o e) (Has.ne ⟨o, e⟩ Fh)
 gens := hg
 os := ho.trans H.os
 n := H.n
 nv := H.nv
 vars := H.vars
 objs := fun i o e => by
  have hi : i < c.n := H.lt i o e
  exact (H.objs i o e).keep (bu.refl c) hi (fun ob q J => hk _ ob q (Ne.symm (eg i hi).1)) (fun ob q J => hk _ ob q (Ne.symm (eg i hi).2)) hs.l
 lt := H.lt
 lo := H.lo
 up := fun i hi => ⟨hs.has (H.up i hi).1, hs.has (H.up i hi).2⟩
 apart := H.apart
theorem Hp.change (H : Hp Z c A s) {j : Nat} (hj : j < c.n) {o' : ax} (hk : ∀ b o, s.heap.get? b = some o → b ≠ (c.σ j).1 → b ≠ (c.σ j).2 → s'.heap.get? b = some o)
 (hs : a6 s.heap s'.heap) (ho : br Z c s'.heap j o') (hg : s'.gens = #[]) (oP : s'.os = s.os) : Hp Z c (A.put j o') s' where
 base := fun b o e => by
  have := H.lo j hj
  exact hk b o (H.base b o e) (Has.ne ⟨o, e⟩ this.1) (Has.ne ⟨o, e⟩ this.2)
 gens := hg
 os := oP.trans H.os
 n := H.n
 nv := H.nv
 vars := H.vars
 objs := fun i o e => by
  have e : (A.heap.put j o').get i = some o := e
  rw [Tr.ba] at e
  by_cases q : i = j
  ·subst q
   rw [if_pos rfl] at e
   obtain rfl := aO e; exact ho
  ·rw [if_neg q] at e
   have hi : i < c.n := H.lt i o e
   have ap := H.apart i j hi hj q
   exact (H.objs i o e).keep (bu.refl c) hi (fun ob r J => hk _ ob r ap.1 ap.2.1) (fun ob r J => hk _ ob r ap.2.2.1 ap.2.2.2) hs.l
 lt := fun i o e => by
  have e : (A.heap.put j o').get i = some o := e
  rw [Tr.ba] at e
  by_cases q : i = j
  ·subst q; exact hj
  ·rw [if_neg q] at e; exact H.lt i o e
 lo := H.lo
 up := fun i hi => ⟨hs.has (H.up i hi).1, hs.has (H.up i hi).2⟩
 apart := H.apart
noncomputable def Cfg.push (c : Cfg) (p : Nat × Nat) : Cfg := { c with σ := fun i => if i = c.n then p else c.σ i, n := c.n + 1 }
theorem Cfg.aJ (c : Cfg) (p : Nat × Nat) : bu c (c.push p) :=
 ⟨Nat.le_succ _, Nat.le_refl _, fun i h => if_neg (Nat.ne_of_lt h), fun J J => ⟨rfl, rfl, rfl⟩⟩
theorem Cfg.aI (c : Cfg) (p : Nat × Nat) : (c.push p).σ c.n = p := if_pos rfl
theorem Hp.alloc (H : Hp Z c A s) {o : ax} {p : Nat × Nat} (hk : ∀ b o, s.heap.get? b = some o → s'.heap.get? b = some o)
 (h1 : s.heap.get? p.1 = none ∧ Has s'.heap p.1) (h2 : s.heap.get? p.2 = none ∧ Has s'.heap p.2) (ho : br Z (c.push p) s'.heap c.n o) (hg : s'.gens = #[]) (oP : s'.os = s.os) :
 Hp Z (c.push p) (A.alloc o).2 s' where
 base := fun b o e => hk b o (H.base b o e)
 gens := hg
 os := oP.trans H.os
 n := congrArg Nat.succ H.n
 nv := H.nv
 vars := H.vars
 objs := fun i ob e => by
  have e : (A.heap.put A.n o).get i = some ob := e
  rw [Tr.ba] at e
  by_cases q : i = A.n
  ·subst q
   rw [if_pos rfl] at e
   obtain rfl := aO e; refine bK H.n ?_; exact ho
  ·rw [if_neg q] at e
   exact (H.objs i ob e).keep (c.aJ p) (H.lt i ob e) (fun J r J => hk _ _ r) (fun J r J => hk _ _ r) (a6.of hk).l
 lt := fun i ob e => by
  have e : (A.heap.put A.n o).get i = some ob := e
  rw [Tr.ba] at e
  by_cases q : i = A.n
  ·subst q; refine bK H.n ?_; exact Nat.lt_succ_self _
  ·rw [if_neg q] at e; exact Nat.lt_succ_of_lt (H.lt i ob e)
 lo := fun i hi => by
  by_cases q : i = c.n
  ·subst q; rw [c.aI]
   have go : ∀ b, s.heap.get? b = none → Z.h₀.get? b = none := fun b e => by
    cases e' : Z.h₀.get? b with
    | none => rfl
    | some o => have := H.base b o e'; rw [e] at this; cases this
   exact ⟨go _ h1.1, go _ h2.1⟩
  ·have cN : i < c.n := Nat.lt_of_le_of_ne (Nat.le_of_lt_succ hi) q
   refine ae ((c.aJ p).σ i cN) ?_; exact H.lo i cN
 up := fun i hi => by
  by_cases q : i = c.n
  ·subst q; rw [c.aI]; exact ⟨h1.2, h2.2⟩
  ·have cN : i < c.n := Nat.lt_of_le_of_ne (Nat.le_of_lt_succ hi) q
   refine ae ((c.aJ p).σ i cN) ?_
   refine (H.up i cN).elim fun aj ay => (aj).elim fun o1 q1 => (ay).elim fun o2 q2 => ?_
   exact ⟨⟨o1, hk _ _ q1⟩, ⟨o2, hk _ _ q2⟩⟩
 apart := fun i j hi hj wG => by
  have J6 : i < c.n + 1 := hi
  have Mb : j < c.n + 1 := hj
  by_cases q : i = c.n
  ·by_cases r : j = c.n
   ·exact absurd (q.trans r.symm) wG
   ·have wH : j < c.n := by omega
    subst q
    rw [c.aI, (c.aJ p).σ j wH]
    have := H.up j wH
    exact ⟨(this.1.ne h1.1).symm, (this.2.ne h1.1).symm, (this.1.ne h2.1).symm, (this.2.ne h2.1).symm⟩
  ·have cN : i < c.n := by omega
   refine ae ((c.aJ p).σ i cN) ?_
   by_cases r : j = c.n
   ·subst r
    rw [c.aI]
    have := H.up i cN
    exact ⟨this.1.ne h1.1, this.1.ne h2.1, this.2.ne h1.1, this.2.ne h2.1⟩
   ·have wH : j < c.n := by omega
    refine ae ((c.aJ p).σ j wH) ?_
    exact H.apart i j cN wH wG
noncomputable def Cfg.draw (c : Cfg) (i : Int) (b : Nat → UInt8) (o : Obj := emptyDict) : Cfg :=
 { c with ρ := ⟨c.ρ.g, fun k => if k = c.nv then i else c.ρ.i k, fun k => if k = c.nv then (b, o) else c.ρ.bo k⟩, nv := c.nv + 1 }
theorem Cfg.dB (c : Cfg) (i : Int) (b : Nat → UInt8) (o : Obj := emptyDict) : bu c (c.draw i b o) :=
 ⟨Nat.le_refl _, Nat.le_succ _, fun J J => rfl, fun k h => ⟨if_neg (Nat.ne_of_lt h), if_neg (Nat.ne_of_lt h), rfl⟩⟩
theorem Hp.fresh (H : Hp Z c A s) {d : VD} {i : Int} {b : Nat → UInt8} {o : Obj} (hd : VD.ok (c.draw i b o).ρ c.nv d) : Hp Z (c.draw i b o) (A.fresh d).2 s where
 base := H.base
 gens := H.gens
 os := H.os
 n := H.n
 nv := by refine (?_ : c.nv + 1 = (ud A.vars [d]).length); rw [nr, List.length_append, H.nv]; rfl
 vars := fun k d' e => by
  have e : (ud A.vars [d])[k]? = some d' := e
  rw [nr, List.getElem?_append] at e
  by_cases q : k < A.vars.length
  ·rw [if_pos q] at e
   exact VD.wD (c.dB i b o).ρ (H.nv ▸ q) (H.vars k d' e)
  ·rw [if_neg q] at e
   have : k = A.vars.length := by
    have := (yv e).1
    simp -iota only [List.length_singleton] at this
    omega
   subst this
   rw [Nat.sub_self] at e
   obtain rfl := aO e
   refine bK H.nv ?_; exact hd
 objs := fun i ob e => (H.objs i ob e).keep (c.dB _ _ _) (H.lt i ob e) (fun J r J => r) (fun J r J => r) (a6.of fun J J e => e).l
 lt := H.lt
 lo := H.lo
 up := H.up
 apart := H.apart
theorem Frm.keep {locs : List (Nat × V)} (F : Frm Z L c locs s) (g : bu c c') (hk : ∀ o, s.heap.get? L = some o → s'.heap.get? L = some o)
 (hn : ∀ i, c.n ≤ i → i < c'.n → s.heap.get? (c'.σ i).1 = none ∧ s.heap.get? (c'.σ i).2 = none) : Frm Z L c' locs s' where
 oO := F.oO
 bw := by refine (F.bw).elim fun o h => ?_; exact ⟨o, hk o h⟩
 off := fun i hi => by
  by_cases q : i < c.n
  ·refine ae (g.σ i q) ?_; exact F.off i q
  ·have := hn i (Nat.le_of_not_lt q) hi
   exact ⟨F.bw.ne this.1, F.bw.ne this.2⟩
 ns := by
  refine (F.ns).elim fun m aj => (aj).elim fun hm hl => ?_
  exact ⟨m, Ns.at hm hk, fun x v e => by refine (hl x v e).elim fun u aj => (aj).elim fun h1 h2 => ?_; exact ⟨u, h1, h2.mono g⟩⟩
theorem Le.toks (t : Nat) : Le Z L c s c { s with toks := t } := ⟨Nat.le_refl _, Nat.le_refl _, fun J J => rfl, fun J J => ⟨rfl, rfl, rfl⟩, a6.of fun J J e => e, fun J J J e => e, fun J o e J J => ⟨o, e, .inl rfl⟩, fun i h h' => absurd h (Nat.not_le_of_lt h')⟩
theorem St.toks (H : St Z L cs c A s) (t : Nat) : St Z L cs c A { s with toks := t } := H.next ⟨H.base, H.gens, H.os, H.n, H.nv, H.vars, H.objs, H.lt, H.lo, H.up, H.apart⟩ ⟨H.oO, H.bw, H.off, H.ns⟩ rfl rfl (Le.toks t)
theorem Le.change (H : Hp Z c A s) {j : Nat} (hj : j < c.n) (hk : ∀ b o, s.heap.get? b = some o → b ≠ (c.σ j).1 → b ≠ (c.σ j).2 → s'.heap.get? b = some o) (hs : a6 s.heap s'.heap) : Le Z L c s c s' :=
 ⟨Nat.le_refl _, Nat.le_refl _, fun J J => rfl, fun J J => ⟨rfl, rfl, rfl⟩, hs, fun b o e0 e => hk b o e (Has.ne ⟨o, e0⟩ (H.lo j hj).1) (Has.ne ⟨o, e0⟩ (H.lo j hj).2), fun b o e J hn => ⟨o, hk b o e (hn j hj).1 (hn j hj).2, .inl rfl⟩, fun i h h' => absurd h (Nat.not_le_of_lt h')⟩
theorem St.change (H : St Z L cs c A s) {j : Nat} (hj : j < c.n) {o' : ax} (hk : ∀ b o, s.heap.get? b = some o → b ≠ (c.σ j).1 → b ≠ (c.σ j).2 → s'.heap.get? b = some o)
 (hs : a6 s.heap s'.heap) (ho : br Z c s'.heap j o') (hg : s'.gens = s.gens) (oP : s'.os = s.os) : St Z L cs c (A.put j o') s' :=
 H.next (H.toHp.change hj hk hs ho (hg.trans H.gens) oP) (H.toFrm.keep (bu.refl c) (fun o e => hk _ o e (H.off j hj).1 (H.off j hj).2) fun i h h' => absurd h (Nat.not_le_of_lt h')) rfl rfl (Le.change H.toHp hj hk hs)
theorem Le.bk (hk : ∀ b o, s.heap.get? b = some o → s'.heap.get? b = some o) : Le Z L c s c s' :=
 ⟨Nat.le_refl _, Nat.le_refl _, fun J J => rfl, fun J J => ⟨rfl, rfl, rfl⟩, a6.of hk, fun b o J e => hk b o e, fun b o e J J => ⟨o, hk b o e, .inl rfl⟩, fun i h h' => absurd h (Nat.not_le_of_lt h')⟩
theorem St.bk (H : St Z L cs c A s) (hk : ∀ b o, s.heap.get? b = some o → s'.heap.get? b = some o) (hg : s'.gens = s.gens) (oP : s'.os = s.os) : St Z L cs c A s' :=
 H.next (H.toHp.still (L := L) (fun b o e J => hk b o e) (a6.of hk) (hg.trans H.gens) oP H.oO H.off) (H.toFrm.keep (bu.refl c) (fun o e => hk _ o e) fun i h h' => absurd h (Nat.not_le_of_lt h')) rfl rfl (Le.bk hk)
theorem Le.alloc {p : Nat × Nat} (hk : ∀ b o, s.heap.get? b = some o → s'.heap.get? b = some o) (h1 : s.heap.get? p.1 = none) (h2 : s.heap.get? p.2 = none) :
 Le Z L c s (c.push p) s' :=
 ⟨Nat.le_succ _, Nat.le_refl _, (c.aJ p).σ, fun J J => ⟨rfl, rfl, rfl⟩, a6.of hk, fun b o J e => hk b o e, fun b o e J J => ⟨o, hk b o e, .inl rfl⟩, fun i h h' => by
  have : i = c.n := by have : i < c.n + 1 := h'; omega
  subst this
  rw [c.aI]; exact ⟨h1, h2⟩⟩
theorem St.alloc (H : St Z L cs c A s) {o : ax} {p : Nat × Nat} (hk : ∀ b o, s.heap.get? b = some o → s'.heap.get? b = some o)
 (h1 : s.heap.get? p.1 = none ∧ Has s'.heap p.1) (h2 : s.heap.get? p.2 = none ∧ Has s'.heap p.2) (ho : br Z (c.push p) s'.heap c.n o) (hg : s'.gens = s.gens) (oP : s'.os = s.os) :
 St Z L cs (c.push p) (A.alloc o).2 s' :=
 H.next (H.toHp.alloc hk h1 h2 ho (hg.trans H.gens) oP) (H.toFrm.keep (c.aJ p) (fun o e => hk _ o e) fun i h h' => by
  have : i = c.n := by have : i < c.n + 1 := h'; omega
  subst this
  rw [c.aI]; exact ⟨h1.1, h2.1⟩) rfl rfl (Le.alloc hk h1.1 h2.1)
theorem Le.fresh {i : Int} {b : Nat → UInt8} {o : Obj} : Le Z L c s (c.draw i b o) s :=
 ⟨Nat.le_refl _, Nat.le_succ _, fun J J => rfl, (c.dB i b o).ρ, a6.of fun J J e => e, fun J J J e => e, fun J o e J J => ⟨o, e, .inl rfl⟩, fun i h h' => absurd h (Nat.not_le_of_lt h')⟩
theorem St.fresh (H : St Z L cs c A s) {d : VD} {i : Int} {b : Nat → UInt8} {o : Obj} (hd : VD.ok (c.draw i b o).ρ c.nv d) : St Z L cs (c.draw i b o) (A.fresh d).2 s :=
 H.next (H.toHp.fresh hd) (H.toFrm.keep (c.dB i b o) (fun J e => e) fun i h h' => absurd h (Nat.not_le_of_lt h')) rfl rfl Le.fresh
theorem aK {α : Type} (y : Nat) (p : Nat × α) (r : List (Nat × α)) : af y (p :: r) = if p.1 = y then some p.2 else af y r := by
 refine (?_ : Bool.rec (motive := fun J => Option α) (af y r) (some p.2) (Nat.beq p.1 y) = _)
 cases h : Nat.beq p.1 y
 ·refine ae (if_neg (Nat.ne_of_beq_eq_false h)) ?_; rfl
 ·refine ae (if_pos (Nat.eq_of_beq_eq_true h)) ?_; rfl
theorem iF {α : Type} (x : Nat) (v : α) (p : Nat × α) (r : List (Nat × α)) : fj x v (p :: r) = if p.1 = x then (x, v) :: r else p :: fj x v r := by
 refine (?_ : Bool.rec (motive := fun J => List (Nat × α)) (p :: fj x v r) ((x, v) :: r) (Nat.beq p.1 x) = _)
 cases h : Nat.beq p.1 x
 ·refine ae (if_neg (Nat.ne_of_beq_eq_false h)) ?_; rfl
 ·refine ae (if_pos (Nat.eq_of_beq_eq_true h)) ?_; rfl
theorem bG {α : Type} (x y : Nat) (v : α) : ∀ l : List (Nat × α), af y (fj x v l) = if y = x then some v else af y l
 | [] => (aK y (x, v) []).trans (by
  by_cases q : y = x
  ·refine ae (if_pos q) ?_; refine ae (if_pos q.symm) ?_; rfl
  ·refine ae (if_neg q) ?_; refine ae (if_neg (Ne.symm q)) ?_; rfl)
 | p :: r => by
  rw [iF, aK]
  by_cases h : p.1 = x
  ·rw [if_pos h, aK]
   by_cases q : y = x
   ·subst q; simp
   ·have : p.1 ≠ y := fun z => q (z ▸ h)
    simp [q, Ne.symm q, this]
  ·rw [if_neg h, aK, bG x y v r]
   by_cases q : y = x
   ·subst q; simp [h]
   ·simp [q]
theorem Le.store {h' : Heap} {t : Nat} (hf : Z.h₀.get? L = none) (hp : Has h' L) (hn : ∀ o, s.heap.get? L = some o → jR o) (hs : Heap.SameBut L s.heap h') : Le Z L c s c { s with heap := h', toks := t } :=
 ⟨Nat.le_refl _, Nat.le_refl _, fun J J => rfl, fun J J => ⟨rfl, rfl, rfl⟩, cP hs hp hn, fun b o e0 e => (hs.2 b (Has.ne ⟨o, e0⟩ hf)).trans e, fun b o e q J => ⟨o, (hs.2 b q).trans e, .inl rfl⟩, fun i h h' => absurd h (Nat.not_le_of_lt h')⟩
theorem St.store (inj : ∀ x y, Z.nm x = Z.nm y → x = y) (H : St Z L cs c A s) {x : Nat} {v : V} {u : Value} (hv : VR c v u) {h' : Heap} {t : Nat}
 (hm : ∀ m, s.heap.Ns L m → h'.Ns L fun y => if y = Z.nm x then some u else m y) (hs : Heap.SameBut L s.heap h') : St Z L cs c (aN x v A) { s with heap := h', toks := t } := by
 have hk : ∀ b o, s.heap.get? b = some o → b ≠ L → h'.get? b = some o := fun b o e q => (hs.2 b q).trans e
 refine H.next (Hp.still (s := s) (s' := { s with heap := h', toks := t }) (L := L) ⟨H.base, H.gens, H.os, H.n, H.nv, H.vars, H.objs, H.lt, H.lo, H.up, H.apart⟩ hk ?pr H.gens rfl H.oO H.off) ⟨H.oO, ?fu, H.off, ?_⟩ rfl rfl (Le.store H.oO (by obtain ⟨m, h1, _⟩ := H.ns; exact by obtain ⟨o, _, _, q1, _⟩ := hm m h1; exact ⟨o, q1⟩) (by obtain ⟨_, h1, _⟩ := H.ns; exact Ns.gj h1) hs)
 case fu => obtain ⟨m, h1, h2⟩ := H.ns; obtain ⟨o, es, ep, q1, _⟩ := hm m h1; exact ⟨o, q1⟩
 case pr =>
  obtain ⟨m, h1, h2⟩ := H.ns
  exact cP hs (by obtain ⟨o, _, _, q1, _⟩ := hm m h1; exact ⟨o, q1⟩) (Ns.gj h1)
 refine (H.ns).elim fun m aj => (aj).elim fun h1 h2 => ?_
 refine ⟨_, hm m h1, fun y w e => ?_⟩
 have e : af y (fj x v A.locs) = some w := e
 rw [bG] at e
 by_cases q : y = x
 ·subst q
  rw [if_pos rfl] at e
  obtain rfl := aO e
  exact ⟨u, if_pos rfl, hv⟩
 ·rw [if_neg q] at e
  obtain ⟨z, z1, z2⟩ := h2 y w e
  exact ⟨z, by refine ae (if_neg fun r => q (inj _ _ r)) ?_; exact z1, z2⟩
end
theorem Ns.has {h : Heap} {a : Nat} {m : Str → Option Value} (x : h.Ns a m) : Has h a := by refine (x).elim fun o aj => (aj).elim fun _ ay => (ay).elim fun _ aP => (aP).elim fun h _ => ?_; exact ⟨o, h⟩
section
variable (Z : aL) (L : Nat) (cs : Fm)
inductive QO {α β : Type} (R : Cfg → α → β → Prop) (l : List (Except Nat α × AS)) (c : Cfg) (s : Shared) (u : β) (s' : Shared) : Prop
 | mk (a : α) (A' : AS) (c' : Cfg) (m : (Except.ok a, A') ∈ l) (le : Le Z L c s c' s') (H : St Z L cs c' A' s') (r : R c' a u)
inductive EO {α : Type} (l : List (Except Nat α × AS)) (c : Cfg) (s : Shared) (e : Value) (s' : Shared) : Prop
 | mk (i : Nat) (A' : AS) (c' : Cfg) (m : (Except.error i, A') ∈ l) (le : Le Z L c s c' s') (H : St Z L cs c' A' s') (r : VR c' (.loc i) e ∧ ∃ D, A'.heap.get i = some (.exc D))
def au {α β : Type} (Ar : Around) (t : Sem β) (R : Cfg → α → β → Prop) (r : Res α) (c : Cfg) (s : Shared) : Prop :=
 ∀ l, r = some l → bt Z.M Ar t (QO Z L cs R l.list c s) (EO Z L cs l.list c s) s
end
section
variable {Z : aL} {L : Nat} {cs : Fm} {Ar : Around} {c c' : Cfg} {A A' : AS} {s s' : Shared}
theorem gZ {β : Type} {r t : Res β} {u : bC β} (e : wa r t = some u) : ∃ a b, r = some a ∧ t = some b ∧ u.list = a.list ++ b.list := by
 cases r with
 | none => cases e
 | some a =>
  cases t with
  | none => cases e
  | some b =>
   have e : some (bC.many (ud a.list b.list)) = some u := e
   obtain rfl := aO e
   exact ⟨a, b, rfl, rfl, nr _ _⟩
theorem iG {α β : Type} {f : α → AS → Res β} : ∀ {l : List (Except Nat α × AS)} {r : bC β}, bindR f l = some r →
 (∀ a A, (Except.ok a, A) ∈ l → ∃ r', f a A = some r' ∧ ∀ x ∈ r'.list, x ∈ r.list) ∧ ∀ i A, (Except.error i, A) ∈ l → (Except.error i, A) ∈ r.list
 | [], _, _ => ⟨fun J J h => (nomatch h), fun J J h => (nomatch h)⟩
 | [(.ok a, A)], r, e => ⟨fun b B hm => by cases msg hm; exact ⟨r, e, fun J h => h⟩, fun i B hm => by cases msg hm⟩
 | (.ok a, A) :: y :: l, r, e => by
  refine (gZ (r := f a A) (t := bindR f (y :: l)) e).elim fun u aj => (aj).elim fun v ay => (ay).elim fun hu aP => (aP).elim fun hv hr => ?_
  refine (iG hv).elim fun h1 h2 => ?_
  refine ae hr ?_
  refine ⟨fun b B hm => ?_, fun i B hm => ?_⟩
  ·rcases fg hm with z | hm
   ·cases z; exact ⟨u, hu, fun x hx => List.mem_append.mpr (.inl hx)⟩
   ·refine (h1 b B hm).elim fun r' aj => (aj).elim fun q1 q2 => ?_
    exact ⟨r', q1, fun x hx => List.mem_append.mpr (.inr (q2 x hx))⟩
  ·rcases fg hm with z | hm
   ·cases z
   ·exact List.mem_append.mpr (.inr (h2 i B hm))
 | (.error j, A) :: l, r, e => by
  obtain ⟨u, v, hu, hv, hr⟩ := gZ (r := some (.many [(.error j, A)])) (t := bindR f l) e
  obtain rfl := aO hu
  obtain ⟨h1, h2⟩ := iG hv
  refine ae hr ?_
  refine ⟨fun b B hm => ?_, fun i B hm => ?_⟩
  ·rcases fg hm with z | hm
   ·cases z
   ·refine (h1 b B hm).elim fun r' aj => (aj).elim fun q1 q2 => ?_
    exact ⟨r', q1, fun x hx => .tail _ (q2 x hx)⟩
  ·rcases fg hm with z | hm
   ·cases z; exact .head _
   ·exact .tail _ (h2 i B hm)
theorem eC {α β : Type} {f : α → AS → Res β} {r : Res α} {u : bC β} (e : Res.bind r f = some u) : ∃ l, r = some l ∧
 (∀ a A, (Except.ok a, A) ∈ l.list → ∃ r', f a A = some r' ∧ ∀ x ∈ r'.list, x ∈ u.list) ∧ ∀ i A, (Except.error i, A) ∈ l.list → (Except.error i, A) ∈ u.list := by
 cases r with
 | none => cases e
 | some l =>
  cases l with
  | one a A => exact ⟨_, rfl, fun b B hm => by cases msg hm; exact ⟨u, e, fun J h => h⟩, fun i B hm => by cases msg hm⟩
  | many l => exact ⟨_, rfl, iG (r := u) e⟩
theorem au.ok {α β : Type} {R : Cfg → α → β → Prop} {a : α} {u : β} (h : St Z L cs c A s) (hr : R c a u) : au Z L cs Ar (pure u) R (ok a A) c s := fun l e => by
 obtain rfl := aO e
 exact aq ⟨a, A, c, .head _, Le.refl .., h, hr⟩
theorem au.done {α β : Type} {R : Cfg → α → β → Prop} {a : α} {t : Sem β} (h : ∀ Q E, (∀ u s' c', Le Z L c s c' s' → St Z L cs c' A' s' → R c' a u → Q u s') → wpAny Z.M Ar t Q E s) : au Z L cs Ar t R (aD.ok a A') c s := fun l e => by
 obtain rfl := aO e
 exact .of (h _ _ fun u s' c' x y z => ⟨a, A', c', .head _, x, y, z⟩)
theorem au.bind {α β γ δ : Type} {R : Cfg → α → β → Prop} {R' : Cfg → δ → γ → Prop} {t : Sem β} {k : β → Sem γ} {r : Res α} {f : α → AS → Res δ} (hL : Has s.heap L) (h : au Z L cs Ar t R r c s)
 (hk : ∀ a A' c' s' u, Le Z L c s c' s' → St Z L cs c' A' s' → R c' a u → au Z L cs Ar (k u) R' (f a A') c' s') : au Z L cs Ar (t >>= k) R' (Res.bind r f) c s := fun l e => by
 obtain ⟨ui, rfl, m1, m2⟩ := eC e
 ·refine aa (az (h ui rfl) (fun u s' q => ?_) fun e s' q => ?_)
  ·obtain ⟨a, A', c', q1, q2, q3, q4⟩ := q
   refine (m1 a A' q1).elim fun r' aj => (aj).elim fun z1 z2 => ?_
   refine az (hk a A' c' s' u q2 q3 q4 r' z1) (fun v ew y => ?_) fun e ew y => ?_
   ·obtain ⟨b, B, d, y1, y2, y3, y4⟩ := y
    exact ⟨b, B, d, z2 _ y1, q2.trans y2, y3, y4⟩
   ·obtain ⟨i, B, d, y1, y2, y3, y4⟩ := y
    exact ⟨i, B, d, z2 _ y1, q2.trans y2, y3, y4⟩
  ·obtain ⟨i, B, d, y1, y2, y3, y4⟩ := q
   exact ⟨i, B, d, m2 i B y1, y2, y3, y4⟩
theorem au.from {α β : Type} {R : Cfg → α → β → Prop} {t : Sem β} {r : Res α} (hL : Has s.heap L) (x : Le Z L c s c' s') (h : au Z L cs Ar t R r c' s') : ∀ l, r = some l → bt Z.M Ar t (QO Z L cs R l.list c s) (EO Z L cs l.list c s) s' := fun l q =>
 az (h l q) (fun u ew y => by
  obtain ⟨b, B, d, y1, y2, y3, y4⟩ := y
  exact ⟨b, B, d, y1, x.trans y2, y3, y4⟩) fun e ew y => by
  obtain ⟨b, B, d, y1, y2, y3, y4⟩ := y
  exact ⟨b, B, d, y1, x.trans y2, y3, y4⟩
theorem au.bindM {α β γ δ : Type} {R : Cfg → α → β → Prop} {R' : Cfg → δ → γ → Prop} {t : Sem β} {k : β → Sem γ} {r : Res α} {f : α → AS → Res δ} (hL : Has s.heap L) (h : au Z L cs Ar t R r c s)
 (hk : ∀ l, r = some l → ∀ a A' c' s' u, (Except.ok a, A') ∈ l.list → Le Z L c s c' s' → St Z L cs c' A' s' → R c' a u → au Z L cs Ar (k u) R' (f a A') c' s') : au Z L cs Ar (t >>= k) R' (Res.bind r f) c s := fun l e => by
 obtain ⟨ui, rfl, m1, m2⟩ := eC e
 ·refine aa (az (h ui rfl) (fun u s' q => ?_) fun e s' q => ?_)
  ·obtain ⟨a, A', c', q1, q2, q3, q4⟩ := q
   refine (m1 a A' q1).elim fun r' aj => (aj).elim fun z1 z2 => ?_
   refine az (hk ui rfl a A' c' s' u q1 q2 q3 q4 r' z1) (fun v ew y => ?_) fun e ew y => ?_
   ·obtain ⟨b, B, d, y1, y2, y3, y4⟩ := y
    exact ⟨b, B, d, z2 _ y1, q2.trans y2, y3, y4⟩
   ·obtain ⟨i, B, d, y1, y2, y3, y4⟩ := y
    exact ⟨i, B, d, z2 _ y1, q2.trans y2, y3, y4⟩
  ·obtain ⟨i, B, d, y1, y2, y3, y4⟩ := q
   exact ⟨i, B, d, m2 i B y1, y2, y3, y4⟩
theorem au.bind1 {α β γ δ : Type} {R : Cfg → α → β → Prop} {R' : Cfg → δ → γ → Prop} {t : Sem β} {k : β → Sem γ} {a : α} {B : AS} {r : Res δ} (hL : Has s.heap L) (h : au Z L cs Ar t R (aD.ok a B) c s)
 (hk : ∀ c' s' u, Le Z L c s c' s' → St Z L cs c' B s' → R c' a u → au Z L cs Ar (k u) R' r c' s') : au Z L cs Ar (t >>= k) R' r c s := fun l e =>
 aa (az (h _ rfl) (fun u s' q => by
  obtain ⟨a', A', c', q1, q2, q3, q4⟩ := q
  cases msg q1
  exact au.from hL q2 (hk c' s' u q2 q3 q4) l e) fun e s' q => by
  obtain ⟨i, B', d, y1, _⟩ := q
  cases msg y1)
theorem au.conv {α β : Type} {R : Cfg → α → β → Prop} {t t' : Sem β} {r : Res α} (e : ∀ Q E, bt Z.M Ar t' Q E s → bt Z.M Ar t Q E s) (h : au Z L cs Ar t' R r c s) : au Z L cs Ar t R r c s := fun l q => e _ _ (h l q)
theorem au.none {α β : Type} {R : Cfg → α → β → Prop} {t : Sem β} : au Z L cs Ar t R (none : Res α) c s := fun l q => by cases q
end
noncomputable def bX (x : Str) : Bool := !(x == ("__debug__" : Str)) && !(x == ("__classdict__" : Str))
noncomputable def BH (v : V) (k : Const) : Bool := match v with
 | .none => (match k with
  | .none => true
  | _ => false)
 | .bool a => (match k with
  | .bool b => a == b
  | _ => false)
 | .int x => (match x with
  | .lit i => (match k with
   | .int j => i == j
   | _ => false)
  | _ => false)
 | .str l => (match k with
  | .str s => s == strOf l
  | _ => false)
 | .bytes b => (match k with
  | .bytes l => b == bif l.isEmpty then [] else [.lit (l.map (·.toNat))]
  | _ => false)
 | _ => false
noncomputable def rm : qP → Operator
 | .add => .Add | .sub => .Sub | .mul => .Mult | .div => .FloorDiv | .mod => .Mod | .pow => .Pow
noncomputable def DO : oG → CmpOp
 | .eq => .Eq | .ne => .NotEq | .lt => .Lt | .le => .LtE | .gt => .Gt | .ge => .GtE | .is_ => .Is | .lQ => .IsNot | .in_ => .In | .jH => .NotIn
noncomputable def jS (o : qP) (p : Operator) : Bool := decide (p = rm o)
noncomputable def encC (o : oG) (p : CmpOp) : Bool := decide (p = DO o)
theorem jT {o : qP} {p : Operator} (h : jS o p = true) : p = rm o := of_decide_eq_true h
theorem encC_eq {o : oG} {p : CmpOp} (h : encC o p = true) : p = DO o := of_decide_eq_true h
noncomputable def encL {α β : Type} (f : α → β → Bool) : List α → List β → Bool
 | [], [] => true
 | a :: r, b :: t => f a b && encL f r t
 | _, _ => false
noncomputable def iH {α β : Type} (f : α → β → Bool) : Option α → Option β → Bool
 | none, none => true
 | some a, some b => f a b
 | _, _ => false
noncomputable def eD : Expr → Bool
 | .Call (.Name id _) [] [] _ => id == ("super" : Str)
 | _ => false
noncomputable def tv : Expr → Bool
 | .Attribute .. => true
 | _ => false
noncomputable def bU : Expr → Bool
 | .Slice .. => true
 | _ => false
noncomputable def eK (sc : cG) (scope : Scope) : Bool := decide (scope.kind = .function) && scope.names.all fun x =>
 x.2 != .cell && (x.2 != .local || scope.names.lookup x.1 == some .local) && (x.2 != .free || (cK sc x.1 && scope.names.lookup x.1 == some .free))
noncomputable def fO (sc : cG) : Bool := sc.any fun x => x.2 == .cell
noncomputable def jU (ar : Arguments) (scope : Scope) : Bool := ar.posonlyargs.isEmpty && ar.args.isEmpty && ar.kwonlyargs.isEmpty && ar.vararg.isNone && ar.kwarg.isNone && ar.defaults.isEmpty && ar.kw_defaults.isEmpty &&
 decide (scope.kind = .function) && !scope.isCoroutine && !scope.isGenerator && scope.names.all fun x => x.2 != .cell && x.2 != .local
noncomputable def tw (sc : cG) (scope : Scope) : Bool := scope.names.all fun x => x.2 != .free || (cK sc x.1 && scope.names.lookup x.1 == some .free)
noncomputable def dj {P : Prop} (b : Bool) (k : b = true → P) : Option (PLift P) := Bool.rec (motive := fun b => (b = true → P) → Option (PLift P)) (fun J => none) (fun k => some ⟨k rfl⟩) b k
theorem dD {P : Prop} : ∀ {o : Option (PLift P)}, o.isSome = true → P
 | some p, _ => p.down
 | none, h => bf h
theorem oQ {P : Prop} {b : Bool} {k : b = true → P} (h : b = true) : (dj b k).isSome = true := by
 subst h; rfl
theorem ao {a b : Bool} (h : (a && b) = true) : a = true ∧ b = true := Bool.and_eq_true_iff.mp h
section
variable (nm : Nat → Str)
noncomputable def di (sc : cG) (i : Nat) : Expr → Bool
 | .Name id _ => id == nm i && cu sc id .local && bX id
 | _ => false
noncomputable def lY : Expr → Str
 | .Name id _ => id
 | _ => ""
noncomputable def Gz (is : List Nat) (f : Nat → Bool) : Bool := match is with
 | [i] => f i
 | _ => false
noncomputable def g7 (sc : cG) (is : List Nat) (t : Expr) : Bool := match t with
 | .Name id p => Gz is fun i => di nm sc i (.Name id p)
 | .Tuple xs _ _ => decide (2 ≤ is.length) && encL (di nm sc) is xs
 | _ => false
end
inductive cX (nm : Nat → Str) (f : cG → E → Expr → Bool) (sc : cG) : E → Expr → Prop
 | cst {v k t p} (h : BH v k = true) : cX nm f sc (.cst v) (.Constant k t p)
 | loc {i id p} (h : (id == nm i && cu sc id .local && bX id) = true) : cX nm f sc (.loc i) (.Name id p)
 | dc {i id p} (h : (id == nm i && cK sc id && bX id) = true) : cX nm f sc (.dc i) (.Name id p)
 | aH {i id p} (h : (id == nm i && cu sc id .globalImplicit && bX id) = true) : cX nm f sc (.aH i) (.Name id p)
 | av {e k o a p} (h : (a == nm k && !eD o && f sc e o) = true) : cX nm f sc (.av e k) (.Attribute o a p)
 | bin {o a b l q r p} (h : (jS o q && f sc a l && f sc b r) = true) : cX nm f sc (.bin o a b) (.BinOp l q r p)
 | neg {e y p} (h : f sc e y = true) : cX nm f sc (.neg e) (.UnaryOp .USub y p)
 | not_ {e y p} (h : f sc e y = true) : cX nm f sc (.not_ e) (.UnaryOp .Not y p)
 | and_ {es xs p} (h : encL (f sc) es xs = true) : cX nm f sc (.and_ es) (.BoolOp .And xs p)
 | or_ {es xs p} (h : encL (f sc) es xs = true) : cX nm f sc (.or_ es) (.BoolOp .Or xs p)
 | cmp {a ops es l os xs p} (h : (f sc a l && encL encC ops os && encL (f sc) es xs && !lastMarks os xs && ops.length == es.length && !ops.isEmpty) = true) : cX nm f sc (.cmp a ops es) (.Compare l os xs p)
 | ite_ {c a b t y z p} (h : (f sc c t && f sc a y && f sc b z) = true) : cX nm f sc (.ite_ c a b) (.IfExp t y z p)
 | call {h as g xs p} (q : (!tv g && f sc h g && encL (f sc) as xs && decide (xs.length < 30)) = true) : cX nm f sc (.call h as) (.Call g xs [] p)
 | meth {o n as y a ap xs p} (h : (a == nm n && !eD y && f sc o y && encL (f sc) as xs && decide (xs.length < 30) && ap.endLine == p.line) = true) : cX nm f sc (.meth o n as) (.Call (.Attribute y a ap) xs [] p)
 | sub {o i y q p} (h : (!bU q && f sc o y && f sc i q) = true) : cX nm f sc (.sub o i) (.Subscript y q p)
 | iA {o lo hi y l u p p'} (h : (f sc o y && iH (f sc) lo l && iH (f sc) hi u) = true) : cX nm f sc (.iA o lo hi) (.Subscript y (.Slice l u none p) p')
 | lst {es xs p} (h : encL (f sc) es xs = true) : cX nm f sc (.lst es) (.List xs p)
 | tup {es xs k p} (h : encL (f sc) es xs = true) : cX nm f sc (.tup es) (.Tuple xs k p)
 | emp {p} : cX nm f sc .emp (.Dict [] [] p)
 | eJ {elt ts it y t z scope p} (h : (eK sc scope && f scope.names elt y && f sc it z && g7 nm scope.names ts t && decide ts.Nodup) = true) : cX nm f sc (.eJ elt ts it) (.ListComp y [⟨t, z, [], 0⟩] scope p)
 | lam {fv b ar y scope p} (h : (jU ar scope && tw sc scope && fO sc && f scope.names b y) = true) : cX nm f sc (.lam fv b) (.Lambda ar y scope p)
theorem cX.DP {nm : Nat → Str} {f : cG → E → Expr → Bool} {sc : cG} {elt ts it y t z scope p k} (h : (decide (k = 0) && eK sc scope && f scope.names elt y && f sc it z && g7 nm scope.names ts t && decide ts.Nodup) = true) : cX nm f sc (.eJ elt ts it) (.ListComp y [⟨t, z, [], k⟩] scope p) := by
 refine (ao h).elim fun h h6 => ?_
 refine (ao h).elim fun h h5 => ?_
 refine (ao h).elim fun h h4 => ?_
 refine (ao h).elim fun h h3 => ?_
 refine (ao h).elim fun h1 h2 => ?_
 obtain rfl := of_decide_eq_true h1
 exact .eJ (by refine ae h2 ?_; refine ae h3 ?_; refine ae h4 ?_; refine ae h5 ?_; refine ae h6 ?_; rfl)
section
variable (nm : Nat → Str)
noncomputable def DQ (f : cG → E → Expr → Bool) (sc : cG) (e : E) (x : Expr) : Option (PLift (cX nm f sc e x)) := match e with
 | .cst v => match x with
  | .Constant k _ _ => dj (BH v k) .cst
  | _ => none
 | .loc i => match x with
  | .Name id _ => dj (id == nm i && cu sc id .local && bX id) .loc
  | _ => none
 | .dc i => match x with
  | .Name id _ => dj (id == nm i && cK sc id && bX id) .dc
  | _ => none
 | .aH i => match x with
  | .Name id _ => dj (id == nm i && cu sc id .globalImplicit && bX id) .aH
  | _ => none
 | .av e k => match x with
  | .Attribute o a _ => dj (a == nm k && !eD o && f sc e o) .av
  | _ => none
 | .bin o a b => match x with
  | .BinOp l p r _ => dj (jS o p && f sc a l && f sc b r) .bin
  | _ => none
 | .neg e => match x with
  | .UnaryOp .USub y _ => dj (f sc e y) .neg
  | _ => none
 | .not_ e => match x with
  | .UnaryOp .Not y _ => dj (f sc e y) .not_
  | _ => none
 | .and_ es => match x with
  | .BoolOp .And xs _ => dj (encL (f sc) es xs) .and_
  | _ => none
 | .or_ es => match x with
  | .BoolOp .Or xs _ => dj (encL (f sc) es xs) .or_
  | _ => none
 | .cmp a ops es => match x with
  | .Compare l os xs _ => dj (f sc a l && encL encC ops os && encL (f sc) es xs && !lastMarks os xs && ops.length == es.length && !ops.isEmpty) .cmp
  | _ => none
 | .ite_ c a b => match x with
  | .IfExp t y z _ => dj (f sc c t && f sc a y && f sc b z) .ite_
  | _ => none
 | .call h as => match x with
  | .Call g xs [] _ => dj (!tv g && f sc h g && encL (f sc) as xs && decide (xs.length < 30)) .call
  | _ => none
 | .meth o n as => match x with
  | .Call (.Attribute p a ap) xs [] pos => dj (a == nm n && !eD p && f sc o p && encL (f sc) as xs && decide (xs.length < 30) && ap.endLine == pos.line) .meth
  | _ => none
 | .sub o i => match x with
  | .Subscript p q _ => dj (!bU q && f sc o p && f sc i q) .sub
  | _ => none
 | .iA o lo hi => match x with
  | .Subscript p (.Slice l u none _) _ => dj (f sc o p && iH (f sc) lo l && iH (f sc) hi u) .iA
  | _ => none
 | .lst es => match x with
  | .List xs _ => dj (encL (f sc) es xs) .lst
  | _ => none
 | .tup es => match x with
  | .Tuple xs _ _ => dj (encL (f sc) es xs) .tup
  | _ => none
 | .emp => match x with
  | .Dict [] [] _ => some ⟨.emp⟩
  | _ => none
 | .lam _ b => match x with
  | .Lambda ar y scope _ => dj (jU ar scope && tw sc scope && fO sc && f scope.names b y) .lam
  | _ => none
 | .eJ elt ts it => match x with
  | .ListComp y [⟨t, z, [], k⟩] scope _ => dj (decide (k = 0) && eK sc scope && f scope.names elt y && f sc it z && g7 nm scope.names ts t && decide ts.Nodup) cX.DP
  | _ => none
noncomputable def aW : Nat → cG → E → Expr → Bool
 | 0, _, _, _ => false
 | m + 1, sc, e, x => (DQ nm (aW m) sc e x).isSome
end
inductive i5 (nm : Nat → Str) (g : cG → E → Expr → Bool) (sc : cG) : T → Expr → Prop
 | loc {i id p} (h : di nm sc i (.Name id p) = true) : i5 nm g sc (.loc i) (.Name id p)
 | dc {i id p} (h : (id == nm i && cu sc id .cell && bX id) = true) : i5 nm g sc (.dc i) (.Name id p)
 | av {e f o a p} (h : (a == nm f && g sc e o) = true) : i5 nm g sc (.av e f) (.Attribute o a p)
 | sub {o i y q p} (h : (!bU q && g sc o y && g sc i q) = true) : i5 nm g sc (.sub o i) (.Subscript y q p)
 | iA {o lo hi y l u p p'} (h : (g sc o y && iH (g sc) lo l && iH (g sc) hi u) = true) : i5 nm g sc (.iA o lo hi) (.Subscript y (.Slice l u none p) p')
 | tup {is xs k p} (h : (encL (di nm sc) is xs && decide is.Nodup && decide (2 ≤ is.length)) = true) : i5 nm g sc (.tup is) (.Tuple xs k p)
section
variable (nm : Nat → Str)
noncomputable def DR (g : cG → E → Expr → Bool) (sc : cG) (t : T) (x : Expr) : Option (PLift (i5 nm g sc t x)) := match t with
 | .loc i => match x with
  | .Name id p => dj (di nm sc i (.Name id p)) .loc
  | _ => none
 | .dc i => match x with
  | .Name id _ => dj (id == nm i && cu sc id .cell && bX id) .dc
  | _ => none
 | .av e f => match x with
  | .Attribute o a _ => dj (a == nm f && g sc e o) .av
  | _ => none
 | .sub o i => match x with
  | .Subscript p q _ => dj (!bU q && g sc o p && g sc i q) .sub
  | _ => none
 | .iA o lo hi => match x with
  | .Subscript p (.Slice l u none _) _ => dj (g sc o p && iH (g sc) lo l && iH (g sc) hi u) .iA
  | _ => none
 | .tup is => match x with
  | .Tuple xs _ _ => dj (encL (di nm sc) is xs && decide (is.Nodup) && decide (2 ≤ is.length)) .tup
  | _ => none
noncomputable def gy (m : Nat) (sc : cG) (t : T) (x : Expr) : Bool := (DR nm (aW nm m) sc t x).isSome
noncomputable def jV : Expr → Bool
 | .ListComp .. | .SetComp .. | .DictComp .. => true
 | _ => false
noncomputable def oR (id : Str) (p : Pos) : Expr → Bool
 | .ListComp a b scope q => p.line == (Expr.ListComp a b scope q).pos.line && !(scope.names.any fun (n, k) => n == id && (k == .local || k == .cell))
 | _ => false
set_option backward.match.sparseCases true in
noncomputable def jx (t v : Expr) : Bool := match t, v with
 | .Tuple .., .Tuple vs _ _ => (vs.all (constantsAlone 8) && !vs.all (foldedForSure 8)) || (vs.any fun | .Starred .. => true | _ => false)
 | _, _ => false
noncomputable def rn (t : T) (y z : Expr) : Bool := match t with
 | .loc _ => (match y with
  | .Name id p => oR id p z
  | _ => false)
 | _ => false
end
section
variable (nm : Nat → Str)
noncomputable def notName : Expr → Bool
 | .Name .. => false
 | _ => true
inductive J7 (g : cG → S → Stmt → Bool) (sc : cG) : E × List S → ExceptHandler → Prop
 | mk {i b id p body pos} (h : (id == nm i && cu sc id .globalImplicit && bX id && encL (g sc) b body && !body.isEmpty) = true) : J7 g sc (.aH i, b) (.ExceptHandler (some (.Name id p)) none body pos)
noncomputable def BI (g : cG → S → Stmt → Bool) (sc : cG) (h : E × List S) (x : ExceptHandler) : Option (PLift (J7 nm g sc h x)) := match h with
 | (.aH i, b) => (match x with
  | .ExceptHandler (some (.Name id _)) none body _ => dj (id == nm i && cu sc id .globalImplicit && bX id && encL (g sc) b body && !body.isEmpty) .mk
  | _ => none)
 | _ => none
noncomputable def tx (g : cG → S → Stmt → Bool) (sc : cG) (h : E × List S) (x : ExceptHandler) : Bool := (BI nm g sc h x).isSome
end
inductive gz (nm : Nat → Str) (m : Nat) (g : cG → S → Stmt → Bool) (sc : cG) : S → Stmt → Prop
 | asg {t e y z p} (h : (gy nm m sc t y && aW nm m sc e z && !jx y z && (!jV z || rn t y z)) = true) : gz nm m g sc (.asg t e) (.Assign [y] z p)
 | aug {i o e id p q z p'} (h : (di nm sc i (.Name id p) && jS o q && aW nm m sc e z) = true) : gz nm m g sc (.aug i o e) (.AugAssign (.Name id p) q z p')
 | nh {e f o v y a p q z p'} (h : (a == nm f && aW nm m sc e y && jS o q && aW nm m sc v z) = true) : gz nm m g sc (.nh e f o v) (.AugAssign (.Attribute y a p) q z p')
 | exp {e z p} (h : (aW nm m sc e z && !jV z) = true) : gz nm m g sc (.exp e) (.Expr z p)
 | ret {e z p} (h : iH (aW nm m sc) e z = true) : gz nm m g sc (.ret e) (.Return z p)
 | bE {c a b t y z p} (h : (aW nm m sc c t && encL (g sc) a y && encL (g sc) b z) = true) : gz nm m g sc (.bE c a b) (.If t y z p)
 | for_ {is it b t y z p} (h : (g7 nm sc is t && decide is.Nodup && aW nm m sc it y && encL (g sc) b z) = true) : gz nm m g sc (.for_ is it b) (.For t y z [] p)
 | try_ {b hs y js p} (h : (encL (g sc) b y && encL (tx nm g sc) hs js && !js.isEmpty) = true) : gz nm m g sc (.try_ b hs) (.Try y js [] [] p)
 | del {o i y q p p'} (h : (!bU q && aW nm m sc o y && aW nm m sc i q) = true) : gz nm m g sc (.del o i) (.Delete [.Subscript y q p] p')
 | iB {e a p} (h : iH (aW nm m sc) e a = true) : gz nm m g sc (.iB e) (.Raise a none p)
 | lq {ts es ys k p zs k' p' q} (h : (encL (gy nm m sc) ts ys && encL (aW nm m sc) es zs && ys.any notName) = true) : gz nm m g sc (.lq ts es) (.Assign [.Tuple ys k p] (.Tuple zs k' p') q)
 | CS {p} : gz nm m g sc .CS (.Pass p)
 | bad {x} : gz nm m g sc .bad x
section
variable (nm : Nat → Str)
noncomputable def DS (m : Nat) (g : cG → S → Stmt → Bool) (sc : cG) (st : S) (x : Stmt) : Option (PLift (gz nm m g sc st x)) := match st with
 | .asg t e => match x with
  | .Assign [y] z _ => dj (gy nm m sc t y && aW nm m sc e z && !jx y z && (!jV z || rn t y z)) .asg
  | _ => none
 | .aug i o e => match x with
  | .AugAssign (.Name id p) q z _ => dj (di nm sc i (.Name id p) && jS o q && aW nm m sc e z) .aug
  | _ => none
 | .nh e f o v => match x with
  | .AugAssign (.Attribute y a _) q z _ => dj (a == nm f && aW nm m sc e y && jS o q && aW nm m sc v z) .nh
  | _ => none
 | .exp e => match x with
  | .Expr z _ => dj (aW nm m sc e z && !jV z) .exp
  | _ => none
 | .ret e => match x with
  | .Return z _ => dj (iH (aW nm m sc) e z) .ret
  | _ => none
 | .bE c a b => match x with
  | .If t y z _ => dj (aW nm m sc c t && encL (g sc) a y && encL (g sc) b z) .bE
  | _ => none
 | .for_ is it b => match x with
  | .For t y z [] _ => dj (g7 nm sc is t && decide (is.Nodup) && aW nm m sc it y && encL (g sc) b z) .for_
  | _ => none
 | .try_ b hs => match x with
  | .Try y js [] [] _ => dj (encL (g sc) b y && encL (tx nm g sc) hs js && !js.isEmpty) .try_
  | _ => none
 | .del o i => match x with
  | .Delete [.Subscript p q _] _ => dj (!bU q && aW nm m sc o p && aW nm m sc i q) .del
  | _ => none
 | .bad => some ⟨.bad⟩
 | .lq ts es => match x with
  | .Assign [.Tuple ys _ _] (.Tuple zs _ _) _ => dj (encL (gy nm m sc) ts ys && encL (aW nm m sc) es zs && ys.any notName) .lq
  | _ => none
 | .iB e => match x with
  | .Raise a none _ => dj (iH (aW nm m sc) e a) .iB
  | _ => none
 | .CS => match x with
  | .Pass _ => some ⟨.CS⟩
  | _ => none
noncomputable def cE : Nat → cG → S → Stmt → Bool
 | 0, _, _, _ => false
 | m + 1, sc, st, x => (DS nm m (cE m) sc st x).isSome
end
theorem tA {nm : Nat → Str} {sc : cG} {i : Nat} {x : Expr} (h : di nm sc i x = true) : ∃ id p, x = .Name id p := by
 cases x <;> first | exact bf h | exact ⟨_, _, rfl⟩
theorem bL {nm : Nat → Str} {m : Nat} {sc : cG} {e : E} {x : Expr} (h : aW nm (m + 1) sc e x = true) : cX nm (aW nm m) sc e x := dD h
theorem dw {nm : Nat → Str} {m : Nat} {sc : cG} {t : T} {x : Expr} (h : gy nm m sc t x = true) : i5 nm (aW nm m) sc t x := dD h
theorem wI {nm : Nat → Str} {m : Nat} {sc : cG} {i : Nat} {id : Str} {p : Pos} (h : di nm sc i (.Name id p) = true) : gy nm m sc (.loc i) (.Name id p) = true := oQ h
theorem uj {nm : Nat → Str} {m : Nat} {sc : cG} {i : Nat} {id : Str} {p : Pos} (h : gy nm m sc (.loc i) (.Name id p) = true) : di nm sc i (.Name id p) = true := by
 cases dw h with
 | loc q => exact q
theorem wJ {nm : Nat → Str} {m : Nat} {sc : cG} {is : List Nat} {x : Expr} (h : gy nm m sc (.tup is) x = true) : ∃ xs k p, x = .Tuple xs k p ∧ encL (di nm sc) is xs = true ∧ is.Nodup ∧ 2 ≤ is.length := by
 cases dw h with
 | tup q =>
  refine (ao q).elim fun h h2 => ?_
  refine (ao h).elim fun h h1 => ?_
  exact ⟨_, _, _, rfl, h, of_decide_eq_true h1, of_decide_eq_true h2⟩
theorem lZ {nm : Nat → Str} {m : Nat} {sc : cG} {st : S} {x : Stmt} (h : cE nm (m + 1) sc st x = true) : gz nm m (cE nm m) sc st x := dD h
def rp (Z : aL) (v : Value) : Prop := ∃ c P, v = .ref c ∧ CodeHd Z.h₀ c P ∧ P ∈ Z.tabs
structure aS (Z : aL) (sc : cG) (c : Cfg) (L : Nat) (cells : Fm) (env : Env) : Prop where
 kind : env.scope.kind = .function
 names : ∀ x k, sc.lookup x = some k → env.kindOf x = some k ∨ (k = .free ∧ env.kindOf x = some .cell)
 locals : env.locals = L
 globals : env.globals = mainGlobals
 builtins : env.builtins = builtinsNs
 top : env.frame = some L → ∃ rest, cells.frs = env :: rest
 has : ∀ n, cK sc n = true → ∃ a, env.cells.lookup n = some a
 fr : ∀ b, env.frame = some b → b ∈ cells.frs.filterMap (·.frame)
 code : fO sc = true → rp Z env.code
 cells : ∀ x i, cK sc (Z.nm x) = true → af x cells.cs = some i → i < c.n ∧ env.cells.lookup (Z.nm x) = some (c.σ i).1
theorem aS.mono {Z : aL} {sc : cG} {c c' : Cfg} {L : Nat} {cells : Fm} {env : Env} (x : aS Z sc c L cells env) (g : bu c c') : aS Z sc c' L cells env :=
 ⟨x.kind, x.names, x.locals, x.globals, x.builtins, x.top, x.has, x.fr, x.code, fun y i k e => ⟨Nat.lt_of_lt_of_le (x.cells y i k e).1 g.n, by refine ae (g.σ i (x.cells y i k e).1) ?_; exact (x.cells y i k e).2⟩⟩
noncomputable def wK : List Value → Bool
 | [] => false
 | v :: r => match v with
  | .ref _ => wK r
  | _ => v :: r == [.type "object"] || v :: r == [.type "Exception", .type "BaseException", .type "object"]
noncomputable def jW (K : Frag) (C : Nat) : Bool := (clsIn K C).any fun cd => wK cd.mro
theorem oS : ∀ {l : List Value}, wK l = true → l.contains (.type "object") = true ∧ ∀ self : Value, refuseLoop self "__setattr__" l = pure ()
 | [], e => bf e
 | v :: r, e => by
  have no : (v :: r == [.type "object"] || v :: r == [.type "Exception", .type "BaseException", .type "object"]) = true → (v :: r).contains (.type "object") = true ∧ ∀ self : Value, refuseLoop self "__setattr__" (v :: r) = pure () := fun e => by
   rcases yu e with e | e
   ·refine ae (eI e) ?_; exact ⟨PySem.F.store_object.hasOwner, PySem.F.store_object.passes⟩
   ·refine ae (eI e) ?_; exact ⟨PySem.F.store_Exception.hasOwner, PySem.F.store_Exception.passes⟩
  cases v with
  | ref c =>
   refine (oS (l := r) e).elim fun h1 h2 => ?_
   exact ⟨by rw [List.contains_cons, h1, Bool.or_true], fun self => (refuseLoop_ref self _ c r).trans (h2 self)⟩
  | _ => exact no e
structure g8 (Z : aL) (C : Nat) (k : gT) : Prop where
 ga : findIn Z.K (.ref C) "__getattribute__" = some (some (.builtin "object.__getattribute__"))
 sa : findIn Z.K (.ref C) "__setattr__" = some (some (.builtin "object.__setattr__"))
 gt : findIn Z.K (.ref C) "__getattr__" = some none
 over : jW Z.K C = true
 BJ : makesIn Z.K C = true
 hd : (clsIn Z.K C).any (·.hasDict) = true
 dp : ∀ f ∈ k.dp, findIn Z.K (.ref C) (Z.nm f) = some none
 meth : ∀ m f, af m k.meths = some (false, f) → findIn Z.K (.ref C) (Z.nm m) = some (some (.ref f)) ∧ typeIn Z.K (.ref f) = some (.type "function")
 uk : ∀ m f, af m k.meths = some (true, f) → specialIn Z.K (.ref C) "__getattribute__" = some (some (.builtin "type.__getattribute__")) ∧
  ∃ p rest mc, readsIn Z.K C mc = true ∧ findCls Z.K (.ref C) mc (Z.nm m) = some (.get (.builtin "staticmethod.__get__") (.ref p) .none (.ref C)) ∧ recIn Z.K p "staticmethod" = some (.ref f :: rest)
 kp : keepIn Z.K (.ref C) = true
structure nB (h : Heap) (C : Nat) : Prop where
 obj : ∃ nm q N bs bm BK sn sub col dd k0 k1 k2 k3 k5, h.get? C = some (excClassObj nm q C N bs bm BK sn sub false col dd k0 k1 k2 k3 k5 "Exception.__new__") ∧ bm.contains (.type "Exception") = true ∧ bm.contains (.type "AttributeError") = false ∧ bm.contains (.type "NameError") = false
 call : ∀ M : Model, Looks M h (specialOf (.ref C) "__call__") (some (.builtin "type.__call__"))
 typ : ∀ M : Model, Looks M h (isInstance (.ref C) (.type "type")) true
structure fp (Z : aL) (C : Nat) (k : gT) : Prop where
 sa : findIn Z.K (.ref C) "__setattr__" = some (some (.builtin "object.__setattr__"))
 over : jW Z.K C = true
 hd : (clsIn Z.K C).any (·.hasDict) = true
 dp : ∀ f ∈ k.dp, findIn Z.K (.ref C) (Z.nm f) = some none
 meth : ∀ m f, af m k.meths = some (false, f) → findIn Z.K (.ref C) (Z.nm m) = some (some (.ref f)) ∧ typeIn Z.K (.ref f) = some (.type "function")
 BJ : ∀ h : Heap, Z.K.In h → nB h C
 kp : keepIn Z.K (.ref C) = true
structure aL.Glob (Z : aL) : Prop where
 g : Z.h₀.Ns mainGlobals Z.mg
 b : Z.h₀.Ns builtinsNs Z.mb
 inj : ∀ x y, Z.nm x = Z.nm y → x = y
 sys : Has Z.h₀ sysModules
 k : Z.K.In Z.h₀
 lim : Z.h₀.NoLimit
 yO : Z.nm N.init = "__init__"
 oU : Z.nm N.get = "get"
 oV : Z.nm N.pop = "pop"
 i6 : Z.nm N.bO = "setdefault"
 nC : Z.nm N.append = "append"
 oW : Z.nm N.to_bytes = "to_bytes"
 oX : Z.nm N.from_bytes = "from_bytes"
 fb : findCls Z.K (.type "int") (.type "type") "from_bytes" = some (.get (.builtin "classmethod_descriptor.__get__") (.builtin "int.from_bytes") .none (.type "int"))
 cls : ∀ C k, af C Z.Γ.dq = some k → af C Z.Γ.cf = none → g8 Z C k
 oY : ∀ C k bs, af C Z.Γ.dq = some k → af C Z.Γ.cf = some bs → fp Z C k
 exc : ∀ D C bs qQ, af D Z.Γ.cf = some bs → af C Z.Γ.cf = some qQ → exmOne Z.K (.ref D) (.ref C) = some (bs.contains C)
 tabs : ∀ P ∈ Z.tabs, Z.h₀.get? P = none
 CW : ∀ P ∈ Z.tabs, Z.h₀.BuiltinsAt Z.mg P
 um : ∀ {b ar x scope m}, jU ar scope = true → aW Z.nm m scope.names b x = true → Z.lam b ar x scope
 uq : ∀ {b ar x scope}, Z.lam b ar x scope → jU ar scope = true ∧ ∃ m, aW Z.nm m scope.names b x = true
 look : ∀ x v, af x Z.Γ.glob = some v → ∃ u, (Z.mg (Z.nm x) = some u ∨ (Z.mg (Z.nm x) = none ∧ Z.mb (Z.nm x) = some u)) ∧ ∀ c, VR c v u
def Room (n : Nat) (Ar : Around) (cs : Fm) : Prop := Ar.depth + 2 * n < recursionLimit ∧ Ar.units + 8 * n + 64 < cLine ∧ Ar.handled = cs.hd.map Value.ref ∧ Ar.frames = some cs.frs ∧ ∀ e ∈ cs.frs, e.scope.kind ≠ .module ∧ ∃ b, e.frame = some b
theorem Room.quiet {Z : aL} {L n : Nat} {Ar : Around} {cs : Fm} {c : Cfg} {A : AS} {s : Shared} (hn : Room n Ar cs) (H : St Z L cs c A s) (h : A.hd = none) : Ar.handled = none := by
 have := H.hd
 rw [h] at this
 refine ae hn.2.2.1 ?_
 cases q : cs.hd with
 | none => rfl
 | some x => rw [q] at this; exact this.elim
def BR (_ : Cfg) (a b : Bool) : Prop := b = a
noncomputable def FR (c : Cfg) : Fl → Flow → Prop
 | .next, f => f = .next
 | .brk, f => f = .brk
 | .cont, f => f = .cont
 | .ret v, f => ∃ u, f = .ret u ∧ VR c v u
def UR (_ : Cfg) (_ _ : Unit) : Prop := True
noncomputable def dk (c : Cfg) : List V → List Value → Prop := aT (VR c)
section
variable {Z : aL} {L : Nat} {cs : Fm} {Ar : Around} {c c' : Cfg} {A A' : AS} {s s' : Shared} {α β γ : Type} {R : Cfg → α → β → Prop} {r : Res α} {env : Env} {sc : cG}
theorem au.at {pos : Pos} {k : Unit → Sem β} (h : au Z L cs Ar (k ()) R r c s) : au Z L cs Ar (standAt pos >>= k) R r c s := .conv (fun J J h => aa (aY h)) h
theorem au.rule {tag : String} {k : Unit → Sem β} (h : au Z L cs Ar (k ()) R r c s) : au Z L cs Ar (PySem.rule tag >>= k) R r c s := .conv (fun J J h => aa (jQ h)) h
theorem au.hold {vs : List Value} {t : Sem β} (h : au Z L cs Ar t R r c s) : au Z L cs Ar (holding vs t) R r c s := .conv (fun J J h => aA h) h
theorem au.wL {vs : List Value} {t : Sem Value} {R : Cfg → α → Value → Prop} (h : au Z L cs Ar t R r c s) : au Z L cs Ar (operate vs t) R r c s := .conv (fun J J h => oL h) h
theorem au.rel {vs ks : List Value} {k : Unit → Sem β} (h : au Z L cs Ar (k ()) R r c s) : au Z L cs Ar (release vs ks >>= k) R r c s := .conv (fun J J h => aa (fo h)) h
theorem au.ret {a : γ} {k : γ → Sem β} (h : au Z L cs Ar (k a) R r c s) : au Z L cs Ar (pure a >>= k) R r c s := .conv (fun J J h => aa (aq h)) h
theorem au.map {δ : Type} {R' : Cfg → α → δ → Prop} {t : Sem β} {k : β → Sem δ} (h : au Z L cs Ar t R r c s) (hk : ∀ a c' s' u, R c' a u → ∀ Q E, (∀ v, R' c' a v → Q v s') → wpAny Z.M Ar (k u) Q E s') : au Z L cs Ar (t >>= k) R' r c s := fun l e =>
 aa (az (h l e) (fun u s' q => by
  obtain ⟨a, A', c', q1, q2, q3, q4⟩ := q
  exact .of (hk a c' s' u q4 _ _ fun v hv => ⟨a, A', c', q1, q2, q3, hv⟩)) fun e s' q => by
  obtain ⟨i, A', c', q, q1, q2, q3⟩ := q
  exact ⟨i, A', c', q, q1, q2, q3⟩)
theorem au.opt {o : Option α} {t : Sem β} (h : ∀ a, o = some a → au Z L cs Ar t R (aD.ok a A) c s) : au Z L cs Ar t R (bA o A) c s := by
 cases o with
 | none => exact .none
 | some a => exact h a rfl
theorem au.look {a : α} {t : Sem β} (H : St Z L cs c A s) (h : ∀ Q E, (∀ u tk, R c a u → Q u { s with toks := tk }) → wpAny Z.M Ar t Q E s) : au Z L cs Ar t R (aD.ok a A) c s :=
 .done fun Q E k => h Q E fun u tk hu => k u _ c (Le.toks tk) (H.toks tk) hu
theorem au.bnd {o : Option γ} {f : γ → Res α} {t : Sem β} (h : ∀ a, o = some a → au Z L cs Ar t R (f a) c s) : au Z L cs Ar t R (o.bind f) c s := by
 cases o with
 | none => exact .none
 | some a => exact h a rfl
theorem au.Mc {b : Bool} {t : Sem β} (h : b = true → au Z L cs Ar t R r c s) : au Z L cs Ar t R (Bool.rec (motive := fun _ => Res α) Option.none r b) c s := by
 cases b with
 | false => exact .none
 | true => exact h rfl
theorem au.dM {p : Prop} [Decidable p] {t : Sem β} (h : p → au Z L cs Ar t R r c s) : au Z L cs Ar t R (if p then r else Option.none) c s := by
 by_cases q : p
 ·refine ae (if_pos q) ?_; exact h q
 ·refine ae (if_neg q) ?_; exact .none
theorem au.alt {p : Prop} [Decidable p] {a b : Res α} {t : Sem β} (h : p → au Z L cs Ar t R a c s) (k : ¬p → au Z L cs Ar t R b c s) : au Z L cs Ar t R (if p then a else b) c s := by
 by_cases q : p
 ·refine ae (if_pos q) ?_; exact h q
 ·refine ae (if_neg q) ?_; exact k q
theorem au.one {a : α} {B : AS} {t : Sem β} (h : au Z L cs Ar t R (aD.ok a B) c s) {Q : β → Shared → Prop} {E : Value → Shared → Prop} (k : ∀ u c' s', Le Z L c s c' s' → St Z L cs c' B s' → R c' a u → Q u s') : bt Z.M Ar t Q E s :=
 az (h _ rfl) (fun u s' q => by
  obtain ⟨a', A', c', q1, q2, q3, q4⟩ := q
  cases msg q1
  exact k u c' s' q2 q3 q4) fun e s' q => by
  obtain ⟨i, B', d, y1, _⟩ := q
  cases msg y1
theorem au.use {δ : Type} {t : Sem β} {f : α → AS → Res δ} {l : bC δ} (h : au Z L cs Ar t R r c s) (e : Res.bind r f = some l) {Q : β → Shared → Prop} {E : Value → Shared → Prop}
 (k : ∀ a A' c' u s' r', f a A' = some r' → (∀ x ∈ r'.list, x ∈ l.list) → Le Z L c s c' s' → St Z L cs c' A' s' → R c' a u → Q u s')
 (kE : ∀ i A' c' v s', (Except.error i, A') ∈ l.list → Le Z L c s c' s' → St Z L cs c' A' s' → (VR c' (.loc i) v ∧ ∃ D, A'.heap.get i = some (.exc D)) → E v s') : bt Z.M Ar t Q E s := by
 obtain ⟨ui, rfl, m1, m2⟩ := eC e
 ·refine az (h ui rfl) (fun u s' q => ?_) fun e s' q => ?_
  ·obtain ⟨a, A', c', q1, q2, q3, q4⟩ := q
   refine (m1 a A' q1).elim fun r' aj => (aj).elim fun y1 y2 => ?_
   exact k a A' c' u s' r' y1 y2 q2 q3 q4
  ·obtain ⟨i, A', c', q1, q2, q3, q4⟩ := q
   exact kE i A' c' e s' (m2 i A' q1) q2 q3 q4
end
section
variable {Z : aL} {L : Nat} {cs : Fm} {Ar : Around} {c : Cfg} {A : AS} {s : Shared} {env : Env} {sc : cG}
theorem ur (l : List UInt8) : (l.map (·.toNat)).map UInt8.ofNat = l := by
 refine ae List.map_map ?_
 induction l with
 | nil => rfl
 | cons a r ih => (refine ae List.map_cons ?_; refine ae ih ?_); simp
theorem jy (l : List UInt8) {nv : Nat} {ρ : Val} : BS.lt nv (bif l.isEmpty then [] else [.lit (l.map (·.toNat))]) ∧ BS.den ρ (bif l.isEmpty then [] else [.lit (l.map (·.toNat))]) = l := by
 cases l with
 | nil => exact ⟨trivial, rfl⟩
 | cons a r =>
  refine ⟨⟨trivial, trivial⟩, ?_⟩
  refine (?_ : List.map UInt8.ofNat ((a :: r).map fun x : UInt8 => x.toNat) ++ [] = a :: r)
  rw [ur, List.append_nil]
set_option tactic.hygienic true in
theorem l4 {v : V} {k : Const} (H : St Z L cs c A s) (he : BH v k = true) : au Z L cs Ar (constValue env k) VR (ok v A) c s := by
 cases v with
 | none => cases k <;> first | exact bf he | exact .ok H rfl
 | bool a => cases k <;> first | exact bf he | (obtain rfl := eI he; exact .ok H rfl)
 | int x => cases x with
  | lit i => cases k <;> first | exact bf he | (obtain rfl := eI he; exact .look H fun Q E k => wpAny_mkInt (k _ _ ⟨trivial, _, rfl⟩))
  | va _ _ => exact bf he
 | str l => cases k <;> first | exact bf he | (obtain rfl := eI he; exact .look H fun Q E k => wpAny_mkText (k _ _ ⟨_, rfl⟩))
 | bytes b => cases k <;> first | exact bf he | (rename_i l; obtain rfl := eI he; exact .look H fun Q E k => wpAny_mkTextBytes (k _ _ ⟨(jy (ρ := c.ρ) l).1, s.toks, by refine ae ((jy (nv := 0) l).2) ?_; rfl⟩))
 | _ => exact bf he
theorem kind_of {x : Str} {k : NameKind} (h : cu sc x k = true) : sc.lookup x = some k := eI h
theorem g9 {x : Str} (h : bX x = true) : (x == ("__debug__" : Str)) = false := by
 have := (ao h).1
 rwa [Bool.not_eq_true'] at this
theorem wM {x : Str} (h : bX x = true) : (x == ("__classdict__" : Str)) = false := by
 have := (ao h).2
 rwa [Bool.not_eq_true'] at this
theorem l5 {x : Nat} {pos : Pos} {id : Str} (yw : id = Z.nm x) (H : St Z L cs c A s) (N : aS Z sc c L cs env) (hk : cu sc id .local = true) (hd : bX id = true) :
 au Z L cs Ar (eval (.Name id pos) env) VR (bA (af x A.locs) A) c s := .opt fun v hv => .look H fun Q E k => by
 refine (H.ns).elim fun m aj => (aj).elim fun h1 h2 => ?_
 refine (h2 x v hv).elim fun u aj => (aj).elim fun h3 h4 => ?_
 have kd : env.kindOf id = some .local := by
  rcases N.names id .local (kind_of hk) with h | h
  ·exact h
  ·cases h.1
 exact wpAny_Name (wpAny_loadName_local N.kind kd (N.locals ▸ h1) (yw ▸ h3) (k u s.toks h4)) (g9 hd)
theorem uu {x : Nat} {pos : Pos} {id : Str} (yw : id = Z.nm x) (H : St Z L cs c A s) (N : aS Z sc c L cs env) (hk : cK sc id = true) (hd : bX id = true) {i : Nat} (hi : af x cs.cs = some i) {v : V} (hv : A.heap.get i = some (.cell (some v))) :
 au Z L cs Ar (eval (.Name id pos) env) VR (ok v A) c s := .look H fun Q E k => by
 refine (N.cells x i (yw ▸ hk) hi).elim fun _ hc => ?_
 obtain ⟨u, h1, h2⟩ := H.objs i _ hv
 cases u with
 | none => cases h2
 | some u =>
  have kd : env.kindOf id = some .cell ∨ env.kindOf id = some .free := by
   delta cK at hk
   rcases yu hk with hk | hk
   ·rcases N.names id .cell (kind_of hk) with h | h
    ·exact .inl h
    ·cases h.1
   ·rcases N.names id .free (kind_of hk) with h | h
    ·exact .inr h
    ·exact .inl h.2
  rcases kd with kd | kd
  ·exact wpAny_Name (wpAny_loadName_cell N.kind kd (yw ▸ hc) h1 (k u s.toks h2)) (g9 hd)
  ·exact wpAny_Name (wpAny_loadName_free N.kind kd (yw ▸ hc) h1 (k u s.toks h2) (wM hd)) (g9 hd)
theorem l6 (G : Z.Glob) {x : Nat} {pos : Pos} {id : Str} (yw : id = Z.nm x) (H : St Z L cs c A s) (N : aS Z sc c L cs env) (hk : cu sc id .globalImplicit = true) (hd : bX id = true) :
 au Z L cs Ar (eval (.Name id pos) env) VR (bA (af x Z.Γ.glob) A) c s := .opt fun v hv => .look H fun Q E k => by
 refine (G.look x v hv).elim fun u aj => (aj).elim fun h1 h2 => ?_
 have kd : env.kindOf id = some .globalImplicit := by
  rcases N.names id .globalImplicit (kind_of hk) with h | h
  ·exact h
  ·cases h.1
 have gg : s.heap.Ns env.globals Z.mg := N.globals ▸ G.g.keeps H.base
 have gb : s.heap.Ns env.builtins Z.mb := N.builtins ▸ G.b.keeps H.base
 refine Name_function_global N.kind kd ?_ (g9 hd)
 subst yw
 rcases h1 with h1 | ⟨h0, h1⟩
 ·exact loadGlobal_global gg h1 (k u s.toks (h2 c))
 ·exact loadGlobal_builtin gg h0 gb h1 (k u s.toks (h2 c))
end
def CR (_ : Cfg) (b : Bool) (u : Value) : Prop := u = .bool b
structure bY (Z : aL) : Prop where
 bin : ∀ {Ar : Around} {L cs c A s} {o : qP} {a b : V} {u v : Value}, Room 1 Ar cs → St Z L cs c A s → VR c a u → VR c b v → au Z L cs Ar (binaryOp (rm o) u v) VR (ee o a b A) c s
 BL : ∀ {Ar : Around} {L cs c A s} {o : qP} {a b : V} {u v : Value}, Room 1 Ar cs → St Z L cs c A s → VR c a u → VR c b v → au Z L cs Ar (inplaceOp (rm o) u v) VR (s8 o a b A) c s
 cmp : ∀ {Ar : Around} {L cs c A s} {o : oG} {a b : V} {u v : Value}, Room 1 Ar cs → St Z L cs c A s → VR c a u → VR c b v → au Z L cs Ar (compareOp (DO o) u v) CR (ea A o a b) c s
 truth : ∀ {Ar : Around} {L cs c A s} {a : V} {u : Value}, Room 1 Ar cs → St Z L cs c A s → VR c a u → au Z L cs Ar (truthy u) BR (bA (jI a) A) c s
 neg : ∀ {Ar : Around} {L cs c A s} {i : Int} {u : Value}, Room 1 Ar cs → St Z L cs c A s → VR c (.int (.lit i)) u → au Z L cs Ar (unaryOp .USub u) VR (ok (.int (.lit (-i))) A) c s
 item : ∀ {Ar : Around} {L cs c A s} {o i : V} {u v : Value} {x : Expr}, bU x = false → Room 1 Ar cs → St Z L cs c A s → VR c o u → VR c i v →
  au Z L cs Ar (getitemInPython u >>= fun b => subscripted x b u v) VR (gU o i A) c s
 slice : ∀ {Ar : Around} {L cs c A s} {o lo hi : V} {u l h : Value} {x y : Option Expr} {p : Pos}, Room 1 Ar cs → St Z L cs c A s → VR c o u → VR c lo l → VR c hi h →
  ∀ {k : Value → Sem Value} {pos : Pos}, (∀ i, k i = (standAt pos >>= fun J => getitemInPython u >>= fun b => subscripted (.Slice x y none p) b u i)) → au Z L cs Ar (newFields "slice" [l, h, .none] >>= k) VR (qW o lo hi A) c s
 attr : ∀ {Ar : Around} {L cs c A s} {o : V} {u : Value} {f : Nat}, Room 1 Ar cs → St Z L cs c A s → VR c o u → au Z L cs Ar (getAttr u (Z.nm f) true) VR (s9 o f A) c s
 lst : ∀ {Ar : Around} {L cs c A s} {vs : List V} {us : List Value}, Room 1 Ar cs → St Z L cs c A s → dk c vs us → au Z L cs Ar (newList us) VR (we vs A) c s
 tup : ∀ {Ar : Around} {L cs c A s} {vs : List V} {us : List Value}, Room 1 Ar cs → St Z L cs c A s → dk c vs us → au Z L cs Ar (newTuple us) VR (ue vs A) c s
 emp : ∀ {Ar : Around} {L cs c A s}, Room 1 Ar cs → St Z L cs c A s → au Z L cs Ar (dictDisplay []) VR (ok (V.loc (A.alloc .a0).1) (A.alloc .a0).2) c s
def wN (Z : aL) : Prop := ∀ {Ar : Around} {L cs c A s env sc m} {e : E} {es : List E} {xs : List Expr}, Room 1 Ar cs → nq e es A = true → encL (aW Z.nm m sc) (e :: es) xs = true → St Z L cs c A s → aS Z sc c L cs env → au Z L cs Ar (allTrue .And xs env) BR (ok false A) c s
structure aC (Z : aL) (n : Nat) (ev : bM) : Prop where
 fuel : ev.fuel ≤ n
 s : ∀ {m sc st x Ar L cs c A s env}, cE Z.nm m sc st x = true → env.frame = some L → Room n Ar cs → St Z L cs c A s → aS Z sc c L cs env → au Z L cs Ar (exec x env) FR (ev.s st A) c s
 e : ∀ {m sc e x Ar L cs c A s env}, aW Z.nm m sc e x = true → Room n Ar cs → St Z L cs c A s → aS Z sc c L cs env → au Z L cs Ar (eval x env) VR (ev.e e A) c s
 c : ∀ {m sc e x Ar L cs c A s env}, aW Z.nm m sc e x = true → Room n Ar cs → St Z L cs c A s → aS Z sc c L cs env → au Z L cs Ar (isTrue x env (eval x env)) BR (ev.c e A) c s
theorem Room.le {n m : Nat} {Ar : Around} {cs : Fm} (h : Room n Ar cs) (hm : m ≤ n) : Room m Ar cs := ⟨Nat.lt_of_le_of_lt (Nat.add_le_add_left (Nat.mul_le_mul_left 2 hm) _) h.1, Nat.lt_of_le_of_lt (Nat.add_le_add_right (Nat.add_le_add_left (Nat.mul_le_mul_left 8 hm) _) 64) h.2.1, h.2.2⟩
section
variable {Z : aL} {n : Nat} {ih : bM} {L : Nat} {cs : Fm} {Ar : Around} {c : Cfg} {A : AS} {s : Shared} {env : Env} {sc : cG} {m : Nat}
theorem lA {env : Env} {xs : List Expr} {e : E} {x : Expr} : ∀ {m : Nat}, aW Z.nm m sc e x = true → starEach (x :: xs) env = (false, eval x env) :: starEach xs env
 | 0, h => bf h
 | m + 1, h => by
  replace h := bL h
  induction h <;> rfl
theorem dQ (env : Env) : ∀ {es : List E} {xs : List Expr}, encL (aW Z.nm m sc) es xs = true → starEach xs env = (evalEach xs env).map fun t => (false, t)
 | [], [], _ => rfl
 | [], _ :: _, h => by cases h
 | _ :: _, [], h => by cases h
 | e :: es, x :: xs, h => by
  refine (ao h).elim fun h1 h2 => ?_
  have ih := dQ env h2
  refine ae (lA h1) ?_; refine ae ih ?_; rfl
theorem fP {pos : Pos} : ∀ (ts : List (Sem Value)), backTo pos (ts.map fun t => (false, t)) = ts.map fun t => (false, t)
 | [] => rfl
 | t :: r => by
  refine (?_ : (false, _) :: backTo pos (r.map fun t => (false, t)) = _)
  refine ae (fP r) ?_; rfl
theorem cY (S : aC Z n ih) (hn : Room n Ar cs) : ∀ {es : List E} {xs : List Expr} {c : Cfg} {A : AS} {s : Shared}, encL (aW Z.nm m sc) es xs = true → St Z L cs c A s → aS Z sc c L cs env →
 au Z L cs Ar (spliced ((evalEach xs env).map fun t => (false, t))) dk (eZ ih es A) c s
 | [], [], _, _, _, _, H, _ => .ok H .nil
 | [], _ :: _, _, _, _, h, _, _ => by cases h
 | _ :: _, [], _, _, _, h, _, _ => by cases h
 | e :: es, x :: xs, c, A, s, h, H, N => by
  refine (ao h).elim fun h1 h2 => ?_
  refine (S.e h1 hn H N).bind H.bw fun v A1 c1 s1 u a4 H1 r1 => ?_
  refine .ret ?_
  refine au.bind H1.bw (.hold (cY S hn h2 H1 (N.mono a4.grown))) fun vs A2 c2 s2 us le2 H2 r2 => ?_
  exact .ok H2 (.cons (r1.mono le2.grown) r2)
theorem gA (S : aC Z n ih) (hn : Room n Ar cs) {pos : Pos} {es : List E} {xs : List Expr} (h : encL (aW Z.nm m sc) es xs = true) (H : St Z L cs c A s) (N : aS Z sc c L cs env) :
 au Z L cs Ar (spliced (backTo pos (starEach xs env))) dk (eZ ih es A) c s := by
 rw [dQ env h, fP]
 exact cY S hn h H N
theorem dR (S : aC Z n ih) (hn : Room n Ar cs) {e : Option E} {x : Option Expr} (h : iH (aW Z.nm m sc) e x = true) (H : St Z L cs c A s) (N : aS Z sc c L cs env) :
 au Z L cs Ar (valueOrNone (evalOpt x env)) VR (lT ih e A) c s := by
 cases e <;> cases x
 ·exact .ok H rfl
 ·cases h
 ·cases h
 ·exact S.e h hn H N
theorem eh {os : List CmpOp} {xs : List Expr} {ts : List (Sem Value)} (h : lastMarks os xs = false) : markedEach os xs ts = ts := markedEach_of_false os xs ts h
theorem dT {α β : Type} {f : α → β → Bool} : ∀ {l : List α} {k : List β}, encL f l k = true → l.length = k.length
 | [], [], _ => rfl
 | [], _ :: _, h => by cases h
 | _ :: _, [], h => by cases h
 | _ :: _, _ :: _, h => by refine ae List.length_cons ?_; refine ae List.length_cons ?_; refine ae (dT (ao h).2) ?_; rfl
theorem aQ {α β : Type} {f : α → β → Bool} {a : α} {l : List α} {b : List β} (h : encL f (a :: l) b = true) : ∃ x t, b = x :: t ∧ f a x = true ∧ encL f l t = true := by
 cases b with
 | nil => exact bf h
 | cons x t => exact ⟨x, t, rfl, (ao h).1, (ao h).2⟩
theorem cL {α β : Type} {f : α → β → Bool} {b : List β} (h : encL f ([] : List α) b = true) : b = [] := by
 cases b with
 | nil => rfl
 | cons x t => exact bf h
theorem no {α : Type} {a : α} {P : Prop} (e : (none : Option α) = some a) : P := nomatch e
theorem yP {as : List V} {v : V} (h : lu as = some v) : as = [v] := by
 cases as with
 | nil => exact no h
 | cons a r => cases r with
  | nil => (refine ae (aO h) ?_; rfl)
  | cons b t => exact no h
theorem yQ {as : List V} {p : V × V} (h : lx as = some p) : as = [p.1, p.2] := by
 cases as with
 | nil => exact no h
 | cons a r => cases r with
  | nil => exact no h
  | cons b t => cases t with
   | nil => obtain rfl := aO h; rfl
   | cons _ _ => exact no h
theorem dF {c : Cfg} {as : List V} {v : V} {us : List Value} (h : lu as = some v) (r : dk c as us) : ∃ u, us = [u] ∧ VR c v u := by
 rw [yP h] at r
 obtain ⟨u, t, rfl, r1, r2⟩ := r.cons_inv
 exact ⟨u, by refine ae r2.nil_inv ?_; rfl, r1⟩
theorem dG {c : Cfg} {as : List V} {p : V × V} {us : List Value} (h : lx as = some p) (r : dk c as us) : ∃ u w, us = [u, w] ∧ VR c p.1 u ∧ VR c p.2 w := by
 rw [yQ h] at r
 obtain ⟨u, t, rfl, r1, r2⟩ := r.cons_inv
 obtain ⟨w, t, rfl, r2, r3⟩ := r2.cons_inv
 exact ⟨u, w, by refine ae r3.nil_inv ?_; rfl, r1, r2⟩
theorem cz {c : Cfg} {v : V} {i : Int} {u : Value} (h : jr v = some i) (r : VR c v u) : ∃ t, u = .int i t := by
 cases v with
 | int x => cases x with
  | lit k =>
   obtain rfl := aO h
   obtain ⟨_, t, rfl⟩ := r
   exact ⟨t, rfl⟩
  | va _ _ => exact no h
 | _ => exact no h
theorem gB (P : bY Z) (S : aC Z n ih) (h1 : 1 ≤ n) (hn : Room n Ar cs) {pos : Pos} : ∀ (ops : List oG) {os : List CmpOp} {es : List E} {xs : List Expr} {a : V} {u : Value} {c : Cfg} {A : AS} {s : Shared},
 encL encC ops os = true → encL (aW Z.nm m sc) es xs = true → ops.length = es.length → St Z L cs c A s → aS Z sc c L cs env → VR c a u → au Z L cs Ar (testChain pos u os (evalEach xs env)) BR (chain ih a ops es A) c s
 | [], _, _, _, _, _, _, _, _, _, _, _, _, _, _ => fun J e => no e
 | [op], os, es, xs, a, u, c, A, s, h, k, hl, H, N, r => by
  obtain ⟨e, rfl⟩ := List.length_eq_one_iff.mp hl.symm
  obtain ⟨o, os, rfl, g, g'⟩ := aQ h
  obtain ⟨x, xs, rfl, j, j'⟩ := aQ k
  obtain rfl := cL g'
  obtain rfl := cL j'
  obtain rfl := encC_eq g
  refine au.bind H.bw (.hold (S.e j hn H N)) fun b A1 c1 s1 v a4 H1 r1 => .at ?_
  refine au.map (.wL (P.cmp (hn.le h1) H1 (r.mono a4.grown) r1)) fun t c' s' w hw Q E q => ?_
  subst hw
  exact wpAny_holding (wpAny_truthy_bool (q _ rfl))
 | op :: GA :: ops, os, es, xs, a, u, c, A, s, h, k, hl, H, N, r => by
  cases es with
  | nil => exact absurd hl (Nat.succ_ne_zero _)
  | cons e es => cases es with
  | nil => exact absurd (Nat.succ.inj hl) (Nat.succ_ne_zero _)
  | cons e' es =>
  obtain ⟨o, os, rfl, g, g'⟩ := aQ h
  obtain ⟨x, xs, rfl, j, j'⟩ := aQ k
  obtain ⟨o', os, rfl, Ff, GB⟩ := aQ g'
  obtain ⟨x', xs, rfl, Me, Mf⟩ := aQ j'
  cases encC_eq g
  refine au.bind H.bw (.hold (S.e j hn H N)) fun b A1 c1 s1 v a4 H1 r1 => .at ?_
  refine au.bind H1.bw (.hold (P.cmp (hn.le h1) H1 (r.mono a4.grown) r1)) fun t A2 c2 s2 w le2 H2 hw => .rel ?_
  subst hw
  refine .conv (fun Q E q => aa (aA (.of (wpAny_truthy_bool q)))) ?_
  cases t with
  | false => exact .ok H2 rfl
  | true => exact gB P S h1 hn (GA :: ops) g' j' (Nat.succ.inj hl) H2 (N.mono (a4.grown.trans le2.grown)) (r1.mono le2.grown)
theorem jX (P : bY Z) (S : aC Z n ih) (h1 : 1 ≤ n) (hn : Room n Ar cs) {pos : Pos} : ∀ (ops : List oG) {os : List CmpOp} {es : List E} {xs : List Expr} {a : V} {u : Value} {c : Cfg} {A : AS} {s : Shared},
 encL encC ops os = true → encL (aW Z.nm m sc) es xs = true → ops.length = es.length → St Z L cs c A s → aS Z sc c L cs env → VR c a u → au Z L cs Ar (compareChain pos u os (evalEach xs env)) CR (chain ih a ops es A) c s
 | [], _, _, _, _, _, _, _, _, _, _, _, _, _, _ => fun J e => no e
 | [op], os, es, xs, a, u, c, A, s, h, k, hl, H, N, r => by
  obtain ⟨e, rfl⟩ := List.length_eq_one_iff.mp hl.symm
  obtain ⟨o, os, rfl, g, g'⟩ := aQ h
  obtain ⟨x, xs, rfl, j, j'⟩ := aQ k
  obtain rfl := cL g'
  obtain rfl := cL j'
  obtain rfl := encC_eq g
  exact au.bind H.bw (.hold (S.e j hn H N)) fun b A1 c1 s1 v a4 H1 r1 => .at (.wL (P.cmp (hn.le h1) H1 (r.mono a4.grown) r1))
 | op :: GA :: ops, os, es, xs, a, u, c, A, s, h, k, hl, H, N, r => by
  cases es with
  | nil => exact absurd hl (Nat.succ_ne_zero _)
  | cons e es => cases es with
  | nil => exact absurd (Nat.succ.inj hl) (Nat.succ_ne_zero _)
  | cons e' es =>
  obtain ⟨o, os, rfl, g, g'⟩ := aQ h
  obtain ⟨x, xs, rfl, j, j'⟩ := aQ k
  obtain ⟨o', os, rfl, Ff, GB⟩ := aQ g'
  obtain ⟨x', xs, rfl, Me, Mf⟩ := aQ j'
  cases encC_eq g
  refine au.bind H.bw (.hold (S.e j hn H N)) fun b A1 c1 s1 v a4 H1 r1 => .at ?_
  refine au.bind H1.bw (.hold (P.cmp (hn.le h1) H1 (r.mono a4.grown) r1)) fun t A2 c2 s2 w le2 H2 hw => .rel ?_
  subst hw
  refine .conv (fun Q E q => aa (aA (.of (wpAny_truthy_bool q)))) ?_
  cases t with
  | false => exact .ok H2 rfl
  | true => exact jX P S h1 hn (GA :: ops) g' j' (Nat.succ.inj hl) H2 (N.mono (a4.grown.trans le2.grown)) (r1.mono le2.grown)
theorem l7 (P : bY Z) (S : aC Z n ih) (h1 : 1 ≤ n) (hn : Room n Ar cs) {pos : Pos} : ∀ (es : List E) {xs : List Expr} {c : Cfg} {A : AS} {s : Shared}, encL (aW Z.nm m sc) es xs = true → St Z L cs c A s → aS Z sc c L cs env →
 au Z L cs Ar (boolOp pos .Or (evalEach xs env)) VR (J3 ih es A) c s
 | [], _, _, _, _, _, _, _ => .none
 | [e], xs, c, A, s, h, H, N => by
  obtain ⟨x, xs, rfl, g1, g2⟩ := aQ h
  obtain rfl := cL g2
  exact S.e g1 hn H N
 | e :: e' :: es, xs, c, A, s, h, H, N => by
  obtain ⟨x, xs, rfl, g1, g2⟩ := aQ h
  obtain ⟨x', xs, rfl, _, _⟩ := aQ g2
  refine au.bind H.bw (S.e g1 hn H N) fun v A1 c1 s1 u a4 H1 r1 => .at ?_
  refine au.bind H1.bw (.hold (P.truth (hn.le h1) H1 r1)) fun t A2 c2 s2 w le2 H2 hw => ?_
  cases hw
  cases t with
  | true => exact .ok H2 (r1.mono le2.grown)
  | false => exact l7 P S h1 hn (e' :: es) g2 H2 (N.mono (a4.grown.trans le2.grown))
theorem jY (P : wN Z) (S : aC Z n ih) (h1 : 1 ≤ n) (hn : Room n Ar cs) : ∀ (es : List E) {xs : List Expr} {c : Cfg} {A : AS} {s : Shared}, encL (aW Z.nm m sc) es xs = true → St Z L cs c A s → aS Z sc c L cs env →
 au Z L cs Ar (allTrue .And xs env) BR (wz ih es A) c s
 | [], [], _, _, _, _, H, _ => .ok H rfl
 | [], _ :: _, _, _, _, h, _, _ => by cases h
 | _ :: _, [], _, _, _, h, _, _ => by cases h
 | e :: es, x :: xs, c, A, s, h, H, N => by
  by_cases hz : nq e es A = true
  ·have e1 : wz ih (e :: es) A = ok false A := L3 hz
   refine ae e1 ?_
   exact P (hn.le h1) hz h H N
  have e1 : wz ih (e :: es) A = Res.bind (ih.c e A) fun t A => Bool.rec (motive := fun _ => Res Bool) (ok false A) (wz ih es A) t := JZ hz
  refine ae e1 ?_
  refine au.bind H.bw (S.c (ao h).1 hn H N) fun t A1 c1 s1 u a4 H1 r1 => ?_
  cases r1
  cases t with
  | false => exact .ok H1 rfl
  | true => exact jY P S h1 hn es (ao h).2 H1 (N.mono a4.grown)
theorem l8 (S : aC Z n ih) (hn : Room n Ar cs) : ∀ (es : List E) {xs : List Expr} {c : Cfg} {A : AS} {s : Shared}, encL (aW Z.nm m sc) es xs = true → St Z L cs c A s → aS Z sc c L cs env →
 au Z L cs Ar (allTrue .Or xs env) BR (J4 ih es A) c s
 | [], [], _, _, _, _, H, _ => .ok H rfl
 | [], _ :: _, _, _, _, h, _, _ => by cases h
 | _ :: _, [], _, _, _, h, _, _ => by cases h
 | e :: es, x :: xs, c, A, s, h, H, N => by
  refine au.bind H.bw (S.c (ao h).1 hn H N) fun t A1 c1 s1 u a4 H1 r1 => ?_
  cases r1
  cases t with
  | true => exact .ok H1 rfl
  | false => exact l8 S hn es (ao h).2 H1 (N.mono a4.grown)
end
structure wO (Z : aL) (n : Nat) (ih : bM) : Prop where
 call : ∀ {Ar : Around} {L cs c A s env sc m} {f : V} {u : Value} {as : List E} {xs : List Expr} {pos : Pos}, Room (n + 1) Ar cs → St Z L cs c A s → aS Z sc c L cs env → VR c f u → encL (aW Z.nm m sc) as xs = true → xs.length < 30 →
  au Z L cs Ar (callWith pos u [] (backTo pos (starEach xs env)) (backToKw pos (keywordEach [] env))) VR (Res.bind (eZ ih as A) fun as A => lS Z.Γ ih f as A) c s
 meth : ∀ {Ar : Around} {L cs c A s env sc m} {o : V} {u : Value} {k : Nat} {as : List E} {x : Expr} {xs : List Expr} {apos pos : Pos}, Room (n + 1) Ar cs → St Z L cs c A s → aS Z sc c L cs env → VR c o u → encL (aW Z.nm m sc) as xs = true → xs.length < 30 →
  (apos.endLine == pos.line) = true →
  au Z L cs Ar (methodCall x (Z.nm k) apos pos env u (xs.length + ([] : List Keyword).length) (backTo pos (starEach xs env)) (backToKw pos (keywordEach [] env))) VR (match iZ Z.Γ o k A with | none => none | some mt => Res.bind (eZ ih as A) fun as A => wy Z.Γ ih mt k as A) c s
 eJ : ∀ {Ar : Around} {L cs c A s env sc m} {elt it : E} {ts : List Nat} {x : Expr}, aW Z.nm (m + 1) sc (.eJ elt ts it) x = true → Room (n + 1) Ar cs → St Z L cs c A s → aS Z sc c L cs env →
  au Z L cs Ar (eval x env) VR (AJ Z.Γ ih (.eJ elt ts it) A) c s
 lam : ∀ {Ar : Around} {L cs c A s env sc m} {b : E} {fv : List Nat} {x : Expr}, aW Z.nm (m + 1) sc (.lam fv b) x = true → Room (n + 1) Ar cs → St Z L cs c A s → aS Z sc c L cs env →
  au Z L cs Ar (eval x env) VR (AJ Z.Γ ih (.lam fv b) A) c s
section
variable {Z : aL} {n : Nat} {ih : bM} {L : Nat} {cs : Fm} {Ar : Around} {c : Cfg} {A : AS} {s : Shared} {env : Env} {sc : cG} {m : Nat}
set_option tactic.hygienic true in
theorem eE {o : Expr} {a : Str} {whole : Sem Value} (h : eD o = false) : attributeBase o a env whole = whole := by
 cases o <;> first | rfl | skip
 rename_i f as ks pos
 cases f <;> first | rfl | skip
 rename_i id q
 cases as with
 | cons => rfl
 | nil => cases ks with
  | cons => rfl
  | nil =>
   have h : (id == ("super" : Str)) = false := h
   exact if_pos (by rw [bne, h]; rfl)
theorem au.hG {base : Expr} {o : Value} {t : Sem Value} {x : Res V} (h : au Z L cs Ar t VR x c s) : au Z L cs Ar (t >>= fun r => letTemporaryGo base o r >>= fun J => pure r) VR x c s := fun l e =>
 aa (az (h l e) (fun u s' q => aa (gx (aq q))) fun J J q => q)
set_option tactic.hygienic true in
theorem ux (G : Z.Glob) (P : bY Z) (S : aC Z n ih) (C : wO Z n ih) (h1 : 1 ≤ n) (hn : Room (n + 1) Ar cs) {e : E} {x : Expr} (he : aW Z.nm m sc e x = true) (H : St Z L cs c A s) (N : aS Z sc c L cs env) :
 au Z L cs Ar (eval x env) VR (AJ Z.Γ ih e A) c s := by
 have cw : Room n Ar cs := hn.le (Nat.le_succ n)
 have hb : Room 1 Ar cs := cw.le h1
 cases m with
 | zero => cases he
 | succ m =>
 have Fi := he
 replace he := bL he
 induction he
 case cst v _ _ _ he =>
  exact l4 H he
 case loc i id pos he =>
  obtain ⟨he, hd⟩ := ao he
  obtain ⟨he, hk⟩ := ao he
  exact l5 (eI he) H N hk hd
 case dc i id pos he =>
  obtain ⟨he, hd⟩ := ao he
  obtain ⟨he, hk⟩ := ao he
  refine (?_ : au Z L cs Ar _ VR ((af i A.cells).bind fun i => (AA (A.heap.get i)).bind fun v => ok v.1 A) c s)
  refine ae H.cells ?_
  exact .bnd fun j hj => .bnd fun v hv => uu (eI he) H N hk hd hj v.2
 case aH i id pos he =>
  obtain ⟨he, hd⟩ := ao he
  obtain ⟨he, hk⟩ := ao he
  exact l6 G (eI he) H N hk hd
 case av e f o a pos he =>
  obtain ⟨he, h3⟩ := ao he
  refine (ao he).elim fun ha h2 => ?_
  cases eI ha
  refine (?_ : au Z L cs Ar (attributeBase o (Z.nm f) env (eval o env) >>= _) VR (Res.bind (ih.e e A) _) c s)
  refine ae (eE (by simpa using h2)) ?_
  exact au.bind H.bw (S.e h3 cw H N) fun v A1 c1 s1 u a4 H1 r1 => .at (.hG (.hold (P.attr hb H1 r1)))
 case bin o a b l p r pos he =>
  refine (ao he).elim fun he h3 => ?_
  refine (ao he).elim fun ho h2 => ?_
  cases jT ho
  refine au.bind H.bw (S.e h2 cw H N) fun v A1 c1 s1 u a4 H1 r1 => ?_
  refine au.bind H1.bw (.hold (S.e h3 cw H1 (N.mono a4.grown))) fun w A2 c2 s2 u2 le2 H2 r2 => .at ?_
  exact .wL (P.bin hb H2 (r1.mono le2.grown) r2)
 case neg e y pos he =>
  refine au.bind H.bw (S.e he cw H N) fun v A1 c1 s1 u a4 H1 r1 => .at (.hold ?_)
  split
  ·exact P.neg hb H1 r1
  ·exact .none
 case not_ e y pos he => exact .none
 case and_ es _ _ he => exact .none
 case or_ es _ _ he =>
  exact l7 P S h1 cw es he H N
 case cmp a ops es l os xs pos he =>
  refine (ao he).elim fun he _ => ?_
  refine (ao he).elim fun he hl => ?_
  refine (ao he).elim fun he hm => ?_
  refine (ao he).elim fun he h4 => ?_
  refine (ao he).elim fun h2 h3 => ?_
  refine au.bind H.bw (S.e h2 cw H N) fun v A1 c1 s1 u a4 H1 r1 => ?_
  refine ae (eh (by simpa using hm)) ?_
  refine fun l q => ?_
  have := au.bind (Z := Z) (L := L) (cs := cs) (Ar := Ar) (R' := VR) (k := fun w => pure w) (f := fun t A => aD.ok (V.bool t) A) H1.bw (jX P S h1 cw (pos := pos) ops h3 h4 (by simpa using hl) H1 (N.mono a4.grown) r1) fun t A2 c2 s2 w le2 H2 hw => by
   subst hw
   exact .ok H2 rfl
  have := this l q
  rwa [bind_pure] at this
 case ite_ a b d t y z pos he =>
  refine (ao he).elim fun he h4 => ?_
  refine (ao he).elim fun h2 h3 => ?_
  refine au.bind H.bw (S.c h2 cw H N) fun v A1 c1 s1 u a4 H1 r1 => ?_
  cases r1
  cases v with
  | true => exact S.e h3 cw H1 (N.mono a4.grown)
  | false => exact S.e h4 cw H1 (N.mono a4.grown)
 case call f as g xs pos he =>
  obtain ⟨he, hl⟩ := ao he
  refine (ao he).elim fun he h3 => ?_
  refine (ao he).elim fun hg h2 => ?_
  have hl : xs.length < 30 := of_decide_eq_true hl
  have e1 : eval (.Call g xs [] pos) env = (eval g env >>= fun f => callWith pos f [] (backTo pos (starEach xs env)) (backToKw pos (keywordEach [] env))) := by
   cases g <;> first | rfl | cases hg
  refine ae e1 ?_
  exact au.bind H.bw (S.e h2 cw H N) fun v A1 c1 s1 u a4 H1 r1 => C.call hn H1 (N.mono a4.grown) r1 h3 hl
 case meth o k as p a ap xs pos he =>
  refine (ao he).elim fun he hl => ?_
  obtain ⟨he, h5⟩ := ao he
  obtain ⟨he, h4⟩ := ao he
  refine (ao he).elim fun he h3 => ?_
  refine (ao he).elim fun ha h2 => ?_
  cases eI ha
  refine (?_ : au Z L cs Ar (attributeBase p (Z.nm k) env (eval p env) >>= _) VR (Res.bind (ih.e o A) _) c s)
  refine ae (eE (by simpa using h2)) ?_
  exact au.bind H.bw (S.e h3 cw H N) fun v A1 c1 s1 u a4 H1 r1 => .at (C.meth hn H1 (N.mono a4.grown) r1 h4 (of_decide_eq_true h5) hl)
 case sub o i p q pos he =>
  obtain ⟨he, h3⟩ := ao he
  refine (ao he).elim fun h0 h2 => ?_
  refine au.bind H.bw (S.e h2 cw H N) fun v A1 c1 s1 u a4 H1 r1 => ?_
  refine au.bind H1.bw (.hold (S.e h3 cw H1 (N.mono a4.grown))) fun w A2 c2 s2 u2 le2 H2 r2 => .at ?_
  have := (P.item (x := q) (by simpa using h0) hb H2 (r1.mono le2.grown) r2).hG (base := p) (o := u)
  rwa [bind_assoc] at this
 case iA o lo hi p l u oZ pos he =>
  refine (ao he).elim fun he h3 => ?_
  refine (ao he).elim fun h0 h2 => ?_
  refine au.bind H.bw (S.e h0 cw H N) fun v A1 c1 s1 uo a4 H1 r1 => ?_
  refine .conv (t' := valueOrNone (evalOpt l env) >>= fun a => holding [a] (valueOrNone (evalOpt u env)) >>= fun b => (newFields "slice" [a, b, .none] >>= fun i => standAt pos >>= fun J => getitemInPython uo >>= fun d => subscripted (.Slice l u none oZ) d uo i) >>= fun r => letTemporaryGo p uo r >>= fun J => pure r) (fun Q E q Γ p' fh hC => ?_) ?_
  ·have q := q Γ p' fh hC
   have ev : eval (.Slice l u none oZ) env = (valueOrNone (evalOpt l env) >>= fun a => holding [a] (valueOrNone (evalOpt u env)) >>= fun b => holding [a, b] (pure .none) >>= fun d => newFields "slice" [a, b, d]) := rfl
   refine ae ev ?_
   simp -iota only [Sem.wp_bind', Sem.wp_holding, Sem.wp_pure] at q ⊢
   exact q
  ·refine au.bind H1.bw (dR S cw h2 H1 (N.mono a4.grown)) fun a A2 c2 s2 ua le2 H2 r2 => ?_
   refine au.bind H2.bw (.hold (dR S cw h3 H2 ((N.mono a4.grown).mono le2.grown))) fun b A3 c3 s3 ub dU H3 r3 => ?_
   exact .hG (P.slice hb H3 (r1.mono (le2.grown.trans dU.grown)) (r2.mono dU.grown) r3 fun J => rfl)
 case lst es xs pos he =>
  refine .at ?_
  exact au.bind H.bw (gA S cw he H N) fun vs A1 c1 s1 us a4 H1 r1 => P.lst hb H1 r1
 case tup es xs k pos he =>
  refine .at ?_
  exact au.bind H.bw (gA S cw he H N) fun vs A1 c1 s1 us a4 H1 r1 => P.tup hb H1 r1
 case emp _ =>
  exact .at (P.emp hb H)
 case eJ elt ts it y t z scope p he => exact C.eJ Fi hn H N
 case lam fv b ar y scope p he => exact C.lam Fi hn H N
end
structure bQ (Z : aL) : Prop where
 BM : ∀ {Ar : Around} {L cs c A s} {o v : V} {u w : Value} {f : Nat}, Room 1 Ar cs → St Z L cs c A s → VR c o u → VR c v w → au Z L cs Ar (setAttr u (Z.nm f) w) UR (gW Z.Γ o f v A) c s
 ni : ∀ {Ar : Around} {L cs c A s} {o i v : V} {u j w : Value}, Room 1 Ar cs → St Z L cs c A s → VR c o u → VR c i j → VR c v w → au Z L cs Ar (setItem u j w) UR (eA o i v A) c s
 qT : ∀ {Ar : Around} {L cs c A s} {o lo hi v : V} {u l h w : Value}, Room 1 Ar cs → St Z L cs c A s → VR c o u → VR c lo l → VR c hi h → VR c v w →
  ∀ {k : Value → Sem Unit} {pos : Pos}, (∀ i, k i = (standAt pos >>= fun J => holding [w, u, i] (setItem u i w))) → au Z L cs Ar (newFields "slice" [l, h, .none] >>= k) UR (gw o lo hi v A) c s
 iD : ∀ {Ar : Around} {L cs c A s} {o i : V} {u j : Value}, Room 1 Ar cs → St Z L cs c A s → VR c o u → VR c i j → au Z L cs Ar (delItem u j) UR (jJ o i A) c s
 yR : ∀ {Ar : Around} {L cs c A s} {i : Nat} {xs : List V}, Room 1 Ar cs → St Z L cs c A s → A.hd = none → A.heap.get i = some (.tup xs) ∨ A.heap.get i = some (.list xs) → au Z L cs Ar (unpackItems (.ref (c.σ i).1) xs.length none) dk (ok xs A) c s
structure AM (Z : aL) (n : Nat) (ih : bM) : Prop where
 loop : ∀ {Ar : Around} {L cs c A s env sc m} {is : List Nat} {t : Expr} {b : List S} {body : List Stmt} {v : V} {u : Value}, g7 Z.nm sc is t = true → is.Nodup → encL (cE Z.nm m sc) b body = true → env.frame = some L → Room (n + 1) Ar cs → St Z L cs c A s → aS Z sc c L cs env → VR c v u →
  au Z L cs Ar (pyIter u >>= fun it => runOwn (.forLoop t it body [] env) env) FR (match cV v A with | some (it, A) => if A.hd.isNone = true then ef (aD.loop ih is b 300 it A) else none | none => none) c s
 swap : ∀ {Ar : Around} {L cs c A s env sc m} {i : Nat} {id : Str} {pos pos' : Pos} {e : E} {z : Expr}, di Z.nm sc i (.Name id pos) = true → aW Z.nm m sc e z = true → jV z = true → oR id pos z = true → Room (n + 1) Ar cs → St Z L cs c A s → aS Z sc c L cs env →
  au Z L cs Ar (exec (.Assign [.Name id pos] z pos') env) FR (Res.bind (ih.e e A) fun v A => ok .next (aN i v A)) c s
section
variable {Z : aL} {n : Nat} {ih : bM} {L : Nat} {cs : Fm} {Ar : Around} {c : Cfg} {A : AS} {s : Shared} {env : Env} {sc : cG} {m : Nat}
theorem uy (P : bY Z) (S : aC Z n ih) (h1 : 1 ≤ n) (hn : Room n Ar cs) {e : E} {x : Expr} (he : aW Z.nm m sc e x = true) (H : St Z L cs c A s) (N : aS Z sc c L cs env)
 (hx : isTrue x env (eval x env) = (do let v ← eval x env; standAt x.pos; holding [v] (truthy v))) :
 au Z L cs Ar (isTrue x env (eval x env)) BR (Res.bind (ih.e e A) fun v A => bA (jI v) A) c s := by
 refine ae hx ?_
 exact au.bind H.bw (S.e he hn H N) fun v A1 c1 s1 u a4 H1 r1 => .at (.hold (P.truth (hn.le h1) H1 r1))
set_option tactic.hygienic true in
theorem uz (LZ : wN Z) (P : bY Z) (S : aC Z n ih) (h1 : 1 ≤ n) (hn : Room (n + 1) Ar cs) {e : E} {x : Expr} (he : aW Z.nm m sc e x = true) (H : St Z L cs c A s) (N : aS Z sc c L cs env) :
 au Z L cs Ar (isTrue x env (eval x env)) BR (J5 Z.Γ ih e A) c s := by
 have cw : Room n Ar cs := hn.le (Nat.le_succ n)
 cases m with
 | zero => cases he
 | succ m =>
 have Fi := he
 replace he := bL he
 induction he
 case not_ e y pos he =>
  exact au.bind H.bw (S.c he cw H N) fun t A1 c1 s1 u a4 H1 r1 => by subst r1; exact .ok H1 rfl
 case and_ es _ _ he =>
  exact jY LZ S h1 cw es he H N
 case or_ es _ _ he =>
  exact l8 S cw es he H N
 case cmp a ops es l os xs pos he =>
  refine (ao he).elim fun he _ => ?_
  refine (ao he).elim fun he hl => ?_
  refine (ao he).elim fun he hm => ?_
  refine (ao he).elim fun he h4 => ?_
  refine (ao he).elim fun h2 h3 => ?_
  refine au.bind H.bw (S.e h2 cw H N) fun v A1 c1 s1 u a4 H1 r1 => ?_
  refine ae (eh (by simpa using hm)) ?_
  exact gB P S h1 cw ops h3 h4 (by simpa using hl) H1 (N.mono a4.grown) r1
 case ite_ a b d t y z pos he => exact .none
 all_goals exact uy P S h1 cw Fi H N rfl
theorem bN (I : aC Z n ih) (hf : env.frame = some L) (hn : Room n Ar cs) : ∀ (b : List S) {xs : List Stmt} {c : Cfg} {A : AS} {s : Shared}, encL (cE Z.nm m sc) b xs = true → St Z L cs c A s → aS Z sc c L cs env →
 au Z L cs Ar (execs xs env) FR (aX ih b A) c s
 | [], [], _, _, _, _, H, _ => .ok H rfl
 | [], _ :: _, _, _, _, h, _, _ => by cases h
 | _ :: _, [], _, _, _, h, _, _ => by cases h
 | b :: bs, x :: xs, c, A, s, h, H, N => by
  refine au.bind H.bw (I.s (ao h).1 hf hn H N) fun f A1 c1 s1 u a4 H1 r1 => ?_
  cases f with
  | next => subst r1; exact bN I hf hn bs (ao h).2 H1 (N.mono a4.grown)
  | brk => subst r1; exact .ok H1 rfl
  | cont => subst r1; exact .ok H1 rfl
  | ret v => obtain ⟨w, rfl, r2⟩ := r1; exact .ok H1 ⟨w, rfl, r2⟩
theorem gE (G : Z.Glob) {i : Nat} {id : Str} {pos : Pos} (h : di Z.nm sc i (.Name id pos) = true) (H : St Z L cs c A s) (N : aS Z sc c L cs env) {v : V} {u : Value} (r : VR c v u) :
 au Z L cs Ar (bindName env id u) UR (ok () (aN i v A)) c s := .done fun Q E k => by
 refine (ao h).elim fun h hd => ?_
 refine (ao h).elim fun hi hk => ?_
 cases eI hi
 have kd : env.kindOf (Z.nm i) = some .local := by
  rcases N.names _ .local (kind_of hk) with h | h
  ·exact h
  ·cases h.1
 refine (H.ns).elim fun m aj => (aj).elim fun h1 h2 => ?_
 refine wpAny_bindName (wpAny_storeName_local kd (N.locals ▸ h1) (fun h' hn hs => ?_) ?_)
 ·rw [N.locals] at hn hs
  refine k () _ c (Le.store H.oO (Ns.has hn) (Ns.gj h1) hs) (H.store (h' := h') G.inj r (fun m' Mh => ?_) hs) trivial
  have : m' = m := Mh.eq_nsMap.trans h1.eq_nsMap.symm
  cases this
  exact hn
 ·refine ae N.kind ?_; rfl
theorem cQ (G : Z.Glob) {i : Nat} {id : Str} {pos : Pos} (h : di Z.nm sc i (.Name id pos) = true) (H : St Z L cs c A s) (N : aS Z sc c L cs env) {v : V} {u : Value} (r : VR c v u) :
 au Z L cs Ar (assign (.Name id pos) env u) UR (ok () (aN i v A)) c s := .at (gE G h H N r)
theorem e8 (G : Z.Glob) : ∀ {is : List Nat} {xs : List Expr} {vs : List V} {us : List Value} {c : Cfg} {A A' : AS} {s : Shared}, encL (di Z.nm sc) is xs = true → St Z L cs c A s → aS Z sc c L cs env → dk c vs us → cT is vs A = some A' →
 au Z L cs Ar (assignInOrder ((assignEach xs env).map (·.2)) us) UR (ok () A') c s
 | [], xs, vs, us, c, A, A', s, h, H, N, r, e => by
  obtain rfl := cL h
  cases vs with
  | cons => cases e
  | nil => obtain rfl := r.nil_inv; obtain rfl := aO e; exact .ok H trivial
 | i :: is, xs, vs, us, c, A, A', s, h, H, N, r, e => by
  obtain ⟨x, xs, rfl, hx, h2⟩ := aQ h
  cases vs with
  | nil => cases e
  | cons v vs =>
  obtain ⟨u, us, rfl, r1, r⟩ := r.cons_inv
  obtain ⟨id, pos, rfl⟩ := tA hx
  refine (?_ : au Z L cs Ar (holding us (assign (.Name id pos) env u) >>= _) UR (aD.ok () A') c s)
  exact au.bind1 H.bw (.hold (cQ G hx H N r1)) fun c1 s1 u1 a4 H1 J => e8 G h2 H1 (N.mono a4.grown) (r.imp fun J J y => y.mono a4.grown) e
end
theorem hJ {h : Heap} {a : Nat} {o : Obj} (e : h.get? a = some o) (n : jR o) : ∀ o', h.get? a = some o' → jR o' := fun o' e' => by rw [e] at e'; cases e'; exact n
theorem wQ {d : Nat} {h h' : Heap} {o o' : Obj} (e : h.get? d = some o) (n : jR o) (e' : h'.get? d = some o') (k : ∀ b ob, b ≠ d → h.get? b = some ob → h'.get? b = some ob) : a6 h h' := a6.mk' fun b ob eb =>
 (Decidable.em (b = d)).elim (fun q => by subst q; rw [e] at eb; obtain rfl := aO eb; exact ⟨o', e', fun t => absurd (.inl t) n.1, fun t => absurd t n.2.1, fun t => absurd t n.2.2, fun t => absurd (.inr t) n.1⟩) fun q => ⟨ob, k b ob q eb, id, id, id, fun J => rfl⟩
section
variable {Z : aL} {n : Nat} {ih : bM} {L : Nat} {cs : Fm} {Ar : Around} {c : Cfg} {A : AS} {s : Shared} {env : Env} {sc : cG} {m : Nat}
theorem St.locs {locs : List (Nat × V)} (H : St Z L cs c A s) (h : ∀ x v, af x locs = some v → af x A.locs = some v) : St Z L cs c { A with locs := locs } s :=
 H.next ⟨H.base, H.gens, H.os, H.n, H.nv, H.vars, H.objs, H.lt, H.lo, H.up, H.apart⟩ ⟨H.oO, H.bw, H.off, by obtain ⟨m, h1, h2⟩ := H.ns; exact ⟨m, h1, fun x v e => h2 x v (h x v e)⟩⟩ rfl rfl (Le.refl ..)
theorem au.subst {α β : Type} {R : Cfg → α → β → Prop} {t : Sem β} {a : α} {A B : AS} (h : au Z L cs Ar t R (aD.ok a A) c s) (k : ∀ c s, St Z L cs c A s → St Z L cs c B s) : au Z L cs Ar t R (aD.ok a B) c s := fun l e => by
 obtain rfl := aO e
 refine az (h _ rfl) (fun u s' q => ?_) fun e s' q => ?_
 ·obtain ⟨a', A', c', q1, q2, q3, q4⟩ := q
  cases msg q1
  exact ⟨a, B, c', .head _, q2, k _ _ q3, q4⟩
 ·obtain ⟨i, B', d, y1, _⟩ := q
  cases msg y1
theorem cM : ∀ {is : List Nat} {vs : List V} {A A' : AS}, cT is vs A = some A' → is.length = vs.length
 | [], [], _, _, _ => rfl
 | [], _ :: _, _, _, e => by cases e
 | _ :: _, [], _, _, e => by cases e
 | _ :: _, _ :: _, _, _, e => by refine ae List.length_cons ?_; refine ae List.length_cons ?_; refine ae (cM (show cT _ _ (aN _ _ _) = _ from e)) ?_; rfl
theorem DT {α : Type} : ∀ {l : List α}, l.length = 2 → ∃ a b, l = [a, b]
 | [a, b], _ => ⟨a, b, rfl⟩
theorem DU {α : Type} : ∀ {l : List α}, l.length = 3 → ∃ a b d, l = [a, b, d]
 | [a, b, d], _ => ⟨a, b, d, rfl⟩
theorem ei {i x : Nat} {v : V} {B : AS} : af x (aN i v B).locs = if x = i then some v else af x B.locs := bG ..
theorem o3 {is : List Nat} {vs : List V} {A' : AS} (hl : is.length = 2 ∨ is.length = 3) (hd : is.Nodup) (e : cT is vs A = some A') :
 ∃ GC, cT is.reverse vs.reverse A = some GC ∧ ∀ c s, St Z L cs c GC s → St Z L cs c A' s := by
 have hv := cM e
 rcases hl with h | h
 ·rw [h] at hv
  obtain ⟨i, j, rfl⟩ := DT h
  obtain ⟨a, b, rfl⟩ := DT hv.symm
  obtain rfl := aO (show some _ = some _ from e)
  have wG : i ≠ j := by simp at hd; exact hd
  refine ⟨_, rfl, fun c s H => St.locs (A := aN i a (aN j b A)) (locs := (aN j b (aN i a A)).locs) H fun x v => ?_⟩
  refine ae ei ?_; refine ae ei ?_; refine ae ei ?_; refine ae ei ?_
  by_cases h1 : x = i
  ·refine ae (if_pos h1) ?_; refine ae (if_pos h1) ?_; refine ae (if_neg (h1 ▸ wG)) ?_; exact id
  ·refine ae (if_neg h1) ?_; refine ae (if_neg h1) ?_; exact id
 ·rw [h] at hv
  obtain ⟨i, j, k, rfl⟩ := DU h
  obtain ⟨a, b, d, rfl⟩ := DU hv.symm
  obtain rfl := aO (show some _ = some _ from e)
  have hh : (i ≠ j ∧ i ≠ k) ∧ j ≠ k := by simpa using hd
  refine ⟨_, rfl, fun c s H => St.locs (A := aN i a (aN j b (aN k d A))) (locs := (aN k d (aN j b (aN i a A))).locs) H fun x v => ?_⟩
  refine ae ei ?_; refine ae ei ?_; refine ae ei ?_; refine ae ei ?_; refine ae ei ?_; refine ae ei ?_
  by_cases h1 : x = i
  ·refine ae (if_pos h1) ?_; refine ae (if_pos h1) ?_; refine ae (if_neg (h1 ▸ hh.1.2)) ?_; refine ae (if_neg (h1 ▸ hh.1.1)) ?_; exact id
  ·refine ae (if_neg h1) ?_; refine ae (if_neg h1) ?_
   by_cases h2 : x = j
   ·refine ae (if_pos h2) ?_; refine ae (if_pos h2) ?_; refine ae (if_neg (h2 ▸ hh.2)) ?_; exact id
   ·refine ae (if_neg h2) ?_; refine ae (if_neg h2) ?_; exact id
theorem iI {i : Nat} {x : Expr} (h : di Z.nm sc i x = true) : ∃ id p, x = .Name id p ∧ id = Z.nm i := by
 obtain ⟨id, p, rfl⟩ := tA h
 exact ⟨id, p, rfl, eI (ao (ao h).1).1⟩
theorem eL : ∀ {is : List Nat} {xs : List Expr}, encL (di Z.nm sc) is xs = true → xs.map lY = is.map Z.nm ∧ (∀ x ∈ xs, ∃ id p, x = Expr.Name id p)
 | [], [], _ => ⟨rfl, fun J h => nomatch h⟩
 | [], _ :: _, h => by cases h
 | _ :: _, [], h => by cases h
 | i :: is, x :: xs, h => by
  refine (ao h).elim fun h1 h2 => ?_
  obtain ⟨id, p, rfl, e⟩ := iI h1
  refine (eL h2).elim fun q1 q2 => ?_
  refine ⟨by refine ae List.map_cons ?_; refine ae List.map_cons ?_; refine ae q1 ?_; exact congrArg (· :: _) e, fun y hy => ?_⟩
  rcases fg hy with rfl | hy
  ·exact ⟨_, _, rfl⟩
  ·exact q2 y hy
theorem gk : ∀ {xs : List Expr}, (∀ x ∈ xs, ∃ id p, x = Expr.Name id p) → assignEach xs env = xs.map fun x => (false, assign x env)
 | [], _ => rfl
 | x :: xs, h => by
  obtain ⟨id, p, rfl⟩ := h x (.head _)
  refine (?_ : (false, _) :: assignEach xs env = _)
  refine ae (gk fun y hy => h y (.tail _ hy)) ?_; rfl
noncomputable def bindM (is : List Nat) (v : V) (A : AS) : Option AS := match A.hd with
 | some _ => none
 | none => match v with
  | .loc i => match A.heap.get i with
   | some (.tup vs) => cT is vs A
   | _ => none
  | _ => none
set_option tactic.hygienic true in
theorem l9 {is : List Nat} {v : V} {A A' : AS} (e : bindM is v A = some A') : A.hd = none ∧ ∃ i vs, v = .loc i ∧ (A.heap.get i = some (.tup vs) ∨ A.heap.get i = some (.list vs)) ∧ cT is vs A = some A' := by
 delta bindM at e
 generalize hh : A.hd = h at e
 cases h with
 | some _ => exact no e
 | none =>
 refine ⟨rfl, ?_⟩
 cases v <;> first | exact no e | skip
 rename_i i
 dsimp only at e
 generalize hm : A.heap.get i = o at e
 cases o with
 | none => exact no e
 | some ob =>
 cases ob <;> first | exact no e | skip
 exact ⟨_, _, rfl, .inl hm, e⟩
theorem o4 {is : List Nat} {v : V} (h : 2 ≤ is.length) : jO is v A = bindM is v A := by
 match is, h with
 | _ :: _ :: _, _ => rfl
theorem jZ (G : Z.Glob) (P2 : bQ Z) (h1 : Room 1 Ar cs) {is : List Nat} {xs : List Expr} {v : V} {u : Value} (h : encL (di Z.nm sc) is xs = true) (h2 : 2 ≤ is.length) (H : St Z L cs c A s) (N : aS Z sc c L cs env) (r : VR c v u) :
 au Z L cs Ar (unpack u (assignEach xs env)) UR (match jO is v A with | some A => aD.ok () A | none => none) c s := by
 refine ae (o4 h2) ?_
 have key : ∀ i vs A', A.hd = none → v = .loc i → A.heap.get i = some (.tup vs) ∨ A.heap.get i = some (.list vs) → cT is vs A = some A' → au Z L cs Ar (unpack u (assignEach xs env)) UR (aD.ok () A') c s := by
  intro i vs A' hh hv hi e
  subst hv
  obtain ⟨cN, rfl⟩ := r
  have hlen : is.length = vs.length := cM e
  have q := eL h
  have hx := gk (env := env) q.2
  have DV := dT h
  delta unpack
  have hf : (assignEach xs env).findIdx? (·.1) = none := by
   rw [hx, List.findIdx?_eq_none_iff]
   intro y hy
   obtain ⟨x, _, rfl⟩ := yB hy
   rfl
  refine ae hf ?_; refine ae (show (assignEach xs env).length = vs.length by rw [hx, List.length_map, ← DV, hlen]) ?_
  exact au.bind1 H.bw (.hold (P2.yR h1 H hh hi)) fun c1 s1 us a4 H1 r1 => e8 G h H1 (N.mono a4.grown) r1 e
 cases qR : bindM is v A with
 | none => exact .none
 | some A' =>
  obtain ⟨hh, i, vs, hv, hi, e⟩ := l9 qR
  exact key i vs _ hh hv hi e
set_option tactic.hygienic true in
theorem fQ (G : Z.Glob) (P : bY Z) (P2 : bQ Z) (I : aC Z n ih) (h1 : 1 ≤ n) (hn : Room n Ar cs) {t : T} {x : Expr} {v : V} {u : Value} (h : gy Z.nm m sc t x = true) (H : St Z L cs c A s) (N : aS Z sc c L cs env) (r : VR c v u) :
 au Z L cs Ar (assign x env u) UR (asg Z.Γ ih t v A) c s := by
 have hb : Room 1 Ar cs := hn.le h1
 replace h := dw h
 induction h
 case loc i id p h =>
  exact cQ G h H N r
 case dc => exact .none
 case av e f o a pos h =>
  refine (ao h).elim fun ha he => ?_
  cases eI ha
  refine au.bind H.bw (.hold (I.e he hn H N)) fun b A1 c1 s1 w a4 H1 r1 => .at ?_
  exact .conv (fun Q E q => aa (az q (fun J J y => fo y) fun J J y => y)) (.hold (P2.BM hb H1 r1 (r.mono a4.grown)))
 case sub o i p q pos h =>
  refine (ao h).elim fun h hi => ?_
  refine (ao h).elim fun h0 ho => ?_
  refine au.bind H.bw (.hold (I.e ho hn H N)) fun b A1 c1 s1 w a4 H1 r1 => ?_
  refine au.bind H1.bw (.hold (I.e hi hn H1 (N.mono a4.grown))) fun d A2 c2 s2 w2 le2 H2 r2 => .at ?_
  exact .conv (fun Q E q => aa (az q (fun J J y => fo y) fun J J y => y)) (.hold (P2.ni hb H2 (r1.mono le2.grown) r2 (r.mono (a4.grown.trans le2.grown))))
 case iA o lo hi p l y oZ pos h =>
  refine (ao h).elim fun h h3 => ?_
  refine (ao h).elim fun ho h2 => ?_
  refine au.bind H.bw (.hold (I.e ho hn H N)) fun b A1 c1 s1 uo a4 H1 r1 => ?_
  refine .conv (t' := valueOrNone (evalOpt l env) >>= fun a => holding [a] (valueOrNone (evalOpt y env)) >>= fun b => (newFields "slice" [a, b, .none] >>= fun i => standAt pos >>= fun J => holding [u, uo, i] (setItem uo i u))) (fun Q E q Γ p' fh hC => ?_) ?_
  ·have q := q Γ p' fh hC
   have ev : eval (.Slice l y none oZ) env = (valueOrNone (evalOpt l env) >>= fun a => holding [a] (valueOrNone (evalOpt y env)) >>= fun b => holding [a, b] (pure .none) >>= fun d => newFields "slice" [a, b, d]) := rfl
   refine ae ev ?_
   simp only [Sem.wp_bind', Sem.wp_holding, Sem.wp_pure, Sem.wp_release] at q ⊢
   exact q
  ·refine au.bind H1.bw (dR I hn h2 H1 (N.mono a4.grown)) fun a A2 c2 s2 ua le2 H2 r2 => ?_
   refine au.bind H2.bw (.hold (dR I hn h3 H2 ((N.mono a4.grown).mono le2.grown))) fun b A3 c3 s3 ub dU H3 r3 => ?_
   exact P2.qT hb H3 (r1.mono (le2.grown.trans dU.grown)) (r2.mono dU.grown) r3 (r.mono ((a4.grown.trans le2.grown).trans dU.grown)) fun J => rfl
 case tup is xs k pos h =>
  refine (ao h).elim fun h hl => ?_
  refine (ao h).elim fun hx _ => ?_
  exact .at (jZ G P2 hb hx (of_decide_eq_true hl) H N r)
end
def cn (s : Shared) (x : Nat) : Prop := ∃ o, s.heap.get? x = some o ∧ dP o
section
variable {Z : aL} {n : Nat} {ih : bM} {L : Nat} {cs : Fm} {Ar : Around} {c c' : Cfg} {A : AS} {s s' : Shared} {env : Env} {sc : cG} {m : Nat}
theorem cn.ck {x : Nat} (y : cn s x) (p : a6 s.heap s'.heap) : cn s' x := by refine (y).elim fun o aj => (aj).elim fun e w => ?_; exact by refine (p x o e).elim fun o' aj => (aj).elim fun e' v => ?_; exact ⟨o', e', v.no w⟩
theorem Hp.wR (H : Hp Z c A s) (hb : ∀ b o, Z.h₀.get? b = some o → s.heap.get? b = some o → s'.heap.get? b = some o)
 (hk : ∀ i, i < c.n → (∀ ob, s.heap.get? (c.σ i).1 = some ob → ¬ dA ob → s'.heap.get? (c.σ i).1 = some ob) ∧ ∀ ob, s.heap.get? (c.σ i).2 = some ob → ¬ dA ob → s'.heap.get? (c.σ i).2 = some ob)
 (hs : a6 s.heap s'.heap) (hg : s'.gens = s.gens) (ho : s'.os = s.os) : Hp Z c A s' where
 base := fun b o e => hb b o e (H.base b o e)
 gens := hg.trans H.gens
 os := ho.trans H.os
 n := H.n
 nv := H.nv
 vars := H.vars
 objs := fun i o e => (H.objs i o e).keep (bu.refl c) (H.lt i o e) (hk i (H.lt i o e)).1 (hk i (H.lt i o e)).2 hs.l
 lt := H.lt
 lo := H.lo
 up := fun i hi => ⟨hs.has (H.up i hi).1, hs.has (H.up i hi).2⟩
 apart := H.apart
theorem a9.same {o o' : Obj} (h1 : o'.cls = o.cls) (h2 : o'.data = o.data) (x : a9 o) : a9 o' := by refine (x).elim fun a aj => (aj).elim fun vs ay => (ay).elim fun b c => ?_; exact ⟨h1.trans a, vs, h2.trans b, c⟩
theorem bc.same {o o' : Obj} (h1 : o'.cls = o.cls) (h2 : o'.data = o.data) (x : bc o) : bc o' := by refine (x).elim fun a aj => (aj).elim fun vs ay => (ay).elim fun q aP => (aP).elim fun t bF => (bF).elim fun b c => ?_; exact ⟨h1.trans a, vs, q, t, h2.trans b, c⟩
theorem dP.same {o o' : Obj} (h1 : o'.cls = o.cls) (h2 : o'.data = o.data) (x : dP o) : dP o' := by refine (x).elim fun aj ay => (aj).elim fun C a => (ay).elim fun vs aP => (aP).elim fun T bF => (bF).elim fun b c => ?_; exact ⟨⟨C, h1.trans a⟩, vs, T, h2.trans b, c⟩
theorem St.slots (H : St Z L cs c A s) {h' : Heap} (x : Heap.SlotsOnly (cs.frs.filterMap (·.frame)) s.heap h') : Le Z L c s c { s with heap := h' } ∧ St Z L cs c A { s with heap := h' } := by
 have pr : a6 s.heap h' := a6.mk' fun b o e => by
  obtain ⟨sl, e'⟩ := x.2.2 b o e
  refine ⟨_, e', a9.same rfl rfl, dP.same rfl rfl, bc.same rfl rfl, fun t => ?_⟩
  by_cases hm : b ∈ cs.frs.filterMap (·.frame)
  ·obtain ⟨o2, e2, hd⟩ := (H.outs b hm).2.1
   rw [e] at e2; obtain rfl := aO e2
   exact (dA.notDict (.inr t) hd).elim
  ·have := (x.2.1 b hm).trans e
   rw [e'] at this; exact aO this
 have old : ∀ b o, Z.h₀.get? b = some o → s.heap.get? b = some o → h'.get? b = some o := fun b o e0 e => (x.2.1 b fun hm => by rw [(H.outs b hm).1] at e0; cases e0).trans e
 have le : Le Z L c s c { s with heap := h' } := ⟨Nat.le_refl _, Nat.le_refl _, fun J J => rfl, fun J J => ⟨rfl, rfl, rfl⟩, pr, old, fun b o e J J => by
  by_cases hm : b ∈ cs.frs.filterMap (·.frame)
  ·refine (x.2.2 b o e).elim fun sl e' => ?_
   refine ((H.outs b hm).2.1).elim fun o2 aj => (aj).elim fun e2 hd => ?_
   rw [e] at e2; obtain rfl := aO e2
   exact ⟨_, e', .inr (.inl ⟨hd, sl, rfl⟩)⟩
  ·exact ⟨o, (x.2.1 b hm).trans e, .inl rfl⟩, fun i h h' => absurd h (Nat.not_le_of_lt h')⟩
 refine ⟨le, H.next (H.toHp.wR (s' := { s with heap := h' }) old (fun i hi => ⟨fun ob e J => (x.2.1 _ fun hm => ((H.outs _ hm).2.2 i hi).1 rfl).trans e, fun ob e J => (x.2.1 _ fun hm => ((H.outs _ hm).2.2 i hi).2 rfl).trans e⟩) pr rfl rfl) ⟨H.oO, pr.has H.bw, H.off, ?_⟩ rfl rfl le⟩
 refine (H.ns).elim fun m aj => (aj).elim fun ay h3 => (ay).elim fun o aP => (aP).elim fun es bF => (bF).elim fun ep cZ => (cZ).elim fun h1 h2 => ?_
 obtain ⟨sl, e'⟩ := x.2.2 L o h1
 exact ⟨m, ⟨_, es, ep, e', h2⟩, h3⟩
theorem St.GD (H : St Z L cs c A s) {T : Nat} {o o' : Obj} (h0 : Z.h₀.get? T = none) (e : s.heap.get? T = some o) (t : a9 o) (t' : a9 o') {h' : Heap} (e' : h'.get? T = some o') (x : Heap.SameBut T s.heap h') :
 Le Z L c s c { s with heap := h' } ∧ St Z L cs c A { s with heap := h' } := by
 have ne : ∀ b ob, s.heap.get? b = some ob → ¬ dA ob → b ≠ T := fun b ob e1 nt q => by rw [q, e] at e1; obtain rfl := aO e1; exact nt (.inl t)
 have pr : a6 s.heap h' := a6.mk' fun b ob e1 => by
  by_cases q : b = T
  ·rw [q, e] at e1; obtain rfl := aO e1
   exact ⟨o', q ▸ e', fun J => t', fun ⟨⟨C, w⟩, _⟩ => by (have := t.1; rw [w] at this; cases this), fun ⟨w, _⟩ => by (have := t.1; rw [w] at this; injection this with this; exact absurd this (by decide)), fun ⟨w, _⟩ => by (have := t.1; rw [w] at this; cases this)⟩
  ·exact ⟨ob, (x.2 b q).trans e1, id, id, id, fun J => rfl⟩
 have old : ∀ b ob, Z.h₀.get? b = some ob → s.heap.get? b = some ob → h'.get? b = some ob := fun b ob e0 e1 => (x.2 b (Has.ne ⟨ob, e0⟩ h0)).trans e1
 have le : Le Z L c s c { s with heap := h' } := ⟨Nat.le_refl _, Nat.le_refl _, fun J J => rfl, fun J J => ⟨rfl, rfl, rfl⟩, pr, old, fun b ob e1 J J => by
  by_cases q : b = T
  ·rw [q, e] at e1; obtain rfl := aO e1
   exact ⟨o', q ▸ e', .inr (.inr ⟨.inl t, .inl t'⟩)⟩
  ·exact ⟨ob, (x.2 b q).trans e1, .inl rfl⟩, fun i h h' => absurd h (Nat.not_le_of_lt h')⟩
 refine ⟨le, H.next (H.toHp.wR (s' := { s with heap := h' }) old (fun i hi => ⟨fun ob e nt => (x.2 _ (ne _ ob e nt)).trans e, fun ob e nt => (x.2 _ (ne _ ob e nt)).trans e⟩) pr rfl rfl) ⟨H.oO, pr.has H.bw, H.off, ?_⟩ rfl rfl le⟩
 refine (H.ns).elim fun m aj => (aj).elim fun ay h3 => (ay).elim fun ob aP => (aP).elim fun es bF => (bF).elim fun ep cZ => (cZ).elim fun h1 h2 => ?_
 exact ⟨m, ⟨ob, es, ep, (x.2 _ (ne _ ob h1 fun w => w.notDict ⟨es, ep, h2.1⟩)).trans h1, h2⟩, h3⟩
theorem St.same (H : St Z L cs c A s) {j : Nat} {o : ax} (hm : A.heap.get j = some o) (hk : ∀ b o, s.heap.get? b = some o → b ≠ (c.σ j).1 → b ≠ (c.σ j).2 → s'.heap.get? b = some o)
 (hs : a6 s.heap s'.heap) (ho : br Z c s'.heap j o) (hg : s'.gens = s.gens) (oP : s'.os = s.os) : St Z L cs c A s' := by
 have this := H.change (H.lt j o hm) hk hs ho hg oP
 refine H.next ⟨this.base, this.gens, this.os, this.n, this.nv, this.vars, fun i ob e => ?_, H.lt, this.lo, this.up, this.apart⟩ this.toFrm rfl rfl (Le.change H.toHp (H.lt j o hm) hk hs)
 refine this.objs i ob ?_
 refine (?_ : (A.heap.put j o).get i = _)
 rw [Tr.ba]
 by_cases q : i = j
 ·refine ae (if_pos q) ?_; refine bK hm ?_; refine bK q ?_; exact e
 ·refine ae (if_neg q) ?_; exact e
theorem St.DW (H : St Z L cs c A s) {i D : Nat} (hi : A.heap.get i = some (.exc D)) {oe : Obj} {vs : Array Value} (h1 : s.heap.get? (c.σ i).1 = some oe) (hd : oe.data = .fields vs) {T : Nat} {oT : Obj} (h0 : Z.h₀.get? T = none) (eT : s.heap.get? T = some oT) (t : a9 oT) :
 Le Z L c s c { s with heap := s.heap.update (c.σ i).1 (Obj.mapFields (·.setIfInBounds 1 (.ref T))) } ∧ St Z L cs c A { s with heap := s.heap.update (c.σ i).1 (Obj.mapFields (·.setIfInBounds 1 (.ref T))) } ∧ cn { s with heap := s.heap.update (c.σ i).1 (Obj.mapFields (·.setIfInBounds 1 (.ref T))) } (c.σ i).1 := by
 have fi := H.lt i _ hi
 obtain ⟨BN, J8, g1, g2, g4, g5, g6⟩ := H.objs i _ hi
 rw [h1] at g1; obtain rfl := aO g1
 rw [hd] at g4; cases g4
 have BO := Obj.data_mapFields hd (·.setIfInBounds 1 (Value.ref T))
 have e' := Heap.get?_update_self (Obj.mapFields (·.setIfInBounds 1 (Value.ref T))) h1 (Obj.isFreed_of_fields BO)
 have yx : (Obj.mapFields (·.setIfInBounds 1 (Value.ref T)) oe).cls = .ref D := (Obj.cls_mapFields _ _).trans g2
 have noted : dP (Obj.mapFields (·.setIfInBounds 1 (Value.ref T)) oe) := ⟨⟨D, yx⟩, _, T, BO, by simp -iota only [Array.getElem?_setIfInBounds_self]; refine ae (if_pos (by omega)) ?_; rfl⟩
 have GF : ∀ b ob, s.heap.get? b = some ob → b ≠ (c.σ i).1 → (s.heap.update (c.σ i).1 (Obj.mapFields (·.setIfInBounds 1 (.ref T)))).get? b = some ob := fun b ob e q => (Heap.get?_update_other _ _ (Ne.symm q)).trans e
 have pr : a6 s.heap (s.heap.update (c.σ i).1 (Obj.mapFields (·.setIfInBounds 1 (.ref T)))) := a6.mk' fun b ob e => by
  by_cases q : b = (c.σ i).1
  ·rw [q, h1] at e; obtain rfl := aO e
   exact ⟨_, q ▸ e', fun w => (by have := w.1; rw [g2] at this; cases this), fun J => noted, fun w => (by have := w.1; rw [g2] at this; cases this), fun w => (by have := w.1; rw [g2] at this; cases this)⟩
  ·exact ⟨ob, GF b ob e q, id, id, id, fun J => rfl⟩
 have hk : ∀ b o, s.heap.get? b = some o → b ≠ (c.σ i).1 → b ≠ (c.σ i).2 → (s.heap.update (c.σ i).1 (Obj.mapFields (·.setIfInBounds 1 (.ref T)))).get? b = some o := fun b o e q J => GF b o e q
 have neT : T ≠ (c.σ i).1 := fun q => by rw [q, h1] at eT; obtain rfl := aO eT; have := t.1; rw [g2] at this; cases this
 refine ⟨Le.change (s' := { s with heap := _ }) H.toHp fi hk pr, ?_, _, e', noted⟩
 exact H.same (s' := { s with heap := s.heap.update (c.σ i).1 (Obj.mapFields (·.setIfInBounds 1 (.ref T))) }) hi hk pr ⟨_, _, e', yx, BO, by refine ae Array.size_setIfInBounds ?_; exact g5, .inr ⟨T, oT, by simp -iota only [Array.getElem?_setIfInBounds_self]; refine ae (if_pos (by omega)) ?_; rfl, h0, GF _ _ eT neT, t⟩⟩ rfl rfl
theorem ma : ∀ {l : List Env}, (∀ e ∈ l, e.scope.kind ≠ .module ∧ ∃ b, e.frame = some b) → (∀ b ∈ l.filterMap (·.frame), uh Z c s b) → s.heap.FunFrames Z.h₀ l
 | [], _, _ => trivial
 | e :: r, h1, h2 => by
  refine (h1 e (.head _)).elim fun k aj => (aj).elim fun b hb => ?_
  have hm : ∀ x, x ∈ (e :: r).filterMap (·.frame) ↔ x = b ∨ x ∈ r.filterMap (·.frame) := fun x => by rw [List.filterMap_cons, hb, List.mem_cons]
  refine (h2 b ((hm b).mpr (.inl rfl))).elim fun f0 aj => (aj).elim fun ay _ => (ay).elim fun o aP => (aP).elim fun f1 bF => (bF).elim fun es cZ => (cZ).elim fun ep f2 => ?_
  exact ⟨k, ⟨b, o, hb, f0, f1, fun vs q => by rw [f2] at q; cases q⟩, ma (fun x hx => h1 x (.tail _ hx)) fun x hx => h2 x ((hm x).mpr (.inr hx))⟩
theorem rq {head : Value} {L : Nat} {pl : List Value} : a9 { cls := .type "traceback", dict := none, data := .fields ([head, .ref L, .none, rawInt L, .none] ++ (if pl.isEmpty then List.replicate 6 Value.none else pl)).toArray } :=
 ⟨rfl, _, rfl, by simp -iota only [List.size_toArray, List.length_append, List.length_cons, List.length_nil]; omega⟩
theorem i8 {rest : List Env} (hn : Room n Ar cs) (top : cs.frs = env :: rest) (hf : env.frame = some L) (H : St Z L cs c A s) {i D : Nat} (hi : A.heap.get i = some (.exc D)) {head : Value} {yS : Bool} {Q : Unit → Shared → Prop} {E : Value → Shared → Prop}
 (k : ∀ s', Le Z L c s c s' → St Z L cs c A s' → cn s' (c.σ i).1 → Q () s') :
 wpAny Z.M Ar (do let a ← frameOf env; let pl ← entryPlaceOf L yS; let b ← EntryCells.newEntry head a .none (rawInt L) .none pl; setField (.ref (c.σ i).1) 1 b) Q E s := by
 have nD := hn.2.2.2.1
 have hl := ma (s := s) hn.2.2.2.2 H.outs
 rw [top] at nD hl
 refine wpAny_bind (wpAny_frameOf_fun nD hl hf fun bZ AN => ?_)
 rw [← top] at AN
 refine (H.slots AN).elim fun a4 H1 => ?_
 refine wpAny_bind (wpAny_entryPlaceOf fun pl Fj => ?_)
 refine wpAny_bind (wpAny_newObj_type ?_ (Fj.sizeOk5 _ _ _ _ _))
 have hk : ∀ b o, bZ.get? b = some o → (bZ.push { cls := .type "traceback", dict := none, data := .fields ([head, .ref L, .none, rawInt L, .none] ++ (if pl.isEmpty then List.replicate 6 Value.none else pl)).toArray }).get? b = some o := fun b o e => Heap.get?_push_of_some _ e
 have le2 : Le Z L c { s with heap := bZ } c { s with heap := (bZ.push { cls := .type "traceback", dict := none, data := .fields ([head, .ref L, .none, rawInt L, .none] ++ (if pl.isEmpty then List.replicate 6 Value.none else pl)).toArray }) } := Le.bk hk
 have H2 := H1.bk (s' := { s with heap := (bZ.push { cls := .type "traceback", dict := none, data := .fields ([head, .ref L, .none, rawInt L, .none] ++ (if pl.isEmpty then List.replicate 6 Value.none else pl)).toArray }) }) hk rfl rfl
 obtain ⟨oe, vs, g1, g2, g4, g5, _⟩ := H2.objs i _ hi
 have eT := Heap.get?_push_size bZ (o := { cls := .type "traceback", dict := none, data := .fields ([head, .ref L, .none, rawInt L, .none] ++ (if pl.isEmpty then List.replicate 6 Value.none else pl)).toArray }) rfl
 have h0 : Z.h₀.get? bZ.objs.size = none := by
  cases e : Z.h₀.get? bZ.objs.size with
  | none => rfl
  | some o => exact absurd (Heap.lt_size (H1.base _ _ e)) (Nat.lt_irrefl _)
 refine wpAny_setField g1 g4 (by omega) ?_
 refine (H2.DW hi g1 g4 h0 eT rq).elim fun dU aj => (aj).elim fun H3 N3 => ?_
 exact k _ ((a4.trans le2).trans dU) H3 N3
theorem a9.map {o : Obj} (t : a9 o) (x : Value) : a9 (Obj.mapFields (·.setIfInBounds 3 x) o) := by refine (t).elim fun a aj => (aj).elim fun vs ay => (ay).elim fun d z => ?_; exact ⟨(Obj.cls_mapFields _ _).trans a, _, Obj.data_mapFields d _, by refine ae Array.size_setIfInBounds ?_; exact z⟩
theorem me (H : St Z L cs c A s) {T : Nat} {o : Obj} (h0 : Z.h₀.get? T = none) (e : s.heap.get? T = some o) (t : a9 o) {x : Value} {Q : Unit → Shared → Prop} {E : Value → Shared → Prop}
 (k : ∀ s', Le Z L c s c s' → St Z L cs c A s' → Q () s') : wpAny Z.M Ar (setField (.ref T) 3 x) Q E s := by
 refine (id t).elim fun _ aj => (aj).elim fun vs ay => (ay).elim fun d z => ?_
 refine wpAny_setField e d z ?_
 refine (H.GD h0 e t (t.map x) (Heap.get?_update_self _ e (Obj.isFreed_of_fields (Obj.data_mapFields d _))) (.update ..)).elim fun le H' => ?_
 exact k _ le H'
theorem gG {rest : List Env} (hn : Room n Ar cs) (top : cs.frs = env :: rest) (hf : env.frame = some L) (H : St Z L cs c A s) {i D : Nat} (hi : A.heap.get i = some (.exc D)) {Q : Unit → Shared → Prop} {E : Value → Shared → Prop}
 (k : ∀ s', Le Z L c s c s' → St Z L cs c A s' → cn s' (c.σ i).1 → Q () s') : wpAny Z.M Ar (noteFrame (.ref (c.σ i).1) env) Q E s := by
 dsimp only [noteFrame]
 simp -iota only [hf]
 obtain ⟨oe, vs, h1, h2, h4, h5, h6⟩ := H.objs i _ hi
 rcases h6 with h6 | ⟨T, oT, h6, GG, Fo, Fp⟩
 ·refine wpAny_bind (wpAny_field h1 h4 h6 ?_)
  refine ae (if_neg (by decide)) ?_
  exact i8 hn top hf H hi k
 ·refine wpAny_bind (wpAny_field h1 h4 h6 ?_)
  refine ae (if_pos (show (Value.ref T != Value.none) = true from by simp)) ?_
  refine (id Fp).elim fun _ aj => (aj).elim fun ts ay => (ay).elim fun Mi ru => ?_
  refine wpAny_bind (wpAny_field Fo Mi (Array.getElem?_eq_getElem ru) ?_)
  by_cases q : (ts[3] == rawInt L) = true
  ·refine ae (if_pos q) ?_
   exact wpAny_pure (k s (Le.refl ..) H ⟨oe, h1, ⟨D, h2⟩, vs, T, h4, h6⟩)
  ·refine ae (if_neg q) ?_
   refine wpAny_bind (me H GG Fo Fp fun s' le H' => ?_)
   exact i8 hn top hf H' hi fun ew uA => k ew (le.trans uA)
theorem bR (H : St Z L cs c A s) {i D : Nat} (hi : A.heap.get i = some (.exc D)) {fr : Option Addr} {Q : Unit → Shared → Prop} {E : Value → Shared → Prop}
 (k : ∀ s', Le Z L c s c s' → St Z L cs c A s' → Q () s') : wpAny Z.M Ar (setFlight (.ref (c.σ i).1) fr) Q E s := by
 obtain ⟨oe, vs, h1, h2, h4, h5, h6⟩ := H.objs i _ hi
 rcases h6 with h6 | ⟨T, oT, h6, GG, Fo, Fp⟩
 ·refine wpAny_bind (wpAny_field h1 h4 h6 ?_)
  refine ae (if_neg (by decide)) ?_
  exact wpAny_pure (k s (Le.refl ..) H)
 ·refine wpAny_bind (wpAny_field h1 h4 h6 ?_)
  refine ae (if_pos (show (Value.ref T != Value.none) = true from by simp)) ?_
  exact me H GG Fo Fp k
theorem fq {β : Type} (H : St Z L cs c A s) {i D : Nat} (hi : A.heap.get i = some (.exc D)) (hN : cn s (c.σ i).1) {k : Value → Sem β} {Q : β → Shared → Prop} {E : Value → Shared → Prop} (h : ∀ T : Nat, wpAny Z.M Ar (k (.ref T)) Q E s) :
 wpAny Z.M Ar (field (.ref (c.σ i).1) 1 >>= k) Q E s := by
 refine (hN).elim fun o aj => (aj).elim fun e ay => (ay).elim fun _ aP => (aP).elim fun vs bF => (bF).elim fun T cZ => (cZ).elim fun hd h1 => ?_
 exact wpAny_bind (wpAny_field e hd h1 (h T))
theorem gm {rest : List Env} (hn : Room n Ar cs) (top : cs.frs = env :: rest) (hf : env.frame = some L) (H : St Z L cs c A s) {i D : Nat} (hi : A.heap.get i = some (.exc D)) {Q : Unit → Shared → Prop} {E : Value → Shared → Prop}
 (k : ∀ s', Le Z L c s c s' → St Z L cs c A s' → cn s' (c.σ i).1 → Q () s') : wpAny Z.M Ar (leaving env (.ref (c.σ i).1)) Q E s := by
 exact wpAny_bind (gG hn top hf H hi fun s1 a4 H1 N1 => bR H1 hi fun s2 le2 H2 => k s2 (a4.trans le2) H2 (N1.ck le2.ck))
end
section
variable {Z : aL} {n : Nat} {ih : bM} {L : Nat} {cs : Fm} {Ar : Around} {c c' : Cfg} {A : AS} {s s' : Shared} {env : Env} {sc : cG} {m : Nat}
theorem aU {α : Type} {M : Model} {A : Around} {s : Shared} {E : Value → Shared → Prop} {m : Sem α} {k : Value → Sem Unit} {Q : α → Shared → Prop}
 (h : bt M A m Q (fun e s' => bt M A (k e) (fun J ew => E e ew) E s') s) : bt M A (m.onRaise k) Q E s := fun Γ p fh hC => by
 rw [Sem.wp_onRaise]
 exact Sem.wp_mono M Γ m (fun J J J h' => h') (fun e p' s' h' => h' Γ p' fh hC) p s (h Γ p fh hC)
theorem Room.mark (hn : Room n Ar cs) (x : Nat) : Room n (Ar.mark (some (.ref x))) { cs with hd := some x } := ⟨hn.1, hn.2.1, rfl, hn.2.2.2⟩
theorem St.hand (H : St Z L cs c A s) {i : Nat} {o : ax} (hi : A.heap.get i = some o) (hN : cn s (c.σ i).1) : St Z L { cs with hd := some (c.σ i).1 } c { A with hd := some i } s :=
 ⟨⟨H.base, H.gens, H.os, H.n, H.nv, H.vars, H.objs, H.lt, H.lo, H.up, H.apart⟩, H.toFrm, H.cells, ⟨H.lt i o hi, rfl, hN⟩, H.outs, H.tabs⟩
theorem St.ry {x : Option Nat} {A' : AS} (H : St Z L cs c A s) (le : Le Z L c s c' s') (H' : St Z L { cs with hd := x } c' A' s') : St Z L cs c' { A' with hd := A.hd } s' :=
 ⟨⟨H'.base, H'.gens, H'.os, H'.n, H'.nv, H'.vars, H'.objs, H'.lt, H'.lo, H'.up, H'.apart⟩, H'.toFrm, H'.cells, H.hd.le le, H'.outs, H'.tabs⟩
theorem aS.hand (N : aS Z sc c L cs env) (x : Option Nat) : aS Z sc c L { cs with hd := x } env := ⟨N.kind, N.names, N.locals, N.globals, N.builtins, N.top, N.has, N.fr, N.code, N.cells⟩
theorem wU (H : St Z L cs c A s) {i D : Nat} (hi : A.heap.get i = some (.exc D)) : Looks Z.M s.heap (typeOf (.ref (c.σ i).1)) (.ref D) := by
 obtain ⟨oe, vs, h1, h2, _⟩ := H.objs i _ hi
 refine bK h2 ?_; exact (Looks.ld h1).andThen .now
theorem j0 {M : Model} {A : Around} {s : Shared} {E : Value → Shared → Prop} {c : Code} {h : Option Value} {Q : Flow → Shared → Prop} (hc : bj M (A.mark h) c (fun r s' => match r with
 | .ok f => Q f s'
 | .error e => bt M A (do
  if (← field e 1) == .none then unsupported "frame.own-activation:exception-without-traceback"
  setFlight e env.frame) (fun J ew => E e ew) E s') s) (Gs : h ≠ some byPass) : bt M A (runOwn c env h) Q E s := by
 exact aU (jw hc Gs)
theorem hK {M : Model} {A : Around} {s : Shared} {E : Value → Shared → Prop} {x : Value} {Q : Unit → Shared → Prop} (h : Q () s) : bt M A (theTreesLotGoes x) Q E s := .of (wpAny_theTreesLotGoes h)
set_option tactic.hygienic true in
theorem j1 {Γ : Ctx} {i : Nat} {r : bC Fl} (e : jP Γ i A = some r) : ∃ D bs, A.heap.get i = some (.exc D) ∧ af D Γ.cf = some bs ∧ r = .many [(.error i, A)] := by
 delta jP at e
 generalize A.heap.get i = ob at e
 cases ob with
 | none => exact no e
 | some ob =>
 cases ob <;> first | exact no e | skip
 rename_i D
 dsimp only at e
 generalize hx : af D Γ.cf = o at e
 cases o with
 | none => exact no e
 | some bs => exact ⟨D, bs, rfl, hx, (aO e).symm⟩
set_option tactic.hygienic true in
theorem uB (G : Z.Glob) (H : Hp Z c A s) {D : Nat} {bs : List Nat} (h : af D Z.Γ.cf = some bs) : Looks Z.M s.heap (isSubtype (.ref D) (.type "BaseException")) true ∧ Looks Z.M s.heap (typeOf (.ref D)) (.type "type") ∧ True := by
 have X := G.k.keeps H.base
 have e := G.exc D D bs bs h h
 dsimp only [exmOne] at e
 split at e
 ·rename_i hb
  exact ⟨looks_subIn X (eI hb), (kit_cls X e).1, trivial⟩
 ·cases e
set_option tactic.hygienic true in
theorem o5 (G : Z.Glob) (I : aC Z n ih) (hn : Room n Ar cs) {e : E} {z : Expr} {pos : Pos} (he : aW Z.nm m sc e z = true) (H : St Z L cs c A s) (N : aS Z sc c L cs env) :
 au Z L cs Ar (exec (.Raise (some z) none pos) env) FR (BF Z.Γ ih (some e) A) c s := by
 rw [arm_exec_Raise]
 refine .at ?_
 intro l e'
 refine aa (aa (au.use (I.e he hn H N) e' (fun v A1 c1 u s1 r' y1 y2 a4 H1 r1 => aa (aY (aq ?_))) fun i A1 c1 v s1 m1 a4 H1 r1 => ⟨i, A1, c1, m1, a4, H1, r1⟩))
 refine Classical.byContradiction fun bad => ?_
 cases v <;> first | exact no y1 | skip
 rename_i i
 generalize DX : A1.hd = hd at y1
 cases hd with
 | some _ => exact no y1
 | none =>
 have hh : Ar.handled = none := by
  have := H1.hd
  rw [DX] at this
  refine ae hn.2.2.1 ?_
  cases q : cs.hd with
  | none => rfl
  | some x => rw [q] at this; exact this.elim
 obtain ⟨D, bs, yy, hex, rfl⟩ := j1 y1
 obtain ⟨fi, rfl⟩ := r1
 refine bad (.of ?_)
 obtain ⟨oe, vs, h1, h2, h4, _⟩ := H1.objs i _ yy
 have X := G.k.keeps H1.base
 have LT := wU H1 yy
 refine (uB (Z := Z) G H1.toHp hex).elim fun lb aj => (aj).elim fun ld lt => ?_
 have J9 : ∀ {Q' : Bool → Shared → Prop} {E : Value → Shared → Prop}, Q' false s1 → wpAny Z.M Ar (isType (.ref (c1.σ i).1)) Q' E s1 := by
  intro Q' E hq
  refine wpAny_bind (wpAny_loadPart h1 ?_)
  refine ae h4 ?_; exact wpAny_pure hq
 refine wpAny_bind (wpAny_pure ?_)
 refine wpAny_bind (wpAny_holding ?_)
 refine wpAny_bind (wpAny_bind (J9 ?_))
 refine wpAny_pure ?_
 refine wpAny_bind ((LT.andThen lb).at ?_)
 refine wpAny_pure ?_
 refine wpAny_bind (J9 ?_)
 refine wpAny_bind (wpAny_bind (LT.at (wpAny_bind (ld.at ?_))))
 refine ae (if_pos (by decide)) ?_
 refine wpAny_pure ?_
 refine wpAny_bind (bR H1 yy fun s2 le2 H2 => ?_)
 exact wpAny_raiseNew_none hh ⟨i, A1, c1, y2 _ (.head _), a4.trans le2, H2, ⟨fi, rfl⟩, D, yy⟩
theorem rz (hn : Room n Ar cs) {pos : Pos} (H : St Z L cs c A s) : au Z L cs Ar (exec (.Raise none none pos) env) FR (BF Z.Γ ih none A) c s := by
 rw [arm_exec_Raise]
 refine .at ?_
 intro l e'
 have e' : (match A.hd with
  | some i => jP Z.Γ i A
  | none => none) = some l := e'
 generalize DX : A.hd = hd at e'
 cases hd with
 | none => exact no e'
 | some i =>
 obtain ⟨D, bs, yy, hex, rfl⟩ := j1 e'
 have hH := H.hd
 have hA := hn.2.2.1
 rw [DX] at hH
 generalize cs.hd = ch at hH hA
 cases ch with
 | none => exact hH.elim
 | some x =>
 obtain ⟨fi, rfl, hN⟩ := hH
 refine .of (wpAny_bind (wpAny_handled ?_))
 refine ae hA ?_
 refine wpAny_bind (wpAny_rule (fq H yy hN fun T => ?_))
 refine ae (if_neg (show ¬ ((Value.ref T == Value.none) = true) from by simp)) ?_
 exact wpAny_bind (bR H yy fun s2 le2 H2 => wpAny_throw ⟨i, A, c, .head _, le2, H2, ⟨fi, rfl⟩, D, yy⟩)
theorem BP {rest : List Env} (hn : Room n Ar cs) (top : cs.frs = env :: rest) (hf : env.frame = some L) {GH : Around} {BQ : Fm} (cw : Room n GH BQ) (nD : BQ.frs = cs.frs) (H' : St Z L BQ c' A s') {j D : Nat} (hj : A.heap.get j = some (.exc D)) {E : Value → Shared → Prop}
 (k : ∀ ew, Le Z L c' s' c' ew → St Z L BQ c' A ew → E (.ref (c'.σ j).1) ew) :
 bt Z.M GH (noteFrame (.ref (c'.σ j).1) env) (fun J s2 => bt Z.M GH (theTreesLotGoes (.ref (c'.σ j).1)) (fun J s3 => bt Z.M Ar (do
  if (← field (.ref (c'.σ j).1) 1) == .none then unsupported "frame.own-activation:exception-without-traceback"
  setFlight (.ref (c'.σ j).1) env.frame) (fun J ew => E (.ref (c'.σ j).1) ew) E s3) (fun J J => False) s2) (fun J J => False) s' := by
 refine .of (gG cw (nD.trans top) hf H' hj fun s2 le2 H2 N2 => hK (.of (fq H2 hj N2 fun T => ?_)))
 refine ae (if_neg (show ¬ ((Value.ref T == Value.none) = true) from by simp)) ?_
 exact bR H2 hj fun s3 dU H3 => k s3 (le2.trans dU) H3
theorem o6 (I : aC Z n ih) (hn : Room n Ar cs) (hf : env.frame = some L) {i D : Nat} (hi : A.heap.get i = some (.exc D)) (hN : cn s (c.σ i).1) {b : List S} {body : List Stmt} {pos : Pos} (hb : encL (cE Z.nm m sc) b body = true) (rA : body ≠ [])
 (H : St Z L cs c A s) (N : aS Z sc c L cs env) {l : bC Fl} (e : aX ih b { A with hd := some i } = some l) {Q : Flow → Shared → Prop} {E : Value → Shared → Prop}
 (hQ : ∀ f A' c' s' fl, (Except.ok f, A') ∈ l.list → Le Z L c s c' s' → St Z L cs c' { A' with hd := A.hd } s' → FR c' f fl → Q fl s')
 (hE : ∀ j A' c' s' D, (Except.error j, A') ∈ l.list → Le Z L c s c' s' → St Z L cs c' { A' with hd := A.hd } s' → j < c'.n → A'.heap.get j = some (.exc D) → E (.ref (c'.σ j).1) s') :
 bt Z.M Ar (runOwn (.handlers (.ref (c.σ i).1) [.ExceptHandler none none body pos] env) env (some (.ref (c.σ i).1))) Q E s := by
 refine (N.top hf).elim fun rest top => ?_
 refine j0 (aZ rfl ?_) (by intro q; cases q)
 refine (?_ : bt Z.M (Ar.mark (some (.ref (c.σ i).1))) ((handleWith (.ref (c.σ i).1) env [.ExceptHandler none none body pos]).onRaise (fun x => do noteFrame x env; theTreesLotGoes x) >>= fun f => pure (PySem.Fin.done f)) _ _ s)
 refine aa (aU ?_)
 cases body with
 | nil => exact (rA rfl).elim
 | cons Mj body =>
 refine aa (aY (aa (.of (bR H hi fun s1 a4 H1 => ?_))))
 have Mk := H1.hand hi (hN.ck a4.ck)
 refine az (bN I hf (hn.mark _) b hb Mk ((N.hand (some (c.σ i).1))) l e) (fun fl s2 q => ?_) fun x s2 q => ?_
 ·obtain ⟨f, A', c', m1, le2, H2, r2⟩ := q
  exact aq (hQ f A' c' s2 fl m1 (a4.trans le2) (H.ry (a4.trans le2) H2) r2)
 ·obtain ⟨j, A', c', m1, le2, H2, ⟨fi, rfl⟩, D', hj⟩ := q
  refine aa (az (BP hn top hf (hn.mark _) rfl H2 hj (E := E) fun s3 dU H3 => ?_) (fun J J q => az q (fun J J q => q) fun J J q => q.elim) fun J J q => q.elim)
  exact hE j A' c' s3 D' m1 ((a4.trans le2).trans dU) (H.ry ((a4.trans le2).trans dU) H3) fi hj
theorem o7 (G : Z.Glob) (hn : Room n Ar cs) {i D C g : Nat} {bs qQ : List Nat} (hi : A.heap.get i = some (.exc D)) (hN : cn s (c.σ i).1) {id : Str} {p pos : Pos} (yw : id = Z.nm g) (hk : cu sc id .globalImplicit = true) (hd : bX id = true) (hg : af g Z.Γ.glob = some (.cls C)) (hD : af D Z.Γ.cf = some bs) (hC : af C Z.Γ.cf = some qQ)
 (H : St Z L cs c A s) (N : aS Z sc c L cs env) {Q : Flow → Shared → Prop} {E : Value → Shared → Prop}
 (hQ : ∀ c' s', Le Z L c s c' s' → St Z L cs c' A s' → Q (if bs.contains C then .brk else .next) s') :
 bt Z.M Ar (runOwn (.handlers (.ref (c.σ i).1) [.ExceptHandler (some (.Name id p)) none [] pos] env) env (some (.ref (c.σ i).1))) Q E s := by
 refine j0 (aZ rfl ?_) (by intro q; cases q)
 refine (?_ : bt Z.M (Ar.mark (some (.ref (c.σ i).1))) ((handleWith (.ref (c.σ i).1) env [.ExceptHandler (some (.Name id p)) none [] pos]).onRaise (fun x => do noteFrame x env; theTreesLotGoes x) >>= fun f => pure (PySem.Fin.done f)) _ _ s)
 refine aa (aU ?_)
 have H1 := H.hand hi hN
 have w := l6 (Ar := Ar.mark (some (.ref (c.σ i).1))) (pos := p) G yw H1 (N.hand (some (c.σ i).1)) hk hd
 rw [hg] at w
 refine aa (aY (aa (au.one w fun u c' s' uA H' r' => ?_)))
 cases r'
 refine aa (aY (aa (.of ?_)))
 have cN : ({ A with hd := some i } : AS).heap.get i = some (.exc D) := hi
 have LT := wU H' cN
 have X := G.k.keeps H'.base
 refine bK (uA.σ i (H.lt i _ hi)) ?_
 exact (exm_one X LT (G.exc D C bs qQ hD hC)).at (aq (aq (hQ c' s' uA (H.ry (A' := { A with hd := some i }) uA H'))))
theorem o8 {Γ : Ctx} {i : Nat} {g : Nat} {b : List S} {r : List (E × List S)} {l : bC Fl} {D : Nat} (hi : A.heap.get i = some (.exc D)) (e : handle Γ ih i ((.aH g, b) :: r) A = some l) : ∃ C bs qQ, af g Γ.glob = some (.cls C) ∧ af D Γ.cf = some bs ∧ af C Γ.cf = some qQ ∧
 ((bs.contains C = true ∧ ∃ l0, aX ih b { A with hd := some i } = some l0 ∧ l = .many (l0.list.map fun x => (x.1, { x.2 with hd := A.hd }))) ∨ (bs.contains C = false ∧ handle Γ ih i r A = some l)) := by
 refine (f9 (show (AB (af g Γ.glob)).bind _ = some l from e)).elim fun C aj => (aj).elim fun _ e => ?_
 obtain ⟨⟨D', hD⟩, _, e⟩ := f9 e
 cases hi.symm.trans hD
 obtain ⟨bs, hb, e⟩ := f9 e
 generalize hC : af C.1 Γ.cf = o at e
 cases o with
 | none => exact no e
 | some qQ =>
 refine ⟨C.1, bs, qQ, C.2, hb, hC, ?_⟩
 replace e := (if_pos (show (some qQ).isSome = true from rfl)).symm.trans e
 cases hc : bs.contains C.1 with
 | false => exact .inr ⟨rfl, (if_neg (hc ▸ Bool.false_ne_true)).symm.trans e⟩
 | true =>
  obtain ⟨l0, h0, e⟩ := f9 ((if_pos hc).symm.trans e)
  exact .inl ⟨rfl, l0, h0, (aO e).symm⟩
theorem hM (G : Z.Glob) (I : aC Z n ih) (hn : Room n Ar cs) (hf : env.frame = some L) {i D : Nat} : ∀ {hs : List (E × List S)} {js : List ExceptHandler} {c : Cfg} {A : AS} {s : Shared}, encL (tx Z.nm (cE Z.nm m) sc) hs js = true → A.heap.get i = some (.exc D) → cn s (c.σ i).1 → St Z L cs c A s → aS Z sc c L cs env →
 au Z L cs Ar (handleBy (.ref (c.σ i).1) env js) FR (handle Z.Γ ih i hs A) c s
 | [], js, c, A, s, h, hi, hN, H, N => by
  obtain rfl := cL h
  intro l e
  obtain rfl := aO e
  refine .of (fq H hi hN fun T => ?_)
  refine ae (if_neg (show ¬ ((Value.ref T == Value.none) = true) from by simp)) ?_
  exact wpAny_bind (bR H hi fun s2 le2 H2 => wpAny_throw ⟨i, A, c, .head _, le2, H2, ⟨H.lt i _ hi, rfl⟩, D, hi⟩)
 | (e0, b) :: hs, js, c, A, s, h, hi, hN, H, N => by
  obtain ⟨x, js, rfl, g1, g2⟩ := aQ h
  intro l e
  refine Classical.byContradiction fun bad => ?_
  obtain @⟨g, _, id, p, body, pos, q⟩ := dD g1
  refine (ao q).elim fun q h5 => ?_
  refine (ao q).elim fun q h4 => ?_
  refine (ao q).elim fun q h3 => ?_
  refine (ao q).elim fun h1 h2 => ?_
  replace h1 := eI h1
  replace h5 : body ≠ [] := fun q => by subst q; exact absurd h5 (by decide)
  obtain ⟨C, bs, qQ, k1, k2, k3, k⟩ := o8 hi e
  refine bad ?_
  rw [handleBy]
  refine aa (aA (o7 G hn hi hN h1 h2 h3 k1 k2 k3 H N fun c1 s1 a4 H1 => ?_))
  have AO := a4.σ i (H.lt i _ hi)
  have Ka : cn s1 (c1.σ i).1 := by refine ae AO ?_; exact hN.ck a4.ck
  rcases k with ⟨kc, l0, k4, rfl⟩ | ⟨kc, k4⟩
  ·refine ae kc ?_; refine ae (if_pos rfl) ?_
   refine aa (aq ?_)
   refine bK AO ?_
   refine aa (aA (o6 I hn hf hi Ka h4 h5 H1 (N.mono a4.grown) k4 (fun f A' c' s' fl m1 uA H' r' => aq ?_) fun j A' c' s' D' m1 uA H' fi hj => ?_))
   ·exact ⟨f, _, c', List.mem_map.mpr ⟨_, m1, rfl⟩, a4.trans uA, H', r'⟩
   ·exact ⟨j, _, c', List.mem_map.mpr ⟨_, m1, rfl⟩, a4.trans uA, H', ⟨fi, rfl⟩, D', hj⟩
  ·refine ae kc ?_; refine ae (if_neg (by decide)) ?_
   refine aa (aq ?_)
   refine bK AO ?_
   exact au.from H.bw a4 (hM G I hn hf g2 hi Ka H1 (N.mono a4.grown)) l k4
theorem j2 {Γ : Ctx} {hs : List (E × List S)} : ∀ {l : List (Except Nat Fl × AS)} {r : bC Fl}, uf Γ ih hs l = some r →
 (∀ f A, (Except.ok f, A) ∈ l → (Except.ok f, A) ∈ r.list) ∧ ∀ i A, (Except.error i, A) ∈ l → ∃ r', handle Γ ih i hs A = some r' ∧ ∀ x ∈ r'.list, x ∈ r.list
 | [], _, _ => ⟨fun J J h => (nomatch h), fun J J h => (nomatch h)⟩
 | (.ok f, A) :: t, r, e => by
  obtain ⟨u, v, hu, hv, hr⟩ := gZ (r := some (.one f A)) (t := uf Γ ih hs t) e
  obtain rfl := aO hu
  obtain ⟨h1, h2⟩ := j2 hv
  refine ae hr ?_
  refine ⟨fun f' A' hm => ?_, fun i A' hm => ?_⟩
  ·rcases fg hm with z | hm
   ·cases z; exact .head _
   ·exact .tail _ (h1 _ _ hm)
  ·rcases fg hm with z | hm
   ·cases z
   ·refine (h2 _ _ hm).elim fun r' aj => (aj).elim fun q1 q2 => ?_
    exact ⟨r', q1, fun x hx => .tail _ (q2 x hx)⟩
 | (.error j, A) :: t, r, e => by
  obtain ⟨u, v, hu, hv, hr⟩ := gZ (r := handle Γ ih j hs A) (t := uf Γ ih hs t) e
  refine (j2 hv).elim fun h1 h2 => ?_
  refine ae hr ?_
  refine ⟨fun f' A' hm => ?_, fun i A' hm => ?_⟩
  ·rcases fg hm with z | hm
   ·cases z
   ·exact List.mem_append.mpr (.inr (h1 _ _ hm))
  ·rcases fg hm with z | hm
   ·cases z; exact ⟨u, hu, fun x hx => List.mem_append.mpr (.inl hx)⟩
   ·refine (h2 _ _ hm).elim fun r' aj => (aj).elim fun q1 q2 => ?_
    exact ⟨r', q1, fun x hx => List.mem_append.mpr (.inr (q2 x hx))⟩
theorem yT {Γ : Ctx} {b : List S} {hs : List (E × List S)} {r : bC Fl} (e : th Γ ih b hs A = some r) : ∃ l, aX ih b A = some l ∧
 (∀ f A, (Except.ok f, A) ∈ l.list → (Except.ok f, A) ∈ r.list) ∧ ∀ i A, (Except.error i, A) ∈ l.list → ∃ r', handle Γ ih i hs A = some r' ∧ ∀ x ∈ r'.list, x ∈ r.list := by
 delta th at e
 generalize hx : aX ih b A = o at e
 cases o with
 | none => exact no e
 | some l => cases l with
  | one f B =>
   obtain rfl := aO e
   exact ⟨_, rfl, fun J J h => h, fun i A h => by cases msg h⟩
  | many l => exact ⟨_, rfl, j2 e⟩
theorem uC (G : Z.Glob) (I : aC Z n ih) (hn : Room n Ar cs) (hf : env.frame = some L) {b : List S} {hs : List (E × List S)} {y : List Stmt} {js : List ExceptHandler} {pos : Pos} (h1 : encL (cE Z.nm m sc) b y = true) (h2 : encL (tx Z.nm (cE Z.nm m) sc) hs js = true) (h3 : js.isEmpty = false)
 (H : St Z L cs c A s) (N : aS Z sc c L cs env) : au Z L cs Ar (exec (.Try y js [] [] pos) env) FR (th Z.Γ ih b hs A) c s := by
 refine (N.top hf).elim fun rest top => ?_
 rw [arm_exec_Try]
 refine .at ?_
 intro r e
 refine (yT e).elim fun l aj => (aj).elim fun hl ay => (ay).elim fun m1 m2 => ?_
 dsimp only [tryStmt]
 simp -iota only [List.isEmpty_nil, if_true, h3, Bool.false_and, Bool.false_eq_true, if_false]
 refine aa (i0 (az (bN I hf hn b h1 H N l hl) (fun fl s1 q => ?_) fun e s1 q => ?_))
 ·obtain ⟨f, A1, c1, k1, k2, k3, k4⟩ := q
  have w : QO Z L cs FR r.list c s fl s1 := ⟨f, A1, c1, m1 f A1 k1, k2, k3, k4⟩
  cases fl <;> exact aq w
 ·obtain ⟨i, A1, c1, k1, a4, H1, ⟨fi, rfl⟩, D, hi⟩ := q
  refine (m2 i A1 k1).elim fun r' aj => (aj).elim fun q1 q2 => ?_
  refine aa (.of (gG hn top hf H1 hi fun s2 le2 H2 N2 => ?_))
  refine aa (.of (bR H2 hi fun s3 dU H3 => ?_))
  have le := (a4.trans le2).trans dU
  refine az (hM G I hn hf h2 hi (N2.ck dU.ck) H3 (N.mono le.grown) r' q1) (fun fl s4 q => ?_) fun e s4 q => ?_
  ·obtain ⟨f, A4, c4, k1, k2, k3, k4⟩ := q
   exact ⟨f, A4, c4, q2 _ k1, le.trans k2, k3, k4⟩
  ·obtain ⟨f, A4, c4, k1, k2, k3, k4⟩ := q
   exact ⟨f, A4, c4, q2 _ k1, le.trans k2, k3, k4⟩
end
end aD
end
section
open PySem PySem.Calls PyProof.Rows PySem.W
namespace aD
section
variable {Z : aL} {n : Nat} {ih : bM} {L : Nat} {cs : Fm} {Ar : Around} {c : Cfg} {A : AS} {s : Shared} {env : Env} {sc : cG} {m : Nat}
theorem hO {z : Expr} {t : Option Expr} {l : Nat} (h : jV z = false) : swapsWith z t l env = pure false := by
 cases z <;> first | rfl | cases h
noncomputable def CX (f : Str → Pos → Bool) (x : Expr) : Option Str := match x with
 | .Name id pos => if f id pos then some id else none
 | _ => none
theorem nE {f : Str → Pos → Bool} {ts : List Expr} : (∀ x ∈ ts, ∃ id q, x = Expr.Name id q) → (ts.filterMap (CX f)).length = ts.length → ts.filterMap (CX f) = ts.map lY := by
 induction ts with
 | nil => exact fun J J => rfl
 | cons x r ih =>
  intro ht hn
  obtain ⟨id, q, rfl⟩ := ht x (.head _)
  by_cases hb : f id q = true
  ·have e : CX f (.Name id q) = some id := if_pos hb
   rw [List.filterMap_cons_some e] at hn ⊢
   exact congrArg (id :: ·) (ih (fun y hy => ht y (.tail _ hy)) (Nat.succ.inj hn))
  ·have e : CX f (.Name id q) = none := if_neg hb
   rw [List.filterMap_cons_none e] at hn
   exact absurd (hn ▸ List.length_filterMap_le (CX f) r) (Nat.not_succ_le_self _)
set_option tactic.hygienic true in
theorem o9 {ts vs : List Expr} {k k' : Nat} {p p' : Pos} (ht : ∀ x ∈ ts, ∃ id q, x = Expr.Name id q) (hc : jx (.Tuple ts k p) (.Tuple vs k' p') = false) :
 swappedStores [.Tuple ts k p] (.Tuple vs k' p') env = pure none ∨ (swappedStores [.Tuple ts k p] (.Tuple vs k' p') env = pure (some (ts.map lY)) ∧ (ts.length = 2 ∨ ts.length = 3)) := by
 refine (?_ : (if (!(ts.length == 2 || ts.length == 3) || vs.length != ts.length || env.blockKind != .function) = true then (pure none : Sem (Option (List Str))) else _) = pure none ∨ (if (!(ts.length == 2 || ts.length == 3) || vs.length != ts.length || env.blockKind != .function) = true then (pure none : Sem (Option (List Str))) else _) = _ ∧ _)
 dsimp -iota only
 split
 ·exact .inl rfl
 ·rename_i hlen
  split
  ·exact .inl rfl
  ·split
   ·exact .inl rfl
   ·rename_i hn
    split
    ·exact .inl rfl
    ·rename_i Kb hf
     have hc : ((vs.all (constantsAlone 8) && !vs.all (foldedForSure 8)) || (vs.any fun | .Starred .. => true | _ => false)) = false := hc
     have DY : vs.all (foldedForSure 8) = false := by simpa using hf
     rw [Bool.or_eq_false_iff, DY, Bool.not_false, Bool.and_true] at hc
     refine ae (if_neg (by rw [hc.1]; decide)) ?_
     refine .inr ⟨?_, ?_⟩
     ·congr 2
      have hn : (ts.filterMap (CX fun id pos => env.kindOf id == some .local && pos.line == (ts.head?.map (·.pos.line)).getD 0)).length = ts.length := by
       revert hn
       simp -iota only [Bool.or_eq_true, bne_iff_ne, ne_eq, not_or, Decidable.not_not]
       exact fun h => h.1
      exact nE (f := fun id pos => env.kindOf id == some .local && pos.line == (ts.head?.map (·.pos.line)).getD 0) ht hn
     ·revert hlen
      simp -iota only [Bool.or_eq_true, Bool.not_eq_true', Bool.or_eq_false_iff, beq_eq_false_iff_ne, bne_iff_ne, ne_eq, not_or, not_and, Decidable.not_not, beq_iff_eq]
      intro h
      by_cases h2 : ts.length = 2
      ·exact .inl h2
      ·exact .inr (h.1.1 h2)
theorem uD (G : Z.Glob) {is : List Nat} {xs : List Expr} {vs : List V} {us : List Value} {A' : AS} (h : encL (di Z.nm sc) is xs = true) (H : St Z L cs c A s) (N : aS Z sc c L cs env) (r : dk c vs us) (e : cT is.reverse vs.reverse A = some A') :
 au Z L cs Ar (assignInOrder (is.reverse.map ((fun n => bindName env n) ∘ Z.nm)) us.reverse) UR (ok () A') c s := by
 have DZ : ∀ i ∈ is, di Z.nm sc i (.Name (Z.nm i) default) = true := by
  clear e r
  revert xs
  induction is with
  | nil => intro _ _ i hi; cases hi
  | cons j is ih =>
   intro xs h i hi
   cases xs with
   | nil => cases h
   | cons x xs =>
    refine (ao h).elim fun h1 h2 => ?_
    rcases fg hi with rfl | hi
    ·obtain ⟨id, p, rfl, rfl⟩ := iI h1
     exact h1
    ·exact ih h2 i hi
 have AP : ∀ i ∈ is.reverse, di Z.nm sc i (.Name (Z.nm i) default) = true := fun i hi => DZ i (List.mem_reverse.mp hi)
 have r' : dk c vs.reverse us.reverse := by
  clear e H
  induction r with
  | nil => exact .nil
  | cons a _ ih => (refine ae List.reverse_cons ?_; refine ae List.reverse_cons ?_); exact ih.append (.cons a .nil)
 clear r h DZ
 generalize is.reverse = is at *
 generalize vs.reverse = vs at *
 generalize us.reverse = us at *
 revert vs us A c s
 induction is with
 | nil =>
  intro c A s H N vs e us r
  cases vs with
  | nil => cases r; obtain rfl := aO e; exact .ok H trivial
  | cons => cases e
 | cons i is ih =>
  intro c A s H N vs e us r
  cases vs with
  | nil => cases e
  | cons v vs =>
   cases r with
   | cons r1 r =>
    exact au.bind1 H.bw (.hold (gE (pos := default) G (AP i (.head _)) H N r1)) fun c1 s1 u1 a4 H1 J => ih (fun j hj => AP j (.tail _ hj)) H1 (N.mono a4.grown) _ e _ (r.imp fun J J y => y.mono a4.grown)
theorem uE {t : T} {y z : Expr} (h : (!true || rn t y z) = true) : ∃ i id p, t = .loc i ∧ y = .Name id p ∧ oR id p z = true := by
 cases t <;> first | exact bf h | skip
 cases y <;> first | exact bf h | exact ⟨_, _, _, rfl, rfl, h⟩
theorem j3 {t : T} {y : Expr} (h : gy Z.nm m sc t y = true) : (assignEach [y] env).map (·.2) = [assign y env] := by
 replace h := dw h
 induction h <;> rfl
theorem pa {t : T} {y z : Expr} (h : gy Z.nm m sc t y = true) (ht : ∀ is, t ≠ .tup is) : swappedStores [y] z env = pure none := by
 replace h := dw h
 induction h <;> first | rfl | exact (ht _ rfl).elim
theorem pb {ts : List Expr} {k : Nat} {p : Pos} {z : Expr} (hz : ∀ vs k p, z ≠ .Tuple vs k p) : swappedStores [.Tuple ts k p] z env = pure none := by
 cases z <;> first | rfl | exact (hz _ _ _ rfl).elim
theorem iJ {e : E} {y : Expr} {u : Value} : ∀ {m : Nat}, aW Z.nm m sc e y = true → foldedSetIterable y env u = pure u
 | 0, h => bf h
 | m + 1, h => by
  replace h := bL h
  induction h <;> rfl
set_option tactic.hygienic true in
theorem yU (G : Z.Glob) (P2 : bQ Z) (hb : Room 1 Ar cs) {is : List Nat} {xs : List Expr} {v : V} {u : Value} (hx : encL (di Z.nm sc) is xs = true) (hl : 2 ≤ is.length) (BU : is.Nodup) (Oj : xs.length = 2 ∨ xs.length = 3) (H : St Z L cs c A s) (N : aS Z sc c L cs env) (r : VR c v u) :
 au Z L cs Ar (unpackItems u (xs.map lY).length none >>= fun items => assignInOrder ((xs.map lY).reverse.map fun n => bindName env n) items.reverse >>= fun J => pure Flow.next) FR (Res.bind (match bindM is v A with | some A => aD.ok () A | none => none) fun J A => aD.ok .next A) c s := by
 have BV := eL hx
 have DV := dT hx
 cases qR : bindM is v A with
 | none => exact .none
 | some A' =>
  obtain ⟨hh, i, vs, rfl, hi, e'⟩ := l9 qR
  obtain ⟨cN, rfl⟩ := r
  have hlen := cM e'
  refine ae (show (xs.map lY).length = vs.length by rw [List.length_map, ← DV, hlen]) ?_
  refine au.bind1 H.bw (P2.yR hb H hh hi) fun c2 s2 us le2 H2 r2 => ?_
  refine (o3 (Z := Z) (L := L) (cs := cs) (show is.length = 2 ∨ is.length = 3 by omega) BU e').elim fun GC aj => (aj).elim fun q1 q2 => ?_
  have GI := uD (Ar := Ar) G hx H2 (N.mono le2.grown) r2 q1
  refine ae BV.1 ?_; refine bK List.map_reverse ?_; refine ae List.map_map ?_
  exact au.bind1 H2.bw (GI.subst q2) fun c3 s3 J dU H3 J => .ok H3 rfl
set_option tactic.hygienic true in
theorem yV (G : Z.Glob) (P : bY Z) (P2 : bQ Z) (I : aC Z n ih) (h1 : 1 ≤ n) (cw : Room n Ar cs) {t : T} {e : E} {y z : Expr} {pos : Pos} (h2 : gy Z.nm m sc t y = true) (h5 : aW Z.nm m sc e z = true) (hz : jV z = false) (h3 : jx y z = false) (H : St Z L cs c A s) (N : aS Z sc c L cs env) :
 au Z L cs Ar (exec (.Assign [y] z pos) env) FR (Gq Z.Γ ih (.asg t e) A) c s := by
 rw [exec_Assign, show swapsWithSole [y] z pos.line env = pure false from hO hz]
 refine .at (.ret ?_)
 refine ae (if_neg (by decide)) ?_
 refine au.bind H.bw (I.e h5 cw H N) fun v A1 c1 s1 u a4 H1 r1 => ?_
 have plain : au Z L cs Ar (assignAll u ((assignEach [y] env).map (·.2)) >>= fun J => pure Flow.next) FR (Res.bind (asg Z.Γ ih t v A1) fun J A => aD.ok .next A) c1 s1 := by
  refine ae (j3 h2) ?_
  exact au.bind H1.bw (fQ G P P2 I h1 cw h2 H1 (N.mono a4.grown) r1) fun w A2 c2 s2 u2 le2 H2 J => .ok H2 rfl
 by_cases ht : ∃ is, t = .tup is
 ·obtain ⟨is, rfl⟩ := ht
  obtain ⟨ts, k, tp, rfl, hx, BU, hl⟩ := wJ h2
  by_cases Kg : ∃ vs k' p', z = .Tuple vs k' p'
  ·obtain ⟨vs, k', p', rfl⟩ := Kg
   rcases o9 (env := env) (eL hx).2 h3 with hw | ⟨hw, hlen⟩
   ·refine ae hw ?_; exact .ret plain
   ·refine ae hw ?_
    refine .ret (.rule ?_)
    dsimp only [asg]
    refine ae (o4 hl) ?_
    exact yU G P2 (cw.le h1) hx hl BU hlen H1 (N.mono a4.grown) r1
  ·refine ae (pb fun vs k p e => Kg ⟨vs, k, p, e⟩) ?_; exact .ret plain
 ·refine ae (pa h2 fun is e => ht ⟨is, e⟩) ?_; exact .ret plain
theorem i9 {f : Expr → Option Str} (hf : ∀ x, notName x = true → f x = none) : ∀ {ts : List Expr}, ts.any notName = true → (ts.filterMap f).length ≠ ts.length
 | [], h => bf h
 | x :: r, h => fun hn => by
  have hr := List.length_filterMap_le f r
  rw [List.filterMap_cons, List.length_cons] at hn
  rw [List.any_cons] at h
  cases hx : f x with
  | none =>
   rw [hx] at hn
   dsimp only at hn
   omega
  | some y =>
   rw [hx] at hn
   rcases yu h with h | h
   ·rw [hf x h] at hx; cases hx
   ·exact i9 hf h (Nat.succ.inj hn)
set_option tactic.hygienic true in
theorem pd {ys zs : List Expr} {k k' : Nat} {p p' : Pos} (h : ys.any notName = true) : swappedStores [.Tuple ys k p] (.Tuple zs k' p') env = pure none := by
 refine (?_ : (if (!(ys.length == 2 || ys.length == 3) || zs.length != ys.length || env.blockKind != .function) = true then (pure none : Sem (Option (List Str))) else _) = pure none)
 dsimp -iota only
 split
 ·rfl
 ·split
  ·rfl
  ·split
   ·rfl
   ·rename_i hn
    refine absurd ?_ hn
    rw [Bool.or_eq_true, bne_iff_ne]
    exact .inl (i9 (fun x h => by cases x <;> first | rfl | cases h) h)
theorem j4 : ∀ {ts : List T} {ys : List Expr}, encL (gy Z.nm m sc) ts ys = true → assignEach ys env = ys.map fun y => (false, assign y env)
 | [], [], _ => rfl
 | [], _ :: _, h => by cases h
 | _ :: _, [], h => by cases h
 | t :: ts, y :: ys, h => by
  refine (ao h).elim fun h1 h2 => ?_
  have ih := j4 h2
  have e : assignEach (y :: ys) env = (false, assign y env) :: assignEach ys env := by
   replace h1 := dw h1
   induction h1 <;> rfl
  refine ae e ?_; refine ae ih ?_; rfl
theorem j5 (G : Z.Glob) (P : bY Z) (P2 : bQ Z) (I : aC Z n ih) (h1 : 1 ≤ n) (hn : Room n Ar cs) : ∀ {ts : List T} {ys : List Expr} {vs : List V} {us : List Value} {c : Cfg} {A : AS} {s : Shared}, encL (gy Z.nm m sc) ts ys = true → St Z L cs c A s → aS Z sc c L cs env → dk c vs us →
 au Z L cs Ar (assignInOrder (ys.map fun y => assign y env) us) UR (BE Z.Γ ih ts vs A) c s
 | [], ys, vs, us, _, _, _, h, H, _, r => by
  obtain rfl := cL h
  cases vs with
  | cons => exact .none
  | nil => obtain rfl := r.nil_inv; exact .ok H trivial
 | t :: ts, ys, vs, us, c, A, s, h, H, N, r => by
  obtain ⟨y, ys, rfl, k1, k2⟩ := aQ h
  cases vs with
  | nil => exact .none
  | cons v vs =>
  obtain ⟨u, us, rfl, r1, r⟩ := r.cons_inv
  refine (?_ : au Z L cs Ar (holding us (assign y env u) >>= _) UR (Res.bind (asg Z.Γ ih t v A) _) c s)
  exact au.bind H.bw (.hold (fQ G P P2 I h1 hn k1 H N r1)) fun J A1 c1 s1 J a4 H1 J => j5 G P P2 I h1 hn k2 H1 (N.mono a4.grown) (r.imp fun J J y => y.mono a4.grown)
theorem rB (G : Z.Glob) (P : bY Z) (P2 : bQ Z) (I : aC Z n ih) (h1 : 1 ≤ n) (cw : Room n Ar cs) {ts : List T} {es : List E} {ys zs : List Expr} {k k' : Nat} {p p' q : Pos} (h2 : encL (gy Z.nm m sc) ts ys = true) (h3 : encL (aW Z.nm m sc) es zs = true) (h4 : ys.any notName = true) (H : St Z L cs c A s) (N : aS Z sc c L cs env) :
 au Z L cs Ar (exec (.Assign [.Tuple ys k p] (.Tuple zs k' p') q) env) FR (AK Z.Γ ih ts es A) c s := by
 rw [exec_Assign, show swapsWithSole [.Tuple ys k p] (.Tuple zs k' p') q.line env = pure false from rfl]
 refine .at (.ret ?_)
 refine ae (if_neg (by decide)) ?_
 refine (?_ : au Z L cs Ar ((standAt p' >>= fun J => spliced (backTo p' (starEach zs env)) >>= fun us => newTuple us) >>= _) FR (Res.bind (eZ ih es A) _) c s)
 rw [bind_assoc]
 refine .at ?_
 rw [bind_assoc]
 refine au.bind H.bw (gA I cw h3 H N) fun vs A1 c1 s1 us a4 H1 r1 => ?_
 refine au.bindM H1.bw (P.tup (cw.le h1) H1 r1) fun l hl v A2 c2 s2 u hm le2 H2 r2 => ?_
 refine ae (pd h4) ?_
 refine .ret ?_
 dsimp only [ue] at hl
 split at hl
 ·obtain rfl := aO hl
  cases msg hm
  obtain ⟨_, rfl⟩ := r2
  refine .dM fun hlen => ?_
  refine (hlen).elim fun hlen hh => ?_
  have hh := yt hh
  refine au.bind (R := UR) H2.bw (.at ?_) fun J A3 c3 s3 J dU H3 J => .ok H3 rfl
  have hx := j4 (env := env) h2
  delta unpack
  have Ml : (assignEach ys env).findIdx? (·.1) = none := by
   rw [hx, List.findIdx?_eq_none_iff]
   intro y hy
   obtain ⟨x, _, rfl⟩ := yB hy
   rfl
  refine ae Ml ?_; refine ae (show (assignEach ys env).length = vs.length by rw [hx, List.length_map, ← dT h2, hlen]) ?_
  refine au.bind1 H2.bw (.hold (P2.yR (cw.le h1) H2 hh (.inl (by refine (?_ : (A1.heap.put A1.n (.tup vs)).get A1.n = _); rw [Tr.ba, if_pos rfl])))) fun c3 s3 Ol dU H3 r3 => ?_
  refine ae hx ?_; refine ae List.map_map ?_
  exact j5 G P P2 I h1 cw h2 H3 (N.mono ((a4.grown.trans le2.grown).trans dU.grown)) r3
 ·exact no hl
set_option tactic.hygienic true in
theorem uF (G : Z.Glob) (P : bY Z) (P2 : bQ Z) (I : aC Z n ih) (C : wO Z n ih) (Lo : AM Z n ih) (h1 : 1 ≤ n) (hn : Room (n + 1) Ar cs) (hf : env.frame = some L) {st : S} {x : Stmt} (he : cE Z.nm m sc st x = true) (H : St Z L cs c A s) (N : aS Z sc c L cs env) :
 au Z L cs Ar (exec x env) FR (Gq Z.Γ ih st A) c s := by
 have cw : Room n Ar cs := hn.le (Nat.le_succ n)
 have hb : Room 1 Ar cs := cw.le h1
 cases m with
 | zero => cases he
 | succ m =>
 replace he := lZ he
 induction he
 case asg t e y z pos he =>
  refine (ao he).elim fun Kh h4 => ?_
  refine (ao Kh).elim fun Kk h3 => ?_
  refine (ao Kk).elim fun h2 h5 => ?_
  clear he Kh Kk
  cases hz : jV z with
  | true =>
   rw [hz] at h4
   obtain ⟨i, id, p, rfl, rfl, h4⟩ := uE h4
   exact .conv (fun J J q => q) (Lo.swap (uj h2) h5 hz h4 hn H N)
  | false =>
   exact yV G P P2 I h1 cw h2 h5 hz (by simpa using h3) H N
 case aug i o e id p q z pos he =>
  refine (ao he).elim fun he h4 => ?_
  refine (ao he).elim fun h2 h3 => ?_
  cases jT h3
  have GB := h2
  refine (ao h2).elim fun h2 hd => ?_
  refine (ao h2).elim fun hi hk => ?_
  refine .at ?_
  have hl : au Z L cs Ar (loadName env id) VR (bA (af i A.locs) A) c s := .opt fun v hv => .look H fun Q E k => by
   refine (H.ns).elim fun m aj => (aj).elim fun h1 h2 => ?_
   refine (h2 i v hv).elim fun u aj => (aj).elim fun h3 h4 => ?_
   have kd : env.kindOf id = some .local := by
    rcases N.names id .local (kind_of hk) with h | h
    ·exact h
    ·cases h.1
   exact wpAny_loadName_local N.kind kd (N.locals ▸ h1) (eI hi ▸ h3) (k u s.toks h4)
  refine au.bind H.bw hl fun v A1 c1 s1 u a4 H1 r1 => ?_
  refine au.bind H1.bw (.hold (I.e h4 cw H1 (N.mono a4.grown))) fun w A2 c2 s2 u2 le2 H2 r2 => .at ?_
  refine au.bind H2.bw (.wL (P.BL hb H2 (r1.mono le2.grown) r2)) fun y A3 c3 s3 u3 dU H3 r3 => .at ?_
  exact au.bind1 H3.bw (gE (pos := p) G GB H3 (((N.mono a4.grown).mono le2.grown).mono dU.grown) r3) fun c4 s4 u4 yW H4 J => .ok H4 rfl
 case nh e f o v y a ap q z pos he =>
  refine (ao he).elim fun he h4 => ?_
  refine (ao he).elim fun he h3 => ?_
  refine (ao he).elim fun ha h2 => ?_
  cases eI ha
  cases jT h3
  refine .at ?_
  refine (?_ : au Z L cs Ar (eval y env >>= _) FR (Res.bind (ih.e e A) _) c s)
  refine au.bind H.bw (I.e h2 cw H N) fun b A1 c1 s1 ub a4 H1 r1 => ?_
  refine .conv (t' := (standAt ap.atName >>= fun J => getAttr ub (Z.nm f) true) >>= fun old => eval z env >>= fun w => standAt pos >>= fun J => inplaceOp (rm o) old w >>= fun new => standAt ap.atName >>= fun J => setAttr ub (Z.nm f) new >>= fun J => pure Flow.next) (fun Q E q Γ p' fh hC => ?_) ?_
  ·have q := q Γ p' fh hC
   simp -iota only [Sem.wp_bind', Sem.wp_holding, Sem.wp_pure, Sem.wp_release, Sem.wp_operate] at q ⊢
   exact q
  ·refine au.bind H1.bw (.at (P.attr hb H1 r1)) fun old A2 c2 s2 uo le2 H2 r2 => ?_
   refine au.bind H2.bw (I.e h4 cw H2 ((N.mono a4.grown).mono le2.grown)) fun w A3 c3 s3 uw dU H3 r3 => .at ?_
   refine au.bind H3.bw (P.BL hb H3 (r2.mono dU.grown) r3) fun nw A4 c4 s4 un yW H4 r4 => .at ?_
   exact au.bind H4.bw (P2.BM hb H4 (r1.mono ((le2.grown.trans dU.grown).trans yW.grown)) r4) fun J A5 c5 s5 J yz H5 J => .ok H5 rfl
 case exp e z pos he =>
  refine (ao he).elim fun h2 h3 => ?_
  have hz : jV z = false := by simpa using h3
  have ex : exec (.Expr z pos) env = (do
   standAt pos
   if interactive env then printExpr (eval z env)
   else if ← swapsWith z none pos.line env then do evalThenUse z env fun J => point; pure .next
   else do dropValue z pos (← eval z env)) := rfl
  have hi : interactive env = false := by dsimp only [interactive]; refine ae N.kind ?_; rfl
  refine ae ex ?_; refine ae hi ?_; refine ae (hO hz) ?_
  refine .at ?_
  refine ae (if_neg (by decide)) ?_
  refine .ret ?_
  refine ae (if_neg (by decide)) ?_
  exact au.bind H.bw (I.e h2 cw H N) fun v A1 c1 s1 u a4 H1 r1 => .done fun Q E k => wpAny_dropValue (k _ _ c1 (Le.refl ..) H1 rfl)
 case ret e z pos he =>
  refine .at ?_
  cases e <;> cases z
  ·exact .ok H ⟨_, rfl, rfl⟩
  ·cases he
  ·cases he
  ·rename_i e z
   refine (?_ : au Z L cs Ar (eval z env >>= _) FR (Res.bind (ih.e e A) _) c s)
   exact au.bind H.bw (I.e he cw H N) fun v A1 c1 s1 u a4 H1 r1 => .ok H1 ⟨_, rfl, r1⟩
 case bE b x y t y' z' pos he =>
  refine (ao he).elim fun he h4 => ?_
  refine (ao he).elim fun h2 h3 => ?_
  refine .at ?_
  refine au.bind H.bw (I.c h2 cw H N) fun v A1 c1 s1 u a4 H1 r1 => ?_
  cases r1
  cases v with
  | true => exact bN I hf cw x h3 H1 (N.mono a4.grown)
  | false => exact bN I hf cw y h4 H1 (N.mono a4.grown)
 case for_ is it b t y z pos he =>
  refine (ao he).elim fun he h4 => ?_
  refine (ao he).elim fun he h3 => ?_
  refine (ao he).elim fun h2 hd => ?_
  refine .at ?_
  refine au.bind H.bw (I.e h3 cw H N) fun v A1 c1 s1 u a4 H1 r1 => ?_
  refine ae (iJ h3) ?_
  refine .ret (.at ?_)
  exact .conv (fun Q E q Γ p' fh hC => by have q := q Γ p' fh hC; simp -iota only [Sem.wp_bind', Sem.wp_holding] at q ⊢; exact q) (Lo.loop h2 (of_decide_eq_true hd) h4 hf hn H1 (N.mono a4.grown) r1)
 case try_ b hs y js pos he =>
  refine (ao he).elim fun he h3 => ?_
  refine (ao he).elim fun h2 h4 => ?_
  exact uC G I cw hf h2 h4 (by simpa using h3) H N
 case del o i p q oZ pos he =>
  refine (ao he).elim fun he h3 => ?_
  refine (ao he).elim fun h0 h2 => ?_
  refine .at ?_
  refine .conv (t' := eval p env >>= fun ov => holding [ov] (eval q env) >>= fun iv => standAt oZ >>= fun J => holding [ov, iv] (delItem ov iv) >>= fun J => pure Flow.next) (fun Q E r Γ p' fh hC => ?_) ?_
  ·have r := r Γ p' fh hC
   have e1 : deleteEach [.Subscript p q oZ] env = ((eval p env >>= fun ov => holding [ov] (eval q env) >>= fun iv => standAt oZ >>= fun J => holding [ov, iv] (delItem ov iv) >>= fun J => release [ov, iv] []) >>= fun J => pure ()) := rfl
   refine ae e1 ?_
   simp -iota only [Sem.wp_bind', Sem.wp_holding, Sem.wp_pure, Sem.wp_release] at r ⊢
   exact r
  ·refine au.bind H.bw (I.e h2 cw H N) fun v A1 c1 s1 u a4 H1 r1 => ?_
   refine au.bind H1.bw (.hold (I.e h3 cw H1 (N.mono a4.grown))) fun w A2 c2 s2 j le2 H2 r2 => .at ?_
   exact au.bind H2.bw (.hold (P2.iD hb H2 (r1.mono le2.grown) r2)) fun J A3 c3 s3 J dU H3 J => .ok H3 rfl
 case iB e a p he =>
  cases e <;> cases a
  ·exact rz (ih := ih) cw H
  ·cases he
  ·cases he
  ·exact o5 G I cw he H N
 case lq ts es ys k p zs k' p' q he =>
  refine (ao he).elim fun he h4 => ?_
  refine (ao he).elim fun h2 h3 => ?_
  exact rB G P P2 I h1 cw h2 h3 h4 H N
 case CS p => exact .at (.ok H rfl)
 case bad => exact .none
end
end aD
end
section
open PySem PySem.Calls PyProof.Rows PySem.W
set_option backward.match.sparseCases false
namespace aD
namespace BS
variable {ρ : Val} {m : Nat}
theorem cF (x : Seg) : (Seg.den ρ x).length = a5 x := by
 cases x with
 | lit l => exact List.length_map ..
 | rep k n => exact List.length_replicate ..
 | d9 k o n => exact (List.length_map ..).trans List.length_range
 | be k o n a m => exact (List.length_map ..).trans List.length_range
theorem bq (x : BS) : (BS.den ρ x).length = len x := by
 induction x with
 | nil => rfl
 | cons x r ih => refine (?_ : (Seg.den ρ x ++ BS.den ρ r).length = a5 x + len r); rw [List.length_append, cF, ih]
theorem hW (x : Seg) (r : BS) : BS.den ρ (cons x r) = Seg.den ρ x ++ BS.den ρ r := by
 delta cons
 by_cases h : a5 x = 0
 ·refine ae (if_pos h) ?_; refine ae (List.eq_nil_of_length_eq_zero ((cF x).trans h)) ?_; rfl
 refine ae (if_neg h) ?_
 cases r with
 | nil => rfl
 | cons y r =>
  cases x with
  | lit a =>
   cases y with
   | lit b => exact (congrArg (· ++ _) List.map_append).trans (List.append_assoc ..)
   | _ => rfl
  | rep k n =>
   cases y with
   | rep k' n' =>
    refine (?_ : BS.den ρ (if k = k' then _ else _) = _)
    by_cases q : k = k'
    ·subst q
     refine ae (if_pos rfl) ?_
     exact (congrArg (· ++ _) List.replicate_append_replicate.symm).trans (List.append_assoc ..)
    ·refine ae (if_neg q) ?_; rfl
   | _ => rfl
  | _ => rfl
theorem nF {x : Seg} {r : BS} (h : Seg.lt m x) (h' : BS.lt m r) : BS.lt m (cons x r) := by
 delta cons
 by_cases q : a5 x = 0
 ·refine ae (if_pos q) ?_; exact h'
 refine ae (if_neg q) ?_
 cases r with
 | nil => exact ⟨h, h'⟩
 | cons y r =>
  cases x with
  | lit a =>
   cases y with
   | lit b => exact ⟨trivial, h'.2⟩
   | _ => exact ⟨h, h'⟩
  | rep k n =>
   cases y with
   | rep k' n' =>
    refine (?_ : BS.lt m (if k = k' then _ else _))
    by_cases q : k = k'
    ·refine ae (if_pos q) ?_; exact ⟨h, h'.2⟩
    ·refine ae (if_neg q) ?_; exact ⟨h, h'⟩
   | _ => exact ⟨h, h'⟩
  | _ => exact ⟨h, h'⟩
theorem fR (x y : BS) : BS.den ρ (app x y) = BS.den ρ x ++ BS.den ρ y := by
 induction x with
 | nil => rfl
 | cons x r ih =>
  refine (?_ : BS.den ρ (cons x (app r y)) = Seg.den ρ x ++ BS.den ρ r ++ BS.den ρ y)
  rw [hW, ih, List.append_assoc]
theorem j6 {x y : BS} (h : BS.lt m x) (h' : BS.lt m y) : BS.lt m (app x y) := by
 induction x with
 | nil => exact h'
 | cons x r ih => exact nF h.1 (ih h.2)
theorem pe (d : Nat) (x : Seg) : Seg.den ρ (fM d x) = (Seg.den ρ x).drop d := by
 cases x with
 | lit l => exact List.map_drop
 | rep k n => exact List.drop_replicate.symm
 | d9 k o n =>
  refine (?_ : List.map _ (List.range (n - d)) = (List.map _ (List.range n)).drop d)
  refine bK List.map_drop ?_
  apply List.ext_getElem
  ·simp
  ·intro i h1 h2
   simp [Nat.add_assoc]
 | be k o n a m =>
  refine (?_ : List.map _ (List.range (m - d)) = (List.map _ (List.range m)).drop d)
  refine bK List.map_drop ?_
  apply List.ext_getElem
  ·simp
  ·intro i h1 h2
   simp [Nat.add_assoc]
theorem pf (d : Nat) (x : Seg) : Seg.den ρ (fN d x) = (Seg.den ρ x).take d := by
 cases x with
 | lit l => exact List.map_take
 | rep k n => exact List.take_replicate.symm
 | d9 k o n =>
  refine (?_ : List.map _ (List.range (min d n)) = (List.map _ (List.range n)).take d)
  refine bK List.map_take ?_; refine ae List.take_range ?_; rfl
 | be k o n a m =>
  refine (?_ : List.map _ (List.range (min d m)) = (List.map _ (List.range m)).take d)
  refine bK List.map_take ?_; refine ae List.take_range ?_; rfl
theorem rC {d : Nat} {x : Seg} (h : Seg.lt m x) : Seg.lt m (fM d x) := by
 cases x <;> exact h
theorem rD {d : Nat} {x : Seg} (h : Seg.lt m x) : Seg.lt m (fN d x) := by
 cases x <;> exact h
theorem pg (d : Nat) (x : BS) : BS.den ρ (drop d x) = (BS.den ρ x).drop d := by
 induction x generalizing d with
 | nil => exact List.drop_nil.symm
 | cons x r ih =>
  refine (?_ : BS.den ρ (if a5 x ≤ d then drop (d - a5 x) r else fM d x :: r) = (Seg.den ρ x ++ BS.den ρ r).drop d)
  rw [List.drop_append, cF]
  by_cases h : a5 x ≤ d
  ·rw [if_pos h, ih, List.drop_eq_nil_of_le (Nat.le_trans (Nat.le_of_eq (cF x)) h)]; rfl
  ·rw [if_neg h]
   refine (?_ : Seg.den ρ (fM d x) ++ BS.den ρ r = _)
   rw [pe, Nat.sub_eq_zero_of_le (Nat.le_of_not_le h), List.drop_zero]
theorem tB {d : Nat} {x : BS} (h : BS.lt m x) : BS.lt m (drop d x) := by
 induction x generalizing d with
 | nil => exact h
 | cons x r ih =>
  refine (?_ : BS.lt m (if a5 x ≤ d then drop (d - a5 x) r else fM d x :: r))
  by_cases q : a5 x ≤ d
  ·refine ae (if_pos q) ?_; exact ih h.2
  ·refine ae (if_neg q) ?_; exact ⟨rC h.1, h.2⟩
theorem ph (d : Nat) (x : BS) : BS.den ρ (take d x) = (BS.den ρ x).take d := by
 induction x generalizing d with
 | nil => exact List.take_nil.symm
 | cons x r ih =>
  refine (?_ : BS.den ρ (if a5 x ≤ d then x :: take (d - a5 x) r else if d = 0 then [] else [fN d x]) = (Seg.den ρ x ++ BS.den ρ r).take d)
  rw [List.take_append, cF]
  by_cases h : a5 x ≤ d
  ·rw [if_pos h]
   refine (?_ : Seg.den ρ x ++ BS.den ρ (take (d - a5 x) r) = _)
   rw [ih, List.take_of_length_le (Nat.le_trans (Nat.le_of_eq (cF x)) h)]
  ·rw [if_neg h, Nat.sub_eq_zero_of_le (Nat.le_of_not_le h), List.take_zero, List.append_nil]
   by_cases h0 : d = 0
   ·subst h0; rfl
   ·rw [if_neg h0]
    refine (?_ : Seg.den ρ (fN d x) ++ [] = _)
    rw [pf, List.append_nil]
theorem tC {d : Nat} {x : BS} (h : BS.lt m x) : BS.lt m (take d x) := by
 induction x generalizing d with
 | nil => exact h
 | cons x r ih =>
  refine (?_ : BS.lt m (if a5 x ≤ d then x :: take (d - a5 x) r else if d = 0 then [] else [fN d x]))
  by_cases q : a5 x ≤ d
  ·refine ae (if_pos q) ?_; exact ⟨h.1, ih h.2⟩
  ·refine ae (if_neg q) ?_
   by_cases q : d = 0
   ·refine ae (if_pos q) ?_; exact trivial
   ·refine ae (if_neg q) ?_; exact ⟨rD h.1, trivial⟩
theorem iK (a b : Nat) (x : BS) : BS.den ρ (slice a b x) = ((BS.den ρ x).drop a).take (b - a) := by
 delta slice; rw [ph, pg]
theorem pj {a b : Nat} {x : BS} (h : BS.lt m x) : BS.lt m (slice a b x) := tC (tB h)
theorem BW {n : Nat} {x : BS} (h : BS.lt m x) : BS.lt m (mul n x) := by
 induction n with
 | zero => exact trivial
 | succ n ih =>
  refine (?_ : BS.lt m (vZ n x (mul n x)))
  delta vZ
  cases vY x with
  | none => exact j6 h ih
  | some p =>
   obtain ⟨p, rfl⟩ := p
   exact ⟨h.1, trivial⟩
theorem yX (n : Nat) (x : BS) : BS.den ρ (mul n x) = (List.replicate n (BS.den ρ x)).flatten := by
 induction n with
 | zero => rfl
 | succ n ih =>
  refine (?_ : BS.den ρ (vZ n x (mul n x)) = _)
  delta vZ
  cases vY x with
  | none => rw [fR, ih]; rfl
  | some p =>
   obtain ⟨⟨k, j⟩, rfl⟩ := p
   refine (?_ : List.replicate (j * (n + 1)) (UInt8.ofNat (ρ.i k).toNat) ++ [] = (List.replicate (n + 1) (List.replicate j _ ++ [])).flatten)
   rw [List.append_nil, List.append_nil, List.flatten_replicate_replicate, Nat.mul_comm]
theorem BX {x : BS} {i : Nat} {e : SI} : Df x i = some e → (BS.den ρ x)[i]? = some (UInt8.ofNat (SI.den ρ e).toNat) := by
 induction x generalizing i with
 | nil => exact fun h => nomatch h
 | cons x r ih =>
  intro h
  refine (?_ : (Seg.den ρ x ++ BS.den ρ r)[i]? = _)
  replace h : (if a5 x ≤ i then Df r (i - a5 x) else atS x i) = some e := h
  rw [List.getElem?_append, cF]
  by_cases hi : a5 x ≤ i
  ·refine ae (if_neg (Nat.not_lt_of_le hi)) ?_
   exact ih ((if_pos hi).symm.trans h)
  ·replace h := (if_neg hi).symm.trans h
   replace hi := Nat.lt_of_not_le hi
   refine ae (if_pos hi) ?_
   cases x with
   | lit l =>
    refine (?_ : (List.map _ l)[i]? = _)
    refine ae (List.getElem?_map) ?_
    obtain ⟨b, hl, rfl⟩ := Dd h
    refine ae hl ?_; rfl
   | rep k n =>
    obtain rfl := aO h
    refine (?_ : (List.replicate n _)[i]? = _)
    refine ae (List.getElem?_replicate) ?_; refine ae (if_pos hi) ?_; refine (?_ : _ = some (UInt8.ofNat (ρ.i k + 0).toNat)); rw [Int.add_zero]
   | _ => exact nomatch h
theorem D0 {x : BS} {i : Nat} {e : SI} : BS.lt m x → Df x i = some e → SI.lt m e := by
 induction x generalizing i with
 | nil => exact fun _ h => nomatch h
 | cons x r ih =>
  intro l h
  replace h : (if a5 x ≤ i then Df r (i - a5 x) else atS x i) = some e := h
  by_cases hi : a5 x ≤ i
  ·exact ih l.2 ((if_pos hi).symm.trans h)
  ·replace h := (if_neg hi).symm.trans h
   cases x with
   | lit l =>
    obtain ⟨b, hl, rfl⟩ := Dd h
    exact trivial
   | rep k n => obtain rfl := aO h; exact l.1
   | _ => exact nomatch h
end BS
section
variable {Z : aL} {L : Nat} {cs : Fm} {Ar : Around} {c : Cfg} {A : AS} {s : Shared}
theorem au.gH {t : Sem Value} {i : Int} (H : St Z L cs c A s) (h : ∀ {Q E}, Q (.int i s.toks) { s with toks := s.toks + 1 } → wpAny Z.M Ar t Q E s) : au Z L cs Ar t VR (aD.ok (.int (.lit i)) A) c s :=
 .look H fun J J k => h (k _ _ ⟨trivial, _, rfl⟩)
theorem St.drawn (H : St Z L cs c A s) {d : VD} {i : Int} {b : Nat → UInt8} {t : Nat} (hd : VD.ok (c.draw i b).ρ c.nv d) : St Z L cs (c.draw i b) (A.fresh d).2 { s with toks := t } := (H.toks t).fresh hd
theorem Le.drawn {i : Int} {b : Nat → UInt8} {t : Nat} : Le Z L c s (c.draw i b) { s with toks := t } := (Le.toks t).trans Le.fresh
theorem gq {y : Int} (h : y.natAbs < 18446744073709551616) : Builtin.Int.intBits y ≤ 64 := intBits_le_64 (by omega) (by omega)
theorem get_size (h : Heap) : h.get? h.objs.size = none := by
 cases e : h.get? h.objs.size with
 | none => rfl
 | some o => exact absurd (Heap.lt_size e) (Nat.lt_irrefl _)
theorem au.newObj {t : Sem Value} {o : ax} {ob : Obj} (H : St Z L cs c A s) (hf : ob.isFreed = false) (ho : ∀ h p, (h : Heap).get? p.1 = some ob → p.1 = s.heap.objs.size → br Z (c.push p) h c.n o)
 (h : ∀ {Q : Value → Shared → Prop} {E}, (∀ tk, Q (.ref s.heap.objs.size) { s with heap := s.heap.push ob, toks := tk }) → wpAny Z.M Ar t Q E s) : au Z L cs Ar t VR (aD.ok (V.loc (A.alloc o).1) (A.alloc o).2) c s := .done fun Q E k => h fun tk => by
 have hk : ∀ b o', s.heap.get? b = some o' → (s.heap.push ob).get? b = some o' := fun b o' e => Heap.get?_push_of_some ob e
 have hz := get_size s.heap
 have hy : Has (s.heap.push ob) s.heap.objs.size := ⟨ob, Heap.get?_push_size _ hf⟩
 refine k _ _ (c.push (s.heap.objs.size, s.heap.objs.size)) ((Le.alloc (s' := { s with heap := s.heap.push ob, toks := tk }) hk hz hz)) ?_ ⟨?_, ?_⟩
 ·exact H.alloc (s' := { s with heap := s.heap.push ob, toks := tk }) hk ⟨hz, hy⟩ ⟨hz, hy⟩ (ho _ _ (Heap.get?_push_size _ hf) rfl) rfl rfl
 ·refine (?_ : A.n < c.n + 1)
  refine ae H.n ?_; exact Nat.lt_succ_self _
 ·refine (?_ : _ = Value.ref ((c.push _).σ A.n).1)
  rw [← H.n, c.aI]
theorem pn {vs : List V} {us : List Value} (H : St Z L cs c A s) (r : dk c vs us) : ∀ h p, (h : Heap).get? p.1 = some { cls := .type "list", data := .seq us.toArray } → p.1 = s.heap.objs.size → br Z (c.push p) h c.n (.list vs) := fun h p e J => by
 refine ⟨us.toArray, 0, ?_, ?_⟩
 ·rw [c.aI]; exact e
 ·refine ae List.toList_toArray ?_; exact r.imp fun J J y => y.mono (c.aJ p)
set_option tactic.hygienic true in
theorem uH {vs : List V} {us : List Value} (H : St Z L cs c A s) (r : dk c vs us) : au Z L cs Ar (newList us) VR (we vs A) c s := by
 delta we
 split
 ·rename_i hl
  exact .newObj H rfl (pn H r) fun h => wpAny_newList (h s.toks) (by refine ae sizeLine_eq ?_; refine bK r.length ?_; exact Nat.le_trans ‹_› (by decide))
 ·exact .none
set_option tactic.hygienic true in
theorem uI {vs : List V} {us : List Value} (H : St Z L cs c A s) (r : dk c vs us) : au Z L cs Ar (newTuple us) VR (ue vs A) c s := by
 delta ue
 split
 ·rename_i hl
  exact .newObj H (ob := { cls := .type "tuple", data := .seq us.toArray }) rfl (fun h p e J => by
   refine ⟨us.toArray, ?_, ?_⟩
   ·rw [c.aI]; exact e
   ·refine ae List.toList_toArray ?_; exact r.imp fun J J y => y.mono (c.aJ p)) fun h => wpAny_newTuple (h s.toks) (by refine ae sizeLine_eq ?_; refine bK r.length ?_; exact Nat.le_trans ‹_› (by decide))
 ·exact .none
theorem j7 {a b : V} {p : Int × Int} (h : sZ a b = some p) : a = .int (.lit p.1) ∧ b = .int (.lit p.2) := by
 obtain ⟨x, _, h⟩ := f9 h
 obtain ⟨y, _, h⟩ := f9 h
 obtain rfl := aO h
 exact ⟨x.2, y.2⟩
theorem bJ {α : Type} : ∀ (l : List α) (n : Nat), getL l n = l[n]?
 | [], _ => rfl
 | _ :: _, 0 => rfl
 | _ :: l, n + 1 => bJ l n
theorem dr {vs : List VD} (D1 : ∀ k d, vs[k]? = some d → VD.ok c.ρ k d) {x : SI} {p : Int × Int} (e : bnd vs x = some p) : p.1 ≤ SI.den c.ρ x ∧ SI.den c.ρ x < p.2 := by
 cases x with
 | lit i => obtain rfl := aO e; exact ⟨Int.le_refl _, Int.lt_succ _⟩
 | va k o =>
  refine (?_ : _ ≤ c.ρ.i k + o ∧ c.ρ.i k + o < _)
  have e : (match getL vs k with
   | some (.int lo hi) => some (lo + o, hi + o)
   | some (.gh s) => some (o, if o ≤ s then 2147483649 else 2147483649 + o)
   | some (.lt _) => some (o, 2147483648 + o)
   | _ => none) = some p := e
  rw [bJ] at e
  generalize hv : vs[k]? = d at e
  cases d with
  | none => exact no e
  | some d =>
   have hd := D1 k d hv
   cases d with
   | int lo hi => obtain rfl := aO e; exact ⟨Int.add_le_add_right hd.1 o, Int.add_lt_add_right hd.2 o⟩
   | oct => exact no e
   | lt j => obtain rfl := aO e; obtain ⟨_, h1, _, h2⟩ := hd; dsimp -iota only; omega
   | gh m =>
    obtain rfl := aO e
    refine (hd).elim fun h1 h2 => ?_
    dsimp -iota only
    by_cases q : o ≤ (m : Int)
    ·refine ae (if_pos q) ?_; omega
    ·refine ae (if_neg q) ?_; omega
   | any => exact no e
theorem nG (H : Hp Z c A s) {x : SI} {p : Int × Int} (e : bnd A.vars x = some p) : p.1 ≤ SI.den c.ρ x ∧ SI.den c.ρ x < p.2 := dr H.vars e
theorem au.nH {t : Sem Value} {i : Int} {d : VD} (H : St Z L cs c A s) (hd : VD.ok (c.draw i (fun J => 0)).ρ c.nv d) (h : ∀ {Q E}, Q (.int i s.toks) { s with toks := s.toks + 1 } → wpAny Z.M Ar t Q E s) : au Z L cs Ar t VR (aD.ok (.int (.va (A.fresh d).1 0)) (A.fresh d).2) c s :=
 .done fun Q E q => h (q _ _ (c.draw i (fun J => 0)) Le.drawn (H.drawn hd) ⟨by refine (?_ : A.vars.length < c.nv + 1); refine ae H.nv ?_; exact Nat.lt_succ_self _, s.toks, by
  refine (?_ : _ = Value.int ((if A.vars.length = c.nv then i else c.ρ.i A.vars.length) + 0) _)
  rw [if_pos H.nv.symm, Int.add_zero]⟩)
theorem au.wV {t : Sem Value} {i o : Int} {k : Nat} (H : St Z L cs c A s) (hk : k < c.nv) (e : i = c.ρ.i k + o) (h : ∀ {Q E}, Q (.int i s.toks) { s with toks := s.toks + 1 } → wpAny Z.M Ar t Q E s) : au Z L cs Ar t VR (aD.ok (.int (.va k o)) A) c s :=
 .look H fun J J q => h (q _ _ ⟨hk, s.toks, by refine ae e ?_; rfl⟩)
def D2 (f : Int → Int → Int) (Z : aL) (Ar : Around) (s : Shared) (u v : Value) (t : Sem Value) : Prop := ∀ i j t1 t2, u = .int i t1 → v = .int j t2 → ∀ {Q : Value → Shared → Prop} {E : Value → Shared → Prop}, Q (.int (f i j) s.toks) { s with toks := s.toks + 1 } → wpAny Z.M Ar t Q E s
theorem j8 {x : SI} {b : V} {u v : Value} {t : Sem Value} (hT : D2 (· + ·) Z Ar s u v t) (H : St Z L cs c A s) (ra : VR c (.int x) u) (rb : VR c b v) : au Z L cs Ar t VR (Bs x b A) c s := by
 obtain ⟨hx, t1, hu⟩ := ra
 cases b with
 | int y =>
  obtain ⟨hy, t2, hv⟩ := rb
  have hT := fun {Q : Value → Shared → Prop} {E : Value → Shared → Prop} => hT _ _ _ _ hu hv (Q := Q) (E := E)
  cases x with
  | lit x => cases y with
   | lit y => exact .gH H hT
   | va k o => exact .none
  | va k o => cases y with
   | lit y => exact .wV H hx (by refine (?_ : c.ρ.i k + o + y = _); exact Int.add_assoc _ _ _) hT
   | va j p => exact .nH H trivial hT
 | _ => cases x <;> exact .none
theorem rE {i j : Nat} (H : St Z L cs c A s) : au Z L cs Ar (binaryOp .Add (.ref (c.σ i).1) (.ref (c.σ j).1)) VR (Dp i j A) c s := by
 refine .bnd fun x J => .bnd fun y J => .dM fun hl => ?_
 obtain ⟨x, hx⟩ := x
 obtain ⟨y, hy⟩ := y
 obtain ⟨us, ep, e1, r1⟩ := H.objs _ _ hx
 obtain ⟨ws, AQ, e2, r2⟩ := H.objs _ _ hy
 refine .newObj H (ob := { cls := .type "list", data := .seq (us ++ ws) }) rfl (fun h p e hp => ?_) fun h => P.add_list (n := ep) (n2 := AQ) e1 e2 (h s.toks) ?_
 ·refine ⟨us ++ ws, 0, ?_, ?_⟩
  ·rw [c.aI]; exact e
  ·refine ae Array.toList_append ?_; exact (r1.append r2).imp fun J J y => y.mono (c.aJ p)
 ·refine ae sizeLine_eq ?_
  have q1 : _ = us.size := r1.length
  have q2 : _ = ws.size := r2.length
  rw [← q1, ← q2]
  exact Nat.le_trans hl (by decide)
theorem rF {a b : V} {u v : Value} (H : St Z L cs c A s) (ra : VR c a u) (rb : VR c b v) : au Z L cs Ar (binaryOp .Add u v) VR (Dq a b A) c s := by
 cases a with
 | int x => exact j8 (fun J J J J h1 h2 => by subst h1; subst h2; exact fun h => add_int h) H ra rb
 | str x =>
  refine .bnd fun y J => .dM fun hl => ?_
  obtain ⟨y, rfl⟩ := y
  obtain ⟨t, rfl⟩ := ra; obtain ⟨t', rfl⟩ := rb
  refine .look H fun Q E q => PyProof.Rows.add_str (fun t' tk => q _ _ ⟨t', ?_⟩) ?_
  ·refine (?_ : Value.str (strOf x ++ strOf y) _ = Value.str (strOf (x ++ y)) _)
   congr 1
   refine (?_ : (⟨x.toArray ++ y.toArray⟩ : Str) = ⟨(x ++ y).toArray⟩)
   rw [List.append_toArray]
  ·refine (?_ : x.toArray.size + y.toArray.size ≤ _)
   refine ae sizeLine_eq ?_; refine ae List.size_toArray ?_; refine ae List.size_toArray ?_; exact Nat.le_trans hl (by decide)
 | bytes x =>
  refine .bnd fun y J => .dM fun hl => ?_
  obtain ⟨y, rfl⟩ := y
  obtain ⟨h1, t, rfl⟩ := ra; obtain ⟨h2, t', rfl⟩ := rb
  refine .look H fun Q E q => KBy.add_bytes ?_ fun t' tk => q _ _ ⟨BS.j6 h1 h2, t', ?_⟩
  ·rw [List.size_toArray, List.size_toArray, BS.bq, BS.bq]; exact Nat.le_trans hl (by decide)
  ·rw [BS.fR, ← List.append_toArray]
 | loc i =>
  refine .bnd fun j J => ?_
  obtain ⟨j, rfl⟩ := j
  obtain ⟨h1, rfl⟩ := ra; obtain ⟨h2, rfl⟩ := rb
  exact rE H
 | _ => exact .none
theorem rG {a b : V} {u v : Value} (H : St Z L cs c A s) (ra : VR c a u) (rb : VR c b v) : au Z L cs Ar (binaryOp .Mult u v) VR (Dr a b A) c s := by
 cases a with
 | bytes x =>
  refine .bnd fun y J => .dM fun hl => ?_
  obtain ⟨y, rfl⟩ := y
  obtain ⟨h1, t, rfl⟩ := ra; obtain ⟨h2, t', rfl⟩ := rb
  refine .look H fun Q E q => bytes_mul_any ?_ ?_ ?_ ?_ fun t' tk => q _ _ ⟨BS.BW h1, t', ?_⟩
  ·intro e
   have := BS.bq (ρ := c.ρ) x
   rw [e] at this
   exact hl.2.2.2 this.symm
  ·exact Int.le_trans (by decide) hl.1
  ·exact Int.le_trans hl.2.1 (by decide)
  ·rw [BS.bq]; exact hl.2.2.1
  ·rw [BS.yX]; rfl
 | int x =>
  refine .bnd fun y J => ?_
  obtain ⟨y, rfl⟩ := y
  obtain ⟨_, t, rfl⟩ := ra; obtain ⟨_, t', rfl⟩ := rb
  cases x with
  | lit i => exact .dM fun hy => .gH H fun h => PyProof.Rows.mul_int h (hy.elim (fun hy => IntMulOk.of_right (gq hy)) fun hy => mulOk_of_bits (Nat.le_refl _) (Nat.le_refl _) hy)
  | va k o => exact .dM fun hy => .nH H trivial fun h => PyProof.Rows.mul_int h (IntMulOk.of_right (gq (Nat.lt_trans hy.1 (by decide))))
 | _ => exact .none
theorem modS {k : Nat} {o y : Int} {t t' : Tok} (H : St Z L cs c A s) : au Z L cs Ar (binaryOp .Mod (.int (SI.den c.ρ (.va k o)) t) (.int y t')) VR (Bt y A) c s :=
 .dM fun hy => .nH H (i := (SI.den c.ρ (.va k o)).fmod y) ⟨by
  show 0 ≤ if c.nv = c.nv then _ else _
  refine ae (if_pos rfl) ?_; exact Int.fmod_nonneg_of_pos _ hy, by
  refine (?_ : (if c.nv = c.nv then _ else _) < y)
  refine ae (if_pos rfl) ?_; exact Int.fmod_lt_of_pos _ hy⟩ fun h => mod_int (Int.ne_of_gt ‹_›) h
set_option tactic.hygienic true in
theorem rH {k : Nat} {o y : Int} {t t' : Tok} (H : St Z L cs c A s) (hk : k < c.nv) {q : Option (Int × Int)} (hv : bnd A.vars (.va k o) = q) : au Z L cs Ar (binaryOp .Mod (.int (SI.den c.ρ (.va k o)) t) (.int y t')) VR (Ds q k o y A) c s := by
 cases q with
 | none => exact modS H
 | some p =>
  refine .alt (fun hc => ?_) fun _ => modS H
  have hd := nG H.toHp hv
  have h1 := Int.le_trans hc.1 hd.1
  have h2 := Int.lt_of_lt_of_le hd.2 hc.2
  exact .wV H hk (Int.fmod_eq_of_lt h1 h2) fun h => mod_int (Int.ne_of_gt (Int.lt_of_le_of_lt h1 h2)) h
theorem rI {a b : V} {u v : Value} (H : St Z L cs c A s) (ra : VR c a u) (rb : VR c b v) : au Z L cs Ar (binaryOp .Mod u v) VR (Dt a b A) c s := by
 refine .bnd fun x J => .bnd fun y J => ?_
 obtain ⟨x, rfl⟩ := x
 obtain ⟨y, rfl⟩ := y
 obtain ⟨hk, t, rfl⟩ := ra; obtain ⟨_, t', rfl⟩ := rb
 cases x with
 | lit i => exact .dM fun hy => .gH H fun h => mod_int hy h
 | va k o => exact rH H hk rfl
theorem rJ {a b : V} {u v : Value} {t : Sem Value} (hT : D2 (· - ·) Z Ar s u v t) (H : St Z L cs c A s) (ra : VR c a u) (rb : VR c b v) : au Z L cs Ar t VR (Du a b A) c s := by
 refine .bnd fun p hp => ?_
 obtain ⟨rfl, rfl⟩ := j7 hp
 obtain ⟨_, t, hu⟩ := ra; refine (rb).elim fun _ aj => (aj).elim fun t' hv => ?_
 exact .gH H fun h => hT _ _ _ _ hu hv h
theorem uJ {o : qP} {a b : V} {u v : Value} (H : St Z L cs c A s) (ra : VR c a u) (rb : VR c b v) : au Z L cs Ar (binaryOp (rm o) u v) VR (ee o a b A) c s := by
 cases o with
 | add => exact rF H ra rb
 | mul => exact rG H ra rb
 | mod => exact rI H ra rb
 | sub => exact rJ (fun J J J J h1 h2 => by subst h1; subst h2; exact fun h => sub_int h) H ra rb
 | div =>
  refine .bnd fun p hp => .dM fun hy => ?_
  obtain ⟨rfl, rfl⟩ := j7 hp
  obtain ⟨_, t, rfl⟩ := ra; obtain ⟨_, t', rfl⟩ := rb
  have hy := not_or.mp hy
  exact .gH H fun h => PyProof.Rows.floordiv_int hy.1 h (.inl (PyProof.noPylong_small (Nat.lt_of_not_le hy.2)))
 | pow =>
  refine .bnd fun p hp => .dM fun hy => ?_
  obtain ⟨rfl, rfl⟩ := j7 hp
  obtain ⟨_, t, rfl⟩ := ra; obtain ⟨_, t', rfl⟩ := rb
  exact .gH H fun h => pow_int_small hy.1 (Int.le_trans hy.2.1 (by decide)) (Nat.lt_trans hy.2.2 (by decide)) h
theorem lB : typeLookup (.type "bytes") (dunderI "add") = pure none := by rw [typeLookup_type, builtinLookup_eq_fast]; kernel_rfl
theorem rK {M : World} {prog : Program} {E : Value → Shared → Prop} {b d : Array UInt8} {t u : Tok} {Q : Value → Shared → Prop} (ru : b.size + d.size ≤ 16777216) (h : ∀ t' k, Q (.bytes (b ++ d) t') { s with toks := k }) : wpAny (model prog M) Ar (inplaceOp .Add (.bytes b t) (.bytes d u)) Q E s := by
 refine iconcat_gives (typeIs_bytes s b t) (typeIs_bytes s d u) lB KBy.noFill_bytes_add KBy.seq_bytes_add FB.slot_bytes_add FB.entry_bytes_add (FB.args_bytes_add_2 _ _) (KBy.gives_bytes_add (KBy.tooLong_not ru)) ?_
 by_cases hb : b.isEmpty = true
 ·refine ae (if_pos hb) ?_
  have e : b = #[] := Array.isEmpty_iff.1 hb
  have h' := h u s.toks
  rw [e, Array.empty_append] at h'
  exact h'
 ·refine ae (if_neg hb) ?_
  by_cases hc : d.isEmpty = true
  ·refine ae (if_pos hc) ?_
   have e : d = #[] := Array.isEmpty_iff.1 hc
   have h' := h t s.toks
   rw [e, Array.append_empty] at h'
   exact h'
  ·refine ae (if_neg hc) ?_
   exact ⟨by refine ae Array.size_append ?_; refine ae sizeLine_eq ?_; exact ru, h s.toks (s.toks + 1)⟩
theorem rL {o : qP} {a b : V} {u v : Value} (H : St Z L cs c A s) (ra : VR c a u) (rb : VR c b v) : au Z L cs Ar (inplaceOp (rm o) u v) VR (s8 o a b A) c s := by
 cases o with
 | add =>
  cases a with
  | int x => exact j8 (fun J J J J h1 h2 => by subst h1; subst h2; exact fun h => iadd_int h) H ra rb
  | bytes x =>
   refine .bnd fun y J => .dM fun hl => ?_
   obtain ⟨y, rfl⟩ := y
   obtain ⟨h1, t, rfl⟩ := ra; obtain ⟨h2, t', rfl⟩ := rb
   refine .look H fun Q E q => rK ?_ fun t' tk => q _ _ ⟨BS.j6 h1 h2, t', ?_⟩
   ·rw [List.size_toArray, List.size_toArray, BS.bq, BS.bq]; exact Nat.le_trans hl (by decide)
   ·rw [BS.fR, ← List.append_toArray]
  | _ => exact .none
 | _ => exact .none
end
section
variable {κ K : Type} [DecidableEq K] {g : κ → K} {q : κ → κ → Bool} {c : Cfg}
def KR (g : κ → K) (c : Cfg) (f : κ × V) (p : K × Value) : Prop := p.1 = g f.1 ∧ VR c f.2 p.2
theorem mf {α : Type} {a b : α} {t : Bool} (h : t = true) : Bool.rec (motive := fun J => α) a b t = b := by subst h; rfl
theorem j9 {α : Type} {a b : α} {t : Bool} (h : t = false) : Bool.rec (motive := fun J => α) a b t = a := by subst h; rfl
theorem KR.hit (he : ∀ a b, q a b = decide (g a = g b)) {f : κ × V} {p : K × Value} {x : κ} (r : KR g c f p) (h : p.1 = g x) : q f.1 x = true := (he _ _).trans (decide_eq_true (r.1.symm.trans h))
theorem KR.miss (he : ∀ a b, q a b = decide (g a = g b)) {f : κ × V} {p : K × Value} {x : κ} (r : KR g c f p) (h : ¬ p.1 = g x) : q f.1 x = false := (he _ _).trans (decide_eq_false fun z => h (r.1.trans z))
theorem fS {α : Type} {x : κ} {p : κ × α} {r : List (κ × α)} (h : q p.1 x = true) : dN q x (p :: r) = some p.2 := mf h
theorem eM {α : Type} {x : κ} {p : κ × α} {r : List (κ × α)} (h : q p.1 x = false) : dN q x (p :: r) = dN q x r := j9 h
theorem px {α : Type} {x : κ} {v : α} {p : κ × α} {r : List (κ × α)} (h : q p.1 x = true) : setG q x v (p :: r) = (x, v) :: r := mf h
theorem mh {α : Type} {x : κ} {v : α} {p : κ × α} {r : List (κ × α)} (h : q p.1 x = false) : setG q x v (p :: r) = p :: setG q x v r := j9 h
theorem pz {α : Type} {x : κ} {p : κ × α} {r : List (κ × α)} (h : q p.1 x = true) : oI q x (p :: r) = r := mf h
theorem iL {α : Type} {x : κ} {p : κ × α} {r : List (κ × α)} (h : q p.1 x = false) : oI q x (p :: r) = p :: oI q x r := j9 h
theorem KR.look (he : ∀ a b, q a b = decide (g a = g b)) {x : κ} {es : List (κ × V)} {aF : List (K × Value)} (h : aT (KR g c) es aF) : (dN q x es = none ∧ valueAt aF (g x) = none) ∨ ∃ v u, dN q x es = some v ∧ valueAt aF (g x) = some u ∧ VR c v u := by
 induction h with
 | nil => exact .inl ⟨rfl, rfl⟩
 | @cons f p es aF r _ ih =>
  delta valueAt
  refine ae (List.find?_cons) ?_
  by_cases z : p.1 = g x
  ·refine ae (decide_eq_true z) ?_
   exact .inr ⟨_, _, fS (r.hit he z), rfl, r.2⟩
  ·refine ae (decide_eq_false z) ?_
   refine ae (eM (r.miss he z)) ?_
   exact ih
theorem KR.some (he : ∀ a b, q a b = decide (g a = g b)) {x : κ} {v : V} {es : List (κ × V)} {aF : List (K × Value)} (h : aT (KR g c) es aF) (e : dN q x es = some v) : ∃ u, valueAt aF (g x) = some u ∧ VR c v u := by
 rcases KR.look (x := x) he h with z | ⟨w, u, z, h1, h2⟩
 ·cases z.1.symm.trans e
 ·cases z.symm.trans e; exact ⟨u, h1, h2⟩
theorem KR.none (he : ∀ a b, q a b = decide (g a = g b)) {x : κ} {es : List (κ × V)} {aF : List (K × Value)} (h : aT (KR g c) es aF) (e : dN q x es = none) : valueAt aF (g x) = none := by
 rcases KR.look (x := x) he h with z | ⟨w, u, z, h1, h2⟩
 ·exact z.2
 ·cases z.symm.trans e
theorem KR.isSome (he : ∀ a b, q a b = decide (g a = g b)) {x : κ} {es : List (κ × V)} {aF : List (K × Value)} (h : aT (KR g c) es aF) : (valueAt aF (g x)).isSome = (dN q x es).isSome := by
 rcases KR.look (x := x) he h with z | ⟨w, u, z, h1, h2⟩
 ·rw [z.1, z.2]; rfl
 ·rw [z, h1]; rfl
theorem pA {p : K × Value} {aF : List (K × Value)} {k : K} {u : Value} (h : ¬ p.1 = k) : stored (p :: aF) k u = p :: stored aF k u := by
 delta stored
 rw [List.any_cons, decide_eq_false h, Bool.false_or, List.map_cons, if_neg h]
 split <;> rfl
theorem KR.set (he : ∀ a b, q a b = decide (g a = g b)) {x : κ} {v : V} {u : Value} (hv : VR c v u) {es : List (κ × V)} {aF : List (K × Value)} (h : aT (KR g c) es aF) (nd : (aF.map (·.1)).Nodup) : aT (KR g c) (setG q x v es) (stored aF (g x) u) := by
 induction h with
 | nil => exact .cons ⟨rfl, hv⟩ .nil
 | @cons f p es aF r t ih =>
  rw [List.map_cons, List.nodup_cons] at nd
  by_cases e : p.1 = g x
  ·refine ae (px (r.hit he e)) ?_
   delta stored
   rw [List.any_cons, decide_eq_true e, Bool.true_or, if_pos rfl, List.map_cons, if_pos e, map_store_of_not_mem aF (g x) u (e ▸ nd.1)]
   exact .cons ⟨e, hv⟩ t
  ·refine ae (mh (r.miss he e)) ?_
   refine ae (pA e) ?_
   exact .cons r (ih nd.2)
theorem KR.del (he : ∀ a b, q a b = decide (g a = g b)) {x : κ} {es : List (κ × V)} {aF : List (K × Value)} (h : aT (KR g c) es aF) (nd : (aF.map (·.1)).Nodup) : aT (KR g c) (oI q x es) (without aF (g x)) := by
 induction h with
 | nil => exact .nil
 | @cons f p es aF r t ih =>
  rw [List.map_cons, List.nodup_cons] at nd
  by_cases e : p.1 = g x
  ·refine ae (pz (r.hit he e)) ?_
   have hw : without (p :: aF) (g x) = without aF (g x) := by
    delta without
    refine ae List.filter_cons ?_; exact if_neg (by simp [e])
   refine ae hw ?_; refine ae (without_of_not_mem aF (g x) (e ▸ nd.1)) ?_
   exact t
  ·refine ae (iL (r.miss he e)) ?_
   have hw : without (p :: aF) (g x) = p :: without aF (g x) := by
    delta without
    refine ae List.filter_cons ?_; exact if_pos (by simp [e])
   refine ae hw ?_
   exact .cons r (ih nd.2)
end
theorem wW (a : Nat) (l : List Nat) (b : Nat) (t : List Nat) : jG (a :: l) (b :: t) = Bool.rec (motive := fun J => Bool) false (jG l t) (Nat.beq a b) := rfl
theorem dV {a b : List Nat} : (jG a b = true) = (a = b) := by
 induction a generalizing b with
 | nil => cases b with
  | nil => exact propext ⟨fun J => rfl, fun J => rfl⟩
  | cons => exact propext ⟨fun h => bf h, fun h => nomatch h⟩
 | cons a l ih => cases b with
  | nil => exact propext ⟨fun h => bf h, fun h => nomatch h⟩
  | cons b t =>
   rw [wW]
   by_cases h : a = b
   ·refine ae (mf (t := Nat.beq a b) (h ▸ Nat.beq_refl a)) ?_
    refine ae ih ?_
    rw [h]; exact propext ⟨fun z => z ▸ rfl, fun z => (List.cons.inj z).2⟩
   ·refine ae (j9 (Bool.eq_false_iff.mpr fun z => h (Nat.eq_of_beq_eq_true z))) ?_
    exact propext ⟨fun z => bf z, fun z => absurd (List.cons.inj z).1 h⟩
theorem lC {a b : Bool} (h : lr a b = true) : a = true ∧ b = true := by
 cases a with
 | false => exact bf h
 | true => exact ⟨rfl, h⟩
theorem nI {a b : Int} (h : De a b = true) : a = b := by
 cases a <;> cases b <;> first | exact bf h | exact congrArg _ (Nat.eq_of_beq_eq_true h)
theorem wX {x y : Seg} (h : Ay x y = true) : x = y := by
 cases x with
 | lit l =>
  cases y <;> first | exact bf h | exact congrArg _ (dV.mp h)
 | rep k n =>
  cases y <;> first | exact bf h | skip
  cases Nat.eq_of_beq_eq_true (lC h).1; cases Nat.eq_of_beq_eq_true (lC h).2; rfl
 | d9 k o n =>
  cases y <;> first | exact bf h | skip
  obtain ⟨h1, h2⟩ := lC h
  obtain ⟨h2, h3⟩ := lC h2
  cases Nat.eq_of_beq_eq_true h1; cases Nat.eq_of_beq_eq_true h2; cases Nat.eq_of_beq_eq_true h3; rfl
 | be k o n a m =>
  cases y <;> first | exact bf h | skip
  obtain ⟨h1, h2⟩ := lC h
  obtain ⟨h2, h3⟩ := lC h2
  obtain ⟨h3, h4⟩ := lC h3
  obtain ⟨h4, h5⟩ := lC h4
  cases Nat.eq_of_beq_eq_true h1; cases nI h2; cases Nat.eq_of_beq_eq_true h3; cases Nat.eq_of_beq_eq_true h4; cases Nat.eq_of_beq_eq_true h5; rfl
theorem tD {x y : BS} (h : yD x y = true) : x = y := by
 induction x generalizing y with
 | nil => cases y <;> first | exact bf h | rfl
 | cons a l ih => cases y with
  | nil => exact bf h
  | cons b t => cases wX (lC h).1; cases ih (lC h).2; rfl
theorem yY {x : Nat} {l : List Nat} : Bo x l = true → x ∈ l := by
 induction l with
 | nil => exact fun h => bf h
 | cons a l ih =>
  intro h
  by_cases e : Nat.beq a x = true
  ·cases Nat.eq_of_beq_eq_true e; exact .head _
  ·exact .tail _ (ih ((JZ e).symm.trans h))
theorem yZ {α : Type} {l : List α} : Bp l = l.length := by
 induction l with
 | nil => rfl
 | cons a l ih => exact congrArg Nat.succ ih
theorem dy : ∀ a b, strOf a = strOf b → a = b := fun a b h => by
 have : a.toArray = b.toArray := congrArg Str.cps h
 exact congrArg Array.toList this
theorem id_eq : ∀ a b : Int, eqZ a b = decide (id a = id b) := fun J J => rfl
theorem cA (a b : List Nat) : jG a b = decide (strOf a = strOf b) := by
 by_cases h : strOf a = strOf b
 ·exact (dV.mpr (dy _ _ h)).trans (decide_eq_true h).symm
 ·exact (Bool.eq_false_iff.mpr fun z => h (congrArg strOf (dV.mp z))).trans (decide_eq_false h).symm
structure fc (Z : aL) (c : Cfg) (h : Heap) (i : Nat) (es : List (Int × V)) (aF : List (Int × Value)) : Prop where
 at_ : h.DictOf (intKind Z.prog Z.w) (c.σ i).1 aF
 all : aT (KR id c) es aF
 nd : (aF.map (·.1)).Nodup
structure ka (Z : aL) (c : Cfg) (h : Heap) (i : Nat) (es : List (List Nat × V)) (aF : List (Str × Value)) : Prop where
 at_ : h.DictOf (strKind Z.prog Z.w) (c.σ i).1 aF
 all : aT (KR strOf c) es aF
 nd : (aF.map (·.1)).Nodup
section
variable {Z : aL} {c : Cfg} {h : Heap} {i : Nat}
theorem br.aB {es : List (Int × V)} (x : br Z c h i (.aB es)) : ∃ aF, fc Z c h i es aF := by
 obtain ⟨o, aF, h1, h2, h3⟩ := x
 refine (id h2).elim fun CY aj => (aj).elim fun ep ay => (ay).elim fun q1 aP => (aP).elim fun q2 bF => (bF).elim fun q3 cZ => (cZ).elim fun q4 q5 => ?_
 exact ⟨aF, Heap.dictOf_iff.mpr ⟨o, h1, h2⟩, h3, q5⟩
theorem br.aR {es : List (List Nat × V)} (x : br Z c h i (.aR es)) : ∃ aF, ka Z c h i es aF := by
 obtain ⟨o, aF, h1, h2, h3⟩ := x
 refine (id h2).elim fun CY aj => (aj).elim fun ep ay => (ay).elim fun q1 aP => (aP).elim fun q2 bF => (bF).elim fun q3 cZ => (cZ).elim fun q4 q5 => ?_
 exact ⟨aF, Heap.dictOf_iff.mpr ⟨o, h1, h2⟩, h3, q5⟩
theorem br.hX {es : List (Int × V)} {aF : List (Int × Value)} (x : h.DictOf (intKind Z.prog Z.w) (c.σ i).1 aF) (y : aT (KR id c) es aF) : br Z c h i (.aB es) := by
 refine (Heap.dictOf_iff.mp x).elim fun o aj => (aj).elim fun h1 h2 => ?_
 exact ⟨o, aF, h1, h2, y⟩
theorem br.kb {es : List (List Nat × V)} {aF : List (Str × Value)} (x : h.DictOf (strKind Z.prog Z.w) (c.σ i).1 aF) (y : aT (KR strOf c) es aF) : br Z c h i (.aR es) := by
 refine (Heap.dictOf_iff.mp x).elim fun o aj => (aj).elim fun h1 h2 => ?_
 exact ⟨o, aF, h1, h2, y⟩
theorem br.cU {n : Nat} {es : List (Int × V)} (x : br Z c h i (.cU n es)) : br Z c h i (.aB es) := by
 refine (x).elim fun _ aj => (aj).elim fun h1 ay => (ay).elim fun aF aP => (aP).elim fun h2 h3 => ?_
 exact ⟨_, aF, h1, h2, h3⟩
theorem br.fw (x : br Z c h i .a0) : fc Z c h i [] [] := by
 refine (x).elim fun o aj => (aj).elim fun h1 ay => (ay).elim fun h2 aP => (aP).elim fun ep h3 => ?_
 exact ⟨⟨o, #[], ep, h1, h2, h3, (by intro e he; simp at he), .nil, .nil⟩, .nil, .nil⟩
theorem br.nJ (x : br Z c h i .a0) : ka Z c h i [] [] := by
 refine (x).elim fun o aj => (aj).elim fun h1 ay => (ay).elim fun h2 aP => (aP).elim fun ep h3 => ?_
 exact ⟨⟨o, #[], ep, h1, h2, h3, (by intro e he; simp at he), .nil, .nil⟩, .nil, .nil⟩
theorem pB {a b : Int} (h : a = b) : eqZ a b = true := decide_eq_true h
theorem mi {a b : Int} (h : ¬ a = b) : eqZ a b = false := decide_eq_false h
theorem fT {x : Int} {v : V} {l : List (Int × V)} : (l.map (·.1)).Nodup → (bp x l = some v ↔ (x, v) ∈ l) := by
 induction l with
 | nil => exact fun J => ⟨fun h => (nomatch h), fun h => (nomatch h)⟩
 | cons p r ih =>
  intro h
  rw [List.map_cons, List.nodup_cons] at h
  by_cases q : p.1 = x
  ·refine (?_ : dN eqZ x (p :: r) = some v ↔ _)
   refine ae (fS (pB q)) ?_
   refine ⟨fun e => ?_, fun e => ?_⟩
   ·obtain rfl := aO e
    refine bK q ?_; exact .head _
   ·rcases fg e with e | e
    ·refine bK e ?_; rfl
    ·exact absurd (List.mem_map.mpr ⟨_, e, q.symm⟩) h.1
  ·refine (?_ : dN eqZ x (p :: r) = some v ↔ _)
   refine ae (eM (mi q)) ?_
   refine ae (propext (ih h.2)) ?_
   exact ⟨.tail _, fun e => (fg e).resolve_left fun z => q (by refine bK z ?_; rfl)⟩
theorem kg {l k : List (Int × V)} (p : l.Perm k) (nd : (l.map (·.1)).Nodup) (x : Int) : bp x l = bp x k := by
 have CZ : (k.map (·.1)).Nodup := (p.map _).nodup_iff.mp nd
 cases e : bp x l with
 | some v => exact ((fT CZ).mpr (p.mem_iff.mp ((fT nd).mp e))).symm
 | none => cases e' : bp x k with
  | none => rfl
  | some v => cases e.symm.trans ((fT nd).mpr (p.mem_iff.mpr ((fT CZ).mp e')))
theorem tE {x : Int} {v : V} {l : List (Int × V)} : (l.map (·.1)).Nodup → ni x v l = if (bp x l).isSome then l.map (fun p => if p.1 = x then (x, v) else p) else l ++ [(x, v)] := by
 induction l with
 | nil => exact fun J => rfl
 | cons p r ih =>
  intro h
  rw [List.map_cons, List.nodup_cons] at h
  by_cases q : p.1 = x
  ·refine (?_ : setG eqZ x v (p :: r) = if (dN eqZ x (p :: r)).isSome then _ else _)
   refine ae (px (pB q)) ?_
   refine ae (fS (pB q)) ?_
   refine ae (if_pos (show (some p.2).isSome = true from rfl)) ?_; refine ae List.map_cons ?_; refine ae (if_pos q) ?_
   have : r.map (fun p => if p.1 = x then (x, v) else p) = r := by
    refine (List.map_congr_left fun y hy => ?_).trans (List.map_id _)
    exact if_neg fun z => h.1 (List.mem_map.mpr ⟨y, hy, z.trans q.symm⟩)
   refine ae this ?_; rfl
  ·refine (?_ : setG eqZ x v (p :: r) = if (dN eqZ x (p :: r)).isSome then _ else _)
   refine ae (mh (mi q)) ?_
   refine ae (eM (mi q)) ?_
   refine (?_ : p :: ni x v r = if (bp x r).isSome then _ else _)
   refine ae (ih h.2) ?_; refine ae List.map_cons ?_; refine ae (if_neg q) ?_
   cases (bp x r).isSome <;> rfl
theorem tF {x : Int} {l : List (Int × V)} : (l.map (·.1)).Nodup → iD x l = l.filter fun p => !decide (p.1 = x) := by
 induction l with
 | nil => exact fun J => rfl
 | cons p r ih =>
  intro h
  rw [List.map_cons, List.nodup_cons] at h
  refine ae List.filter_cons ?_
  by_cases q : p.1 = x
  ·refine (?_ : oI eqZ x (p :: r) = _)
   refine ae (pz (pB q)) ?_
   refine ae (decide_eq_true q) ?_; refine ae (if_neg (by decide)) ?_
   refine (List.filter_eq_self.mpr fun y hy => ?_).symm
   refine ae (decide_eq_false fun z => h.1 (List.mem_map.mpr ⟨y, hy, z.trans q.symm⟩)) ?_; rfl
  ·refine (?_ : oI eqZ x (p :: r) = _)
   refine ae (iL (mi q)) ?_
   refine (?_ : p :: iD x r = _)
   refine ae (decide_eq_false q) ?_; refine ae (if_pos (by decide)) ?_; refine ae (ih h.2) ?_; rfl
theorem uK {x : Int} {v : V} {l : List (Int × V)} : (yE x v l).Perm (l ++ [(x, v)]) := by
 induction l with
 | nil => exact .refl _
 | cons p r ih =>
  by_cases q : x < p.1
  ·refine (?_ : (Bool.rec (p :: yE x v r) ((x, v) :: p :: r) (decide (x < p.1)) : List _).Perm _)
   refine ae (mf (decide_eq_true q)) ?_
   exact List.perm_append_comm (l₁ := [(x, v)]) (l₂ := p :: r)
  ·refine (?_ : (Bool.rec (p :: yE x v r) ((x, v) :: p :: r) (decide (x < p.1)) : List _).Perm _)
   refine ae (j9 (decide_eq_false q)) ?_
   exact ih.cons p
theorem uM {x : Int} {v : V} {l k : List (Int × V)} (p : l.Perm k) (nd : (l.map (·.1)).Nodup) : (ni x v l).Perm (yF x v k) := by
 have CZ : (k.map (·.1)).Nodup := (p.map _).nodup_iff.mp nd
 delta yF
 rw [tE nd, kg p nd, tE CZ]
 cases (bp x k).isSome
 ·exact (p.append_right _).trans uK.symm
 ·exact p.map _
theorem uN {x : Int} {l k : List (Int × V)} (p : l.Perm k) (nd : (l.map (·.1)).Nodup) : (iD x l).Perm (iD x k) := by
 have CZ : (k.map (·.1)).Nodup := (p.map _).nodup_iff.mp nd
 refine ae (tF nd) ?_; refine ae (tF CZ) ?_
 exact p.filter _
theorem br.aw {es : List (Int × V)} (x : br Z c h i (.aw es)) : ∃ fs aF, fc Z c h i fs aF ∧ fs.Perm es ∧ (fs.map (·.1)).Nodup ∧ ∀ k, bp k fs = bp k es := by
 obtain ⟨fs, o, aF, h1, h2, p, h3⟩ := x
 obtain ⟨CY, ep, q1, q2, q3, q4, q5⟩ := id h2
 have e : fs.map (·.1) = aF.map (·.1) := by
  clear h2 q4 q5 p
  induction h3 with
  | nil => rfl
  | cons a _ ih => (refine ae List.map_cons ?_; refine ae List.map_cons ?_; refine ae ih ?_; refine ae a.1 ?_; rfl)
 have nd : (fs.map (·.1)).Nodup := e ▸ q5
 exact ⟨fs, aF, ⟨Heap.dictOf_iff.mpr ⟨o, h1, h2⟩, h3, q5⟩, p, nd, kg p nd⟩
theorem br.pC {fs es : List (Int × V)} {aF : List (Int × Value)} (x : h.DictOf (intKind Z.prog Z.w) (c.σ i).1 aF) (y : aT (KR id c) fs aF) (p : fs.Perm es) : br Z c h i (.aw es) := by
 refine (Heap.dictOf_iff.mp x).elim fun o aj => (aj).elim fun h1 h2 => ?_
 exact ⟨fs, o, aF, h1, h2, p, y⟩
end
end aD
end
section
open PySem PySem.Calls PyProof.Rows PySem.W PySem.SeqAt
set_option backward.match.sparseCases false
namespace aD
section
variable {Z : aL} {L : Nat} {cs : Fm} {Ar : Around} {c : Cfg} {A : AS} {s : Shared}
theorem RcAt.cH (a b : Array UInt8) (t u : Tok) : RcAt Ar s (.bytes a t) (.bytes b u) (a.toList == b.toList) := fun prog w E Q h =>
 richCompare_gives (typeIs_bytes s a t) (typeIs_bytes s b u) FB.slot_bytes_eq FB.entry_bytes_eq (FB.args_bytes_eq_2 _ _) (gives_bytes_eq a b t u) (fun e => nomatch e) h
theorem RcNeAt.cH (a b : Array UInt8) (t u : Tok) : RcNeAt Ar s (.bytes a t) (.bytes b u) (!(a.toList == b.toList)) := fun prog w E Q h =>
 richCompare_gives (typeIs_bytes s a t) (typeIs_bytes s b u) FB.slot_bytes_ne FB.entry_bytes_ne (FB.args_bytes_ne_2 _ _) (gives_bytes_ne a b t u) (fun e => nomatch e) h
theorem EqAt.cH (a b : Array UInt8) (t u : Tok) : EqAt Ar s (.bytes a t) (.bytes b u) (a.toList == b.toList) := fun prog w E Q h => by
 dsimp only [eqBool]
 refine wpAny_holding ?_
 refine wpAny_ite_split (fun tG => ?_) (fun tG => ?_)
 ·have e : a = b := by have := eq_of_beq tG; injection this
  subst e
  exact wpAny_bind (wpAny_rule (wpAny_pure (by simpa using h)))
 ·exact wpAny_bind (RcAt.cH a b t u prog w E _ (wpAny_truthy_bool h))
set_option tactic.hygienic true in
theorem eN {vs : List VD} (hv : ∀ k d, vs[k]? = some d → VD.ok c.ρ k d) {k j : Nat} {o p : Int} (h : BS.iC vs k o j p = true) : c.ρ.i k + o < c.ρ.i j + p := by
 delta BS.iC at h
 rw [bJ] at h
 generalize hd : vs[k]? = d at h
 cases d with
 | none => exact bf h
 | some d =>
  cases d <;> first | exact bf h | skip
  rename_i i
  refine (ao h).elim fun h1 h2 => ?_
  obtain rfl := Nat.eq_of_beq_eq_true h1
  have h2 := of_decide_eq_true h2
  obtain ⟨_, _, q, _⟩ := hv _ _ hd
  omega
theorem wY {vs : List VD} (hv : ∀ k d, vs[k]? = some d → VD.ok c.ρ k d) {a b : SI} (h : BS.Dg vs a b = true) : SI.den c.ρ a ≠ SI.den c.ρ b := by
 rcases yu h with h | h
 ·generalize ha : BS.bnd vs a = x at h
  generalize hb : BS.bnd vs b = y at h
  cases x with
  | none => exact bf h
  | some x => cases y with
   | none => exact bf h
   | some y =>
    have h1 := dr hv ha
    have h2 := dr hv hb
    rcases yu h with h | h <;> have h := of_decide_eq_true h <;> omega
 ·cases a with
  | lit _ => exact bf h
  | va k o => cases b with
   | lit _ => exact bf h
   | va j p =>
    refine (?_ : c.ρ.i k + o ≠ c.ρ.i j + p)
    rcases yu h with h | h
    ·rcases yu h with h | h
     ·refine (ao h).elim fun h1 h2 => ?_
      obtain rfl := Nat.eq_of_beq_eq_true h1
      have := bne_iff_ne.mp h2
      omega
     ·have := eN hv h; omega
    ·have := eN hv h; exact Int.ne_of_gt ‹_›
theorem BY {vs : List VD} {x y : BS} {r : Bool} (h : BS.eq? vs x y = some r) : (BS.den c.ρ x == BS.den c.ρ y) = r := by
 delta BS.eq? at h
 by_cases hl : BS.len x = BS.len y
 ·rw [if_neg (fun k => k hl)] at h
  by_cases e : yD x y = true
  ·rw [if_pos e] at h; obtain rfl := aO h; cases tD e; exact beq_self_eq_true _
  ·rw [if_neg e] at h; cases h
 ·rw [if_pos hl] at h
  obtain rfl := aO h
  refine yr fun e => hl ?_
  refine bK (BS.bq (ρ := c.ρ) x) ?_; refine bK (BS.bq (ρ := c.ρ) y) ?_; refine ae e ?_; rfl
set_option tactic.hygienic true in
theorem y5 {vs : List VD} (hv : ∀ k d, vs[k]? = some d → VD.ok c.ρ k d) {x y : SI} {r : Bool} (h : FK vs x y = some r) : (SI.den c.ρ x == SI.den c.ρ y) = r := by
 delta FK at h
 split at h
 ·rename_i e; obtain rfl := aO h; subst e; exact beq_self_eq_true _
 ·split at h
  ·rename_i e; obtain rfl := aO h; exact yr (wY hv e)
  ·cases h
theorem y6 {x y : List Nat} {r : Bool} (h : some (jG x y) = some r) : (strOf x == strOf y) = r := by
 obtain rfl := aO h
 cases q : jG x y with
 | true => refine ae (dV.mp q) ?_; exact beq_self_eq_true _
 | false => exact yr fun z => by rw [dV.mpr (dy _ _ z)] at q; cases q
theorem mj {vs : List VD} (hv : ∀ k d, vs[k]? = some d → VD.ok c.ρ k d) {a b : V} {u v : Value} {r : Bool} (h : Bq vs a b = some r) (ra : VR c a u) (rb : VR c b v) :
 RcAt Ar s u v r ∧ RcNeAt Ar s u v (!r) ∧ EqAt Ar s u v r := by
 cases a with
 | int x =>
  obtain ⟨⟨y, rfl⟩, _, h⟩ := f9 h
  obtain ⟨_, t, rfl⟩ := ra; obtain ⟨_, t', rfl⟩ := rb
  obtain rfl := y5 hv h
  exact ⟨RcAt.int_int _ _ _ _, RcNeAt.int_int _ _ _ _, EqAt.int_int _ _ _ _⟩
 | bytes x =>
  obtain ⟨⟨y, rfl⟩, _, h⟩ := f9 h
  obtain ⟨_, t, rfl⟩ := ra; obtain ⟨_, t', rfl⟩ := rb
  obtain rfl := BY (c := c) h
  have q := fun (x y : BS) => RcAt.cH (Ar := Ar) (s := s) (BS.den c.ρ x).toArray (BS.den c.ρ y).toArray t t'
  exact ⟨q _ _, RcNeAt.cH _ _ _ _, EqAt.cH _ _ _ _⟩
 | str x =>
  obtain ⟨⟨y, rfl⟩, _, h⟩ := f9 h
  obtain ⟨t, rfl⟩ := ra; obtain ⟨t', rfl⟩ := rb
  obtain rfl := y6 h
  exact ⟨RcAt.str_str _ _ _ _, RcNeAt.str_str _ _ _ _, EqAt.str_str _ _ _ _⟩
 | bool x =>
  obtain ⟨⟨y, rfl⟩, _, h⟩ := f9 h
  subst ra; subst rb
  cases aO h
  exact ⟨RcAt.bool_bool _ _, RcNeAt.bool_bool _ _, EqAt.bool_bool _ _⟩
 | _ => exact no h
theorem rM {vs : List VD} (hv : ∀ k d, vs[k]? = some d → VD.ok c.ρ k d) : ∀ {xs ys : List V} {us ws : List Value} {r : Bool}, Dj vs xs ys = some r → dk c xs us → dk c ys ws →
 r = true ∧ us.length = ws.length ∧ ∀ j (h1 : j < us.length) (h2 : j < ws.length), EqAt Ar s us[j] ws[j] true := by
 intro xs
 induction xs with
 | nil =>
  intro ys us ws r h r1 r2
  cases ys with
  | nil =>
   obtain rfl := aO h
   obtain rfl := r1.nil_inv
   obtain rfl := r2.nil_inv
   exact ⟨rfl, rfl, fun j h1 => absurd h1 (Nat.not_lt_zero _)⟩
  | cons => exact no h
 | cons x xs ih =>
  intro ys us ws r h r0 q0
  cases ys with
  | nil => exact no h
  | cons y ys =>
  obtain ⟨u, us, rfl, r1, r2⟩ := r0.cons_inv
  obtain ⟨w, ws, rfl, q1, q2⟩ := q0.cons_inv
  obtain ⟨q, e, h⟩ := f9 h
  cases q with
  | false => exact no h
  | true =>
  refine (ih h r2 q2).elim fun z1 aj => (aj).elim fun z2 z3 => ?_
  refine ⟨z1, congrArg Nat.succ z2, fun j h1 h2 => ?_⟩
  cases j with
  | zero => exact (mj hv e r1 q1).2.2
  | succ j => exact z3 j (Nat.lt_of_succ_lt_succ h1) (Nat.lt_of_succ_lt_succ h2)
theorem fx (n : Nat) : (List.range n).all (fun J => true) = true := List.all_eq_true.mpr fun J J => rfl
theorem cx (G : Z.Glob) (H : St Z L cs c A s) {i : Nat} (hi : i < c.n) : ((c.σ i).1 == sysModules) = false := by
 refine yr fun e => ?_
 exact Has.ne G.sys (H.lo i hi).1 e.symm
theorem wZ {u v : Value} {r : Bool} {Q : Value → Shared → Prop} {E : Value → Shared → Prop} (h : RcAt Ar s u v r) (hq : Q (.bool r) s) : wpAny Z.M Ar (compareOp .Eq u v) Q E s := h _ _ E Q hq
theorem nK {u v : Value} {r : Bool} {Q : Value → Shared → Prop} {E : Value → Shared → Prop} (h : RcNeAt Ar s u v r) (hq : Q (.bool r) s) : wpAny Z.M Ar (compareOp .NotEq u v) Q E s := h _ _ E Q hq
theorem ml (G : Z.Glob) (hr : Room 1 Ar cs) (H : St Z L cs c A s) {i j : Nat} (hi : i < c.n) (hj : j < c.n) {es : List (Int × V)} {aF : List (Int × Value)} (d : fc Z c s.heap i es aF) (d2 : fc Z c s.heap j [] []) :
 ∀ {Q E : Value → Shared → Prop}, (Q (.bool es.isEmpty) s → wpAny Z.M Ar (compareOp .Eq (.ref (c.σ i).1) (.ref (c.σ j).1)) Q E s) ∧ (Q (.bool (!es.isEmpty)) s → wpAny Z.M Ar (compareOp .NotEq (.ref (c.σ i).1) (.ref (c.σ j).1)) Q E s) := by
 have hu : Ar.units < cLine := by have := hr.2.1; omega
 have hits : aF.length = ([] : List (Int × Value)).length → KeqHits Ar.in1 s [] aF true := fun h => by
  cases aF with
  | nil => exact .nil
  | cons => cases h
 have e : (aF.length == ([] : List (Int × Value)).length && true) = es.isEmpty := by
  have := d.all.length
  cases es <;> cases aF <;> first | rfl | cases this
 intro Q E
 constructor
 ·intro q; exact keq_eq (cx G H hi) (cx G H hj) d.at_ d2.at_ hu hits (by refine ae e ?_; exact q)
 ·intro q; exact keq_ne (cx G H hi) (cx G H hj) d.at_ d2.at_ hu hits (by refine ae e ?_; exact q)
theorem uP (G : Z.Glob) (hr : Room 1 Ar cs) (H : St Z L cs c A s) {i j : Nat} {r : Bool} (hi : i < c.n) (hj : j < c.n) (h : FN A i j = some r) :
 ∀ {Q E : Value → Shared → Prop}, (Q (.bool r) s → wpAny Z.M Ar (compareOp .Eq (.ref (c.σ i).1) (.ref (c.σ j).1)) Q E s) ∧ (Q (.bool (!r)) s → wpAny Z.M Ar (compareOp .NotEq (.ref (c.σ i).1) (.ref (c.σ j).1)) Q E s) := by
 have hu : Ar.units < cLine := by have := hr.2.1; omega
 delta FN at h
 cases hl : dz (A.heap.get i) with
 | some a =>
  rw [hl] at h
  obtain ⟨xs, ha⟩ := a
  obtain ⟨⟨ys, hb⟩, _, h⟩ := f9 h
  obtain ⟨us, ep, e1, r1⟩ := H.objs _ _ ha
  obtain ⟨ws, AQ, e2, r2⟩ := H.objs _ _ hb
  obtain ⟨rfl, hl, he⟩ := rM (Ar := Ar.in1) (s := s) H.vars h r1 r2
  have hl : us.size = ws.size := hl
  have he : ∀ j (h1 : j < us.size) (h2 : j < ws.size), EqAt Ar.in1 s us[j] ws[j] ((fun J => true) j) := he
  exact fun {_ _} => ⟨fun q => wZ (RcAt.lists ⟨_, e1, rfl, _, rfl⟩ ⟨_, e2, rfl, _, rfl⟩ hl hu he) (by rw [fx]; exact q), fun q => nK (RcNeAt.lists ⟨_, e1, rfl, _, rfl⟩ ⟨_, e2, rfl, _, rfl⟩ hl hu he) (by rw [fx]; exact q)⟩
 | none =>
  rw [hl] at h
  obtain ⟨⟨es, ha⟩, _, h⟩ := f9 h
  obtain ⟨⟨hb⟩, _, h⟩ := f9 h
  obtain rfl := aO h
  rcases ha with ha | ha
  ·obtain ⟨aF, d⟩ := (H.objs _ _ ha).aB
   exact fun {_ _} => ml G hr H hi hj d (H.objs _ _ hb).fw
  ·obtain ⟨fs, aF, d, p, _⟩ := (H.objs _ _ ha).aw
   have e : es.isEmpty = fs.isEmpty := by
    have := p.length_eq
    cases es <;> cases fs <;> first | rfl | cases this
   exact e ▸ fun {_ _} => ml G hr H hi hj d (H.objs _ _ hb).fw
theorem mn (G : Z.Glob) (hr : Room 1 Ar cs) (H : St Z L cs c A s) {a b : V} {u v : Value} {r : Bool} (h : FO A a b = some r) (ra : VR c a u) (rb : VR c b v) :
 ∀ {Q E : Value → Shared → Prop}, (Q (.bool r) s → wpAny Z.M Ar (compareOp .Eq u v) Q E s) ∧ (Q (.bool (!r)) s → wpAny Z.M Ar (compareOp .NotEq u v) Q E s) := by
 have val : ∀ {a}, Bq A.vars a b = some r → VR c a u → ∀ {Q E : Value → Shared → Prop}, (Q (.bool r) s → wpAny Z.M Ar (compareOp .Eq u v) Q E s) ∧ (Q (.bool (!r)) s → wpAny Z.M Ar (compareOp .NotEq u v) Q E s) := fun h ra => by
  obtain ⟨h1, h2, _⟩ := mj (Ar := Ar) (s := s) H.vars h ra rb
  intro Q E
  exact ⟨fun q => wZ h1 q, fun q => nK h2 q⟩
 cases a with
 | loc i =>
  obtain ⟨⟨j, rfl⟩, _, h⟩ := f9 h
  obtain ⟨hi, rfl⟩ := ra; obtain ⟨hj, rfl⟩ := rb
  exact fun {_ _} => uP G hr H hi hj h
 | int x => exact fun {_ _} => val (a := .int x) h ra
 | bytes x => exact fun {_ _} => val (a := .bytes x) h ra
 | str x => exact fun {_ _} => val (a := .str x) h ra
 | bool x => exact fun {_ _} => val (a := .bool x) h ra
 | _ => exact fun {_ _} => no h
theorem mq (G : Z.Glob) (H : St Z L cs c A s) {es : List (Int × V)} {aF : List (Int × Value)} {j : Nat} {k : Int} {t : Tok} (hj : j < c.n) (d : fc Z c s.heap j es aF) :
 ∀ {Q E : Value → Shared → Prop}, (Q (.bool (bp k es).isSome) { s with toks := s.toks + 1 } → wpAny Z.M Ar (compareOp .In (.int k t) (.ref (c.σ j).1)) Q E s) ∧ (Q (.bool (!(bp k es).isSome)) { s with toks := s.toks + 1 } → wpAny Z.M Ar (compareOp .NotIn (.int k t) (.ref (c.σ j).1)) Q E s) := by
 have e2 : (valueAt aF k).isSome = (bp k es).isSome := by exact KR.isSome id_eq d.all
 intro Q E
 exact ⟨fun q => wpAny_in_of (intKind_is _ _ k t) (cx G H hj) d.at_.mapOf (by refine ae e2 ?_; exact q), fun q => wpAny_notIn_of (intKind_is _ _ k t) (cx G H hj) d.at_.mapOf (by refine ae e2 ?_; exact q)⟩
theorem mr (G : Z.Glob) (H : St Z L cs c A s) {es : List (List Nat × V)} {aF : List (Str × Value)} {j : Nat} {k : List Nat} {t : Tok} (hj : j < c.n) (d : ka Z c s.heap j es aF) :
 ∀ {Q E : Value → Shared → Prop}, (Q (.bool (ez k es).isSome) { s with toks := s.toks + 1 } → wpAny Z.M Ar (compareOp .In (.str (strOf k) t) (.ref (c.σ j).1)) Q E s) ∧ (Q (.bool (!(ez k es).isSome)) { s with toks := s.toks + 1 } → wpAny Z.M Ar (compareOp .NotIn (.str (strOf k) t) (.ref (c.σ j).1)) Q E s) := by
 have e2 : (valueAt aF (strOf k)).isSome = (ez k es).isSome := by exact KR.isSome cA d.all
 intro Q E
 exact ⟨fun q => wpAny_in_of (strKind_is _ _ (strOf k) t) (cx G H hj) d.at_.mapOf (by refine ae e2 ?_; exact q), fun q => wpAny_notIn_of (strKind_is _ _ (strOf k) t) (cx G H hj) d.at_.mapOf (by refine ae e2 ?_; exact q)⟩
set_option tactic.hygienic true in
theorem kh {x : Bool} {us : List Value} : ∀ {xs : List V} {ws : List Value} {r : Bool}, isIn (.bool x) xs = some r → dk c xs ws → (ws.any fun y => y == .bool x) = r ∧ ∀ y ∈ ws, ∃ b, y = .bool b
 | [], _, r, h, r0 => by obtain rfl := r0.nil_inv; obtain rfl := aO h; exact ⟨rfl, fun J h => nomatch h⟩
 | v :: xs, ws, r, h, r0 => by
  obtain ⟨w, ws, rfl, r1, r2⟩ := r0.cons_inv
  cases v <;> first | exact no h | skip
  rename_i y
  have h : (isIn (.bool x) xs).map (fun t => (x == y) || t) = some r := h
  cases hi : isIn (.bool x) xs with
  | none => rw [hi] at h; cases h
  | some t =>
   rw [hi] at h
   obtain rfl := aO h
   obtain ⟨q1, q2⟩ := kh (us := us) hi r2
   obtain rfl : w = .bool y := r1
   refine ⟨?_, fun z hz => ?_⟩
   ·refine ae List.any_cons ?_; refine ae q1 ?_
    cases x <;> cases y <;> rfl
   ·rcases fg hz with rfl | hz
    ·exact ⟨_, rfl⟩
    ·exact q2 z hz
def Ko (Z : aL) (Ar : Around) (s : Shared) (u v : Value) (r : Bool) : Prop := ∃ tk, ∀ (Q E : Value → Shared → Prop), (Q (.bool r) { s with toks := tk } → wpAny Z.M Ar (compareOp .In u v) Q E s) ∧ (Q (.bool (!r)) { s with toks := tk } → wpAny Z.M Ar (compareOp .NotIn u v) Q E s)
set_option tactic.hygienic true in
theorem uQ (H : St Z L cs c A s) {a : V} {u : Value} {r : Bool} {j : Nat} {xs : List V} (x : br Z c s.heap j (.list xs)) (h : isIn a xs = some r) (ra : VR c a u) : Ko Z Ar s u (.ref (c.σ j).1) r := by
 obtain ⟨vs, ep, h1, h2⟩ := x
 have hl : s.heap.IsList (c.σ j).1 vs := ⟨_, h1, rfl, _, rfl⟩
 cases xs with
 | nil =>
  obtain rfl := aO h
  have e : vs = #[] := Array.toList_inj.mp h2.nil_inv
  subst e
  exact ⟨s.toks, fun Q E => ⟨fun q => in_listAt (fun J => false) hl (fun y hy => by simp at hy) (by simpa using q), fun q => notIn_listAt (fun J => false) hl (fun y hy => by simp at hy) (by simpa using q)⟩⟩
 | cons v xs =>
  cases a <;> first | exact no h | skip
  rename_i x
  obtain rfl := ra
  refine (kh (us := []) h h2).elim fun q1 q2 => ?_
  have he : ∀ y, y ∈ vs → EqAt Ar.in1 s y (.bool x) (y == .bool x) := fun y hy => by
   obtain ⟨b, rfl⟩ := q2 y (Array.mem_toList_iff.mpr hy)
   have := EqAt.bool_bool (A := Ar.in1) (s := s) b x
   have e : (b == x) = (Value.bool b == Value.bool x) := by cases b <;> cases x <;> rfl
   refine bK e ?_; exact this
  have D3 : vs.any (fun y => y == .bool x) = r := by refine bK Array.any_toList ?_; exact q1
  exact ⟨s.toks, fun Q E => ⟨fun q => in_listAt (fun y => y == .bool x) hl he (by refine ae D3 ?_; exact q), fun q => notIn_listAt (fun y => y == .bool x) hl he (by refine ae D3 ?_; exact q)⟩⟩
set_option tactic.hygienic true in
theorem mv (G : Z.Glob) (H : St Z L cs c A s) {a b : V} {u v : Value} {r : Bool} (h : inD A a b = some r) (ra : VR c a u) (rb : VR c b v) : Ko Z Ar s u v r := by
 cases b <;> first | exact no h | skip
 rename_i j
 obtain ⟨hj, rfl⟩ := rb
 cases a <;> first | exact no h | skip
 case bool x =>
  obtain ⟨⟨xs, hb⟩, _, h⟩ := f9 h
  exact uQ H (H.objs _ _ hb) h ra
 case int x =>
  cases x with
  | va => exact no h
  | lit k =>
  obtain ⟨_, t, rfl⟩ := ra
  obtain ⟨⟨es, hb⟩, _, h⟩ := f9 h
  obtain rfl := aO h
  rcases hb with hb | ⟨hb, rfl⟩
  ·refine ((H.objs _ _ hb).aw).elim fun fs aj => (aj).elim fun aF ay => (ay).elim fun d aP => (aP).elim fun _ bF => (bF).elim fun _ hl => ?_
   exact hl k ▸ ⟨s.toks + 1, fun J J => mq G H hj d⟩
  ·exact ⟨s.toks + 1, fun J J => mq G H hj (H.objs _ _ hb).fw⟩
 case str k =>
  obtain ⟨t, rfl⟩ := ra
  obtain ⟨⟨es, hb⟩, _, h⟩ := f9 h
  obtain rfl := aO h
  rcases hb with hb | ⟨hb, rfl⟩
  ·refine ((H.objs _ _ hb).aR).elim fun aF d => ?_
   exact ⟨s.toks + 1, fun J J => mr G H hj d⟩
  ·exact ⟨s.toks + 1, fun J J => mr G H hj (H.objs _ _ hb).nJ⟩
set_option tactic.hygienic true in
theorem nL {vs : List VD} (hv : ∀ k d, vs[k]? = some d → VD.ok c.ρ k d) {a b : SI} {r : Bool} (h : ltI vs a b = some r) : decide (SI.den c.ρ a < SI.den c.ρ b) = r := by
 have plain : (match bnd vs a, bnd vs b with
  | some (al, ah), some (bl, bh) => if ah ≤ bl then some true else if bh ≤ al + 1 then some false else none
  | _, _ => none) = some r → decide (SI.den c.ρ a < SI.den c.ρ b) = r := fun h => by
  generalize ha : bnd vs a = x at h
  generalize hb : bnd vs b = y at h
  cases x with
  | none => exact no h
  | some x => cases y with
   | none => exact no h
   | some y =>
    have h1 := dr hv ha
    have h2 := dr hv hb
    dsimp only at h
    split at h
    ·obtain rfl := aO h; exact decide_eq_true (by omega)
    ·split at h
     ·obtain rfl := aO h; exact decide_eq_false (by omega)
     ·cases h
 cases a with
 | lit _ => cases b <;> exact plain h
 | va k o => cases b with
  | lit _ => exact plain h
  | va j p =>
   refine (?_ : decide (c.ρ.i k + o < c.ρ.i j + p) = r)
   delta ltI at h
   dsimp only at h
   split at h
   ·rename_i q
    obtain rfl := Nat.eq_of_beq_eq_true q
    obtain rfl := aO h
    by_cases q : o < p
    ·refine ae (decide_eq_true q) ?_; exact decide_eq_true (by omega)
    ·refine ae (decide_eq_false q) ?_; exact decide_eq_false (by omega)
   ·split at h
    ·rename_i q
     have := eN hv q
     obtain rfl := aO h; exact decide_eq_true this
    ·split at h
     ·rename_i q
      have := eN hv q
      obtain rfl := aO h; exact decide_eq_false (by omega)
     ·cases h
theorem VR.tH {a : V} {u : Value} {r : Bool} (h : VR c a u) (ha : isNone a .none = some r) : (r = true ∧ u = .none) ∨ (r = false ∧ u ≠ .none ∧ plainIs u .none = true) := by
 cases a with
 | none => exact .inl ⟨(aO ha).symm, h⟩
 | bool b => subst h; exact .inr ⟨(aO ha).symm, nofun, rfl⟩
 | int i => obtain ⟨_, t, rfl⟩ := h; exact .inr ⟨(aO ha).symm, nofun, rfl⟩
 | str l => obtain ⟨t, rfl⟩ := h; exact .inr ⟨(aO ha).symm, nofun, rfl⟩
 | bytes b => obtain ⟨_, t, rfl⟩ := h; exact .inr ⟨(aO ha).symm, nofun, rfl⟩
 | loc i => obtain ⟨_, rfl⟩ := h; exact .inr ⟨(aO ha).symm, nofun, rfl⟩
 | fn a => subst h; exact .inr ⟨(aO ha).symm, nofun, rfl⟩
 | cls a => subst h; exact .inr ⟨(aO ha).symm, nofun, rfl⟩
 | ty t => subst h; exact .inr ⟨(aO ha).symm, nofun, rfl⟩
 | bi b => cases ha
 | bb => cases ha
theorem isNone_none {a b : V} {r : Bool} (h : isNone a b = some r) : b = .none := by
 cases b <;> first | rfl | cases h
theorem mw (H : St Z L cs c A s) {a b : V} {u v : Value} {r : Bool} (h : FP A.vars (lR a b) = some r) (ra : VR c a u) (rb : VR c b v) : ∃ x t y t', u = .int x t ∧ v = .int y t' ∧ decide (x < y) = r := by
 cases a with
 | int x =>
  cases b with
  | int y =>
   obtain ⟨_, t, rfl⟩ := ra; obtain ⟨_, t', rfl⟩ := rb
   exact ⟨_, _, _, _, rfl, rfl, nL H.vars h⟩
  | _ => cases h
 | _ => cases h
theorem my (H : St Z L cs c A s) {a b : V} {u v : Value} {r : Bool} (h : FQ A.vars (lR a b) = some r) (ra : VR c a u) (rb : VR c b v) : ∃ x t y t', u = .int x t ∧ v = .int y t' ∧ decide (y < x) = r := by
 cases a with
 | int x =>
  cases b with
  | int y =>
   obtain ⟨_, t, rfl⟩ := ra; obtain ⟨_, t', rfl⟩ := rb
   exact ⟨_, _, _, _, rfl, rfl, nL H.vars h⟩
  | _ => cases h
 | _ => cases h
theorem hY {x : Option Bool} {r : Bool} (h : x.map not = some r) : x = some (!r) := by
 cases x with
 | none => cases h
 | some b => obtain rfl := aO h; rw [Bool.not_not]
theorem mz {x y : Int} {r : Bool} (h : decide (x < y) = !r) : decide (y ≤ x) = r := by
 refine bK (Bool.not_not r) ?_; refine bK h ?_
 by_cases q : x < y
 ·refine ae (decide_eq_true q) ?_; exact decide_eq_false (Int.not_le.mpr q)
 ·refine ae (decide_eq_false q) ?_; exact decide_eq_true (Int.not_lt.mp q)
theorem rN (G : Z.Glob) (hr : Room 1 Ar cs) (H : St Z L cs c A s) {o : oG} {a b : V} {u v : Value} (ra : VR c a u) (rb : VR c b v) : au Z L cs Ar (compareOp (DO o) u v) CR (bA (nj A o a b) A) c s := by
 refine .opt fun r h => ?_
 cases o with
 | eq => exact .look H fun Q E k => (mn G hr H h ra rb).1 (k _ s.toks rfl)
 | ne => exact .look H fun Q E k => (mn G hr H (hY h) ra rb).2 (k _ s.toks (by rw [Bool.not_not]; rfl))
 | lt =>
  obtain ⟨x, t, y, t', rfl, rfl, e⟩ := mw H h ra rb
  exact .look H fun Q E k => lt_int (k _ s.toks (by refine ae e ?_; rfl))
 | gt =>
  obtain ⟨x, t, y, t', rfl, rfl, e⟩ := my H h ra rb
  exact .look H fun Q E k => gt_int (k _ s.toks (by refine ae e ?_; rfl))
 | le =>
  obtain ⟨x, t, y, t', rfl, rfl, e⟩ := my H (hY h) ra rb
  exact .look H fun Q E k => PyProof.Rows.le_int (k _ s.toks (by refine ae (mz e) ?_; rfl))
 | ge =>
  obtain ⟨x, t, y, t', rfl, rfl, e⟩ := mw H (hY h) ra rb
  exact .look H fun Q E k => PyProof.Rows.ge_int (k _ s.toks (by refine ae (mz e) ?_; rfl))
 | is_ =>
  obtain rfl := isNone_none h
  subst rb
  rcases ra.tH h with ⟨rfl, rfl⟩ | ⟨rfl, h1, h2⟩
  ·exact .look H fun Q E k => wpAny_is_self rfl (k _ s.toks rfl)
  ·exact .look H fun Q E k => wpAny_is_other h2 h1 (k _ s.toks rfl)
 | lQ =>
  have h := hY h
  obtain rfl := isNone_none h
  subst rb
  rcases ra.tH h with ⟨e, rfl⟩ | ⟨e, h1, h2⟩
  ·cases r with
   | false => exact .look H fun Q E k => wpAny_isNot_self rfl (k _ s.toks rfl)
   | true => cases e
  ·cases r with
   | false => cases e
   | true => exact .look H fun Q E k => wpAny_isNot_other h2 h1 (k _ s.toks rfl)
 | in_ => refine (mv (Ar := Ar) G H h ra rb).elim fun tk f => ?_; exact .look H fun Q E k => (f _ _).1 (k _ tk rfl)
 | jH => refine (mv (Ar := Ar) G H (hY h) ra rb).elim fun tk f => ?_; exact .look H fun Q E k => (f _ _).2 (k _ tk (by rw [Bool.not_not]; rfl))
theorem au.GJ {t : Sem Value} {r : Bool} (H : St Z L cs c A s) (h : ∀ {Q E}, Q (.bool r) s → wpAny Z.M Ar t Q E s) : au Z L cs Ar t CR (some (.many [(.ok true, A), (.ok false, A)])) c s := fun l e => by
 obtain rfl := aO e
 refine .of (h ?_)
 cases r
 ·exact ⟨false, A, c, .tail _ (.head _), Le.refl .., H, rfl⟩
 ·exact ⟨true, A, c, .head _, Le.refl .., H, rfl⟩
theorem uR (G : Z.Glob) (hr : Room 1 Ar cs) (H : St Z L cs c A s) {o : oG} {a b : V} {u v : Value} (ra : VR c a u) (rb : VR c b v) : au Z L cs Ar (compareOp (DO o) u v) CR (ea A o a b) c s := by
 have base := rN (Ar := Ar) (o := o) G hr H ra rb
 delta ea
 generalize nj A o a b = x at base
 cases x with
 | some t => exact base
 | none =>
  cases o <;> first | exact .none | skip
  all_goals
   cases a <;> first | exact .none | skip
   cases b <;> first | exact .none | skip
   obtain ⟨_, t, rfl⟩ := ra; obtain ⟨_, t', rfl⟩ := rb
  ·exact .GJ H fun {Q E} q => wZ (RcAt.int_int _ _ _ _) q
  ·exact .GJ H fun {Q E} q => nK (RcNeAt.int_int _ _ _ _) q
  ·exact .GJ H fun {Q E} q => lt_int q
theorem pD (H : St Z L cs c A s) {a : V} {u : Value} (ra : VR c a u) : au Z L cs Ar (truthy u) BR (bA (jI a) A) c s := by
 refine .opt fun r h => ?_
 cases a with
 | bool b => obtain rfl := aO h; subst ra; exact .look H fun Q E k => wpAny_truthy_bool (k _ s.toks rfl)
 | none => obtain rfl := aO h; subst ra; exact .look H fun Q E k => truthy_none (k _ s.toks rfl)
 | _ => cases h
theorem uS (H : St Z L cs c A s) {i : Int} {u : Value} (r : VR c (.int (.lit i)) u) : au Z L cs Ar (unaryOp .USub u) VR (ok (.int (.lit (-i))) A) c s := by
 obtain ⟨_, t, rfl⟩ := r
 exact .gH H fun h => neg_int h
end
section
variable {Z : aL} {L : Nat} {cs : Fm} {Ar : Around} {c : Cfg} {A : AS} {s : Shared}
theorem kq {x : Expr} {u v : Value} (hx : bU x = false) : subscripted x false u v = operate [u, v] (getItem u v) := by
 cases x <;> first | rfl | cases hx
theorem item_of {u v : Value} {x : Expr} {T id : String} {Q E : Value → Shared → Prop} (hx : bU x = false) (hl : typeLookup (.type T) "__getitem__" = pure (some (.builtin id))) (hT : s.TypeIs u T) (h : wpAny Z.M Ar (getItem u v) Q E s) :
 wpAny Z.M Ar (getitemInPython u >>= fun b => subscripted x b u v) Q E s := by
 refine wpAny_bind ?_
 refine ae (getitemInPython_of_ne hT.not_modules) ?_
 refine wpAny_bind (wpAny_specialOf hT hl ?_)
 refine wpAny_pure ?_
 refine ae (kq hx) ?_
 exact wpAny_operating h
theorem slice_of {u i : Value} {a b : Option Expr} {p : Pos} {T id : String} {Q E : Value → Shared → Prop} (hl : typeLookup (.type T) "__getitem__" = pure (some (.builtin id))) (hT : s.TypeIs u T) (h : wpAny Z.M Ar (getItem u i) Q E s) :
 wpAny Z.M Ar (getitemInPython u >>= fun b' => subscripted (.Slice a b none p) b' u i) Q E s := by
 refine wpAny_bind ?_
 refine ae (getitemInPython_of_ne hT.not_modules) ?_
 refine wpAny_bind (wpAny_specialOf hT hl ?_)
 refine wpAny_pure ?_
 exact wpAny_operating h
theorem dW {a : Addr} {vs : Array Value} {ep : Nat} (h : s.heap.get? a = some { cls := .type "list", data := .seq vs ep }) : s.TypeIs (.ref a) "list" := ⟨_, h, rfl⟩
theorem w0 {e : Int} (h1 : 0 ≤ e) (h2 : e < 256) : (((UInt8.ofNat e.toNat).toNat : Nat) : Int) = e := by
 obtain ⟨n, rfl⟩ := Int.eq_ofNat_of_zero_le h1
 rw [Int.toNat_natCast, UInt8.toNat_ofNat', Nat.mod_eq_of_lt (Int.ofNat_lt.mp h2)]
theorem pE {b : BS} {k : Int} {t t' : Tok} {x : Expr} (hx : bU x = false) (H : St Z L cs c A s) (hb : BS.lt c.nv b) :
 au Z L cs Ar (getitemInPython (.bytes (BS.den c.ρ b).toArray t) >>= fun y => subscripted x y (.bytes (BS.den c.ρ b).toArray t) (.int k t')) VR (AD b k A) c s := by
 refine .dM fun hk => .bnd fun e he => .bnd fun p hp => .dM fun Fh => ?_
 have hd := BS.BX (ρ := c.ρ) he
 have hr := dr H.vars hp
 refine .look H fun Q E q => item_of hx FB.slot_bytes_getitem.lookup (typeIs_bytes s _ t) (getItem_bytes ?_ ?_ ?_ (q _ _ ⟨BS.D0 hb he, s.toks, ?_⟩))
 ·rw [BS.bq]; exact Nat.le_trans hk.2 (by decide)
 ·exact hk.1
 ·obtain ⟨n, rfl⟩ := Int.eq_ofNat_of_zero_le hk.1
  exact Int.ofNat_lt.mpr (yv hd).1
 ·refine ae (List.getD_eq_getElem?_getD) ?_; refine ae hd ?_; refine ae Option.getD_some ?_; refine ae (w0 (Int.le_trans Fh.1 hr.1) (Int.lt_of_lt_of_le hr.2 Fh.2)) ?_; rfl
theorem pF (G : Z.Glob) {j : Nat} {k : Int} {t' : Tok} {x : Expr} (hx : bU x = false) (H : St Z L cs c A s) :
 au Z L cs Ar (getitemInPython (.ref (c.σ j).1) >>= fun y => subscripted x y (.ref (c.σ j).1) (.int k t')) VR (eY j k A) c s := by
 delta eY
 cases hm : A.heap.get j with
 | none => exact .none
 | some ob => cases ob with
  | list xs =>
   obtain ⟨us, ep, e1, r1⟩ := H.objs _ _ hm
   refine .dM fun hk => .opt fun w hw => ?_
   obtain ⟨u, h1, h2⟩ := r1.at (bJ .. ▸ hw)
   obtain ⟨n, rfl⟩ := Int.eq_ofNat_of_zero_le hk.1
   exact .look H fun Q E q => item_of hx list_getitem_lookup (dW e1) (getItem_listL (l := us.toList) ⟨_, e1, rfl, _, by refine ae Array.toArray_toList ?_; rfl⟩ hk.1 (Int.lt_of_le_of_lt hk.2 (by decide)) h1 (q _ s.toks h2))
  | aB es =>
   refine .opt fun w hw => ?_
   obtain ⟨aF, d⟩ := (H.objs _ _ hm).aB
   obtain ⟨u, h1, h2⟩ := KR.some id_eq d.all hw
   exact .look H fun Q E q => item_of hx slot_dict_getitem.lookup d.at_.typeIs (wpAny_getItem_of (intKind_is _ _ k t') d.at_.mapOf h1 (q _ (s.toks + 1) h2))
  | aw es =>
   refine .opt fun w hw => ?_
   refine ((H.objs _ _ hm).aw).elim fun fs aj => (aj).elim fun aF ay => (ay).elim fun d aP => (aP).elim fun _ bF => (bF).elim fun _ hl => ?_
   rw [← hl] at hw
   refine (KR.some id_eq d.all hw).elim fun u aj => (aj).elim fun h1 h2 => ?_
   exact .look H fun Q E q => item_of hx slot_dict_getitem.lookup d.at_.typeIs (wpAny_getItem_of (intKind_is _ _ k t') d.at_.mapOf h1 (q _ (s.toks + 1) h2))
  | cU n es =>
   refine .opt fun w hw => ?_
   refine ((H.objs _ _ hm).cU.aB).elim fun aF d => ?_
   refine (KR.some id_eq d.all hw).elim fun u aj => (aj).elim fun h1 h2 => ?_
   exact .look H fun Q E q => item_of hx slot_dict_getitem.lookup d.at_.typeIs (wpAny_getItem_of (intKind_is _ _ k t') d.at_.mapOf h1 (q _ (s.toks + 1) h2))
  | _ => exact .none
theorem rO (G : Z.Glob) {o i : V} {u v : Value} {x : Expr} (hx : bU x = false) (H : St Z L cs c A s) (ro : VR c o u) (ri : VR c i v) :
 au Z L cs Ar (getitemInPython u >>= fun b => subscripted x b u v) VR (gU o i A) c s := by
 cases o with
 | bytes b =>
  obtain ⟨hb, t, rfl⟩ := ro
  refine .bnd fun k hk => ?_
  obtain ⟨t', rfl⟩ := cz hk ri
  exact pE hx H hb
 | loc j =>
  obtain ⟨hj, rfl⟩ := ro
  cases i with
  | int x => cases x with
   | lit k => obtain ⟨_, t', rfl⟩ := ri; exact pF G hx H
   | va _ _ => exact .none
  | str k =>
   obtain ⟨t', rfl⟩ := ri
   refine (?_ : au Z L cs Ar _ VR (wg j k A) c s)
   delta wg
   cases hm : A.heap.get j with
   | none => exact .none
   | some ob => cases ob with
    | aR es =>
     refine .opt fun w hw => ?_
     refine ((H.objs _ _ hm).aR).elim fun aF d => ?_
     refine (KR.some cA d.all hw).elim fun u aj => (aj).elim fun h1 h2 => ?_
     exact .look H fun Q E q => item_of hx slot_dict_getitem.lookup d.at_.typeIs (wpAny_getItem_of (strKind_is _ _ (strOf k) t') d.at_.mapOf h1 (q _ (s.toks + 1) h2))
    | _ => exact .none
  | _ => exact .none
 | _ => exact .none
theorem y7 {K : Type} [DecidableEq K] {knd : KeyKind Z.prog Z.w K} {h : Heap} {a : Addr} {aF : List (K × Value)} (x : h.DictOf knd a aF) : Has h a := by refine (x).elim fun o aj => (aj).elim fun _ ay => (ay).elim fun _ aP => (aP).elim fun h _ => ?_; exact ⟨o, h⟩
theorem dm {K K' : Type} [DecidableEq K] [DecidableEq K'] {knd : KeyKind Z.prog Z.w K} {GK : KeyKind Z.prog Z.w K'} {h h' : Heap} {a : Addr} {aF : List (K × Value)} {GL : List (K' × Value)} (x : h.DictOf knd a aF) (y : h'.DictOf GK a GL) (hs : Heap.SameBut a h h') : a6 h h' :=
 cP hs (y7 y) (by refine (x).elim fun _ aj => (aj).elim fun _ ay => (ay).elim fun _ aP => (aP).elim fun e bF => (bF).elim fun ex _ => ?_; exact hJ e (a7 ex.1 (by decide)))
theorem aT.set {α β : Type} {R : α → β → Prop} {l : List α} {m : List β} {a : α} {b : β} (x : aT R l m) (h : R a b) : ∀ k, aT R (l.set k a) (m.set k b) := by
 induction x with
 | nil => intro k; exact .nil
 | cons r t ih =>
  intro k
  cases k with
  | zero => exact .cons h t
  | succ k => exact .cons r (ih k)
set_option tactic.hygienic true in
theorem rP (G : Z.Glob) {o i v : V} {u j w : Value} (H : St Z L cs c A s) (ro : VR c o u) (ri : VR c i j) (rv : VR c v w) : au Z L cs Ar (setItem u j w) UR (eA o i v A) c s := by
 cases o <;> first | exact .none | skip
 rename_i j
 cases i <;> first | exact .none | skip
 case int x =>
  cases x with
  | va => exact .none
  | lit k =>
  obtain ⟨hj, rfl⟩ := ro; obtain ⟨_, t', rfl⟩ := ri
  have key : ∀ es aF, fc Z c s.heap j es aF → aF.length ≤ 4096 → au Z L cs Ar (setItem (.ref (c.σ j).1) (.int k t') w) UR (ok () (A.put j (.aB (ni k v es)))) c s := by
   intro es aF d hl
   refine .done fun Q E q => wpAny_setItem_pairs (intKind_is _ _ k t') d.at_ (fun h' hd hs => ?_) (by refine ae sizeLine_eq ?_; exact Nat.le_trans ‹_› (by decide))
   have hk : ∀ b o, s.heap.get? b = some o → b ≠ (c.σ j).1 → b ≠ (c.σ j).2 → h'.get? b = some o := fun b o e q J => (hs.2 b q).trans e
   refine q _ _ c (Le.change (s' := { s with heap := h', toks := s.toks + 1 }) H.toHp hj hk (dm d.at_ hd hs)) (H.change (s' := { s with heap := h', toks := s.toks + 1 }) hj hk (dm d.at_ hd hs) ?_ rfl rfl) trivial
   exact br.hX hd (KR.set id_eq rv d.all d.nd)
  have GN : ∀ es, br Z c s.heap j (.aw es) → es.length ≤ 4096 → au Z L cs Ar (setItem (.ref (c.σ j).1) (.int k t') w) UR (ok () (A.put j (.aw (yF k v es)))) c s := by
   intro es ho hl
   refine (ho.aw).elim fun fs aj => (aj).elim fun aF ay => (ay).elim fun d aP => (aP).elim fun p bF => (bF).elim fun nd _ => ?_
   refine .done fun Q E q => wpAny_setItem_pairs (intKind_is _ _ k t') d.at_ (fun h' hd hs => ?_) (by refine ae sizeLine_eq ?_; refine bK d.all.length ?_; refine ae p.length_eq ?_; exact Nat.le_trans ‹_› (by decide))
   have hk : ∀ b o, s.heap.get? b = some o → b ≠ (c.σ j).1 → b ≠ (c.σ j).2 → h'.get? b = some o := fun b o e q J => (hs.2 b q).trans e
   refine q _ _ c (Le.change (s' := { s with heap := h', toks := s.toks + 1 }) H.toHp hj hk (dm d.at_ hd hs)) (H.change (s' := { s with heap := h', toks := s.toks + 1 }) hj hk (dm d.at_ hd hs) ?_ rfl rfl) trivial
   exact br.pC hd (KR.set id_eq rv d.all d.nd) (uM p nd)
  refine (?_ : au Z L cs Ar _ UR (nk j k v A) c s)
  delta nk
  generalize hm : A.heap.get j = ob
  cases ob with
  | none => exact .none
  | some ob =>
  cases ob <;> first | exact .none | skip
  case aB es => exact .dM fun hl => by obtain ⟨aF, d⟩ := (H.objs _ _ hm).aB; exact key es aF d (d.all.length ▸ hl)
  case aw es => exact .dM fun hl => GN es (H.objs _ _ hm) hl
  case a0 => exact key [] [] (H.objs _ _ hm).fw (by decide)
  case list xs =>
   refine .dM fun hk => ?_
   obtain ⟨vs, ep, e1, r1⟩ := H.objs _ _ hm
   have hz : vs.size = xs.length := by have := r1.length; simpa using this.symm
   refine .done fun Q E q => ki_setAt e1 hk.1 (by refine (?_ : k < 2 ^ 63); omega) (by refine (?_ : k < (vs.size : Int)); refine ae hz ?_; omega) ?_
   have e2 := get?_update_seq (c := "list") e1 (fun x => x.setIfInBounds k.toNat w)
   have D4 : ∀ b o, s.heap.get? b = some o → b ≠ (c.σ j).1 → b ≠ (c.σ j).2 → (s.heap.update (c.σ j).1 (Obj.mapSeq (·.setIfInBounds k.toNat w))).get? b = some o := fun b o e q J => by
    refine ae (Heap.get?_update_other _ _ (Ne.symm q)) ?_; exact e
   have hp : a6 s.heap (s.heap.update (c.σ j).1 (Obj.mapSeq (·.setIfInBounds k.toNat w))) := cP (.update ..) ⟨_, e2⟩ (hJ e1 (a7 rfl (by decide)))
   refine q _ _ c (Le.change (s' := { s with heap := _ }) H.toHp hj D4 hp) (H.change (s' := { s with heap := _ }) hj D4 hp ⟨_, _, e2, ?_⟩ rfl rfl) trivial
   refine ae Array.toList_setIfInBounds ?_
   exact r1.set rv k.toNat
 case str k =>
  obtain ⟨hj, rfl⟩ := ro; obtain ⟨t', rfl⟩ := ri
  have key : ∀ es aF, ka Z c s.heap j es aF → aF.length ≤ 4096 → au Z L cs Ar (setItem (.ref (c.σ j).1) (.str (strOf k) t') w) UR (ok () (A.put j (.aR (qT k v es)))) c s := by
   intro es aF d hl
   refine .done fun Q E q => wpAny_setItem_pairs (strKind_is _ _ (strOf k) t') d.at_ (fun h' hd hs => ?_) (by refine ae sizeLine_eq ?_; exact Nat.le_trans ‹_› (by decide))
   have hk : ∀ b o, s.heap.get? b = some o → b ≠ (c.σ j).1 → b ≠ (c.σ j).2 → h'.get? b = some o := fun b o e q J => (hs.2 b q).trans e
   refine q _ _ c (Le.change (s' := { s with heap := h', toks := s.toks + 1 }) H.toHp hj hk (dm d.at_ hd hs)) (H.change (s' := { s with heap := h', toks := s.toks + 1 }) hj hk (dm d.at_ hd hs) ?_ rfl rfl) trivial
   exact br.kb hd (KR.set cA rv d.all d.nd)
  refine (?_ : au Z L cs Ar _ UR (qX j k v A) c s)
  delta qX
  generalize hm : A.heap.get j = ob
  cases ob with
  | none => exact .none
  | some ob =>
  cases ob <;> first | exact .none | skip
  case aR es => exact .dM fun hl => by obtain ⟨aF, d⟩ := (H.objs _ _ hm).aR; exact key es aF d (d.all.length ▸ hl)
  case a0 => exact key [] [] (H.objs _ _ hm).nJ (by decide)
end
end aD
end
section
open PySem PySem.Calls PyProof.Rows PySem.W PySem.SeqAt PySem.Builtin
set_option backward.match.sparseCases false
namespace aD
section
variable {Z : aL} {L : Nat} {cs : Fm} {Ar : Around} {c : Cfg} {A : AS} {s : Shared}
structure Inst (Z : aL) (c : Cfg) (h : Heap) (i C : Nat) (fs : List (Nat × V)) (k : gT) (es : List DictEntry) (n : Nat) : Prop where
 at_ : h.get? (c.σ i).1 = some (instObj C (c.σ i).2)
 hk : af C Z.Γ.dq = some k
 nx : af C Z.Γ.cf = none
 fl : ∀ f ∈ fs, f.1 ∈ k.dp
 d : h.get? (c.σ i).2 = some (dictOf es n)
 all : aT (fun (f : Nat × V) (p : DictEntry) => (∃ t, p.key = .str (Z.nm f.1) t) ∧ VR c f.2 p.val) fs es
theorem br.nM {h : Heap} {i C : Nat} {fs : List (Nat × V)} (x : br Z c h i (.inst C fs)) : ∃ k es n, Inst Z c h i C fs k es n := by
 obtain ⟨h1, ⟨k, h2, Mm, h3⟩, es, n, h4, h5⟩ := x
 exact ⟨k, es, n, h1, h2, Mm, h3, h4, h5⟩
theorem Inst.obj {h : Heap} {i C : Nat} {fs : List (Nat × V)} {k es n} (x : Inst Z c h i C fs k es n) : br Z c h i (.inst C fs) := ⟨x.at_, ⟨k, x.hk, x.nx, x.fl⟩, es, n, x.d, x.all⟩
theorem Inst.ne {h : Heap} {i C : Nat} {fs : List (Nat × V)} {k es n} (x : Inst Z c h i C fs k es n) : (c.σ i).1 ≠ (c.σ i).2 := fun e => by
 have h1 := x.at_
 rw [e, x.d] at h1
 have := congrArg Obj.data (aO h1)
 cases this
theorem Inst.rQ {h : Heap} {i C : Nat} {fs : List (Nat × V)} {k es n} (x : Inst Z c h i C fs k es n) : InstAt h (c.σ i).1 (instObj C (c.σ i).2) C (some (dictOf es n)) := ⟨x.at_, rfl, rfl, x.d⟩
theorem kr {a b : Str} {t : Tok} : (Value.str a t).isStr b = (a == b) := rfl
set_option tactic.hygienic true in
theorem mA (inj : ∀ x y, Z.nm x = Z.nm y → x = y) {f : Nat} {v : V} : ∀ {fs : List (Nat × V)} {es : List DictEntry}, aT (fun (f : Nat × V) (p : DictEntry) => (∃ t, p.key = .str (Z.nm f.1) t) ∧ VR c f.2 p.val) fs es →
 af f fs = some v → ∃ u, PySem.W.getL (Z.nm f) es = some (some u) ∧ VR c v u
 | [], _, _, e => no e
 | g :: fs, _, r, e => by
  obtain ⟨p, es, rfl, ⟨⟨t, ht⟩, hv⟩, r⟩ := r.cons_inv
  rw [aK] at e
  delta PySem.W.getL
  refine ae (List.find?_cons) ?_; refine ae ht ?_; refine ae kr ?_
  by_cases q : g.1 = f
  ·subst q
   rw [if_pos rfl] at e
   obtain rfl := aO e
   rw [beq_self_eq_true]
   exact ⟨_, rfl, hv⟩
  ·have hq : (Z.nm g.1 == Z.nm f) = false := yr fun z => q (inj _ _ z)
   refine ae hq ?_
   rw [if_neg q] at e
   obtain ⟨u, h1, h2⟩ := mA inj r e
   refine ⟨u, ?_, h2⟩
   delta PySem.W.getL at h1
   dsimp only
   split at h1
   ·rename_i en he
    refine ae he ?_; exact h1
   ·split at h1 <;> cases h1
theorem fy {f : Nat} : ∀ {fs : List (Nat × V)} {es : List DictEntry}, aT (fun (f : Nat × V) (p : DictEntry) => (∃ t, p.key = .str (Z.nm f.1) t) ∧ VR c f.2 p.val) fs es → es.any (·.refKey) = false
 | [], _, r => by refine ae r.nil_inv ?_; rfl
 | _ :: _, _, r => by
  obtain ⟨p, _, rfl, ⟨⟨t, ht⟩, hv⟩, r⟩ := r.cons_inv
  refine ae List.any_cons ?_; refine ae (fy (f := f) r) ?_
  delta DictEntry.refKey
  refine ae ht ?_; rfl
theorem w6 (inj : ∀ x y, Z.nm x = Z.nm y → x = y) {f : Nat} {v : V} {u : Value} {hsh : Int} {tk : Tok} (hv : VR c v u) : ∀ {fs : List (Nat × V)} {es : List DictEntry}, aT (fun (f : Nat × V) (p : DictEntry) => (∃ t, p.key = .str (Z.nm f.1) t) ∧ VR c f.2 p.val) fs es →
 aT (fun (f : Nat × V) (p : DictEntry) => (∃ t, p.key = .str (Z.nm f.1) t) ∧ VR c f.2 p.val) (fj f v fs) (putL (Z.nm f) hsh (.str (Z.nm f) tk) u es) := by
 intro fs es r
 induction r with
 | nil => exact .cons ⟨⟨tk, rfl⟩, hv⟩ .nil
 | @cons g p fs es h r ih =>
  refine (h).elim fun aj hw => (aj).elim fun t ht => ?_
  rw [iF]
  dsimp only [putL]
  refine ae ht ?_; refine ae kr ?_
  by_cases q : g.1 = f
  ·subst q
   rw [beq_self_eq_true, if_pos rfl, if_pos rfl]
   exact .cons ⟨⟨t, rfl⟩, hv⟩ r
  ·have hq : (Z.nm g.1 == Z.nm f) = false := yr fun z => q (inj _ _ z)
   refine ae hq ?_; refine ae (if_neg q) ?_; refine ae (if_neg (by decide)) ?_
   exact .cons ⟨⟨t, ht⟩, hw⟩ ih
theorem fz {name : Str} {hsh : Int} {key v : Value} : ∀ es : List DictEntry, (putL name hsh key v es).length ≤ es.length + 1
 | [] => Nat.le_refl _
 | e :: r => by
  dsimp only [putL]
  split
  ·exact Nat.le_succ _
  ·have := fz (name := name) (hsh := hsh) (key := key) (v := v) r
   simp -iota only [List.length_cons]; exact Nat.lt_succ_of_le ‹_›
theorem VR.handed {v : V} {u : Value} (h : VR c v u) : handedIn u = true := by
 cases v with
 | none => subst h; rfl
 | bool b => subst h; rfl
 | int i => obtain ⟨_, t, rfl⟩ := h; rfl
 | str l => obtain ⟨t, rfl⟩ := h; rfl
 | bytes b => obtain ⟨_, t, rfl⟩ := h; rfl
 | loc i => obtain ⟨_, rfl⟩ := h; rfl
 | fn a => subst h; rfl
 | cls a => subst h; rfl
 | ty t => subst h; rfl
 | bi b => subst h; cases b <;> first | rfl | decide +kernel
 | bb => exact h
theorem w8 {C : Nat} {k : gT} (O : g8 Z C k) : ∃ cd, clsIn Z.K C = some cd ∧ cd.hasDict = true := any_some O.hd
theorem rR (G : Z.Glob) (H : St Z L cs c A s) {o : V} {u : Value} {f : Nat} (ro : VR c o u) : au Z L cs Ar (getAttr u (Z.nm f) true) VR (s9 o f A) c s := by
 refine .bnd fun i J => .bnd fun p J => ?_
 obtain ⟨i, rfl⟩ := i
 obtain ⟨⟨C, fs⟩, hm⟩ := p
 obtain ⟨hi, rfl⟩ := ro
 refine .opt fun v hv => ?_
 refine ((H.objs _ _ hm).nM).elim fun k aj => (aj).elim fun es ay => (ay).elim fun n I => ?_
 have O := G.cls C k I.hk I.nx
 have hf : f ∈ k.dp := by
  have : ∀ {fs : List (Nat × V)}, af f fs = some v → ∃ p ∈ fs, p.1 = f := by
   intro fs
   induction fs with
   | nil => intro e; cases e
   | cons p r ih =>
    intro e
    rw [aK] at e
    by_cases q : p.1 = f
    ·exact ⟨p, .head _, q⟩
    ·rw [if_neg q] at e
     refine (ih e).elim fun p' aj => (aj).elim fun h1 h2 => ?_
     exact ⟨p', .tail _ h1, h2⟩
  refine (this hv).elim fun p aj => (aj).elim fun h1 h2 => ?_
  exact h2 ▸ I.fl p h1
 refine (mA G.inj I.all hv).elim fun w aj => (aj).elim fun h1 h2 => ?_
 refine (w8 O).elim fun cd aj => (aj).elim fun hc hd => ?_
 refine .look H fun Q E q => get_value (G.k.keeps H.base) I.rQ O.ga (v := w) ?_ h2.handed (q _ (s.toks + 1) h2)
 dsimp only [findObj, PySem.W.ownOf]
 rw [hc, Option.bind_some, O.dp f hf, Option.bind_some]
 dsimp only
 rw [Option.bind_some, Option.bind_some]
 rw [hd, if_pos rfl, lookIn_dict, h1]
 rfl
theorem pG {K : Frag} {h : Heap} {x C : Addr} {ox : Obj} {od : Option Obj} {name : Str} {tk : Tok} {v : Value} {prog : Program} {w : World} {B : Around} {g d t os} {R : Result → Shared → Prop} (X : K.In h) (I : InstAt h x ox C od) (hp : jW K C = true) (hf : findIn K (.ref C) name = some none)
 (q : wpAny (model prog w) B.in1 (ObjectAttr.storeInOwnDict (.ref x) (.ref C) (.str name tk) name v false) (fun fin s' => match fin with | .done f => R (.ok f) s' | .again c' => c'.quiet = true ∧ codeAny (model prog w) B c' R s') (fun e s' => R (.error e) s') ⟨h, g, d, t, os⟩) :
 codeAny (model prog w) B (.call (.builtin "object.__setattr__") ⟨[.ref x, .str name tk, v], []⟩) R ⟨h, g, d, t, os⟩ := by
 refine (any_some hp).elim fun cd aj => (aj).elim fun hc ho => ?_
 refine (oS ho).elim fun o1 o2 => ?_
 have hm : Looks (model prog w) h (mroOf (.ref C)) cd.mro := (looks_clsIn X hc).andThen .now
 have sub : Looks (model prog w) h (isInstance (.ref x) (.type "object")) true := I.type.andThen (looks_mroIn X (by
  delta mroIn
  rw [hc, Option.bind_some, o1, if_neg fun e => by rw [sY e] at o1; cases o1]))
 refine codeAny_call_builtin PySem.F.store_object.slot.plain PySem.F.store_object.entry (@check_slot (model prog w) _ _ ⟨h, g, d, t, os⟩ "object.__setattr__" "object" "__setattr__" (.ref x) [.str name tk, v] [] _ PySem.F.store_object.kind PySem.F.store_object.split sub (PySem.F.store_object.args ..) ?_)
 rw [osa_eq, refuse_eq]
 refine wpAny_bind (wpAny_bind (I.type.here (wpAny_bind (hm.here ?_))))
 rw [o2]
 refine wpAny_pure (wpAny_bind (I.type.here (wpAny_bind ((looks_findIn X hf).here (wpAny_bind (wpAny_pure (a := none) ?_))))))
 exact q
theorem w9 (G : Z.Glob) {i C f : Nat} {ox : Obj} {es : List DictEntry} {n : Nat} {w : Value} (H : St Z L cs c A s) (I : InstAt s.heap (c.σ i).1 ox C (some (dictOf es n))) (Fq : ox.dict = some (c.σ i).2) (hD : s.heap.get? (c.σ i).2 = some (dictOf es n))
 (sa : findIn Z.K (.ref C) "__setattr__" = some (some (.builtin "object.__setattr__"))) (over : jW Z.K C = true) (hd : (clsIn Z.K C).any (·.hasDict) = true) (hf : findIn Z.K (.ref C) (Z.nm f) = some none) (hl : es.length ≤ 900) (hr : es.any (·.refKey) = false)
 {Q : Unit → Shared → Prop} {E : Value → Shared → Prop}
 (q : ∀ h' hsh tk D5, h'.get? (c.σ i).2 = some (dictOf (putL (Z.nm f) hsh (.str (Z.nm f) tk) w es) (putN (Z.nm f) es n)) → Heap.SameBut (c.σ i).2 s.heap h' → Q () { s with heap := h', toks := D5 }) :
 wpAny Z.M Ar (setAttr (.ref (c.σ i).1) (Z.nm f) w) Q E s := by
 have X := G.k.keeps H.base
 obtain ⟨GO, od, Kq, uT⟩ := ox
 obtain rfl : GO = .ref C := I.cls
 obtain rfl : od = some (c.σ i).2 := Fq
 refine set_plain X I sa ?_
 refine pG X I over hf ?_
 refine (any_some hd).elim fun cd aj => (aj).elim fun hc hd => ?_
 refine wpAny_bind (wpAny_pure (wpAny_bind (wpAny_bind (wpAny_loadPart I.at_ (wpAny_bind (Looks.here (s := { s with toks := s.toks + 1 }) (looks_clsIn X hc) ?_))))))
 refine ae hd ?_
 refine wpAny_pure (a := some (c.σ i).2) (wpAny_bind (wpAny_pure (wpAny_bind ?_)))
 refine wpAny_bind (wpAny_bind (wpAny_askSetting (wpAny_pure (wpAny_bind (wpAny_mkText (wpAny_bind (wpAny_loadPart hD ?_)))))))
 have c0 : (!es.toArray.any (·.key.isStr (Z.nm f)) && es.toArray.any (·.refKey)) = false := by
  rw [← Array.any_toList, ← Array.any_toList, List.toList_toArray, hr, Bool.and_false]
 dsimp only
 rw [aRefKeyMayBeTheName_at, c0]
 refine wpAny_updatePart hD ?_
 have y8 := Heap.get?_update_self (Obj.putName (Z.nm f) (PyData.keyHash Z.M.w.params (Z.nm f)) (.str (Z.nm f) (s.toks + 1)) w) hD (by rw [putName_dict]; rfl)
 rw [putName_dict] at y8
 refine wpAny_bind (wpAny_lookBehind y8 (pastItsLine_dict (by have := fz (name := Z.nm f) (hsh := PyData.keyHash Z.M.w.params (Z.nm f)) (key := .str (Z.nm f) (s.toks + 1)) (v := w) es; refine ae List.size_toArray ?_; refine ae sizeLine_eq ?_; omega)) ?_)
 exact wpAny_pure (q _ _ _ _ y8 (.update ..))
theorem y9 (G : Z.Glob) {i C f : Nat} {ox : Obj} {vs : Array Value} {w : Value} (H : St Z L cs c A s) (h1 : s.heap.get? (c.σ i).1 = some ox) (h2 : ox.cls = .ref C) (h4 : ox.data = .fields vs) (Fq : ox.dict = none)
 (sa : findIn Z.K (.ref C) "__setattr__" = some (some (.builtin "object.__setattr__"))) (over : jW Z.K C = true) (hd : (clsIn Z.K C).any (·.hasDict) = true) (hf : findIn Z.K (.ref C) (Z.nm f) = some none)
 {Q : Unit → Shared → Prop} {E : Value → Shared → Prop}
 (q : ∀ h' D5 BN, h'.get? (c.σ i).1 = some BN → BN.cls = ox.cls → BN.data = ox.data → (∀ b o, s.heap.get? b = some o → b ≠ (c.σ i).1 → h'.get? b = some o) → Q () { s with heap := h', toks := D5 }) :
 wpAny Z.M Ar (setAttr (.ref (c.σ i).1) (Z.nm f) w) Q E s := by
 have X := G.k.keeps H.base
 have I : InstAt s.heap (c.σ i).1 ox C none := ⟨h1, h2, by delta notCls; refine ae h4 ?_; rfl, by refine ae Fq ?_; trivial⟩
 obtain ⟨GO, od, Kq, uT⟩ := ox
 obtain rfl : GO = .ref C := h2
 obtain rfl : od = none := Fq
 obtain rfl : Kq = .fields vs := h4
 refine set_plain X I sa ?_
 refine pG X I over hf ?_
 refine (any_some hd).elim fun cd aj => (aj).elim fun hc hd => ?_
 refine wpAny_bind (wpAny_pure (wpAny_bind (wpAny_bind (wpAny_loadPart I.at_ (wpAny_bind (Looks.here (s := { s with toks := s.toks + 1 }) (looks_clsIn X hc) ?_))))))
 refine ae hd ?_
 have fi := Heap.lt_size h1
 have rA : (c.σ i).1 ≠ s.heap.objs.size := Nat.ne_of_lt fi
 have C0 : (s.heap.push emptyDict).get? (c.σ i).1 = some (⟨.ref C, none, .fields vs, uT⟩ : Obj) := Heap.get?_push_of_some _ h1
 have AR : (s.heap.push emptyDict).get? s.heap.objs.size = some emptyDict := Heap.get?_push_size _ rfl
 have Mn := Heap.get?_update_self (fun o : Obj => { o with dict := some s.heap.objs.size }) C0 rfl
 have GP : ((s.heap.push emptyDict).update (c.σ i).1 (fun o : Obj => { o with dict := some s.heap.objs.size })).get? s.heap.objs.size = some emptyDict := (Heap.get?_update_other _ _ rA).trans AR
 refine (?_ : wpAny _ _ ((alloc emptyDict >>= fun d => update (c.σ i).1 (fun o : Obj => { o with dict := some d }) >>= fun J => dictMade (.ref C) (c.σ i).1 d)) _ _ _)
 refine wpAny_bind (wpAny_alloc (wpAny_bind (wpAny_update C0 ?_)))
 refine wpAny_pure (a := some s.heap.objs.size) (wpAny_bind (wpAny_pure (wpAny_bind ?_)))
 dsimp only [nsSet]
 refine wpAny_bind (wpAny_bind (wpAny_askSetting (wpAny_pure (wpAny_bind (wpAny_mkText (wpAny_bind (wpAny_loadPart GP ?_)))))))
 have BZ : ∀ n : Str, aRefKeyMayBeTheName n #[] = false := fun n => rfl
 dsimp only [emptyDict]
 rw [BZ, if_neg (by decide)]
 refine wpAny_updatePart GP ?_
 have y8 := Heap.get?_update_self (Obj.putName (Z.nm f) (PyData.keyHash Z.M.w.params (Z.nm f)) (.str (Z.nm f) (s.toks + 1)) w) GP (by rw [show emptyDict = dictOf [] 0 from rfl, putName_dict]; rfl)
 rw [show emptyDict = dictOf [] 0 from rfl, putName_dict] at y8
 refine wpAny_bind (wpAny_lookBehind y8 (pastItsLine_dict (by have := fz (name := Z.nm f) (hsh := PyData.keyHash Z.M.w.params (Z.nm f)) (key := .str (Z.nm f) (s.toks + 1)) (v := w) []; refine ae List.size_toArray ?_; refine ae sizeLine_eq ?_; simp -iota only [List.length_nil] at this; exact Nat.succ_pos _)) ?_)
 refine wpAny_pure (q _ _ _ ((Heap.get?_update_other _ _ (Ne.symm rA)).trans Mn) rfl rfl fun b o e hb => ?_)
 have B0 : b ≠ s.heap.objs.size := Nat.ne_of_lt (Heap.lt_size e)
 refine ae (Heap.get?_update_other _ _ (Ne.symm B0)) ?_; refine ae (Heap.get?_update_other _ _ (Ne.symm hb)) ?_
 exact Heap.get?_push_of_some _ e
theorem mB {k : gT} {f : Nat} {v : V} (C1 : f ∈ k.dp) : ∀ {fs : List (Nat × V)}, (∀ p ∈ fs, p.1 ∈ k.dp) → ∀ p ∈ fj f v fs, p.1 ∈ k.dp
 | [], _, p, hp => by cases msg hp; exact C1
 | a :: r, h, p, hp => by
  rw [iF] at hp
  split at hp
  ·rcases fg hp with rfl | hp
   ·exact C1
   ·exact h _ (.tail _ hp)
  ·rcases fg hp with rfl | hp
   ·exact h _ (.head _)
   ·exact mB C1 (fun q hq => h q (.tail _ hq)) p hp
set_option tactic.hygienic true in
theorem rS (G : Z.Glob) {o v : V} {u w : Value} {f : Nat} (H : St Z L cs c A s) (ro : VR c o u) (rv : VR c v w) : au Z L cs Ar (setAttr u (Z.nm f) w) UR (gW Z.Γ o f v A) c s := by
 cases o <;> first | exact .none | skip
 rename_i i
 obtain ⟨hi, rfl⟩ := ro
 refine (?_ : au Z L cs Ar _ UR (match A.heap.get i with
  | some (.qS c) => (match af c Z.Γ.dq with
   | some k => (match af c Z.Γ.cf with
    | some _ => if k.dp.contains f then ok () (A.put i (.exc c)) else none
    | none => none)
   | none => none)
  | some (.inst c fs) => (match af c Z.Γ.dq with
   | some k => Bool.rec (motive := fun J => Res Unit) none (ok () (A.put i (.inst c (fj f v fs)))) (lr (Bo f k.dp) (Nat.ble (Bp fs) 900))
   | none => none)
  | _ => none) c s)
 cases hm : A.heap.get i with
 | none => exact .none
 | some ob =>
 cases ob <;> first | exact .none | skip
 ·rename_i C fs
  dsimp only
  refine ((H.objs _ _ hm).nM).elim fun k aj => (aj).elim fun es ay => (ay).elim fun n I => ?_
  refine ae I.hk ?_
  refine .Mc fun hf => ?_
  have hf := lC hf
  have O := G.cls C k I.hk I.nx
  have C1 : f ∈ k.dp := yY hf.1
  refine .done fun Q E q => w9 G H I.rQ rfl I.d O.sa O.over O.hd (O.dp f C1) (I.all.length ▸ yZ (l := fs) ▸ Nat.le_of_ble_eq_true hf.2) (fy (f := f) I.all) fun h' hsh tk D5 y8 hs => ?_
  have C2 : ∀ b o, s.heap.get? b = some o → b ≠ (c.σ i).1 → b ≠ (c.σ i).2 → h'.get? b = some o := fun b o e J hb => (hs.2 b hb).trans e
  have hz : a6 s.heap h' := cP hs ⟨_, y8⟩ (hJ I.d (bD fun J q => Data.noConfusion q))
  refine q _ _ c (Le.change (s' := { s with heap := _, toks := _ }) H.toHp hi C2 hz) (H.change (s' := { s with heap := _, toks := _ }) hi C2 hz ?_ rfl rfl) trivial
  exact Inst.obj (k := k) ⟨(hs.2 _ I.ne).trans I.at_, I.hk, I.nx, mB C1 I.fl, y8, w6 G.inj rv I.all⟩
 ·rename_i C
  dsimp only
  obtain ⟨oe, vs, h1, h2, h4, h5, h6, h7⟩ := H.objs _ _ hm
  cases hk : af C Z.Γ.dq with
  | none => exact .none
  | some k =>
  cases hx : af C Z.Γ.cf with
  | none => exact .none
  | some bs =>
  refine .dM fun hg => ?_
  have O := G.oY C k bs hk hx
  refine .done fun Q E q => y9 G H h1 h2 h4 h7 O.sa O.over O.hd (O.dp f (List.contains_iff_mem.mp hg)) fun h' tk BN e' ec ed C2 => ?_
  have hz : a6 s.heap h' := a6.mk' fun b o e => by
   by_cases q : b = (c.σ i).1
   ·rw [q, h1] at e; obtain rfl := aO e
    exact ⟨BN, q ▸ e', a9.same ec ed, dP.same ec ed, bc.same ec ed, fun w => (by have := w.1; rw [h2] at this; cases this)⟩
   ·exact ⟨o, C2 b o e q, id, id, id, fun J => rfl⟩
  refine q _ _ c (Le.change (s' := { s with heap := _, toks := _ }) H.toHp hi (fun b o e q J => C2 b o e q) hz) (H.change (s' := { s with heap := _, toks := _ }) hi (fun b o e q J => C2 b o e q) hz ?_ rfl rfl) trivial
  exact ⟨BN, vs, e', ec.trans h2, ed.trans h4, h5, h6.keep hz.tb⟩
theorem iM {K : Type} [DecidableEq K] {kd : KeyKind Z.prog Z.w K} {d : Addr} {x : Value} {k : K} {aF : List (K × Value)} {s : Shared} {Q : Unit → Shared → Prop} {E : Value → Shared → Prop} (is : kd.is k x = true) (h : s.heap.DictOf kd d aF) (hl : aF.length ≤ sizeLine) (hs : (valueAt aF k).isSome = true)
 (q : ∀ h', h'.DictOf kd d (without aF k) → Heap.SameBut d s.heap h' → Q () { s with heap := h', toks := s.toks + 1 }) : wpAny Z.M Ar (delItem (.ref d) x) Q E s := by
 delta delItem
 try with_reducible refine wpAny_holding ?_
 refine wpAny_bind (wpAny_sequenceKey h.typeIs (by decide) ?_)
 exact wpAny_bind (wpAny_callSpecial?_slot (name := Str.ofString "__delitem__") h.typeIs PySem.F.slot_dict_delitem
  (call_meetsIn PySem.F.slot_dict_delitem h.typeIs PySem.F.entry_dict_delitem (PySem.F.args_dict_delitem_2 _ _) (meets_dict_delitem_pairs kd d is) ⟨aF, h, hl, hs, fun h' hm hs => wpAny_pure (q h' hm hs)⟩))
set_option tactic.hygienic true in
theorem rT (G : Z.Glob) {o i : V} {u j : Value} (H : St Z L cs c A s) (ro : VR c o u) (ri : VR c i j) : au Z L cs Ar (delItem u j) UR (jJ o i A) c s := by
 cases o <;> first | exact .none | skip
 rename_i j
 have hk : ∀ h', Heap.SameBut (c.σ j).1 s.heap h' → ∀ b o, s.heap.get? b = some o → b ≠ (c.σ j).1 → b ≠ (c.σ j).2 → h'.get? b = some o := fun h' hs b o e q J => (hs.2 b q).trans e
 cases i <;> first | exact .none | skip
 case int x =>
  cases x with
  | va => exact .none
  | lit k =>
  obtain ⟨hj, rfl⟩ := ro; obtain ⟨_, t', rfl⟩ := ri
  refine (?_ : au Z L cs Ar _ UR (wh j k A) c s)
  delta wh
  generalize hm : A.heap.get j = ob
  cases ob with
  | none => exact .none
  | some ob =>
  cases ob <;> first | exact .none | skip
  case aB es =>
   refine .dM fun hl => ?_
   refine ((H.objs _ _ hm).aB).elim fun aF d => ?_
   refine .done fun Q E q => iM (intKind_is _ _ k t') d.at_ (by refine ae sizeLine_eq ?_; refine bK d.all.length ?_; omega) (by refine ae (show k = id k from rfl) ?_; refine ae (KR.isSome id_eq d.all) ?_; exact hl.1) fun h' xa hs => ?_
   refine q _ _ c (Le.change (s' := { s with heap := h', toks := s.toks + 1 }) H.toHp hj (hk h' hs) (dm d.at_ xa hs)) (H.change (s' := { s with heap := h', toks := s.toks + 1 }) hj (hk h' hs) (dm d.at_ xa hs) ?_ rfl rfl) trivial
   exact br.hX xa (KR.del id_eq d.all d.nd)
  case aw es =>
   refine .dM fun hl => ?_
   refine ((H.objs _ _ hm).aw).elim fun fs aj => (aj).elim fun aF ay => (ay).elim fun d aP => (aP).elim fun p bF => (bF).elim fun nd Mo => ?_
   refine .done fun Q E q => iM (intKind_is _ _ k t') d.at_ (by refine ae sizeLine_eq ?_; refine bK d.all.length ?_; refine ae p.length_eq ?_; omega) (by rw [show k = id k from rfl, KR.isSome id_eq d.all]; exact (congrArg Option.isSome (Mo k)).trans hl.1) fun h' xa hs => ?_
   refine q _ _ c (Le.change (s' := { s with heap := h', toks := s.toks + 1 }) H.toHp hj (hk h' hs) (dm d.at_ xa hs)) (H.change (s' := { s with heap := h', toks := s.toks + 1 }) hj (hk h' hs) (dm d.at_ xa hs) ?_ rfl rfl) trivial
   exact br.pC xa (KR.del id_eq d.all d.nd) (uN p nd)
 case str k =>
  obtain ⟨hj, rfl⟩ := ro; obtain ⟨t', rfl⟩ := ri
  refine (?_ : au Z L cs Ar _ UR (wi j k A) c s)
  delta wi
  generalize hm : A.heap.get j = ob
  cases ob with
  | none => exact .none
  | some ob =>
  cases ob <;> first | exact .none | skip
  refine .dM fun hl => ?_
  obtain ⟨aF, d⟩ := (H.objs _ _ hm).aR
  refine .done fun Q E q => iM (strKind_is _ _ (strOf k) t') d.at_ (by refine ae sizeLine_eq ?_; refine bK d.all.length ?_; omega) (by refine ae (KR.isSome cA d.all) ?_; exact hl.1) fun h' xa hs => ?_
  refine q _ _ c (Le.change (s' := { s with heap := h', toks := s.toks + 1 }) H.toHp hj (hk h' hs) (dm d.at_ xa hs)) (H.change (s' := { s with heap := h', toks := s.toks + 1 }) hj (hk h' hs) (dm d.at_ xa hs) ?_ rfl rfl) trivial
  exact br.kb xa (KR.del cA d.all d.nd)
theorem rU (hr : Room 1 Ar cs) {i : Nat} {xs : List V} (H : St Z L cs c A s) (hh : A.hd = none) (hm : A.heap.get i = some (.tup xs) ∨ A.heap.get i = some (.list xs)) : au Z L cs Ar (unpackItems (.ref (c.σ i).1) xs.length none) dk (ok xs A) c s := by
 have fin : ∀ us : Array Value, dk c xs us.toList → ∀ Q : List Value → Shared → Prop, (∀ u s' c', Le Z L c s c' s' → St Z L cs c' A s' → dk c' xs u → Q u s') → ∀ h', Heap.ExtBut s.heap.objs.size s.heap h' → Q us.toList { s with heap := h' } := fun us r Q q h' hx => by
  have hk : ∀ b o, s.heap.get? b = some o → h'.get? b = some o := fun b o e => hx b o (Nat.ne_of_lt (Heap.lt_size e)) e
  exact q _ _ c (Le.bk (s' := { s with heap := h' }) hk) (H.bk (s' := { s with heap := h' }) hk rfl rfl) r
 rcases hm with hm | hm
 ·refine (H.objs _ _ hm).elim fun us aj => (aj).elim fun e1 r1 => ?_
  refine ae (show xs.length = us.size by have := r1.length; simpa using this) ?_
  exact .done fun Q E q => PyProof.Rows.unpackItems_tuple (hr.quiet H hh) ⟨_, e1, rfl, _, rfl⟩ (fin us r1 Q q)
 ·obtain ⟨us, ep, e1, r1⟩ := H.objs _ _ hm
  refine ae (show xs.length = us.size by have := r1.length; simpa using this) ?_
  exact .done fun Q E q => kun_itemsOf (hr.quiet H hh) ⟨_, e1, rfl, _, rfl⟩ (fin us r1 Q q)
theorem uU (H : St Z L cs c A s) : au Z L cs Ar (dictDisplay []) VR (ok (V.loc (A.alloc .a0).1) (A.alloc .a0).2) c s := by
 refine .newObj H (ob := { cls := .type "dict", data := .dict #[] }) rfl (fun h p e J => ⟨_, by rw [c.aI]; exact e, ⟨rfl, rfl, rfl⟩, _, rfl⟩) fun h => ?_
 refine (?_ : wpAny _ _ (newDict) _ _ _)
 exact wpAny_bind (wpAny_alloc (wpAny_pure (h s.toks)))
end
end aD
end
section
open PySem PySem.Calls PyProof.Rows PySem.W PySem.SeqAt PySem.Builtin
set_option backward.match.sparseCases false
set_option maxRecDepth 100000
namespace aD
namespace BA
theorem Mp : typeLookup (.type "bytearray") "__release_buffer__" = pure (some (.builtin "bytearray.__release_buffer__")) := by rw [typeLookup_type, builtinLookup_eq_fast]; kernel_rfl
theorem hZ : Slot "bytearray" "__getitem__" "bytearray.__getitem__" :=
 .of (owner := "bytearray") (n := "__getitem__") (by rw [typeLookup_type, builtinLookup_eq_fast]; kernel_rfl) (by decide +kernel) (by decide +kernel) (by decide +kernel)
  (by first | exact .inl (by decide +kernel) | exact .inr (by decide +kernel)) (by rw [isSubtype_type]; kernel_rfl)
theorem lD : entryFor table "bytearray.__getitem__" = some Builtin.«bytearray.__getitem__» := by first | exact entryFor_of_fast (by kernel_rfl) | exact entryFor_of_tree (by kernel_rfl)
theorem nN (a b : Value) : argsOk "bytearray.__getitem__" ⟨[a, b], []⟩ := by skip; kernel_rfl
theorem meets_slice (x : Addr) (b : Array UInt8) (a : Addr) {l u : Value} {lo hi : Option Int} (hl : IsPart l lo) (hu : IsPart u hi) :
 Meets («bytearray.__getitem__» ⟨[.ref x, .ref a], []⟩) (fun J R s => s.heap.get? x = some { cls := .type "bytearray", data := .bytearray b } ∧ s.heap.IsSliceOf a l u .none ∧ (KBy.picked b lo hi).size ≤ sizeLine ∧
  R (.ok (.ret (.ref s.heap.objs.size))) { s with heap := s.heap.push { cls := .type "bytearray", data := .bytearray (KBy.picked b lo hi) } }) := by
 refine .of_wp fun prog w A R s hS => ?_
 obtain ⟨hx, ⟨o, ho, hc, hd⟩, ru, h⟩ := hS
 have hT : s.TypeIs (.ref a) "slice" := ⟨o, ho, hc⟩
 refine (?_ : wpAny _ _ (Bytes.subscript? (.ref a) >>= fun r => _) _ _ s)
 refine wpAny_bind ?_
 dsimp only [Bytes.subscript?]
 refine wpAny_bind (wpAny_specialOf hT slice_no_index (wpAny_pure ?_))
 refine wpAny_bind (wpAny_typeOf hT ?_)
 refine wpAny_bind ?_
 refine wpAny_bind (wpAny_field (x := .none) ho hd rfl ?_)
 kby_none
 refine wpAny_ite (KBy.ite_no (show ¬ ((Value.none == rawInt 0) = true) from Bool.false_ne_true) ?_)
 refine wpAny_bind (wpAny_field (x := l) ho hd rfl ?_)
 have go : wpAny (model prog w) A.in1 (sliceIndices (rawPart lo) (rawPart hi) (rawPart none) b.size) (fun r s' => r = sliceBounds lo hi none b.size ∧ s' = s) (fun J J => False) s :=
  wpAny_of_eq (sliceIndices_raw lo hi none b.size (fun e => nomatch e)) ⟨rfl, rfl⟩
 cases hl <;> cases hu <;> (first
  | (kby_none; (refine wpAny_bind (wpAny_field (x := .none) ho hd rfl ?_)); kby_none)
  | (kby_none; (refine wpAny_bind (wpAny_field (x := .int _ _) ho hd rfl ?_)); kby_int)
  | (kby_int; (refine wpAny_bind (wpAny_field (x := .none) ho hd rfl ?_)); kby_none)
  | (kby_int; (refine wpAny_bind (wpAny_field (x := .int _ _) ho hd rfl ?_)); kby_int)) <;> refine wpAny_pure ?_
 all_goals
  refine wpAny_bind ?_
  refine wpAny_bind (wpAny_bind (wpAny_load hx (wpAny_pure (wpAny_pure ?_))))
  refine wpAny_bind (wpAny_mono go (fun r s' hr => ?_) fun J J e => e.elim)
  obtain ⟨Mq, Mr⟩ := hr
  subst Mq Mr
  exact wpAny_bind (wpAny_newObj_type (wpAny_pure ⟨_, rfl, h⟩) ru)
end BA
section
variable {Z : aL} {L : Nat} {cs : Fm} {Ar : Around} {c : Cfg} {A : AS} {s : Shared}
theorem zd (a b : Nat) : b - a = max a b - a := by
 rcases Nat.le_total a b with h | h
 ·refine ae (Nat.max_eq_right h) ?_; rfl
 ·rw [Nat.max_eq_left h, Nat.sub_self, Nat.sub_eq_zero_of_le h]
theorem ku {n d r : Nat} {v : V} {u : Value} (rv : VR c v u) (e : Bu n v d = some r) : ∃ p, IsPart u p ∧ p.elim d (clipAt n) = r := by
 cases v with
 | none => subst rv; exact ⟨none, .none, aO e⟩
 | int x =>
  cases x with
  | lit i =>
   obtain ⟨_, t, rfl⟩ := rv
   by_cases hi : 0 ≤ i
   ·refine ⟨some i, .int i t, (?_ : clipAt n i = r)⟩
    obtain rfl := aO ((if_pos hi).symm.trans e)
    obtain ⟨k, rfl⟩ := Int.eq_ofNat_of_zero_le hi
    exact clipAt_nat n k
   ·exact no ((if_neg hi).symm.trans e)
  | va => exact no e
 | _ => exact no e
theorem fU {n : Nat} {lo hi : V} {l h : Value} {p : Nat × Nat} (e : cut n lo hi = some p) (rl : VR c lo l) (rh : VR c hi h) :
 ∃ xb cN, IsPart l xb ∧ IsPart h cN ∧ xb.elim 0 (clipAt n) = p.1 ∧ cN.elim n (clipAt n) - p.1 = p.2 - p.1 ∧ max p.1 (cN.elim n (clipAt n)) = p.2 := by
 obtain ⟨a, ha, e⟩ := f9 e
 obtain ⟨b, hb, e⟩ := f9 e
 obtain rfl := aO e
 obtain ⟨p, h1, h2⟩ := ku rl ha
 obtain ⟨q, h3, h4⟩ := ku rh hb
 exact ⟨p, q, h1, h3, h2, by refine ae h4 ?_; exact zd .., by refine ae h4 ?_; rfl⟩
theorem xc {k : Value → Sem Value} {l h : Value} {Q E : Value → Shared → Prop} (q : wpAny Z.M Ar (k (.ref s.heap.objs.size)) Q E { s with heap := s.heap.push { cls := .type "slice", data := .fields #[l, h, .none] } }) :
 wpAny Z.M Ar (newFields "slice" [l, h, .none] >>= k) Q E s := wpAny_bind (wpAny_newObj_type q)
theorem iN {β : Type} {k : Value → Sem β} {l h : Value} {Q : β → Shared → Prop} {E : Value → Shared → Prop} (q : bt Z.M Ar (k (.ref s.heap.objs.size)) Q E { s with heap := s.heap.push { cls := .type "slice", data := .fields #[l, h, .none] } }) :
 bt Z.M Ar (newFields "slice" [l, h, .none] >>= k) Q E s := wB (wpAny_newObj_type q)
theorem pH {o lo hi : V} {u l h : Value} {x y : Option Expr} {p : Pos} (H : St Z L cs c A s) (ro : VR c o u) (rl : VR c lo l) (rh : VR c hi h)
 {k : Value → Sem Value} {pos : Pos} (hk : ∀ i, k i = (standAt pos >>= fun J => getitemInPython u >>= fun b => subscripted (.Slice x y none p) b u i)) : au Z L cs Ar (newFields "slice" [l, h, .none] >>= k) VR (qW o lo hi A) c s := by
 have vW : ∀ b o', s.heap.get? b = some o' → (s.heap.push { cls := .type "slice", data := .fields #[l, h, .none] }).get? b = some o' := fun b o' e => Heap.get?_push_of_some _ e
 have H1 : St Z L cs c A { s with heap := s.heap.push { cls := .type "slice", data := .fields #[l, h, .none] } } := H.bk vW rfl rfl
 have a4 : Le Z L c s c { s with heap := s.heap.push { cls := .type "slice", data := .fields #[l, h, .none] } } := Le.bk vW
 cases o with
 | bytes b =>
  obtain ⟨hb, t, rfl⟩ := ro
  refine .dM fun hlen => .bnd fun p hc => ?_
  obtain ⟨xb, cN, pl, pu, e1, e2, _⟩ := fU hc rl rh
  have hz : (BS.den c.ρ b).toArray.size = BS.len b := by rw [List.size_toArray, BS.bq]
  have pk : KBy.picked (BS.den c.ρ b).toArray xb cN = (BS.den c.ρ (BS.slice p.1 p.2 b)).toArray := by
   rw [KBc.picked_eq, hz, e1, e2, BS.iK]
  refine .done fun Q E q => xc ?_
  rw [hk]
  refine wpAny_bind (wpAny_standAt (slice_of FB.slot_bytes_getitem.lookup (typeIs_bytes _ _ t) ?_))
  refine getItem_meets (typeIs_bytes _ _ _) (by decide) FB.slot_bytes_getitem FB.entry_bytes_getitem (FB.args_bytes_getitem_2 _ _) (KBc.meets_slice2 _ t _ pl pu) ⟨Heap.IsSliceOf.new _ _ _ _, ?_, fun t' k' => ?_⟩
  ·refine Nat.le_trans (KBc.size_picked_le _ xb cN) ?_
   refine ae hz ?_; refine ae sizeLine_eq ?_; exact Nat.le_trans hlen (by decide)
  ·exact q _ _ c (a4.trans (Le.toks k')) (H1.toks k') ⟨BS.pj hb, t', by refine ae pk ?_; rfl⟩
 | loc i =>
  obtain ⟨J6, rfl⟩ := ro
  refine (?_ : au Z L cs Ar _ VR (match dz (A.heap.get i) with
   | some xs => _
   | none => _) c s)
  cases dz (A.heap.get i) with
  | some xs =>
   obtain ⟨xs, hm⟩ := xs
   refine .dM fun hlen => .bnd fun p hc => ?_
   obtain ⟨us, ep, e0, r0⟩ := H1.objs _ _ hm
   obtain ⟨xb, cN, pl, pu, e1, e2, _⟩ := fU hc rl rh
   have hz : us.size = xs.length := Eq.symm r0.length
   have pk : slicePick us xb cN none = ((us.toList.drop p.1).take (p.2 - p.1)).toArray := by rw [slicePick_plain, hz, e1, e2]
   intro r er
   refine iN ?_
   rw [hk]
   refine au.from H.bw a4 (r := _) ?_ r er
   refine .at ?_
   refine .newObj H1 (ob := { cls := .type "list", data := .seq ((us.toList.drop p.1).take (p.2 - p.1)).toArray }) rfl (fun h' p' e J => ⟨_, 0, by rw [c.aI]; exact e, ?_⟩) fun q => ?_
   ·refine ae List.toList_toArray ?_; exact ((r0.drop p.1).take (p.2 - p.1)).imp fun J J y => y.mono (c.aJ p')
   ·refine slice_of list_getitem_lookup (dW e0) (wpAny_getItem_list_slice (s := { s with heap := _ }) ⟨_, e0, rfl, _, rfl⟩ (Heap.IsSliceOf.new _ _ _ _) pl pu .none (fun e => nomatch e) ?_ ?_)
    ·refine ae pk ?_; exact q _
    ·refine ae hz ?_; refine ae sizeLine_eq ?_; exact Nat.le_trans hlen (by decide)
  | none =>
   refine .bnd fun b J => .dM fun hlen => .bnd fun p hc => ?_
   obtain ⟨b, hm⟩ := b
   obtain ⟨hb, e0⟩ := H1.objs _ _ hm
   obtain ⟨xb, cN, pl, pu, e1, e2, _⟩ := fU hc rl rh
   have hz : (BS.den c.ρ b).toArray.size = BS.len b := by rw [List.size_toArray, BS.bq]
   have pk : KBy.picked (BS.den c.ρ b).toArray xb cN = (BS.den c.ρ (BS.slice p.1 p.2 b)).toArray := by
    rw [KBc.picked_eq, hz, e1, e2, BS.iK]
   intro r er
   refine iN ?_
   rw [hk]
   refine au.from H.bw a4 (r := _) ?_ r er
   refine .at ?_
   refine .newObj H1 (ob := { cls := .type "bytearray", data := .bytearray (BS.den c.ρ (BS.slice p.1 p.2 b)).toArray }) rfl (fun h' p' e J => ⟨BS.pj hb, by rw [c.aI]; exact e⟩) fun q => ?_
   refine slice_of BA.hZ.lookup ⟨_, e0, rfl⟩ (getItem_meets ⟨_, e0, rfl⟩ (by decide) BA.hZ BA.lD (BA.nN _ _) (BA.meets_slice _ _ _ pl pu) ⟨e0, Heap.IsSliceOf.new _ _ _ _, ?_, ?_⟩)
   ·refine Nat.le_trans (KBc.size_picked_le _ xb cN) ?_
    refine ae hz ?_; refine ae sizeLine_eq ?_; exact Nat.le_trans hlen (by decide)
   ·refine ae pk ?_; exact q _
 | _ => exact .none
end
end aD
end
section
open PySem PySem.Calls PyProof.Rows PySem.W
set_option backward.match.sparseCases false
namespace aD
theorem lookup_isSome : ∀ {l : List (Str × Value)} {n : Str}, (l.lookup n).isSome = decide (n ∈ l.map (·.1))
 | [], _ => rfl
 | x :: l, n => by
  refine ae List.lookup_cons ?_; refine ae List.map_cons ?_
  by_cases h : n = x.1
  ·subst h; simp
  ·refine ae (yr h) ?_
   refine ae (lookup_isSome (l := l)) ?_
   simp [h]
noncomputable def fA (r : List (Str × Value)) (x : Str × Value) : List (Str × Value) := if (r.lookup x.1).isNone = true then r ++ [(x.1, x.2)] else r
theorem gJ : ∀ (l : List (Str × Value)) (slots : List (Str × Value)),
 (forIn (m := Sem) l slots fun x r => if (r.lookup x.1).isNone = true then pure (.yield (r ++ [(x.1, x.2)])) else pure (.yield r)) = pure (l.foldl fA slots)
 | [], slots => rfl
 | x :: l, slots => by
  rw [List.forIn_cons, List.foldl_cons]
  dsimp only [fA]
  split
  ·rw [pure_bind]; exact gJ l _
  ·rw [pure_bind]; exact gJ l _
theorem tI : ∀ {l slots : List (Str × Value)}, (∀ x ∈ l, x.1 ∈ slots.map (·.1)) → l.foldl fA slots = slots
 | [], _, _ => rfl
 | x :: l, slots, h => by
  have hx : (slots.lookup x.1).isNone = false := by
   rw [Option.isNone_eq_false_iff, lookup_isSome]; exact decide_eq_true (h x (.head _))
  refine ae List.foldl_cons ?_; refine ae (show fA slots x = slots by delta fA; rw [hx]; rfl) ?_
  exact tI fun y hy => h y (.tail _ hy)
theorem pI : ∀ {l slots : List (Str × Value)}, (slots.map (·.1) ++ l.map (·.1)).Nodup → l.foldl fA slots = slots ++ l
 | [], _, _ => (List.append_nil _).symm
 | x :: l, slots, h => by
  have hn : x.1 ∉ slots.map (·.1) := fun hm => by
   have := (List.nodup_append.mp h).2.2 x.1 hm x.1 (by simp)
   exact this rfl
  have hx : (slots.lookup x.1).isNone = true := by
   rw [Option.isNone_iff_eq_none, ← Option.not_isSome_iff_eq_none, lookup_isSome]; simpa using hn
  rw [List.foldl_cons, show fA slots x = slots ++ [x] by delta fA; rw [hx]; rfl, pI (l := l) (slots := slots ++ [x]) (by simpa [List.append_assoc] using h), List.append_assoc]; rfl
theorem pJ : ∀ {names : List Str} {vals : List Value}, names.Nodup → vals.length = names.length → ∀ pre : List (Str × Value), (∀ n ∈ names, n ∉ pre.map (·.1)) →
 names.filterMap (fun n => ((pre ++ names.zip vals).lookup n).map (n, ·)) = names.zip vals
 | [], [], _, _, _, _ => rfl
 | [], _ :: _, _, h, _, _ => by cases h
 | _ :: _, [], _, h, _, _ => by cases h
 | n :: names, v :: vals, hn, hl, pre, hp => by
  refine (List.nodup_cons.mp hn).elim fun h1 h2 => ?_
  have e0 : pre.lookup n = none := by
   rw [← Option.not_isSome_iff_eq_none, lookup_isSome]; simpa using hp n (.head _)
  have e : (pre ++ (n :: names).zip (v :: vals)).lookup n = some v := by
   rw [List.lookup_append, e0, List.zip_cons_cons, List.lookup_cons, beq_self_eq_true]; rfl
  refine ae List.filterMap_cons ?_; refine ae e ?_; refine ae List.zip_cons_cons ?_
  dsimp only [Option.map_some]
  have := pJ h2 (by simpa using hl) (pre ++ [(n, v)]) (fun m hm => by
   rw [List.map_append, List.mem_append, not_or]
   refine ⟨hp m (.tail _ hm), ?_⟩
   simp -iota only [List.map_cons, List.map_nil, List.mem_singleton]
   intro e; exact h1 (e ▸ hm))
  rw [List.append_assoc] at this
  refine ae (show pre ++ (n, v) :: names.zip vals = pre ++ ([(n, v)] ++ names.zip vals) from rfl) ?_; refine ae this ?_; rfl
theorem pK {n1 n2 n3 : List Str} {us d2 d3 : List Value} (hn : (n1 ++ n2 ++ n3).Nodup) (h1 : us.length = (n1 ++ n2).length) (h2 : d2.length = n2.length) (h3 : d3.length = n3.length) :
 ((n2 ++ n3).zip (d2 ++ d3)).foldl fA ((n1 ++ n2 ++ n3).zip us) = (n1 ++ n2 ++ n3).zip (us ++ d3) := by
 have e0 : (n1 ++ n2 ++ n3).zip us = (n1 ++ n2).zip us := by
  have := List.zip_append (l₁ := n1 ++ n2) (r₁ := n3) (l₂ := us) (r₂ := []) h1.symm
  rw [List.append_nil, List.zip_nil_right, List.append_nil] at this
  exact this
 have hs : ((n1 ++ n2).zip us).map (·.1) = n1 ++ n2 := List.map_fst_zip (Nat.le_of_eq h1.symm)
 have Ms : (n3.zip d3).map (·.1) = n3 := List.map_fst_zip (Nat.le_of_eq h3.symm)
 refine ae e0 ?_; refine ae (List.zip_append h2.symm) ?_; refine ae (List.zip_append h1.symm) ?_; refine ae List.foldl_append ?_
 have a : List.foldl fA ((n1 ++ n2).zip us) (n2.zip d2) = (n1 ++ n2).zip us := by
  refine tI fun x hx => ?_
  refine ae hs ?_
  exact List.mem_append_right _ (List.of_mem_zip hx).1
 refine ae a ?_
 refine pI ?_
 refine ae hs ?_; refine ae Ms ?_
 exact hn
theorem uW {names : List Str} {us ds : List Value} (hle : us.length ≤ names.length) (B3 : names.length ≤ us.length + ds.length) (hd : ds.length ≤ names.length) :
 ∃ n1 n2 n3 : List Str, ∃ d2 d3 : List Value, names = n1 ++ n2 ++ n3 ∧ ds = d2 ++ d3 ∧ us.length = (n1 ++ n2).length ∧ d2.length = n2.length ∧ d3.length = n3.length := by
 refine (Nat.le.dest hd).elim fun k hk => ?_
 refine (Nat.le.dest B3).elim fun i hi => ?_
 have hu : k + i = us.length := Nat.add_left_cancel (n := ds.length) (by rw [← Nat.add_assoc, hk, hi, Nat.add_comm])
 have cN : i ≤ ds.length := Nat.le_of_add_le_add_left (a := names.length) (hi ▸ Nat.add_le_add_right hle _)
 have hl : (names.drop k).length = ds.length := by rw [List.length_drop, ← hk, Nat.add_sub_cancel]
 have h2 : ((names.drop k).take i).length = i := List.length_take_of_le (hl ▸ cN)
 refine ⟨names.take k, (names.drop k).take i, names.drop us.length, ds.take i, ds.drop i, ?_, (List.take_append_drop ..).symm, ?_, (List.length_take_of_le cN).trans h2.symm, ?_⟩
 ·rw [← hu, ← List.drop_drop, List.append_assoc, List.take_append_drop, List.take_append_drop]
 ·refine ae List.length_append ?_; refine ae h2 ?_; refine ae (List.length_take_of_le (hk ▸ Nat.le_add_left ..)) ?_; refine ae hu ?_; rfl
 ·rw [List.length_drop, List.length_drop, ← Nat.add_sub_add_right names.length i us.length, hi, Nat.add_sub_add_left]
theorem uX {n1 n3 : List Str} {us : List Value} (h1 : us.length = n1.length) : (n1 ++ n3).zip us = n1.zip us := by
 have := List.zip_append (l₁ := n1) (r₁ := n3) (l₂ := us) (r₂ := []) h1.symm
 rw [List.append_nil, List.zip_nil_right, List.append_nil] at this
 exact this
theorem uY {n1 n2 n3 : List Str} {us : List Value} (h1 : us.length = (n1 ++ n2).length) : (n1.filter fun n => (((n1 ++ n2 ++ n3).zip us).lookup n).isNone) = [] := by
 rw [List.filter_eq_nil_iff]
 intro n hn
 rw [Option.isNone_iff_eq_none, ← Option.not_isSome_iff_eq_none, lookup_isSome, uX h1, List.map_fst_zip (Nat.le_of_eq h1.symm), decide_eq_true (List.mem_append_left _ hn)]
 exact fun h => h rfl
theorem lE {M : Model} {A : Around} {E : Value → Shared → Prop} {s : Shared} {fd : FuncData} {names n1 n2 n3 : List Str} {us ds d2 d3 : List Value} {Q : List (Str × Value) → Shared → Prop}
 (hp : fd.params.posonlyargs = []) (hk : fd.params.kwonlyargs = []) (hv : fd.params.vararg = none) (hw : fd.params.kwarg = none) (hm : fd.params.args.map (·.arg) = names)
 (hn : names.Nodup) (en : names = n1 ++ n2 ++ n3) (ed : ds = d2 ++ d3) (h1 : us.length = (n1 ++ n2).length) (h2 : d2.length = n2.length) (h3 : d3.length = n3.length)
 (hD : ∀ Q' : Option (Array Value) → Shared → Prop, (∀ o : Option (Array Value), (o.getD #[]).toList = ds → Q' o s) → wpAny M A (seqItems? fd.defaults) Q' E s)
 (hq : Q (names.zip (us ++ d3)) s) : wpAny M A (bindArgs fd ⟨us, []⟩) Q E s := by
 have hl : ds.length = (n2 ++ n3).length := by refine ae ed ?_; refine ae List.length_append ?_; refine ae List.length_append ?_; refine ae h2 ?_; refine ae h3 ?_; rfl
 have hN : names.length = n1.length + ds.length := by rw [en, hl, List.append_assoc, List.length_append]
 have c0 : names.length - ds.length = n1.length := by rw [hN, Nat.add_sub_cancel]
 have c1 : (decide (us.length > names.length) && (none : Option Arg).isNone) = false := by
  refine ae (decide_eq_false (Nat.not_lt_of_le (by rw [h1, en, List.length_append (bs := n3)]; exact Nat.le_add_right ..))) ?_; rfl
 have c2 : ds.length - names.length = 0 := Nat.sub_eq_zero_of_le (hN ▸ Nat.le_add_left ..)
 have dn : names.drop n1.length = n2 ++ n3 := by rw [en, List.append_assoc, List.drop_left]
 have tn : names.take n1.length = n1 := by rw [en, List.append_assoc, List.take_left]
 have e1 : (n1.filter fun n => ((names.zip us).lookup n).isNone) = [] := by refine ae en ?_; exact uY h1
 have e2 : ((n2 ++ n3).zip ds).foldl fA (names.zip us) = names.zip (us ++ d3) := by
  refine ae en ?_; refine ae ed ?_; exact pK (en ▸ hn) h1 h2 h3
 have e3 : (names ++ []).filterMap (fun n => ((names.zip (us ++ d3)).lookup n).map (n, ·)) = names.zip (us ++ d3) := by
  rw [List.append_nil]
  exact pJ hn (by refine ae en ?_; refine ae List.length_append ?_; refine ae (List.length_append (as := n1 ++ n2)) ?_; refine ae h1 ?_; refine ae h3 ?_; rfl) [] fun J J h => nomatch h
 have c3 : (!((names.take (names.length - (ds.drop (ds.length - names.length)).length)).filter fun n => ((names.zip us).lookup n).isNone).isEmpty) = false := by
  refine ae c2 ?_; refine ae List.drop_zero ?_; refine ae c0 ?_; refine ae tn ?_; refine ae e1 ?_; rfl
 have c4 : (forIn (m := Sem) ((names.drop (names.length - (ds.drop (ds.length - names.length)).length)).zip (ds.drop (ds.length - names.length))) (names.zip us) fun x r => if (r.lookup x.1).isNone = true then pure (.yield (r ++ [(x.1, x.2)])) else pure (.yield r)) = pure (names.zip (us ++ d3)) := by
  rw [c2, List.drop_zero, c0, dn, gJ, e2]
 obtain ⟨fn, qn, ⟨po, ar, va, ko, kd, kw, dx⟩, bd, sc, gl, cl, df, kdf, doc, pm, an, co, ct⟩ := fd
 obtain rfl : po = [] := hp
 obtain rfl : ko = [] := hk
 obtain rfl : va = none := hv
 obtain rfl : kw = none := hw
 have hm : ar.map (·.arg) = names := hm
 delta bindArgs
 dsimp only
 refine ae hm ?_
 refine wpAny_bind (wpAny_pure ?_)
 refine wpAny_bind (hD _ fun o ho => ?_)
 refine ae ho ?_
 refine bm_if_false c1 ?_
 refine wpAny_bind (wpAny_pure ?_)
 refine bm_if_false c3 ?_
 refine wpAny_bind (wpAny_of_eq c4 ?_)
 refine wpAny_bind (wpAny_pure ?_)
 exact wpAny_of_eq (congrArg pure e3) hq
theorem ja {M : Model} {A : Around} {E : Value → Shared → Prop} {s : Shared} {fd : FuncData} {names : List Str} {us ds : List Value} {Q : List (Str × Value) → Shared → Prop}
 (hp : fd.params.posonlyargs = []) (hk : fd.params.kwonlyargs = []) (hv : fd.params.vararg = none) (hw : fd.params.kwarg = none) (hm : fd.params.args.map (·.arg) = names)
 (hn : names.Nodup) (hle : us.length ≤ names.length) (B3 : names.length ≤ us.length + ds.length) (hd : ds.length ≤ names.length)
 (hD : ∀ Q' : Option (Array Value) → Shared → Prop, (∀ o : Option (Array Value), (o.getD #[]).toList = ds → Q' o s) → wpAny M A (seqItems? fd.defaults) Q' E s)
 (hq : Q (names.zip (us ++ ds.drop (us.length + ds.length - names.length))) s) : wpAny M A (bindArgs fd ⟨us, []⟩) Q E s := by
 refine (uW hle B3 hd).elim fun n1 aj => (aj).elim fun n2 ay => (ay).elim fun n3 aP => (aP).elim fun d2 bF => (bF).elim fun d3 cZ => (cZ).elim fun en ia => (ia).elim fun ed pL => (pL).elim fun h1 rV => (rV).elim fun h2 h3 => ?_
 refine lE hp hk hv hw hm hn en ed h1 h2 h3 hD ?_
 have e : us.length + ds.length - names.length = d2.length := by
  rw [en, ed, h1, List.length_append, List.length_append, List.length_append, List.length_append, h2, h3, Nat.add_comm n2.length n3.length, ← Nat.add_assoc, Nat.add_sub_cancel_left]
 rw [e, ed, List.drop_left] at hq
 exact hq
end aD
end
section
open PySem PySem.Calls PyProof.Rows PySem.W PySem.SeqAt PySem.Builtin
namespace aD
section
variable {prog : Program} {w : World} {A : Around} {s : Shared} {R : Result → Shared → Prop}
theorem rW {body : List Stmt} {env : Env}
 (h : bt (model prog w) (A.deeper env) (execs body env) (fun f s' => R (.ok (.ret (match f with | .ret v => v | _ => .none))) s') (fun e s' => bt (model prog w) (A.deeper env) (leaving env e) (fun J ew => R (.error e) ew) (fun e s' => R (.error e) s') s') s) :
 bj (model prog w) A (.func body env) R s := by
 refine aZ rfl ?_
 refine (?_ : bt _ (A.deeper env) (do point; match ← (execs body env).onRaise (leaving env) with | .ret v => ret v | _ => ret .none) _ _ s)
 refine aa (lW (aa (aU (az h (fun f s' h' => ?_) fun J J h' => h'))))
 cases f <;> exact aq h'
theorem gc {a : Addr} {args : Args} {o : Obj} {fd : FuncData} {body : List Stmt} (xd : A.depth < recursionLimit)
 (ho : s.heap.get? a = some o)
 (BO : o.data = .func fd) (GQ : fd.scope.isCoroutine = false) (B4 : fd.scope.isGenerator = false) (xe : fd.body = .stmts body) (C3 : s.heap.CodeRec fd.code fd.qualname)
 (h : wpAny (model prog w) A.in1 (bindArgs fd args) (fun binds aV =>
  wpAny (model prog w) A.in1 (newFunctionEnv fd.scope fd.globals fd.closure binds (fd.qualname ++ ".<locals>.") (some a) fd.code none fd.builtins)
   (fun env gd => gd.heap.NoLimit ∧ bj (model prog w) A (.func body env) R gd) (fun e s' => R (.error e) s') aV) (fun e s' => R (.error e) s') s) :
 bj (model prog w) A (.call (.ref a) args) R s := by
 refine cj rfl ?_
 refine (?_ : wpAny _ A.in1 (callAny (.ref a) args) _ _ s)
 refine (C3).elim fun c aj => (aj).elim fun oc ay => (ay).elim fun vs aP => (aP).elim fun tq bF => (bF).elim fun hc cZ => (cZ).elim fun GR ia => (ia).elim fun GS hq => ?_
 refine nd_load ho ?_
 obtain ⟨k1, k2, k3, k4⟩ := o
 obtain rfl : k3 = .func fd := BO
 refine (?_ : wpAny _ A.in1 (callFunction a fd args) _ _ s)
 delta callFunction
 refine ae hc ?_; refine ae xe ?_; refine ae B4 ?_; refine ae GQ ?_
 rw [hc] at h
 refine wpAny_bind (m := field (.ref c) 1) (wpAny_field GR GS hq (wpAny_bind (wpAny_pure ?_)))
 exact wpAny_bind (wpAny_mono h (fun binds aV bZ => wpAny_bind (wpAny_mono bZ (fun env gd xf => wpAny_bind (wpAny_enterFrame xf.1 xd
  (wpAny_pure (And.intro rfl xf.2)))) fun J J h' => h')) fun J J h' => h')
end
section
variable {Z : aL} {L : Nat} {cs : Fm} {c c' : Cfg} {A : AS} {s s' : Shared}
theorem Hp.adopt (H : Hp Z c A s) {o : ax} {p : Nat} (hp : Has s.heap p) (hb : Z.h₀.get? p = none) (hn : ∀ i, i < c.n → p ≠ (c.σ i).1 ∧ p ≠ (c.σ i).2) (ho : br Z (c.push (p, p)) s.heap c.n o) :
 Hp Z (c.push (p, p)) (A.alloc o).2 s where
 base := H.base
 gens := H.gens
 os := H.os
 n := congrArg Nat.succ H.n
 nv := H.nv
 vars := H.vars
 objs := fun i ob e => by
  have e : (A.heap.put A.n o).get i = some ob := e
  rw [Tr.ba] at e
  by_cases q : i = A.n
  ·subst q
   rw [if_pos rfl] at e
   obtain rfl := aO e; refine bK H.n ?_; exact ho
  ·rw [if_neg q] at e
   exact (H.objs i ob e).keep (c.aJ _) (H.lt i ob e) (fun J r J => r) (fun J r J => r) (a6.of fun J J e => e).l
 lt := fun i ob e => by
  have e : (A.heap.put A.n o).get i = some ob := e
  rw [Tr.ba] at e
  by_cases q : i = A.n
  ·subst q; refine bK H.n ?_; exact Nat.lt_succ_self _
  ·rw [if_neg q] at e; exact Nat.lt_succ_of_lt (H.lt i ob e)
 lo := fun i hi => by
  by_cases q : i = c.n
  ·subst q; rw [c.aI]; exact ⟨hb, hb⟩
  ·have cN : i < c.n := Nat.lt_of_le_of_ne (Nat.le_of_lt_succ hi) q
   refine ae ((c.aJ _).σ i cN) ?_; exact H.lo i cN
 up := fun i hi => by
  by_cases q : i = c.n
  ·subst q; rw [c.aI]; exact ⟨hp, hp⟩
  ·have cN : i < c.n := Nat.lt_of_le_of_ne (Nat.le_of_lt_succ hi) q
   refine ae ((c.aJ _).σ i cN) ?_; exact H.up i cN
 apart := fun i j hi hj wG => by
  have J6 : i < c.n + 1 := hi
  have Mb : j < c.n + 1 := hj
  by_cases q : i = c.n
  ·by_cases r : j = c.n
   ·exact absurd (q.trans r.symm) wG
   ·have wH : j < c.n := by omega
    subst q
    rw [c.aI, (c.aJ _).σ j wH]
    have := hn j wH
    exact ⟨this.1, this.2, this.1, this.2⟩
  ·have cN : i < c.n := by omega
   refine ae ((c.aJ _).σ i cN) ?_
   by_cases r : j = c.n
   ·subst r
    rw [c.aI]
    have := hn i cN
    exact ⟨this.1.symm, this.1.symm, this.2.symm, this.2.symm⟩
   ·have wH : j < c.n := by omega
    refine ae ((c.aJ _).σ j wH) ?_
    exact H.apart i j cN wH wG
theorem Le.adopt (x : Le Z L c s c' s') {p : Nat} (hp : s.heap.get? p = none) : Le Z L c s (c'.push (p, p)) s' where
 n := Nat.le_succ_of_le x.n
 nv := x.nv
 σ := fun i h => ((c'.aJ _).σ i (Nat.lt_of_lt_of_le h x.n)).trans (x.σ i h)
 ρ := x.ρ
 ck := x.ck
 old := x.old
 keep := x.keep
 new := fun i h1 h2 => by
  by_cases q : i = c'.n
  ·subst q; rw [c'.aI]; exact ⟨hp, hp⟩
  ·have : i < c'.n + 1 := h2
   have cN : i < c'.n := by omega
   refine ae ((c'.aJ _).σ i cN) ?_; exact x.new i h1 cN
end
structure Kr (K : Frag) (nm : Nat → Str) (fn : Fn) (fd : FuncData) (body : List Stmt) : Prop where
 glob : fd.globals = mainGlobals
 xg : fd.closure = []
 blt : fd.builtins = builtinsNs
 Mt : fd.body = .stmts body
 code : codeIn K fd.code fd.qualname = true
 co : fd.scope.isCoroutine = false
 gen : fd.scope.isGenerator = false
 kind : fd.scope.kind = .function
 po : fd.params.posonlyargs = []
 ko : fd.params.kwonlyargs = []
 va : fd.params.vararg = none
 kw : fd.params.kwarg = none
 names : fd.params.args.map (·.arg) = fn.params.map nm
 ps : ∀ p ∈ fn.params, (fn.cells.contains p = false ∧ fd.scope.names.lookup (nm p) = some .local) ∨ (fn.cells.contains p = true ∧ fd.scope.names.lookup (nm p) = some .cell)
 cl : ∀ p ∈ fn.cells, fd.scope.names.lookup (nm p) = some .cell
 free : ∀ n, fd.scope.names.lookup n ≠ some .free
 df : (fd.defaults = .none ∧ fn.dflts = []) ∨ ∃ T o xs n, fd.defaults = .ref T ∧ K.lookup T = some o ∧ o.data = .seq xs n ∧ ∀ c, aT (VR c) fn.dflts xs.toList
 nd : fn.params.Nodup
 Mu : fn.cells.Nodup
 dl : fn.dflts.length ≤ fn.params.length
structure iO (Z : aL) (a : Nat) (fn : Fn) : Prop where
 ex : ∃ (oc : Value) (od : Option Addr) (uT : Array (Option Value)) (fd : FuncData) (body : List Stmt) (m : Nat),
  Z.K.lookup a = some ⟨oc, od, .func fd, uT⟩ ∧ encL (cE Z.nm m fd.scope.names) fn.body body = true ∧ Kr Z.K Z.nm fn fd body ∧ (fO fd.scope.names = true → rp Z fd.code)
theorem rX {ds : List V} {ps : List Nat} {as : List V} {binds : List (Nat × V)} (h : fk ps ps.length ds as = some binds) :
 as.length ≤ ps.length ∧ ps.length ≤ as.length + ds.length ∧ binds = ps.zip (as ++ ds.drop (as.length + ds.length - ps.length)) := by
 induction ps generalizing as binds with
 | nil => cases as with
  | nil => obtain rfl := aO h; exact ⟨Nat.le_refl _, Nat.zero_le _, rfl⟩
  | cons => exact no h
 | cons p ps ih => cases as with
  | cons a as =>
   obtain ⟨b, hb, rfl⟩ := JX (f := fun l => (p, a) :: l) (o := fk ps ps.length ds as) h
   obtain ⟨h1, h2, h3⟩ := ih hb
   refine ⟨Nat.succ_le_succ h1, by rw [List.length_cons, List.length_cons, Nat.add_right_comm]; exact Nat.succ_le_succ h2, ?_⟩
   refine ae h3 ?_; refine ae (show (a :: as).length + ds.length - (p :: ps).length = as.length + ds.length - ps.length by rw [List.length_cons, List.length_cons, Nat.add_right_comm, Nat.add_sub_add_right]) ?_
   rfl
  | nil =>
   by_cases hle : (p :: ps).length ≤ ds.length
   ·obtain ⟨d, hd, h⟩ := f9 ((if_pos hle).symm.trans h)
    obtain ⟨b, hb, rfl⟩ := Dd h
    obtain ⟨h1, h2, h3⟩ := ih hb
    refine (yv hd).elim fun fi hd => ?_
    refine ⟨Nat.zero_le _, (Nat.zero_add _).symm ▸ hle, ?_⟩
    rw [h3, List.nil_append, List.nil_append, List.length_nil, Nat.zero_add, List.drop_eq_getElem_cons fi, hd, List.length_cons, ← Nat.sub_sub, Nat.sub_add_cancel (Nat.le_sub_of_add_le (Nat.add_comm 1 _ ▸ hle))]
    rfl
   ·exact no ((if_neg hle).symm.trans h)
def D6 (Z : aL) (c : Cfg) (x : Nat × V) (y : Str × Value) : Prop := y.1 = Z.nm x.1 ∧ VR c x.2 y.2
section
variable {Z : aL} {L : Nat} {cs : Fm} {Ar : Around} {c c' : Cfg} {A : AS} {s s' : Shared}
theorem mD : ∀ {ps : List Nat} {vs : List V} {us : List Value}, dk c vs us → aT (D6 Z c) (ps.zip vs) ((ps.map Z.nm).zip us)
 | [], _, _, _ => by refine ae List.zip_nil_left ?_; exact .nil
 | _ :: _, _, _, .nil => .nil
 | p :: ps, _, _, .cons h r => .cons ⟨rfl, h⟩ (mD r)
theorem jb {kf : Str → Option NameKind} {n : Str} : ∀ {b : List (Str × Value)} {m : Str → Option Value}, n ∉ b.map (·.1) → bindL kf b m n = m n
 | [], _, _ => rfl
 | x :: r, m, h => by
  obtain ⟨k, v⟩ := x
  rw [List.map_cons, List.mem_cons, not_or] at h
  refine ae (jb h.2) ?_
  split
  ·exact if_neg h.1
  ·rfl
theorem jc {kf : Str → Option NameKind} {n : Str} : ∀ {b : List (Str × Value)} {m : Str → Option Value}, n ∉ b.map (·.1) → bindC kf b m n = m n
 | [], _, _ => rfl
 | x :: r, m, h => by
  obtain ⟨k, v⟩ := x
  rw [List.map_cons, List.mem_cons, not_or] at h
  refine ae (jc h.2) ?_
  split
  ·rfl
  ·exact if_neg h.1
theorem pM {ab : List (Nat × V)} {b : List (Str × Value)} (h : aT (D6 Z c) ab b) : b.map (·.1) = ab.map fun x => Z.nm x.1 := by
 induction h with
 | nil => rfl
 | cons r _ ih => (refine ae List.map_cons ?_; refine ae List.map_cons ?_; refine ae ih ?_; refine ae r.1 ?_; rfl)
theorem kv (inj : ∀ x y, Z.nm x = Z.nm y → x = y) {kf : Str → Option NameKind} {x : Nat} {v : V} : ∀ {ab : List (Nat × V)} {b : List (Str × Value)} {m : Str → Option Value}, aT (D6 Z c) ab b → (ab.map (·.1)).Nodup → af x ab = some v →
 kf (Z.nm x) = some .local → ∃ u, bindL kf b m (Z.nm x) = some u ∧ VR c v u
 | [], _, _, _, _, h, _ => no h
 | p :: l, _, m, r, nd, h, hk => by
  obtain ⟨⟨k, u⟩, l', rfl, r, t⟩ := r.cons_inv
  rw [List.map_cons, List.nodup_cons] at nd
  rw [aK] at h
  dsimp only [bindL]
  by_cases e : p.1 = x
  ·rw [if_pos e] at h
   obtain rfl := aO h
   have hn : Z.nm x ∉ l'.map (·.1) := by
    refine ae (pM t) ?_
    intro hm
    refine (yB hm).elim fun y aj => (aj).elim fun hy ey => ?_
    have := inj _ _ ey
    exact nd.1 (e ▸ this ▸ List.mem_map_of_mem hy)
   have ek : k = Z.nm x := by refine bK e ?_; exact r.1
   refine ae (jb hn) ?_; refine ae ek ?_; refine ae (if_pos hk) ?_
   exact ⟨u, if_pos rfl, r.2⟩
  ·rw [if_neg e] at h
   exact kv inj t nd.2 h hk
theorem kx (inj : ∀ x y, Z.nm x = Z.nm y → x = y) {kf : Str → Option NameKind} {x : Nat} (hk : kf (Z.nm x) ≠ some .local) : ∀ {ab : List (Nat × V)} {b : List (Str × Value)} {m : Str → Option Value}, m (Z.nm x) = none → aT (D6 Z c) ab b → (ab.map (·.1)).Nodup →
 yM c (af x ab) (bindC kf b m (Z.nm x))
 | [], _, m, hm, r, _ => by obtain rfl := r.nil_inv; refine (?_ : yM c none (m (Z.nm x))); refine ae hm ?_; trivial
 | p :: l, _, m, hm, r, nd => by
  obtain ⟨⟨k, u⟩, l', rfl, r, t⟩ := r.cons_inv
  rw [List.map_cons, List.nodup_cons] at nd
  rw [aK]
  dsimp only [bindC]
  have ek : k = Z.nm p.1 := r.1
  by_cases e : p.1 = x
  ·have hn : Z.nm x ∉ l'.map (·.1) := by
    refine ae (pM t) ?_
    intro hm
    refine (yB hm).elim fun y aj => (aj).elim fun hy ey => ?_
    have := inj _ _ ey
    exact nd.1 (e ▸ this ▸ List.mem_map_of_mem hy)
   refine ae (if_pos e) ?_
   have ek : k = Z.nm x := by refine bK e ?_; exact r.1
   rw [jc hn, ek, if_neg hk, if_pos rfl]
   exact r.2
  ·refine ae (if_neg e) ?_
   refine kx inj hk ?_ t nd.2
   split
   ·exact hm
   ·exact (if_neg fun z => e (inj _ _ (ek ▸ z)).symm).trans hm
theorem a8 {n : Str} : ∀ {names : List (Str × NameKind)} {lo : Nat} {acc : List (Str × Addr)}, (names.lookup n = some .cell ∨ (acc.lookup n).isSome = true) → ((cellsFrom lo names acc).lookup n).isSome = true
 | [], _, _, h => by
  rcases h with h | h
  ·cases h
  ·exact h
 | (k, kind) :: r, lo, acc, h => by
  dsimp only [cellsFrom]
  by_cases e : n = k
  ·subst e
   rcases h with h | h
   ·rw [List.lookup_cons, beq_self_eq_true] at h
    obtain rfl := aO h
    refine ae (if_pos (by decide)) ?_
    exact a8 (.inr (by rw [List.lookup_cons, beq_self_eq_true]; rfl))
   ·split
    ·exact a8 (.inr (by rw [List.lookup_cons, beq_self_eq_true]; rfl))
    ·exact a8 (.inr h)
  ·have h' : r.lookup n = some .cell ∨ (acc.lookup n).isSome = true := by
    rcases h with h | h
    ·rw [List.lookup_cons, yr e] at h; exact .inl h
    ·exact .inr h
   split
   ·refine a8 (h'.imp id fun q => ?_)
    refine ae List.lookup_cons ?_; refine ae (yr e) ?_; exact q
   ·exact a8 h'
set_option tactic.hygienic true in
theorem eO {x : Nat} {v : V} {f : Nat → Bool} : ∀ {l : List (Nat × V)}, af x (l.filter fun b => f b.1) = some v → af x l = some v ∧ f x = true
 | [], h => by cases h
 | p :: r, h => by
  rw [List.filter_cons] at h
  rw [aK]
  split at h
  ·rename_i hf
   rw [aK] at h
   by_cases e : p.1 = x
   ·rw [if_pos e] at h ⊢
    exact ⟨h, e ▸ hf⟩
   ·rw [if_neg e] at h ⊢
    exact eO h
  ·rename_i hf
   refine (eO h).elim fun h1 h2 => ?_
   by_cases e : p.1 = x
   ·exact absurd (e ▸ h2) hf
   ·refine ae (if_neg e) ?_
    exact ⟨h1, h2⟩
theorem jd {H₀' : Cfg} {H₀ : Shared} {ab : List (Nat × V)} {ec : List (Str × Addr)} {cm : Str → Option Value} (Ft : ec.Pairwise fun x y => x.2 ≠ y.2) (AU : ∀ n a, ec.lookup n = some a → s'.heap.IsCell a (cm n))
 (xh : ∀ n a, ec.lookup n = some a → H₀.heap.get? a = none) (ky : ∀ b o, Z.h₀.get? b = some o → H₀.heap.get? b = some o) (inj : ∀ x y, Z.nm x = Z.nm y → x = y) :
 ∀ {cl : List Nat} {c₀ c : Cfg} {A : AS}, cl.Nodup → (∀ x ∈ cl, (ec.lookup (Z.nm x)).isSome = true) → (∀ x ∈ cl, ∀ c', bu c₀ c' → yM c' (af x ab) (cm (Z.nm x))) → bu c₀ c → Hp Z c A s' → Le Z L H₀' H₀ c s' →
  (∀ x ∈ cl, ∀ a, ec.lookup (Z.nm x) = some a → ∀ i, i < c.n → a ≠ (c.σ i).1 ∧ a ≠ (c.σ i).2) →
  ∃ c', Hp Z c' (bW ab cl A).1 s' ∧ Le Z L H₀' H₀ c' s' ∧ bu c c' ∧ (∀ x i, af x (bW ab cl A).2 = some i → i < c'.n ∧ ec.lookup (Z.nm x) = some (c'.σ i).1) ∧
   (∀ i, i < c'.n → i < c.n ∨ ∃ x, ec.lookup (Z.nm x) = some (c'.σ i).1 ∧ (c'.σ i).2 = (c'.σ i).1)
 | [], c₀, c, A, _, _, _, _, H, le, _ => ⟨c, H, le, bu.refl c, (fun J J h => by cases h), fun i hi => .inl hi⟩
 | x :: cl, c₀, c, A, nd, hs, hv, g, H, le, eg => by
  rw [List.nodup_cons] at nd
  refine (Option.isSome_iff_exists.mp (hs x (.head _))).elim fun a ha => ?_
  have hc := AU _ _ ha
  have nD := xh _ _ ha
  have hb : Z.h₀.get? a = none := by
   cases e : Z.h₀.get? a with
   | none => rfl
   | some o => have := ky _ _ e; rw [nD] at this; cases this
  have GU : Has s'.heap a := by refine (hc).elim fun o aj => (aj).elim fun h _ => ?_; exact ⟨o, h⟩
  have gp := c.aJ (a, a)
  have H1 := H.adopt (o := .cell (af x ab)) GU hb (eg x (.head _) a ha) (by
   refine ⟨cm (Z.nm x), ?_, hv x (.head _) _ (g.trans gp)⟩
   rw [c.aI]; exact hc)
  refine (jd (A := (A.alloc (.cell (af x ab))).2) Ft AU xh ky inj nd.2 (fun y hy => hs y (.tail _ hy)) (fun y hy => hv y (.tail _ hy)) (g.trans gp) H1 (le.adopt nD) (fun y hy b qR i hi => by
   have hi : i < c.n + 1 := hi
   by_cases q : i = c.n
   ·subst q
    rw [c.aI]
    have rA : b ≠ a := fun e => by
     have := name_of_addr Ft (mem_of_lookup qR) (e ▸ mem_of_lookup ha)
     exact nd.1 (inj _ _ this ▸ hy)
    exact ⟨rA, rA⟩
   ·refine ae (gp.σ i (by omega)) ?_
    exact eg y (.tail _ hy) b qR i (by omega))).elim fun c' aj => (aj).elim fun q1 ay => (ay).elim fun q2 aP => (aP).elim fun q3 bF => (bF).elim fun q4 q5 => ?_
  refine ⟨c', q1, q2, gp.trans q3, fun y i h => ?_, fun i hi => ?_⟩
  ·have h : af y ((x, A.n) :: (bW ab cl (A.alloc (.cell (af x ab))).2).2) = some i := h
   rw [aK] at h
   by_cases e : x = y
   ·subst e
    rw [if_pos rfl] at h
    obtain rfl := aO h
    have fi : A.n < c'.n := Nat.lt_of_lt_of_le (by refine bK H.n ?_; exact Nat.lt_succ_self _) q3.n
    refine ⟨fi, ?_⟩
    rw [q3.σ A.n (by rw [← H.n]; exact Nat.lt_succ_self _), ← H.n, c.aI]; exact ha
   ·rw [if_neg e] at h
    exact q4 y i h
  ·rcases q5 i hi with h | h
   ·have h : i < c.n + 1 := h
    by_cases q : i = c.n
    ·subst q
     refine .inr ⟨x, ?_⟩
     rw [q3.σ c.n (Nat.lt_succ_self _), c.aI]; exact ⟨ha, rfl⟩
    ·exact .inl (by omega)
   ·exact .inr h
end
end aD
end
section
open PySem PySem.Calls PyProof.Rows PySem.W PySem.SeqAt PySem.Builtin
set_option maxRecDepth 100000
namespace aD
structure xi (Z : aL) : Prop where
 run : ∀ a, Z.Γ.take = some a → ∀ {Ar : Around} {L cs c A s} {as : List V} {us : List Value}, Room 20 Ar cs → St Z L cs c A s → dk c as us → au Z L cs Ar (call (.ref a) us) VR (tf as A) c s
structure tJ (Z : aL) : Prop where
 fn : ∀ a fn, af a Z.Γ.fns = some fn → iO Z a fn
 take : xi Z
 AV : ∀ a, Z.Γ.take = some a → fnIn Z.K a = true
section
variable {Z : aL} {n : Nat} {ih : bM} {L : Nat} {cs : Fm} {Ar : Around} {c c' : Cfg} {A : AS} {s s' : Shared}
def uZ (n : Nat) (Ar : Around) (cs : Fm) : Prop := Ar.depth + 1 + 2 * n < recursionLimit ∧ Ar.units + 3 + 8 * n + 64 < cLine ∧ Ar.handled = cs.hd.map Value.ref ∧ Ar.frames = some cs.frs ∧ ∀ e ∈ cs.frs, e.scope.kind ≠ .module ∧ ∃ b, e.frame = some b
theorem Room.deep (h : Room (n + 1) Ar cs) : uZ n Ar cs := ⟨by have := h.1; omega, by have := h.2.1; omega, h.2.2⟩
theorem uZ.deeper {env : Env} {cl : List (Nat × Nat)} (h : uZ n Ar cs) (h1 : env.scope.kind ≠ .module) (h2 : ∃ b, env.frame = some b) : Room n (Ar.deeper env) ⟨cl, cs.hd, env :: cs.frs⟩ :=
 ⟨h.1, h.2.1, h.2.2.1, by refine (?_ : Ar.frames.map _ = _); refine ae h.2.2.2.1 ?_; rfl, fun e he => by
  rcases fg he with rfl | he
  ·exact ⟨h1, h2⟩
  ·exact h.2.2.2.2 e he⟩
theorem back_mem {α β : Type} {f : α → β} {a : α} {A' : AS} : ∀ {l : List (Except Nat α × AS)}, (Except.ok a, A') ∈ l → (Except.ok (f a), { A' with locs := A.locs, cells := A.cells }) ∈ back A f l
 | (r, B) :: l, h => by
  rcases fg h with e | h
  ·cases e; exact .head _
  ·exact .tail _ (back_mem h)
theorem pN {α β : Type} {f : α → β} {i : Nat} {A' : AS} : ∀ {l : List (Except Nat α × AS)}, (Except.error i, A') ∈ l → (Except.error i, { A' with locs := A.locs, cells := A.cells }) ∈ back A f l
 | (r, B) :: l, h => by
  rcases fg h with e | h
  ·cases e; exact .head _
  ·exact .tail _ (pN h)
theorem iP {α β : Type} {f : α → β} {a : α} {A' : AS} {l : bC α} (h : (Except.ok a, A') ∈ l.list) : (Except.ok (f a), { A' with locs := A.locs, cells := A.cells }) ∈ (eB A f l).list := by
 cases l with
 | one b B => cases msg h; exact .head _
 | many l => exact back_mem h
theorem mE {α β : Type} {f : α → β} {i : Nat} {A' : AS} {l : bC α} (h : (Except.error i, A') ∈ l.list) : (Except.error i, { A' with locs := A.locs, cells := A.cells }) ∈ (eB A f l).list := by
 cases l with
 | one b B => cases msg h
 | many l => exact pN h
theorem Le.re {c₁ : Cfg} {aV : Shared} {L' : Nat} (x : Le Z L' c s c₁ aV) (hL : s.heap.get? L' = none) : Le Z L c s c₁ aV :=
 ⟨x.n, x.nv, x.σ, x.ρ, x.ck, x.old, fun b o e J hn => x.keep b o e (Has.ne ⟨o, e⟩ hL) hn, x.new⟩
theorem Hp.re {B : AS} (H : Hp Z c A s) (h1 : B.heap = A.heap) (h2 : B.vars = A.vars) (h3 : B.n = A.n) : Hp Z c B s :=
 ⟨H.base, H.gens, H.os, by refine ae h3 ?_; exact H.n, by refine ae h2 ?_; exact H.nv, by refine ae h2 ?_; exact H.vars, by refine ae h1 ?_; exact H.objs, by refine ae h1 ?_; exact H.lt, H.lo, H.up, H.apart⟩
theorem Ns.stays {h h' : Heap} {a : Addr} {m : Str → Option Value} (x : h.Ns a m) (k : ∀ o, h.get? a = some o → ∃ o', h'.get? a = some o' ∧ gY o o') : h'.Ns a m := by
 obtain ⟨o, es, ep, h1, h2, h3⟩ := x
 obtain ⟨o', e', w⟩ := k o h1
 rcases w with rfl | ⟨_, sl, rfl⟩ | ⟨t, _⟩
 ·exact ⟨_, es, ep, e', h2, h3⟩
 ·exact ⟨_, es, ep, e', h2, h3⟩
 ·exact (t.notDict ⟨es, ep, h2⟩).elim
theorem St.back {L' : Nat} {BQ : Fm} {A' : AS} (H : St Z L cs c A s) (x : Le Z L' c s c' s') (hL : s.heap.get? L' = none) (hh : BQ.hd = cs.hd) (H' : St Z L' BQ c' A' s') : St Z L cs c' { A' with locs := A.locs, cells := A.cells } s' := by
 have le : Le Z L c s c' s' := x.re hL
 have hk : ∀ o, s.heap.get? L = some o → ∃ o', s'.heap.get? L = some o' ∧ gY o o' := fun o e => x.keep L o e (Has.ne ⟨o, e⟩ hL) H.off
 refine (H.ns).elim fun m aj => (aj).elim fun h1 h2 => ?_
 have n' := Ns.stays h1 hk
 refine ⟨H'.toHp.re rfl rfl rfl, ⟨H.oO, x.ck.has H.bw, fun i hi => ?_, m, n', fun y v e => by refine (h2 y v e).elim fun u aj => (aj).elim fun h3 h4 => ?_; exact ⟨u, h3, h4.mono x.grown⟩⟩, H.cells, hh ▸ H'.hd, fun b hb => (H.outs b hb).le le (Ns.data n'), H'.tabs⟩
 by_cases q : i < c.n
 ·refine ae (x.σ i q) ?_; exact H.off i q
 ·have := x.new i (Nat.le_of_not_lt q) hi
  exact ⟨H.bw.ne this.1, H.bw.ne this.2⟩
theorem mF {y : Nat} {v : V} : ∀ {ab : List (Nat × V)}, af y ab = some v → y ∈ ab.map (·.1)
 | [], h => by cases h
 | p :: r, h => by
  rw [aK] at h
  by_cases e : p.1 = y
  ·refine ae List.map_cons ?_; refine ae e ?_; exact .head _
  ·rw [if_neg e] at h
   exact .tail _ (mF h)
theorem kz {b : List (Nat × V)} : ∀ {l : List Nat} {A : AS}, (bW b l A).1.hd = A.hd
 | [], _ => rfl
 | _ :: l, _ => kz (l := l)
theorem kA (G : Z.Glob) (hd : Ar.depth < recursionLimit) (H : Hp Z c A s) {hx : Option Nat} {frs : List Env} (DX : CV c s.heap A.hd hx) (nD : ∀ b ∈ frs.filterMap (·.frame), uh Z c s b) (D7 : ∀ P ∈ Z.tabs, TabAt s.heap P) {a : Nat} {fn : Fn} (F : iO Z a fn) {as : List V} {us : List Value} (r : dk c as us) {ab : List (Nat × V)} (tG : fk fn.params fn.params.length fn.dflts as = some ab) {R : Result → Shared → Prop}
 (k : ∀ {env aV c₁ m sc body}, encL (cE Z.nm m sc) fn.body body = true → env.scope.kind ≠ .module → env.frame = some s.heap.objs.size → Le Z s.heap.objs.size c s c₁ aV →
  St Z s.heap.objs.size ⟨(bW ab fn.cells A).2, hx, env :: frs⟩ c₁ { (bW ab fn.cells A).1 with locs := ab.filter fun b => !fn.cells.contains b.1, cells := (bW ab fn.cells A).2 } aV → aS Z sc c₁ s.heap.objs.size ⟨(bW ab fn.cells A).2, hx, env :: frs⟩ env →
  bt Z.M (Ar.deeper env) (execs body env) (fun f s' => R (.ok (.ret (match f with | .ret v => v | _ => .none))) s') (fun e s' => bt Z.M (Ar.deeper env) (leaving env e) (fun J ew => R (.error e) ew) (fun e s' => R (.error e) s') s') aV) :
 bj Z.M Ar (.call (.ref a) ⟨us, []⟩) R s := by
 refine (F.ex).elim fun oc aj => (aj).elim fun od ay => (ay).elim fun uT aP => (aP).elim fun fd bF => (bF).elim fun body cZ => (cZ).elim fun m ia => (ia).elim fun k1 pL => (pL).elim fun k3 rV => (rV).elim fun D CO => ?_
 obtain ⟨b1, b2, b3⟩ := rX tG
 have X := G.k.keeps H.base
 have hlen : us.length = as.length := r.length.symm
 -- the defaults
 obtain ⟨ds, Mv, GW, hD⟩ : ∃ ds : List Value, aT (VR c) fn.dflts ds ∧ ds.length = fn.dflts.length ∧ ∀ Q' : Option (Array Value) → Shared → Prop, (∀ o : Option (Array Value), (o.getD #[]).toList = ds → Q' o s) → ∀ E, wpAny Z.M Ar.in1 (seqItems? fd.defaults) Q' E s := by
  rcases D.df with ⟨GX, Ku⟩ | ⟨T, o, xs, nn, GX, hT, hx, B5⟩
  ·refine ⟨[], by refine ae Ku ?_; exact .nil, by refine ae Ku ?_; rfl, fun Q' q E => ?_⟩
   refine ae GX ?_
   exact wpAny_bind (wpAny_pure (wpAny_pure (q none rfl)))
  ·refine ⟨xs.toList, B5 c, (B5 c).length.symm, fun Q' q E => ?_⟩
   refine ae GX ?_
   exact wpAny_bind (wpAny_load (X _ _ hT) (by refine ae hx ?_; exact wpAny_pure (q (some xs) rfl)))
 have rel : aT (D6 Z c) ab ((fn.params.map Z.nm).zip (us ++ ds.drop (us.length + ds.length - (fn.params.map Z.nm).length))) := by
  rw [b3, List.length_map, hlen, GW]
  exact mD (aT.append r (Mv.drop _))
 have AW : ab.map (·.1) = fn.params := by
  refine ae b3 ?_
  refine List.map_fst_zip ?_
  refine ae List.length_append ?_; refine ae List.length_drop ?_; omega
 refine gc hd (X _ _ k1) rfl D.co D.gen D.Mt (codeRec_of X D.code) ?_
 refine ja (names := fn.params.map Z.nm) (ds := ds) D.po D.ko D.va D.kw D.names ?_ ?_ ?_ ?_ (fun Q' q => hD Q' q _) ?_
 ·exact List.pairwise_map.mpr (D.nd.imp fun h e => h (G.inj _ _ e))
 ·rw [List.length_map, hlen]; exact b1
 ·rw [List.length_map, hlen, GW]; exact b2
 ·rw [List.length_map, GW]; exact D.dl
 have kinds : ∀ y ∈ (fn.params.map Z.nm).zip (us ++ ds.drop (us.length + ds.length - (fn.params.map Z.nm).length)), fd.scope.names.lookup y.1 = some .local ∨ (fd.scope.names.lookup y.1 = some .cell ∧ ((cellsFrom (s.heap.objs.size + 1) fd.scope.names []).lookup y.1).isSome = true) := fun y hy => by
  have hy := (List.of_mem_zip hy).1
  refine (yB hy).elim fun p aj => (aj).elim fun hp Mw => ?_
  refine bK Mw ?_
  rcases D.ps p hp with h | h
  ·exact .inl h.2
  ·exact .inr ⟨h.2, a8 (.inl h.2)⟩
 refine ae D.glob ?_; refine ae D.xg ?_; refine ae D.blt ?_
 refine wpAny_newFunctionEnv_cells D.kind kinds fun env he aV x => ?_
 subst he
 have hk := x.toInCall.keep
 refine ⟨G.lim.keeps (fun b o e => hk b o (H.base b o e)), rW ?_⟩
 refine (x.toInCall.same).elim fun h1 aj => (aj).elim fun tk Fu => ?_
 have hg : aV.gens = s.gens := by refine ae Fu ?_; rfl
 have oP : aV.os = s.os := by refine ae Fu ?_; rfl
 have lF : s.heap.get? s.heap.objs.size = none := get_size _
 have ze : Le Z s.heap.objs.size c s c aV := Le.bk hk
 have B6 : Z.h₀.get? s.heap.objs.size = none := by
  cases e : Z.h₀.get? s.heap.objs.size with
  | none => rfl
  | some o => have := H.base _ _ e; rw [lF] at this; cases this
 have H0 : Hp Z c A aV := H.still (L := s.heap.objs.size) (fun b o e J => hk b o e) (a6.of hk) (hg.trans H.gens) oP B6 fun i hi => ⟨((H.up i hi).1.ne lF).symm, ((H.up i hi).2.ne lF).symm⟩
 have above : ∀ n a, (cellsFrom (s.heap.objs.size + 1) fd.scope.names []).lookup n = some a → s.heap.objs.size < a := fun n a h => x.above n a (mem_of_lookup h)
 have fresh : ∀ n a, (cellsFrom (s.heap.objs.size + 1) fd.scope.names []).lookup n = some a → s.heap.get? a = none := fun n a h => by
  cases e : s.heap.get? a with
  | none => rfl
  | some o => exact absurd (Nat.lt_trans (above n a h) (Heap.lt_size e)) (Nat.lt_irrefl _)
 have Kv : (ab.map (·.1)).Nodup := by refine ae AW ?_; exact D.nd
 refine (jd (L := s.heap.objs.size) (H₀' := c) (H₀ := s) (ab := ab) x.apart x.cell fresh H.base G.inj (c₀ := c) (c := c) (A := A) D.Mu (fun y hy => a8 (.inl (D.cl y hy)))
  (fun y hy c' g => (kx G.inj (by refine (?_ : fd.scope.names.lookup (Z.nm y) ≠ _); refine ae (D.cl y hy) ?_; decide) rfl rel Kv).mono g) (bu.refl c) H0 ze
  (fun y hy b hb i hi => ⟨((H.up i hi).1.ne (fresh _ b hb)).symm, ((H.up i hi).2.ne (fresh _ b hb)).symm⟩)).elim fun c₁ aj => (aj).elim fun q1 ay => (ay).elim fun q2 aP => (aP).elim fun q3 bF => (bF).elim fun q4 q5 => ?_
 have eg : ∀ i, i < c₁.n → s.heap.objs.size ≠ (c₁.σ i).1 ∧ s.heap.objs.size ≠ (c₁.σ i).2 := fun i hi => by
  rcases q5 i hi with h | ⟨y, h2, h3⟩
  ·refine ae (q3.σ i h) ?_
   exact ⟨((H.up i h).1.ne lF).symm, ((H.up i h).2.ne lF).symm⟩
  ·refine ae h3 ?_
   exact ⟨Nat.ne_of_lt (above _ _ h2), Nat.ne_of_lt (above _ _ h2)⟩
 refine k k3 (by skip; refine ae D.kind ?_; decide) rfl q2 ⟨q1.re rfl rfl rfl, ⟨B6, Ns.has x.toInCall.ns, eg, _, x.toInCall.ns, fun y v hv => ?_⟩, rfl, (show CV c₁ aV.heap (bW ab fn.cells A).1.hd hx by rw [kz]; exact DX.le q2), fun b hb => ?_, fun P m => (D7 P m).ck q2.ck⟩ ?_
 ·refine (eO (f := fun b => !fn.cells.contains b) hv).elim fun h1 h2 => ?_
  have GY : fd.scope.names.lookup (Z.nm y) = some .local := by
   have hy : y ∈ fn.params := by refine bK AW ?_; exact mF h1
   rcases D.ps y hy with h | h
   ·exact h.2
   ·rw [h.1] at h2; cases h2
  obtain ⟨u, z1, z2⟩ := kv (m := fun J => none) (kf := (newEnv fd.scope s.heap.objs.size mainGlobals (cellsFrom (s.heap.objs.size + 1) fd.scope.names []) (fd.qualname ++ ".<locals>.") (some a) fd.code none builtinsNs).kindOf) G.inj rel Kv h1 GY
  exact ⟨u, z1, z2.mono q3⟩
 ·have hb : b ∈ s.heap.objs.size :: frs.filterMap (·.frame) := hb
  rcases fg hb with rfl | hb
  ·obtain ⟨o, e⟩ := Ns.has x.toInCall.ns
   exact ⟨B6, ⟨o, e, Ns.data x.toInCall.ns o e⟩, eg⟩
  ·exact (nD b hb).le q2 (Ns.data x.toInCall.ns)
 ·exact ⟨D.kind, fun J J h => .inl h, rfl, rfl, rfl, fun J => ⟨frs, rfl⟩, fun n h => Option.isSome_iff_exists.mp (a8 (.inl (by
   delta cK at h
   rcases yu h with h | h
   ·exact kind_of h
   ·exact absurd (kind_of h) (D.free n)))), fun b hb => (by obtain rfl := aO hb; exact .head _), CO, fun y i J h => q4 y i h⟩
theorem iQ {Γ : Ctx} {a : Nat} (h : Γ.take ≠ some a) : iE Γ a = false := by
 delta iE
 cases q : Γ.take with
 | none => rfl
 | some b => exact Bool.eq_false_iff.mpr fun z => h (q.trans (congrArg some (Nat.eq_of_beq_eq_true z)))
theorem rY {Γ : Ctx} {a : Nat} (h : Γ.take = some a) : iE Γ a = true := by
 delta iE
 rw [h]; exact Nat.beq_refl a
theorem pO {Γ : Ctx} {a : Nat} {fn : Fn} {as : List V} {ab : List (Nat × V)} {l : bC Fl} (ht : Γ.take ≠ some a) (h1 : af a Γ.fns = some fn) (h2 : fk fn.params fn.params.length fn.dflts as = some ab) (hc : fn.cells = []) (h3 : aX ih fn.body (A.env ab []) = some l) : dO Γ ih a as A = some (eB A AI l) := by
 refine (j9 (iQ ht)).trans ?_
 rw [h1]
 refine (?_ : Option.rec (motive := fun _ => Res V) none (fun binds => Option.rec (motive := fun _ => Res V) none (fun l => some (eB A AI l)) (jM ih fn A binds)) (fk fn.params fn.params.length fn.dflts as) = _)
 rw [h2]
 refine (?_ : Option.rec (motive := fun _ => Res V) none (fun l => some (eB A AI l)) (jM ih fn A ab) = _)
 have e : jM ih fn A ab = some l := by
  delta jM
  rw [hc]; exact h3
 rw [e]
theorem u0 {a : Nat} (ha : Z.Γ.take ≠ some a) {as : List V} {l : bC V} (e : dO Z.Γ ih a as A = some l) : ∃ fn ab l0, af a Z.Γ.fns = some fn ∧ fk fn.params fn.params.length fn.dflts as = some ab ∧
 aX ih fn.body { (bW ab fn.cells A).1 with locs := ab.filter fun b => !fn.cells.contains b.1, cells := (bW ab fn.cells A).2 } = some l0 ∧ l = eB A AI l0 := by
 have ht : iE Z.Γ a = false := iQ ha
 delta dO at e
 have e := (JY ht).symm.trans e
 cases B7 : af a Z.Γ.fns with
 | none => rw [B7] at e; exact no e
 | some fn =>
 rw [B7] at e
 have e : Option.rec (motive := fun _ => Res V) none (fun binds => Option.rec (motive := fun _ => Res V) none (fun l => some (eB A AI l)) (jM ih fn A binds)) (fk fn.params fn.params.length fn.dflts as) = some l := e
 cases tG : fk fn.params fn.params.length fn.dflts as with
 | none => rw [tG] at e; exact no e
 | some ab =>
 rw [tG] at e
 have e : Option.rec (motive := fun _ => Res V) none (fun l => some (eB A AI l)) (jM ih fn A ab) = some l := e
 refine (JX e).elim fun l0 q => ?_
 obtain ⟨h, rfl⟩ := q
 refine ⟨fn, ab, l0, rfl, tG, ?_, rfl⟩
 obtain ⟨ps, ds, cl, body⟩ := fn
 cases cl with
 | nil =>
  have hf : ab.filter (fun b => !([] : List Nat).contains b.1) = ab := List.filter_eq_self.mpr fun J J => rfl
  refine ae hf ?_; exact h
 | cons _ _ => exact h
theorem kB (G : Z.Glob) (Fs : tJ Z) (I : aC Z n ih) (hn : uZ n Ar cs) (H : St Z L cs c A s) {a : Nat} (ha : Z.Γ.take ≠ some a) {as : List V} {us : List Value} (r : dk c as us) {l : bC V} (e : dO Z.Γ ih a as A = some l) :
 bj Z.M Ar (.call (.ref a) ⟨us, []⟩) (fun r s' => match r with | .ok (.ret v) => QO Z L cs VR l.list c s v s' | .error e => EO Z L cs l.list c s e s' | _ => False) s := by
 obtain ⟨fn, ab, l0, B7, tG, AX, rfl⟩ := u0 ha e
 have lF : s.heap.get? s.heap.objs.size = none := get_size _
 refine kA G (by have := hn.1; omega) H.toHp H.hd H.outs H.tabs (Fs.fn a fn B7) r tG fun k3 hk hf q2 H1 N1 => ?_
 have cw := hn.deeper (cl := (bW ab fn.cells A).2) hk ⟨_, hf⟩
 refine az (bN I hf cw fn.body k3 H1 N1 l0 AX) (fun fl gd q => ?_) fun ev gd q => ?_
 ·obtain ⟨fa, A', c', z1, z2, z3, z4⟩ := q
  refine ⟨AI fa, _, c', iP z1, (q2.trans z2).re lF, H.back (q2.trans z2) lF (by rfl) z3, ?_⟩
  cases fa with
  | next => subst z4; exact rfl
  | brk => subst z4; exact rfl
  | cont => subst z4; exact rfl
  | ret v => obtain ⟨u, rfl, hu⟩ := z4; exact hu
 ·obtain ⟨i, A', c', z1, z2, z3, ⟨fi, rfl⟩, D, z4⟩ := q
  exact .of (gm cw rfl hf z3 z4 fun s3 dU H3 J => ⟨i, _, c', mE z1, ((q2.trans z2).trans dU).re lF, H.back ((q2.trans z2).trans dU) lF (by rfl) H3, ⟨fi, rfl⟩, D, z4⟩)
set_option tactic.hygienic true in
theorem dX (G : Z.Glob) (Fs : tJ Z) (I : aC Z n ih) (hn : Room (n + 1) Ar cs) (H : St Z L cs c A s) {a : Nat} {as : List V} {us : List Value} (r : dk c as us) : au Z L cs Ar (call (.ref a) us) VR (dO Z.Γ ih a as A) c s := by
 by_cases ha : Z.Γ.take = some a
 ·refine ae (show dO Z.Γ ih a as A = if 20 ≤ ih.fuel then tf as A else none from mf (rY ha)) ?_
  split
  ·rename_i hf
   exact Fs.take.run a ha (hn.le (by have := I.fuel; omega)) H r
  ·exact .none
 ·intro l e
  refine cy (bg (kB G Fs I hn.deep H ha r e) fun r s' q => ?_)
  cases r with
  | ok fl => cases fl <;> first | exact q | exact q.elim
  | error e => exact q
theorem gu {prog : Program} {w : World} {A : Around} {s : Shared} {R : Result → Shared → Prop} {id : String} {args : Args} {b : Builtin} (hd : lU id = false) (hb : entryFor table id = some b)
 (h : bt (model prog w) (A.under (.builtin id args)) (b args)
  (fun fin s' => match fin with | .done f => R (.ok f) s' | .again c' => c'.quiet = true ∧ bj (model prog w) A c' R s') (fun e s' => R (.error e) s') s) :
 bj (model prog w) A (.builtin id args) R s := by
 refine aZ hd ?_
 refine (?_ : bt _ _ (match entryFor table id with | some b => b args | none => unsupported ((withoutEnding? id "#data").getD id)) _ _ s)
 refine ae hb ?_; exact h
theorem bS {prog : Program} {w : World} {A : Around} {s : Shared} {R : Result → Shared → Prop} {id : String} {args : Args} {b : Builtin} (hq : (Code.builtin id args).quiet = true) (hd : lU id = false) (hb : entryFor table id = some b)
 (h : wpAny (model prog w) A.in1 (checkBuiltinCall id args) (fun J aV => bt (model prog w) (A.under (.builtin id args)) (b args)
  (fun fin s' => match fin with | .done f => R (.ok f) s' | .again c' => c'.quiet = true ∧ bj (model prog w) A c' R s') (fun e s' => R (.error e) s') aV)
  (fun e s' => R (.error e) s') s) : bj (model prog w) A (.call (.builtin id) args) R s := by
 refine cj rfl ?_
 refine (?_ : wpAny _ A.in1 (do checkBuiltinCall id args; again (.builtin id args)) _ _ s)
 exact wpAny_bind (wpAny_mono h (fun J aV bZ => wpAny_pure (And.intro hq (gu hd hb bZ))) fun J J h' => h')
theorem B8 {prog : Program} {w : World} {Ar : Around} {C : Addr} {rest : List Value} {init : Value} {h : Heap} {g : Array GenState} {d : Drawn} {t : Nat} {os : OsState} {R : Result → Shared → Prop}
 (Y : Makes (model prog w) h C) (hi : Looks (model prog w) h (typeLookup (.ref C) "__init__") (some init))
 (hb : ∀ self, Looks (model prog w) h (bindSpecial init self) (init, [self])) (rA : (some init != some (Value.builtin "object.__init__")) = true)
 (hq : bj (model prog w) (Ar.under (.builtin "type.__call__" ⟨.ref C :: rest, []⟩)) (.call init ⟨.ref (h.objs.size + 1) :: rest, []⟩) (InitBack (h.objs.size + 1) R) ⟨(h.push emptyDict).push (instObj C h.objs.size), g, d, t, os⟩) :
 bj (model prog w) Ar (.call (.ref C) ⟨rest, []⟩) R ⟨h, g, d, t, os⟩ := by
 have Y' := Y
 obtain ⟨⟨oc, od, cd, sl, hC, e1, e2, e4⟩, made, base, self, top, call, typ⟩ := Y
 refine cj rfl ?_
 refine nd_load hC ?_
 refine (?_ : wpAny _ _ (callAny.viaDunder (.ref C) _) _ _ _)
 dsimp only [callAny.viaDunder]
 refine wpAny_bind (call.at ?_)
 dsimp only
 rw [tc_bind]
 refine wpAny_bind (wpAny_pure (wpAny_bind (wpAny_pure ?_)))
 refine wpAny_pure (a := Fin.again (.call (.builtin "type.__call__") ⟨.ref C :: rest, []⟩)) (And.intro rfl ?_)
 refine bS (Code.quiet_builtin _ (by decide +kernel)) (by decide +kernel) entry_typeCall (check_slot tc_kind tc_split typ (tc_args _ _ _) ?_)
 delta Builtin.«type.__call__»
 have hm : Looks (model prog w) h (mroOf (.ref C)) cd.mro := ((Looks.ld (part := none) hC).andThen .now).andThen .now
 refine aa (.of (Looks.at hm ?_))
 refine bP (by refine ae e4 ?_; decide) ?_
 refine aa (.of (Looks.at made ?_))
 refine aa (aq ?_)
 have k : ∀ b o, h.get? b = some o → ((h.push emptyDict).push (instObj C h.objs.size)).get? b = some o := fun b o e => Heap.get?_push_of_some _ (Heap.get?_push_of_some _ e)
 have hx : ((h.push emptyDict).push (instObj C h.objs.size)).get? (h.objs.size + 1) = some (instObj C h.objs.size) := by heap_get
 have t1 : Looks (model prog w) ((h.push emptyDict).push (instObj C h.objs.size)) (typeOf (.ref (h.objs.size + 1))) (.ref C) := (Looks.ld hx).andThen .now
 have s1 := self.keeps k
 have i1 := hi.keeps k
 have b1 := (hb (.ref (h.objs.size + 1))).keeps k
 refine aa (aA (.of (wpAny_call (new_K Y' hi (.inl rA) ?_))))
 refine aa (.of (Looks.at (t1.andThen s1) ?_))
 refine bP (by decide) ?_
 refine aa (aA ?_)
 refine aa (.of (Looks.at (t1.andThen i1) ?_))
 refine aA (aa (.of (Looks.at b1 ?_)))
 refine aa (cy (bg hq fun r s' z => ?_))
 rcases r with e | (v | _ | _ | _) <;> first | exact z | exact z.elim | skip
 obtain ⟨rfl, z⟩ := z
 exact aq (aq z)
end
section
variable {Z : aL} {n : Nat} {ih : bM} {L : Nat} {cs : Fm} {Ar : Around} {c c' : Cfg} {A : AS} {s s' : Shared}
theorem pP {f : Value} : ∀ {ts : List (Sem Value)}, evalArgs f true (ts.map fun t => (false, t)) [] = (spliced (ts.map fun t => (false, t)) >>= fun vs => holding vs (pure ⟨vs, []⟩))
 | [] => by
  rfl
 | [t] => by
  dsimp only [evalArgs]
  show (_ >>= _) = _
  simp -iota only [bind_assoc, pure_bind]
  congr 1
  funext vs
  simp [evalAll]
 | t :: t2 :: r => by
  dsimp only [evalArgs]
  simp only [List.map_cons, bind_assoc, pure_bind]
  congr 1
  funext vs
  simp [evalAll]
theorem au.keep {α β : Type} {R : Cfg → α → β → Prop} {vs : List Value} {t : Sem β} {r : Res α} (h : au Z L cs Ar t R r c s) : au Z L cs Ar (t.keep vs) R r c s := fun l e Γ p fh hC => by
 have := h l e Γ p fh hC
 rw [Sem.wp_keep]; exact this
theorem gK {f : Value} {first : List Value} {pos : Pos} {ts : List (Sem Value)} {r : Res (List V)} {g : List V → AS → Res V} (H : St Z L cs c A s) (hr : au Z L cs Ar (spliced (ts.map fun t => (false, t))) dk r c s)
 (hk : ∀ vs c' A' s', Le Z L c s c' s' → St Z L cs c' A' s' → g vs A' = none ∨ ∃ k, Looks Z.M s'.heap (keeperOf f) k)
 (h : ∀ vs A' c' s' us, Le Z L c s c' s' → St Z L cs c' A' s' → dk c' vs us → au Z L cs Ar (call f (first ++ us) []) VR (g vs A') c' s') :
 au Z L cs Ar (callWith pos f first (ts.map fun t => (false, t)) []) VR (Res.bind r g) c s := by
 delta callWith
 refine ae pP ?_
 have ha : au Z L cs Ar (spliced (ts.map fun t => (false, t)) >>= fun vs => holding vs (pure (⟨vs, []⟩ : Args))) (fun c vs (a : Args) => dk c vs a.pos ∧ a.kw = []) r c s :=
  hr.map fun vs c' s' u q Q E k => wpAny_holding (wpAny_pure (k _ ⟨q, rfl⟩))
 refine au.bind H.bw (.hold ha) fun vs A' c' s' a le H' q => .at ?_
 rcases hk vs c' A' s' le H' with hk | hk
 ·refine ae hk ?_; exact .none
 obtain ⟨q, e⟩ := q
 obtain ⟨ap, ak⟩ := a
 subst e
 have Kb : ((ts.map fun t => ((false, t) : Bool × Sem Value)).any (·.1) || ([] : List (Option Str × Sem Value)).any (·.1.isNone)) = false := by
  refine ae List.any_map ?_
  simp
 rw [Kb]
 refine (hk).elim fun k hk => ?_
 have hc := h vs A' c' s' ap le H' q
 have tail : ∀ {t : Sem Value}, au Z L cs Ar t VR (g vs A') c' s' → au Z L cs Ar (t >>= fun r => holding [r] point >>= fun J => pure r) VR (g vs A') c' s' := fun ht =>
  ht.map fun v wF ew u r Q E k => wpAny_bind (wpAny_holding (wpAny_point (wpAny_pure (k _ r))))
 have marked (mk : Value) : au Z L cs Ar (callMarked mk f (first ++ ap) []) VR (g vs A') c' s' := by skip; exact hc.keep
 intro l e
 refine aa (.of (hk.here ?_))
 cases k <;> first | exact tail hc l e | exact tail (.wL hc) l e | exact yL (tail hc l e) (tail (marked _) l e)
theorem jz {f : Value} (G : Z.Glob) (hk : keepIn Z.K f = true) : ∀ s' : Shared, (∀ b o, Z.h₀.get? b = some o → s'.heap.get? b = some o) → ∃ k, Looks Z.M s'.heap (keeperOf f) k := fun s' hb => by
 refine (looks_keep (M := Z.M) hk (G.k.keeps hb)).elim fun k aj => (aj).elim fun _ h => ?_
 exact ⟨k, h⟩
end
noncomputable def ej (C a : Nat) : Obj := { cls := .ref C, data := .fields #[.ref a, .none, .none, .none, .bool false, .none] }
section
variable {prog : Program} {w : World} {R : Result → Shared → Prop} {h : Heap} {g : Array GenState} {d : Drawn} {t : Nat} {os : OsState} {C : Nat} {rest : List Value}
theorem rZ {nm q : Str} {N : Addr} {bs bm : List Value} {hd : Bool} {sn : List Str} {sub : List Value} {ab : Bool} {col : Option Bool} {dd : Option Addr} {k0 k1 k2 k3 k5 : Option Value} {nw b : String} {r : Bool} {M : Model} {Ar : Around} {Q : Bool → Shared → Prop} {E : Value → Shared → Prop}
 (hC : h.get? C = some (excClassObj nm q C N bs bm hd sn sub ab col dd k0 k1 k2 k3 k5 nw)) (e : (Value.ref C :: bm).contains (.type b) = r) (hq : Q r ⟨h, g, d, t, os⟩) : wpAny M Ar (isSubtype (.ref C) (.type b)) Q E ⟨h, g, d, t, os⟩ := wpAny_isSubtype_exc hC (by refine ae e ?_; exact hq)
theorem B9 {Ar : Around} (Y : nB h C) (hr : rest.length ≤ sizeLine) (hq : R (.ok (.ret (.ref (h.objs.size + 1)))) ⟨(h.push { cls := .type "tuple", data := .seq rest.toArray }).push (ej C h.objs.size), g, d, t, os⟩) :
 codeAny (model prog w) Ar (.call (.builtin "Exception.__new__") ⟨.ref C :: rest, []⟩) R ⟨h, g, d, t, os⟩ := by
 obtain ⟨⟨nm, q, N, bs, bm, BK, sn, sub, col, dd, k0, k1, k2, k3, k5, hC, b1, b2, b3⟩, _, _⟩ := Y
 have F := PySem.F.excBase_Exception
 have D8 : (Value.ref C :: bm).contains (.type "Exception") = true := by rw [List.contains_cons, b1, Bool.or_true]
 have Mx : (Value.ref C :: bm).contains (.type "AttributeError") = false := by refine ae List.contains_cons ?_; refine ae b2 ?_; rfl
 have My : (Value.ref C :: bm).contains (.type "NameError") = false := by refine ae List.contains_cons ?_; refine ae b3 ?_; rfl
 refine codeAny_call_builtin_code (Code.quiet_builtin _ F.quiet) (wpAny_check_new_subU F b1 .base hC ?_)
 have Kx := F.ends
 refine codeAny_builtinAt F.entry ?_
 refine PySem.wpAt_bind ?_
 refine PySem.wpAt_bind (PySem.wpAt_stack fun p below => PySem.wpAt_of_wpAny ?_)
 wp_walk
 refine PySem.wpAt_of_wpAny ?_
 refine ae F.owner ?_
 repeat (first | with_reducible refine wpAny_madeHere_exc F.canon hC ?_ | with_reducible refine wpAny_loadPart_at hC ?_ | with_reducible refine rZ hC D8 ?_ | with_reducible refine rZ hC Mx ?_ | with_reducible refine rZ hC My ?_ | wp_step)
 refine (?_ : R _ _)
 rw [Heap.size_push]
 exact hq
theorem zf {Ar : Around} {init : Value} (Y : nB h C) (hr : rest.length ≤ sizeLine) (hi : Looks (model prog w) h (typeLookup (.ref C) "__init__") (some init))
 (hb : ∀ self, Looks (model prog w) h (bindSpecial init self) (init, [self]))
 (hq : bj (model prog w) (Ar.under (.builtin "type.__call__" ⟨.ref C :: rest, []⟩)) (.call init ⟨.ref (h.objs.size + 1) :: rest, []⟩) (InitBack (h.objs.size + 1) R) ⟨(h.push { cls := .type "tuple", data := .seq rest.toArray }).push (ej C h.objs.size), g, d, t, os⟩) :
 bj (model prog w) Ar (.call (.ref C) ⟨rest, []⟩) R ⟨h, g, d, t, os⟩ := by
 have Y' := Y
 obtain ⟨⟨nm, q, N, bs, bm, BK, sn, sub, col, dd, k0, k1, k2, k3, k5, hC, b1, b2, b3⟩, call, typ⟩ := Y
 have made : Looks (model prog w) h (Bind.madeBy (.ref C)) (some "Exception.__new__") := fun A Q E s k q => by
  obtain ⟨hh, g, d, t, os⟩ := s
  exact wpAny_madeBy_exc (k _ _ hC) q
 have self : Looks (model prog w) h (isSubtype (.ref C) (.ref C)) true := fun A Q E s k q => by
  obtain ⟨hh, g, d, t, os⟩ := s
  refine wpAny_isSubtype_exc (k _ _ hC) ?_
  rw [List.contains_cons, beq_self_eq_true, Bool.true_or]; exact q
 refine cj rfl ?_
 refine nd_load hC ?_
 refine (?_ : wpAny _ _ (callAny.viaDunder (.ref C) _) _ _ _)
 dsimp only [callAny.viaDunder]
 refine wpAny_bind ((call _).at ?_)
 dsimp only
 rw [tc_bind]
 refine wpAny_bind (wpAny_pure (wpAny_bind (wpAny_pure ?_)))
 refine wpAny_pure (a := Fin.again (.call (.builtin "type.__call__") ⟨.ref C :: rest, []⟩)) (And.intro rfl ?_)
 refine bS (Code.quiet_builtin _ (by decide +kernel)) (by decide +kernel) entry_typeCall (check_slot tc_kind tc_split (typ _) (tc_args _ _ _) ?_)
 have hm : Looks (model prog w) h (mroOf (.ref C)) (.ref C :: bm) := ((Looks.ld (part := none) hC).andThen .now).andThen .now
 refine aa (.of (Looks.at hm ?_))
 refine bP (show ¬ ((Value.ref C :: bm).isEmpty = true) from Bool.false_ne_true) ?_
 refine aa (.of (Looks.at made ?_))
 refine aa (aq ?_)
 have k : ∀ b o, h.get? b = some o → ((h.push { cls := .type "tuple", data := .seq rest.toArray }).push (ej C h.objs.size)).get? b = some o := fun b o e => Heap.get?_push_of_some _ (Heap.get?_push_of_some _ e)
 have hx : ((h.push { cls := .type "tuple", data := .seq rest.toArray }).push (ej C h.objs.size)).get? (h.objs.size + 1) = some (ej C h.objs.size) := by skip; heap_get
 have t1 : Looks (model prog w) ((h.push { cls := .type "tuple", data := .seq rest.toArray }).push (ej C h.objs.size)) (typeOf (.ref (h.objs.size + 1))) (.ref C) := (Looks.ld hx).andThen .now
 have s1 := self.keeps k
 have i1 := hi.keeps k
 have b1 := (hb (.ref (h.objs.size + 1))).keeps k
 refine aa (aA (.of (wpAny_call (B9 Y' hr ?_))))
 refine aa (.of (Looks.at (t1.andThen s1) ?_))
 refine bP (by decide) ?_
 refine aa (aA ?_)
 refine aa (.of (Looks.at (t1.andThen i1) ?_))
 refine aA (aa (.of (Looks.at b1 ?_)))
 refine aa (cy (bg hq fun r s' z => ?_))
 rcases r with e | (v | _ | _ | _) <;> first | exact z | exact z.elim | skip
 obtain ⟨rfl, z⟩ := z
 exact aq (aq z)
end
def kC {α : Type} (l : List (Except Nat α × AS)) : Prop := ∀ x ∈ l, ∃ a, x.1 = .ok a
theorem fB {α : Type} {r : Res α} {l : bC α} (e : ef r = some l) : r = some l ∧ kC l.list := by
 cases r with
 | none => exact no e
 | some o => cases o with
  | one a A =>
   obtain rfl := aO e
   exact ⟨rfl, fun x hx => by cases msg hx; exact ⟨a, rfl⟩⟩
  | many k =>
   have e : (if k.all (fun x => match x.1 with | .ok _ => true | .error _ => false) then some (bC.many k) else none) = some l := e
   by_cases h : k.all (fun x => match x.1 with | .ok _ => true | .error _ => false) = true
   ·rw [if_pos h] at e
    obtain rfl := aO e
    refine ⟨rfl, fun x hx => ?_⟩
    have := lP h x hx
    obtain ⟨r, B⟩ := x
    cases r with
    | ok a => exact ⟨a, rfl⟩
    | error i => cases this
   ·rw [if_neg h] at e; exact no e
theorem kC.no {α : Type} {l : List (Except Nat α × AS)} (h : kC l) {i : Nat} {A : AS} (hm : (Except.error i, A) ∈ l) : False := by
 refine (h _ hm).elim fun a e => ?_
 cases e
theorem u5 {Γ : Ctx} {C : Nat} {as : List V} {l : bC V} (e : callC Γ ih C as A = some l) : ∃ k f l0, af C Γ.dq = some k ∧ af N.init k.meths = some (false, f) ∧ as.length < 30 ∧ Γ.take ≠ some f ∧
 dO Γ ih f (.loc A.n :: as) (A.alloc (if (af C Γ.cf).isSome then .qS C else .inst C [])).2 = some l0 ∧ kC l0.list ∧
 ∀ a A', (Except.ok a, A') ∈ l0.list → a = .none ∧ (Except.ok (.loc A.n), A') ∈ l.list := by
 dsimp only [callC] at e
 cases hk : af C Γ.dq with
 | none => rw [hk] at e; exact no e
 | some k =>
 rw [hk] at e
 dsimp only at e
 by_cases hl : Nat.blt as.length 30 = true
 case neg => rw [if_neg hl] at e; exact no e
 rw [if_pos hl] at e
 replace hl := Nat.blt_eq.mp hl
 cases hf : af N.init k.meths with
 | none => rw [hf] at e; exact no e
 | some p =>
 obtain ⟨b, f⟩ := p
 cases b with
 | true => rw [hf] at e; exact no e
 | false =>
 rw [hf] at e
 dsimp only at e
 by_cases ht : Γ.take = some f
 ·rw [if_pos ht] at e; exact no e
 ·rw [if_neg ht] at e
  refine (eC e).elim fun l0 aj => (aj).elim fun h0 ay => (ay).elim fun m1 _ => ?_
  refine (fB h0).elim fun h1 h2 => ?_
  refine ⟨k, f, l0, rfl, hf, hl, ht, h1, h2, fun a A' hm => ?_⟩
  obtain ⟨r', q1, q2⟩ := m1 a A' hm
  cases a <;> first | exact no q1 | skip
  obtain rfl := aO q1
  exact ⟨rfl, q2 _ (.head _)⟩
theorem iR (h : Heap) : h.get? (h.objs.size + 1) = none := by
 cases e : h.get? (h.objs.size + 1) with
 | none => rfl
 | some o => exact absurd (Nat.lt_of_succ_lt (Heap.lt_size e)) (Nat.lt_irrefl _)
section
variable {Z : aL} {n : Nat} {ih : bM} {L : Nat} {cs : Fm} {Ar : Around} {c c' : Cfg} {A : AS} {s s' : Shared}
theorem mG (G : Z.Glob) (Fs : tJ Z) (I : aC Z n ih) (hn : Room (n + 1) Ar cs) (H : St Z L cs c A s) {C f : Nat} {as : List V} {us : List Value} (r : dk c as us) {l l0 : bC V} {X : ax} {h' : Heap} {p : Nat × Nat} (ht : Z.Γ.take ≠ some f) (h1 : dO Z.Γ ih f (.loc A.n :: as) (A.alloc X).2 = some l0) (h2 : kC l0.list) (h3 : ∀ a A', (Except.ok a, A') ∈ l0.list → a = .none ∧ (Except.ok (.loc A.n), A') ∈ l.list)
 (vW : ∀ b o, s.heap.get? b = some o → h'.get? b = some o) (n1 : s.heap.get? p.1 = none ∧ Has h' p.1) (n0 : s.heap.get? p.2 = none ∧ Has h' p.2) (ho : br Z (c.push p) h' c.n X) :
 bj Z.M (Ar.under (.builtin "type.__call__" ⟨.ref C :: us, []⟩)) (.call (.ref f) ⟨.ref p.1 :: us, []⟩) (InitBack p.1 fun r s' => match r with | .ok (.ret v) => QO Z L cs VR l.list c s v s' | .error e => EO Z L cs l.list c s e s' | _ => False) { s with heap := h' } := by
 have H1 : St Z L cs (c.push p) (A.alloc X).2 { s with heap := h' } := H.alloc (s' := { s with heap := h' }) vW n1 n0 ho rfl rfl
 have a4 : Le Z L c s (c.push p) { s with heap := h' } := Le.alloc (s' := { s with heap := h' }) vW n1.1 n0.1
 have AY : VR (c.push p) (.loc A.n) (.ref p.1) := by
  refine ⟨?_, ?_⟩
  ·refine (?_ : A.n < c.n + 1); refine ae H.n ?_; exact Nat.lt_succ_self _
  ·rw [← H.n, c.aI]
 have cw : uZ n (Ar.under (.builtin "type.__call__" ⟨.ref C :: us, []⟩)) cs := ⟨by refine (?_ : Ar.depth + 1 + 1 + 2 * n < _); have := hn.1; omega, by refine (?_ : Ar.units + 1 + 3 + 8 * n + 64 < _); have := hn.2.1; omega, hn.2.2⟩
 refine bg (kB G Fs I cw H1 ht (.cons AY (r.imp fun J J y => y.mono a4.grown)) h1) fun rr s2 q => ?_
 cases rr with
 | error e => obtain ⟨i, A', c', m, _⟩ := q; exact (h2.no m).elim
 | ok fl =>
  cases fl <;> first | exact q.elim | skip
  obtain ⟨va, A', c', z1, z2, z3, z4⟩ := q
  obtain ⟨rfl, m⟩ := h3 va A' z1
  subst z4
  exact ⟨rfl, _, A', c', m, a4.trans z2, z3, AY.mono z2.grown⟩
theorem pQ (G : Z.Glob) (Fs : tJ Z) (I : aC Z n ih) (hn : Room (n + 1) Ar cs) (H : St Z L cs c A s) {C : Nat} {as : List V} {us : List Value} (r : dk c as us) : au Z L cs Ar (call (.ref C) us) VR (callC Z.Γ ih C as A) c s := by
 intro l e
 refine (u5 e).elim fun k aj => (aj).elim fun f ay => (ay).elim fun l0 aP => (aP).elim fun hk bF => (bF).elim fun hf cZ => (cZ).elim fun hl ia => (ia).elim fun ht pL => (pL).elim fun h1 rV => (rV).elim fun h2 h3 => ?_
 rw [r.length] at hl
 have X := G.k.keeps H.base
 have fin : ∀ (r : Result) (s' : Shared), (match r with | .ok (.ret v) => QO Z L cs VR l.list c s v s' | .error e => EO Z L cs l.list c s e s' | _ => False) → (match r with | .ok (.ret v) => QO Z L cs VR l.list c s v s' | .ok _ => False | .error e => EO Z L cs l.list c s e s') := fun r s' q => by
  rcases r with e | (v | _ | _ | _) <;> exact q
 cases hx : af C Z.Γ.cf with
 | none =>
  have O := G.cls C k hk hx
  refine (O.meth N.init f hf).elim fun m1 m2 => ?_
  rw [G.yO] at m1
  have back := mG (C := C) (X := .inst C []) (h' := (s.heap.push emptyDict).push (instObj C s.heap.objs.size)) (p := (s.heap.objs.size + 1, s.heap.objs.size)) G Fs I hn H r ht (by rw [hx] at h1; exact h1) h2 h3
   (fun b o e => Heap.get?_push_of_some _ (Heap.get?_push_of_some _ e)) ⟨iR _, _, show _ = some (instObj C s.heap.objs.size) by heap_get⟩ ⟨get_size _, _, show _ = some emptyDict by heap_get⟩ (by
    refine ⟨?_, ⟨k, hk, hx, fun f hf => by cases hf⟩, [], 0, ?_, .nil⟩
    ·rw [c.aI]; heap_get
    ·rw [c.aI]; heap_get)
  obtain ⟨hh, gg, dd, tt, oo⟩ := s
  exact cy (bg (B8 (makes_of X O.BJ) (looks_findIn X m1) (fun self => bind_fn X self m2) rfl back) fin)
 | some bs =>
  have O := G.oY C k bs hk hx
  refine (O.meth N.init f hf).elim fun m1 m2 => ?_
  rw [G.yO] at m1
  have back := mG (C := C) (X := .qS C) (h' := (s.heap.push { cls := .type "tuple", data := .seq us.toArray }).push (ej C s.heap.objs.size)) (p := (s.heap.objs.size + 1, s.heap.objs.size + 1)) G Fs I hn H r ht (by rw [hx] at h1; exact h1) h2 h3
   (fun b o e => Heap.get?_push_of_some _ (Heap.get?_push_of_some _ e)) ⟨iR _, _, show _ = some (ej C s.heap.objs.size) by skip; heap_get⟩ ⟨iR _, _, show _ = some (ej C s.heap.objs.size) by skip; heap_get⟩ (by
    refine ⟨ej C s.heap.objs.size, #[.ref s.heap.objs.size, .none, .none, .none, .bool false, .none], ?_, rfl, rfl, Nat.lt_succ_of_le (Nat.le_succ 4), .inl rfl, rfl⟩
    rw [c.aI]; heap_get)
  obtain ⟨hh, gg, dd, tt, oo⟩ := s
  exact cy (bg (zf (O.BJ _ X) (Nat.le_trans (Nat.le_of_lt hl) (by refine ae sizeLine_eq ?_; decide)) (looks_findIn X m1) (fun self => bind_fn X self m2) back) fin)
end
namespace BA
theorem xj : Slot "bytearray" "__len__" "bytearray.__len__" :=
 .of (owner := "bytearray") (n := "__len__") (by rw [typeLookup_type, builtinLookup_eq_fast]; kernel_rfl) (by decide +kernel) (by decide +kernel) (by decide +kernel)
  (by first | exact .inl (by decide +kernel) | exact .inr (by decide +kernel)) (by rw [isSubtype_type]; kernel_rfl)
theorem entry_len : entryFor table "bytearray.__len__" = some Builtin.«bytearray.__len__» := by first | exact entryFor_of_fast (by kernel_rfl) | exact entryFor_of_tree (by kernel_rfl)
theorem xk (a : Value) : argsOk "bytearray.__len__" ⟨[a], []⟩ := by skip; kernel_rfl
theorem u6 (x : Addr) (b : Array UInt8) : Meets («bytearray.__len__» ⟨[.ref x], []⟩) (fun J R s => s.heap.get? x = some { cls := .type "bytearray", data := .bytearray b } ∧
 R (.ok (.ret (.int b.size s.toks))) { s with toks := s.toks + 1 }) := by
 refine .of_wp fun prog w A R s hS => ?_
 refine (hS).elim fun hx h => ?_
 refine (?_ : wpAny _ _ (Bytes.payload (.ref x) >>= fun r => _) _ _ s)
 refine wpAny_bind ?_
 refine wpAny_bind (wpAny_bind (wpAny_load hx (wpAny_pure (wpAny_pure ?_))))
 exact wpAny_bind (wpAny_mkInt (wpAny_pure ⟨_, rfl, h⟩))
end BA
section
variable {Z : aL} {n : Nat} {ih : bM} {L : Nat} {cs : Fm} {Ar : Around} {c c' : Cfg} {A : AS} {s s' : Shared}
set_option tactic.hygienic true in
theorem u7 (G : Z.Glob) (H : St Z L cs c A s) {as : List V} {us : List Value} (r : dk c as us) : au Z L cs Ar (call (.builtin "len") us) VR (yH as A) c s := by
 cases r with
 | nil => exact .none
 | cons r0 r1 =>
  rename_i a u as us
  cases r1 with
  | cons => cases a <;> exact .none
  | nil =>
   cases a <;> first | exact .none | skip
   ·rename_i x
    obtain ⟨hb, t, rfl⟩ := r0
    dsimp only [yH]
    split
    ·rename_i hl
     have hz : (BS.den c.ρ x).toArray.size = BS.len x := by rw [List.size_toArray, BS.bq]
     refine .look H fun Q E q => len_bytes (by refine ae hz ?_; exact Nat.le_trans ‹_› (by decide)) (q _ (s.toks + 1 + 1) ⟨trivial, s.toks + 1, ?_⟩)
     refine ae hz ?_; rfl
    ·exact .none
   ·rename_i i
    obtain ⟨hi, rfl⟩ := r0
    dsimp only [yH]
    generalize hm : A.heap.get i = ob
    cases ob with
    | none => exact .none
    | some ob =>
    cases ob <;> first | exact .none | skip
    case list xs =>
     refine .dM fun hl => ?_
     obtain ⟨vs, ep, e1, r1⟩ := H.objs _ _ hm
     have hz : vs.size = xs.length := by have := r1.length; simpa using this.symm
     refine .look H fun Q E q => call_len_list ⟨_, e1, rfl, _, rfl⟩ (by refine ae hz ?_; omega) (q _ (s.toks + 1 + 1) ⟨trivial, s.toks + 1, ?_⟩)
     refine ae hz ?_; rfl
    case bT x =>
     refine .dM fun hl => ?_
     refine (H.objs _ _ hm).elim fun hb e1 => ?_
     have hz : (BS.den c.ρ x).toArray.size = BS.len x := by rw [List.size_toArray, BS.bq]
     refine .look H fun Q E q => call_len_meets (v := .ref (c.σ i).1) (n := ((BS.den c.ρ x).toArray.size : Nat)) (show s.TypeIs (.ref (c.σ i).1) "bytearray" from ⟨_, e1, rfl⟩) BA.xj BA.entry_len (BA.xk _) (BA.u6 _ _) (by omega) (by refine ae hz ?_; omega) (fun Q' h' => ⟨e1, h'⟩) (q _ (s.toks + 1 + 1) ⟨trivial, s.toks + 1, ?_⟩)
     refine ae hz ?_; rfl
set_option tactic.hygienic true in
theorem u9 (hr : Room 1 Ar cs) (H : St Z L cs c A s) {as : List V} {us : List Value} (r : dk c as us) : au Z L cs Ar (call (.builtin "max") us) VR (Dx as A) c s := by
 refine .dM fun hh => .bnd fun p hp => .bnd fun a ha => ?_
 have hh := hr.quiet H (yt hh)
 obtain ⟨u, w, rfl, r0, r1⟩ := dG hp r
 obtain ⟨t, rfl⟩ := cz ha r0
 cases hb : jr p.2 with
 | some b =>
  obtain ⟨t', rfl⟩ := cz hb r1
  refine .done fun Q E q => Flt.max_two_num hh (.int _ _) (.int _ _) fun h' tk hk => q _ _ c (Le.bk (s' := { s with heap := h', toks := tk }) hk) (H.bk (s' := { s with heap := h', toks := tk }) hk rfl rfl) ⟨trivial, ?_⟩
  refine (?_ : ∃ t_1, (if decide (a < b) = true then Value.int b t' else Value.int a t) = Value.int (if a < b then b else a) t_1)
  by_cases h : a < b
  ·refine ae (decide_eq_true h) ?_; refine ae (if_pos rfl) ?_; refine ae (if_pos h) ?_; exact ⟨_, rfl⟩
  ·refine ae (decide_eq_false h) ?_; refine ae (if_neg (by decide)) ?_; refine ae (if_neg h) ?_; exact ⟨_, rfl⟩
 | none =>
  dsimp only
  cases hv : p.2 <;> first | exact .none | skip
  rename_i x
  rw [hv] at r1
  refine .bnd fun q hq => .dM fun hle => ?_
  obtain ⟨hx, t', rfl⟩ := r1
  have hd := nG H.toHp hq
  refine .done fun Q E k => Flt.max_two_num hh (.int _ _) (.int _ _) fun h' tk hk => k _ _ c (Le.bk (s' := { s with heap := h', toks := tk }) hk) (H.bk (s' := { s with heap := h', toks := tk }) hk rfl rfl) ⟨hx, ?_⟩
  refine (?_ : ∃ t_1, (if decide (a < SI.den c.ρ x) = true then Value.int (SI.den c.ρ x) t' else Value.int a t) = Value.int (SI.den c.ρ x) t_1)
  by_cases h : a < SI.den c.ρ x
  ·refine ae (decide_eq_true h) ?_; refine ae (if_pos rfl) ?_; exact ⟨_, rfl⟩
  ·refine ae (decide_eq_false h) ?_; refine ae (if_neg (by decide)) ?_
   exact ⟨t, by refine ae (show a = SI.den c.ρ x by omega) ?_; rfl⟩
theorem sd {c : Cfg} {as : List V} {p : V × V × V} {us : List Value} (h : wm as = some p) (r : dk c as us) : ∃ u w x, us = [u, w, x] ∧ VR c p.1 u ∧ VR c p.2.1 w ∧ VR c p.2.2 x := by
 refine Classical.byContradiction fun bad => ?_
 cases as with
 | nil => exact no h
 | cons _ as => cases as with
 | nil => exact no h
 | cons _ as => cases as with
 | nil => exact no h
 | cons _ as => cases as with
 | cons => exact no h
 | nil =>
  obtain rfl := aO h
  obtain ⟨u, t, rfl, r1, q2⟩ := r.cons_inv
  obtain ⟨w, t, rfl, r2, q3⟩ := q2.cons_inv
  obtain ⟨x, t, rfl, r3, r4⟩ := q3.cons_inv
  exact bad ⟨u, w, x, by refine ae r4.nil_inv ?_; rfl, r1, r2, r3⟩
theorem pR (H : St Z L cs c A s) {as : List V} {us : List Value} (r : dk c as us) : au Z L cs Ar (call (.type "range") us) VR (rg as A) c s := by
 delta rg
 cases h1 : lu as with
 | some v =>
  refine .bnd fun b hb => ?_
  obtain ⟨u, rfl, r0⟩ := dF h1 r
  obtain ⟨t, rfl⟩ := cz hb r0
  exact .newObj H (ob := { cls := .type "range", data := .fields #[.int 0 s.toks, .int b t, .int 1 (s.toks + 1)] }) rfl (fun h p e J => ⟨_, _, _, by rw [c.aI]; exact e⟩) fun q => call_range_1 (q _)
 | none =>
  dsimp only
  cases h2 : lx as with
  | none =>
   refine .bnd fun p hp => .bnd fun a ha => .bnd fun b hb => .bnd fun d hd => ?_
   obtain ⟨u, w, x, rfl, r0, r1, r2⟩ := sd hp r
   obtain ⟨t, rfl⟩ := cz ha r0
   obtain ⟨t', rfl⟩ := cz hb r1
   obtain ⟨CU, rfl⟩ := cz hd r2
   by_cases hz : d = 0 ∨ 1073741824 ≤ d.natAbs
   ·refine ae (if_pos hz) ?_; exact .none
   ·refine ae (if_neg hz) ?_
    have hz := not_or.mp hz
    exact .newObj H (ob := { cls := .type "range", data := .fields #[.int a t, .int b t', .int d CU] }) rfl (fun h p e J => ⟨_, _, _, by rw [c.aI]; exact e⟩) fun q => call_range_3 hz.1 (q s.toks) (.inl (PyProof.noPylong_small (by have := hz.2; exact Nat.lt_of_not_le ‹_›)))
  | some p =>
  refine .bnd fun a ha => .bnd fun b hb => ?_
  obtain ⟨u, w, rfl, r0, r1⟩ := dG h2 r
  obtain ⟨t, rfl⟩ := cz ha r0
  obtain ⟨t', rfl⟩ := cz hb r1
  exact .newObj H (ob := { cls := .type "range", data := .fields #[.int a t, .int b t', .int 1 s.toks] }) rfl (fun h p e J => ⟨_, _, _, by rw [c.aI]; exact e⟩) fun q => call_range_2 (q _)
end
section
variable {prog : Program} {w : World} {A : Around} {E : Value → Shared → Prop} {s : Shared}
theorem gL {x : Value} {r : Array UInt8} {Q : Value → Shared → Prop}
 (hs : ∀ (A' : Around) (R : Fin → Shared → Prop) (E' : Value → Shared → Prop), (∀ t k, R (.done (.ret (.bytes r t))) { s with toks := k }) → wpAny (model prog w) A' («bytes.__new__» ⟨[.type "bytes", x], []⟩) R E' s)
 (hQ : ∀ t k, Q (.bytes r t) { s with toks := k }) : wpAny (model prog w) A (call (.type "bytes") [x]) Q E s := by
 refine callType_codes (Q₁ := fun obj aV => aV.TypeIs obj "bytes" ∧ Q obj aV) F.bm_called (F.bm_typeCall _) F.entry_object_init ?_ fun obj aV bZ => ?_
 ·refine codeAny_of_tree ?_
  refine wpAny_bind (wpAny_of_eq (F.bm_newCall _) (wpAny_pure ⟨plainId_quiet F.bm_plain _, codeAny_builtin F.bm_entry ?_⟩))
  exact hs _ _ _ fun t k => ⟨PySem.W.typeIs_bytes _ _ _, hQ t k⟩
 ·exact ⟨bZ.1, F.args_object_init_2 obj _, object_init_meets F.bm_called.init.lookup F.bm_called.made (by decide) prog w A.in1 _ aV ⟨bZ.1, rfl, bZ.2⟩⟩
theorem xm : typeLookup (.type "bytes") "__bytes__" = pure (some (.builtin "bytes.__bytes__")) := by rw [typeLookup_type, builtinLookup_eq_fast]; kernel_rfl
theorem Ca : typeLookup (.type "int") "__bytes__" = pure none := by rw [typeLookup_type, builtinLookup_eq_fast]; kernel_rfl
theorem zg : typeLookup (.type "bytearray") "__bytes__" = pure none := by rw [typeLookup_type, builtinLookup_eq_fast]; kernel_rfl
theorem zi : typeLookup (.type "bytearray") "__index__" = pure none := by rw [typeLookup_type, builtinLookup_eq_fast]; kernel_rfl
theorem nO : typeLookup (.type "bytearray") "__buffer__" = pure (some (.builtin "bytearray.__buffer__")) := by rw [typeLookup_type, builtinLookup_eq_fast]; kernel_rfl
theorem kD {b : Array UInt8} {t : Tok} {Q : Value → Shared → Prop} (h : ∀ t' k, Q (.bytes b t') { s with toks := k }) : wpAny (model prog w) A (call (.type "bytes") [.bytes b t]) Q E s := by
 refine gL (r := b) (fun A' R E' h => ?_) h
 refine wpAny_bind (wpAny_of_eq (a := true) rfl ?_)
 refine bm_if_false rfl ?_
 refine wpAny_bind (wpAny_of_eq F.bm_sub ?_)
 refine bm_if_false rfl ?_
 refine wpAny_bind (wpAny_of_eq (F.bm_bind _) ?_)
 refine wpAny_bind (wpAny_of_eq (a := ()) rfl ?_)
 refine wpAny_bind (wpAny_of_eq (a := ()) rfl ?_)
 refine bm_if_false rfl ?_
 refine wpAny_bind (wpAny_specialOf (T := "bytes") (PySem.W.typeIs_bytes _ _ _) xm ?_)
 refine wpAny_bind (wpAny_rule (wpAny_bind (wpAny_typeOf (T := "bytes") (PySem.W.typeIs_bytes _ _ _) ?_)))
 refine bm_if_true (by decide) ?_
 refine bm_if_true (by decide) ?_
 exact wpAny_pure (h t s.toks)
theorem nP {n : Int} {t : Tok} {Q : Value → Shared → Prop} (h0 : 0 ≤ n) (h1 : n ≤ 65536) (h : ∀ t' k, Q (.bytes (Array.replicate n.toNat 0) t') { s with toks := k }) : wpAny (model prog w) A (call (.type "bytes") [.int n t]) Q E s := by
 refine gL (r := Array.replicate n.toNat 0) (fun A' R E' h => ?_) h
 refine wpAny_bind (wpAny_of_eq (a := true) rfl ?_)
 refine bm_if_false rfl ?_
 refine wpAny_bind (wpAny_of_eq F.bm_sub ?_)
 refine bm_if_false rfl ?_
 refine wpAny_bind (wpAny_of_eq (F.bm_bind _) ?_)
 refine wpAny_bind (wpAny_of_eq (a := ()) rfl ?_)
 refine wpAny_bind (wpAny_of_eq (a := ()) rfl ?_)
 refine bm_if_false rfl ?_
 refine wpAny_bind (wpAny_specialOf (T := "int") (typeIs_int _ _ _) Ca ?_)
 refine wpAny_bind (wpAny_of_eq (a := false) rfl ?_)
 refine bm_if_false rfl ?_
 refine wpAny_bind (wpAny_specialOf (T := "int") (typeIs_int _ _ _) F.slot_int_index.lookup ?_)
 refine bm_if_false rfl ?_
 refine wpAny_bind (wpAny_attempt (wpAny_of_eq (a := n) rfl ?_))
 have c1 : Bytes.fitsIndex n = true := by simp -iota only [Bytes.fitsIndex, Bool.and_eq_true, decide_eq_true_eq]; omega
 refine bm_if_false (by refine ae c1 ?_; rfl) ?_
 refine wpAny_ite (KBy.ite_no (Int.not_lt.mpr ‹_›) ?_)
 refine wpAny_ite (KBy.ite_no (by omega) ?_)
 refine bm_if_false (by delta Bytes.tooLong; refine ae sizeLine_eq ?_; exact decide_eq_false (by omega)) ?_
 refine wpAny_bind (wpAny_rule (wpAny_bind (wpAny_mkBytes ?_ (by refine ae Array.size_replicate ?_; refine ae sizeLine_eq ?_; omega))))
 refine bm_if_true (by decide) ?_
 exact wpAny_pure (h _ _)
theorem zj : isSubtype (.type "bytearray") (.type "bytearray") = pure true := by rw [isSubtype_type]; kernel_rfl
theorem pS {x : Value} {name id : String} {Q : Bool → Shared → Prop} (hT : s.TypeIs x "bytearray") (hl : typeLookup (.type "bytearray") (Str.ofString name) = pure (some (.builtin id))) (he : id.endsWith ("." ++ name) = true) (hd : id.dropRight (name.length + 1) = "bytearray")
 (h : Q true s) : wpAny (model prog w) A (Bytes.slotIsOwn x name) Q E s := by
 refine wpAny_bind (wpAny_specialOf hT hl ?_)
 refine bm_if_false (by refine ae he ?_; rfl) ?_
 refine ae hd ?_
 exact wpAny_isInstance hT zj h
theorem own_buffer {x : Value} {Q : Bool → Shared → Prop} (hT : s.TypeIs x "bytearray") (h : Q true s) : wpAny (model prog w) A (Bytes.slotIsOwn x "__buffer__") Q E s :=
 pS hT nO (by decide +kernel) (by decide +kernel) h
theorem own_release {x : Value} {Q : Bool → Shared → Prop} (hT : s.TypeIs x "bytearray") (h : Q false s) : wpAny (model prog w) A (Bytes.ownRelease x) Q E s := by
 exact wpAny_bind (pS hT BA.Mp (by decide +kernel) (by decide +kernel) (wpAny_pure h))
theorem eP {x : Addr} {b : Array UInt8} {Q : Array UInt8 → Shared → Prop} (hx : s.heap.get? x = some { cls := .type "bytearray", data := .bytearray b }) (h : Q b s) : wpAny (model prog w) A (Bytes.payload (.ref x)) Q E s := by
 exact wpAny_bind (wpAny_bind (wpAny_load hx (wpAny_pure (wpAny_pure h))))
theorem lG {b : Array UInt8} {x : Addr} {Q : Value → Shared → Prop} (hx : s.heap.get? x = some { cls := .type "bytearray", data := .bytearray b }) (hz : b.size ≤ 65536) (h : ∀ t' k, Q (.bytes b t') { s with toks := k }) : wpAny (model prog w) A (call (.type "bytes") [.ref x]) Q E s := by
 have hT : s.TypeIs (.ref x) "bytearray" := ⟨_, hx, rfl⟩
 refine gL (r := b) (fun A' R E' h => ?_) h
 refine wpAny_bind (wpAny_of_eq (a := true) rfl ?_)
 refine bm_if_false rfl ?_
 refine wpAny_bind (wpAny_of_eq F.bm_sub ?_)
 refine bm_if_false rfl ?_
 refine wpAny_bind (wpAny_of_eq (F.bm_bind _) ?_)
 refine wpAny_bind (wpAny_of_eq (a := ()) rfl ?_)
 refine wpAny_bind (wpAny_of_eq (a := ()) rfl ?_)
 refine bm_if_false rfl ?_
 refine wpAny_bind (wpAny_specialOf hT zg ?_)
 refine wpAny_bind (wpAny_bind ?_)
 refine wpAny_bind (wpAny_load hx (wpAny_pure (wpAny_pure ?_)))
 refine bm_if_false rfl ?_
 refine wpAny_bind (wpAny_specialOf hT zi ?_)
 refine bm_if_true rfl ?_
 refine wpAny_bind ?_
 refine wpAny_bind (wpAny_specialOf hT nO ?_)
 refine wpAny_bind (own_buffer hT ?_)
 refine bm_if_false rfl ?_
 refine wpAny_bind (wpAny_specialOf hT nO ?_)
 refine wpAny_bind (own_release hT ?_)
 refine bm_if_false rfl ?_
 refine wpAny_bind (eP hx (wpAny_pure ?_))
 refine wpAny_bind (wpAny_rule (wpAny_bind (wpAny_mkBytes ?_ (by refine ae sizeLine_eq ?_; exact Nat.le_trans ‹_› (by decide)))))
 refine bm_if_true (by decide) ?_
 exact wpAny_pure (h _ _)
end
end aD
end
section
open PySem PySem.Calls PyProof.Rows PySem.W PySem.SeqAt PySem.Builtin
set_option maxRecDepth 1000000
set_option maxHeartbeats 4000000
namespace aD
namespace BA
theorem mro : mroOf (.type "bytearray") = pure [.type "bytearray", .type "object"] := by rw [mroOf_type]; kernel_rfl
theorem xn : typeLookup (.type "bytearray") "__new__" = pure (some (.builtin "bytearray.__new__")) := by rw [typeLookup_type, builtinLookup_eq_fast]; kernel_rfl
theorem eF : Slot "bytearray" "__init__" "bytearray.__init__" :=
 .of (owner := "bytearray") (n := "__init__") (by rw [typeLookup_type, builtinLookup_eq_fast]; kernel_rfl) (by decide +kernel) (by decide +kernel) (by decide +kernel)
  (by first | exact .inl (by decide +kernel) | exact .inr (by decide +kernel)) (by rw [isSubtype_type]; kernel_rfl)
theorem called : TypeCalled "bytearray" "bytearray.__new__" "bytearray.__init__" :=
 ⟨by decide +kernel, by decide +kernel, ⟨_, _, mro⟩, madeBy_type mro xn (by decide +kernel), by decide +kernel, zj, eF⟩
theorem vb : entryFor table "bytearray.__new__" = some Builtin.«list.__new__» := entryFor_alias (id' := "list.__new__") (by kernel_rfl) (by decide +kernel) (by decide +kernel) (by kernel_rfl)
theorem se : entryFor table "bytearray.__init__" = some Builtin.«bytearray.__init__» := by first | exact entryFor_of_fast (by kernel_rfl) | exact entryFor_of_tree (by kernel_rfl)
theorem owner : ("bytearray.__new__".splitOn ".__new__").headD "" = "bytearray" := by simp +decide [String.splitOn, String.splitOnAux]
theorem Mz : checkTypeCall "bytearray" ⟨[], []⟩ = pure () := by kernel_rfl
theorem MA (a : Value) : checkTypeCall "bytearray" ⟨[a], []⟩ = pure () := by kernel_rfl
theorem MB : checkBuiltinCall "bytearray.__new__" ⟨[.type "bytearray"], []⟩ = pure () := by kernel_rfl
theorem MC (a : Value) : checkBuiltinCall "bytearray.__new__" ⟨[.type "bytearray", a], []⟩ = pure () := by kernel_rfl
theorem MD (x : Value) : argsOk "bytearray.__init__" ⟨[x], []⟩ := by skip; kernel_rfl
theorem ME (x a : Value) : argsOk "bytearray.__init__" ⟨[x, a], []⟩ := by skip; kernel_rfl
end BA
section
variable {prog : Program} {w : World} {A : Around} {E : Value → Shared → Prop} {s : Shared}
theorem lH (rest : List Value) (hc : checkBuiltinCall "bytearray.__new__" ⟨.type "bytearray" :: rest, []⟩ = pure ()) {Q₁ : Value → Shared → Prop}
 (h : Q₁ (.ref s.heap.objs.size) { s with heap := s.heap.push { cls := .type "bytearray", data := .bytearray #[] } }) :
 codeAny (model prog w) A (.call (.builtin "bytearray.__new__") ⟨.type "bytearray" :: rest, []⟩) (wants Q₁ E) s := by
 refine codeAny_of_tree ?_
 refine (?_ : wpAny _ A.in1 (do checkBuiltinCall "bytearray.__new__" ⟨.type "bytearray" :: rest, []⟩; again (.builtin "bytearray.__new__" ⟨.type "bytearray" :: rest, []⟩)) _ _ s)
 refine wpAny_bind (wpAny_of_eq hc (wpAny_pure ⟨plainId_quiet BA.called.plain _, codeAny_builtin_stack BA.vb rfl fun p st => ?_⟩))
 refine ae (Around.under_plainId BA.called.plain _) ?_
 have MF := zj
 have GZ := BA.owner
 obtain ⟨hp, g, d, tk, os⟩ := s
 simp only [GZ]
 wp_walk
 exact h
theorem mH {rest : List Value} {Q : Value → Shared → Prop} (MG : checkTypeCall "bytearray" ⟨rest, []⟩ = pure ()) (MH : checkBuiltinCall "bytearray.__new__" ⟨.type "bytearray" :: rest, []⟩ = pure ())
 (vc : ∀ x, argsOk "bytearray.__init__" ⟨x :: rest, []⟩)
 (hi : ∀ A' : Around, bt (model prog w) A' («bytearray.__init__» ⟨.ref s.heap.objs.size :: rest, []⟩) (fun fin s' => fin = .done (.ret .none) ∧ Q (.ref s.heap.objs.size) s') (fun J J => False)
  { s with heap := s.heap.push { cls := .type "bytearray", data := .bytearray #[] } }) : bt (model prog w) A (call (.type "bytearray") rest) Q E s := by
 have ft := BA.called
 refine cy (cj rfl ?_)
 refine wpAny_pure ⟨Code.quiet_builtin _ (by decide +kernel), gu (by decide +kernel) F.entry_type_call ?_⟩
 delta Builtin.«type.__call__»
 dsimp only
 refine ae (if_neg (by rw [ft.notType]; decide)) ?_; refine ae (if_neg (show ¬ _ = true by rw [show ((Manifest.find? "bytearray").bind _).getD false = false from ft.canCreate]; decide)) ?_
 refine ae MG ?_
 refine aa (aq ?_)
 refine aa (.of (wpAny_of_eq BA.mro ?_))
 refine bP (by decide) ?_
 refine aa (.of (wpAny_of_eq ft.made ?_))
 refine aa (aq ?_)
 refine aa (aA (.of (wpAny_call (lH rest MH ?_))))
 have hx : (s.heap.push { cls := .type "bytearray", data := .bytearray #[] }).get? s.heap.objs.size = some { cls := .type "bytearray", data := .bytearray #[] } := Heap.get?_push_size _ rfl
 have hT : ({ s with heap := s.heap.push { cls := .type "bytearray", data := .bytearray #[] } } : Shared).TypeIs (.ref s.heap.objs.size) "bytearray" := ⟨_, hx, rfl⟩
 refine aa (.of (wpAny_isInstance hT zj ?_))
 refine bP (by decide) ?_
 refine aa (aA ?_)
 refine aa (.of (wpAny_specialOf hT BA.eF.lookup ?_))
 refine aA (aa ?_)
 rw [BA.eF.bind]
 refine aq (aa (cy (bS (plainId_quiet BA.eF.plain _) (by decide +kernel) BA.se (BA.eF.check _ _ _ _ _ _ _ _ hT (vc _) ?_))))
 refine az (hi _) (fun fin s' q => ?_) fun J J q => q.elim
 obtain ⟨rfl, q⟩ := q
 exact aq (aq q)
theorem fC {id t : String} (hc : lU id = false) (ht : lU t = true) : id ≠ t := fun e => Bool.false_ne_true (hc.symm.trans (e ▸ ht))
theorem sf {x : Value} {M : Model} {Q : Bool → Shared → Prop} {E : Value → Shared → Prop} (h : Q false s) : bt M A (Bytes.exported x) Q E s := by
 refine ny (fun c p hc => ?_) h
 cases c with
 | builtin id args =>
  obtain ⟨pos, kw⟩ := args
  have hc : lU id = false := hc
  delta PySem.Builtin.Bytes.exported.match_1
  refine (dif_neg (fC hc (t := "bytearray.__contains__") (by decide +kernel))).trans ?_
  refine (dif_neg (fC hc (t := "bytearray.__mod__") (by decide +kernel))).trans ?_
  refine (dif_neg (fC hc (t := "bytearray.__rmod__") (by decide +kernel))).trans ?_
  refine (dif_neg (fC hc (t := "_struct.pack_into.held") (by decide +kernel))).trans ?_
  refine (dif_neg (fC hc (t := "bytearray.find.held") (by decide +kernel))).trans ?_
  cases pos with
  | nil => rfl
  | cons v r =>
   refine (?_ : (Bytes.sameRef v x && Bytes.decodersThatHold.contains id) = false)
   rw [(Bool.or_eq_false_iff.mp hc).1, Bool.and_false]
 | _ => rfl
theorem kF {x : Addr} {b : Array UInt8} {M : Model} {Q : Nat → Shared → Prop} {E : Value → Shared → Prop} (hx : s.heap.get? x = some { cls := .type "bytearray", data := .bytearray b }) (h : Q 0 s) : wpAny M A (Bytes.exportsOf (.ref x)) Q E s := by
 exact wpAny_bind (wpAny_load hx (wpAny_pure h))
theorem sh {x : Addr} {b : Array UInt8} {M : Model} {Q : Bool → Shared → Prop} {E : Value → Shared → Prop} (hx : s.heap.get? x = some { cls := .type "bytearray", data := .bytearray b }) (h : Q false s) :
 bt M A (Bytes.exported (.ref x) <||> (do return (← Bytes.exportsOf (.ref x)) > 0)) Q E s := by
 refine aa (sf ?_)
 exact aa (.of (kF hx (aq h)))
theorem eQ {x : Addr} {b : Array UInt8} {f : Array UInt8 → Array UInt8} {M : Model} {Q : Unit → Shared → Prop} {E : Value → Shared → Prop} (hx : s.heap.get? x = some { cls := .type "bytearray", data := .bytearray b }) (hz : (f b).size ≤ sizeLine)
 (h : ∀ h' : Heap, h'.get? x = some { cls := .type "bytearray", data := .bytearray (f b) } → Heap.SameBut x s.heap h' → Q () { s with heap := h' }) : wpAny M A (Bytes.write (.ref x) f) Q E s := by
 refine wpAny_bind (wpAny_load hx ?_)
 have hu : (s.heap.update x (Obj.mapBytearray f)).get? x = some { cls := .type "bytearray", data := .bytearray (f b) } := Heap.get?_update_self _ hx rfl
 refine wpAny_bind (wpAny_update hx ?_)
 refine wpAny_lookBehind hu ?_ (h _ hu (Heap.SameBut.update ..))
 dsimp only [Data.pastItsLine]
 simp
 assumption
theorem MI : Bytes.bindOptional "bytearray.__init__" "bytearray" ["source", "encoding", "errors"] [] [] = pure [none, none, none] := by kernel_rfl
theorem MJ (v : Value) : Bytes.bindOptional "bytearray.__init__" "bytearray" ["source", "encoding", "errors"] [v] [] = pure [some v, none, none] := by kernel_rfl
theorem D9 {x : Addr} {Q : PySem.Fin → Shared → Prop} (hx : s.heap.get? x = some { cls := .type "bytearray", data := .bytearray #[] })
 (h : ∀ h' : Heap, h'.get? x = some { cls := .type "bytearray", data := .bytearray #[] } → Heap.SameBut x s.heap h' → Q (.done (.ret .none)) { s with heap := h' }) : bt (model prog w) A («bytearray.__init__» ⟨[.ref x], []⟩) Q E s := by
 have hT : s.TypeIs (.ref x) "bytearray" := ⟨_, hx, rfl⟩
 refine aa (.of (own_release hT ?_))
 refine bP (by decide) ?_
 refine aa (.of (wpAny_of_eq MI ?_))
 refine aa (.of (wpAny_of_eq (a := ()) rfl ?_))
 refine aa (.of (wpAny_of_eq (a := ()) rfl ?_))
 refine aa (sh hx ?_)
 refine bP (by decide) ?_
 refine aa (.of (eQ hx (by decide) fun h' h1 h2 => ?_))
 refine aa (.of (wpAny_of_eq (a := ()) rfl ?_))
 exact aq (h h' h1 h2)
theorem fD : typeLookup (.type "bytes") "__index__" = pure none := by rw [typeLookup_type, builtinLookup_eq_fast]; kernel_rfl
theorem nQ {id : String} {b : Array UInt8} {t : Tok} {full : Bool} {M : Model} {Q : Option (Array UInt8) → Shared → Prop} {E : Value → Shared → Prop} (h : Q (some b) s) : wpAny M A (Bytes.buffer? id (.bytes b t) full) Q E s := by
 dsimp only [Bytes.buffer?]
 have hT : s.TypeIs (.bytes b t) "bytes" := PySem.W.typeIs_bytes _ _ _
 refine wpAny_bind (wpAny_specialOf hT KBy.look_buffer ?_)
 refine wpAny_bind (wpAny_bind (wpAny_specialOf hT KBy.look_buffer ?_))
 refine bm_if_false (by decide +kernel) ?_
 refine wpAny_isInstance (T := "bytes") hT (b := true) (by refine ae (show ("bytes.__buffer__".dropRight ("__buffer__".length + 1)) = "bytes" by decide +kernel) ?_; exact F.bm_sub) ?_
 refine bm_if_false rfl ?_
 refine wpAny_bind (wpAny_specialOf hT KBy.look_buffer ?_)
 refine wpAny_bind (wpAny_bind (wpAny_bind (wpAny_specialOf hT KBy.look_release (wpAny_pure (wpAny_pure ?_)))))
 refine bm_if_false rfl ?_
 exact wpAny_bind (wpAny_of_eq (a := b) rfl (wpAny_pure h))
theorem Ea {x : Addr} {b : Array UInt8} {t : Tok} {Q : PySem.Fin → Shared → Prop} (hz : b.size ≤ 65536) (hx : s.heap.get? x = some { cls := .type "bytearray", data := .bytearray #[] })
 (h : ∀ h' : Heap, h'.get? x = some { cls := .type "bytearray", data := .bytearray b } → Heap.SameBut x s.heap h' → Q (.done (.ret .none)) { s with heap := h' }) : bt (model prog w) A («bytearray.__init__» ⟨[.ref x, .bytes b t], []⟩) Q E s := by
 have hT : s.TypeIs (.ref x) "bytearray" := ⟨_, hx, rfl⟩
 refine aa (.of (own_release hT ?_))
 refine bP (by decide) ?_
 refine aa (.of (wpAny_of_eq (MJ _) ?_))
 refine aa (.of (wpAny_of_eq (a := ()) rfl ?_))
 refine aa (.of (wpAny_of_eq (a := ()) rfl ?_))
 refine aa (sh hx ?_)
 refine bP (by decide) ?_
 refine aa (.of (eQ hx (by decide) fun h' h1 h2 => ?_))
 refine aa (.of (wpAny_of_eq (a := none) rfl ?_))
 refine aa (.of (wpAny_of_eq (a := ()) rfl ?_))
 refine aa (.of (wpAny_specialOf (T := "bytes") (PySem.W.typeIs_bytes _ _ _) fD ?_))
 refine bP (by decide) ?_
 refine aa (.of (nQ ?_))
 refine aa (.of (wpAny_rule ?_))
 refine aa (.of (eQ h1 (by refine ae sizeLine_eq ?_; exact Nat.le_trans ‹_› (by decide)) fun Fe h3 h4 => ?_))
 exact aq (h Fe h3 (h2.trans h4))
end
section
variable {prog : Program} {w : World} {A : Around} {E : Value → Shared → Prop} {s : Shared}
theorem parts_of {a : Addr} {l u : Value} {lo hi : Option Int} {M : Model} {Q : Value × Value × Value → Shared → Prop} (hs : s.heap.IsSliceOf a l u .none) (hl : IsPart l lo) (hu : IsPart u hi) (h : Q (rawPart lo, rawPart hi, rawPart none) s) :
 wpAny M A (Bytes.sliceParts (.ref a)) Q E s := by
 obtain ⟨o, ho, hc, hd⟩ := hs
 refine wpAny_bind (wpAny_field (x := .none) ho hd rfl ?_)
 kby_none
 refine wpAny_ite (KBy.ite_no (show ¬ ((Value.none == rawInt 0) = true) from Bool.false_ne_true) ?_)
 refine wpAny_bind (wpAny_field (x := l) ho hd rfl ?_)
 cases hl <;> cases hu <;> (first
  | (kby_none; (refine wpAny_bind (wpAny_field (x := .none) ho hd rfl ?_)); kby_none)
  | (kby_none; (refine wpAny_bind (wpAny_field (x := .int _ _) ho hd rfl ?_)); kby_int)
  | (kby_int; (refine wpAny_bind (wpAny_field (x := .none) ho hd rfl ?_)); kby_none)
  | (kby_int; (refine wpAny_bind (wpAny_field (x := .int _ _) ho hd rfl ?_)); kby_int)) <;> exact wpAny_pure h
theorem nR : typeLookup (.type "bytes") "__int__" = pure none := by rw [typeLookup_type, builtinLookup_eq_fast]; kernel_rfl
theorem kG : typeLookup (.type "bytes") "__float__" = pure none := by rw [typeLookup_type, builtinLookup_eq_fast]; kernel_rfl
theorem lI : isSubtype (.type "bytes") (.type "bytearray") = pure false := by rw [isSubtype_type]; kernel_rfl
theorem lJ : isSubtype (.type "bytes") (.type "complex") = pure false := by rw [isSubtype_type]; kernel_rfl
theorem tK {b : Array UInt8} {i j n : Nat} (h : b.size ≤ n) : (b.extract i j).size ≤ n := by
 refine ae Array.size_extract ?_
 exact Nat.le_trans (Nat.sub_le ..) (Nat.le_trans (Nat.min_le_right ..) h)
theorem xo (a b : Nat) : (Max.max (a : Int) (b : Int)).toNat = max a b := by
 rcases Nat.le_total a b with h | h
 ·refine ae (Nat.max_eq_right h) ?_; refine ae (Int.max_eq_right (Int.ofNat_le.mpr h)) ?_; rfl
 ·refine ae (Nat.max_eq_left h) ?_; refine ae (Int.max_eq_left (Int.ofNat_le.mpr h)) ?_; rfl
theorem vd {x sl : Addr} {b v : Array UInt8} {t : Tok} {l u : Value} {lo hi : Option Int} {Q : PySem.Fin → Shared → Prop} (hx : s.heap.get? x = some { cls := .type "bytearray", data := .bytearray b }) (hs : s.heap.IsSliceOf sl l u .none) (hl : IsPart l lo) (hu : IsPart u hi)
 (hz : b.size ≤ 65536) (hv : v.size ≤ 65536)
 (h : ∀ (h' : Heap) tk, h'.get? x = some { cls := .type "bytearray", data := .bytearray (b.extract 0 (lo.elim 0 (clipAt b.size)) ++ v ++ b.extract (max (lo.elim 0 (clipAt b.size)) (hi.elim b.size (clipAt b.size))) b.size) } →
  (∀ a o, a ≠ x → s.heap.get? a = some o → h'.get? a = some o) → Q (.done (.ret .none)) { s with heap := h', toks := tk }) :
 bt (model prog w) A («bytearray.__setitem__» ⟨[.ref x, .ref sl, .bytes v t], []⟩) Q E s := by
 have hT : s.TypeIs (.ref x) "bytearray" := ⟨_, hx, rfl⟩
 have hV : s.TypeIs (.bytes v t) "bytes" := PySem.W.typeIs_bytes _ _ _
 have hS : s.TypeIs (.ref sl) "slice" := by refine (hs).elim fun o aj => (aj).elim fun ho ay => (ay).elim fun hc _ => ?_; exact ⟨o, ho, hc⟩
 delta Builtin.«bytearray.__setitem__»
 dsimp only
 refine bP (by decide) ?_
 refine aa (.of ?_)
 refine wpAny_bind (wpAny_specialOf hS slice_no_index (wpAny_pure ?_))
 refine aa (.of (wpAny_typeOf hS ?_))
 refine bP (by decide) ?_
 refine aa (.of (parts_of hs hl hu ?_))
 refine aa (.of (wpAny_isInstance hV lI ?_))
 refine tj (by decide) ?_
 refine aa (.of ?_)
 refine wpAny_bind (wpAny_bind (wpAny_specialOf hV fD (wpAny_pure ?_)))
 refine wpAny_bind (wpAny_bind (wpAny_specialOf hV nR (wpAny_pure ?_)))
 refine wpAny_bind (wpAny_bind (wpAny_specialOf hV kG (wpAny_pure ?_)))
 refine wpAny_isInstance hV lJ ?_
 refine aa (.of (wpAny_of_eq (a := none) rfl ?_))
 refine bP (by decide) ?_
 refine aa (.of (wpAny_rule ?_))
 refine aa (mH (BA.MA _) (BA.MC _) (fun x => BA.ME x _) fun A' => Ea hv (Heap.get?_push_size _ rfl) fun h1 g1 g2 => ⟨rfl, ?_⟩)
 have hold : ∀ a o, s.heap.get? a = some o → h1.get? a = some o := fun a o e => (g2.2 a (Nat.ne_of_lt (Heap.lt_size e))).trans (Heap.get?_push_of_some _ e)
 have Fu : h1.IsSliceOf sl l u .none := by refine (hs).elim fun o aj => (aj).elim fun ho ay => (ay).elim fun hc hd => ?_; exact ⟨o, hold _ _ ho, hc, hd⟩
 refine aa (aA (.of (parts_of (s := { s with heap := h1 }) Fu hl hu ?_)))
 refine aa (.of (eP (s := { s with heap := h1 }) g1 ?_))
 refine aa (.of (eP (s := { s with heap := h1 }) (hold _ _ hx) ?_))
 refine aa (.of (wpAny_of_eq (sliceIndices_raw lo hi none b.size (fun e => nomatch e)) ?_))
 rw [sliceBounds_plain]
 dsimp -iota only
 refine tj (by decide) ?_
 refine aa (.of (wpAny_rule ?_))
 have fin : bt (model prog w) A (Bytes.write (.ref x) (fun b' => b'.extract 0 ((lo.elim 0 (clipAt b.size) : Nat) : Int).toNat ++ v ++ b'.extract (Max.max ((lo.elim 0 (clipAt b.size) : Nat) : Int) ((hi.elim b.size (clipAt b.size) : Nat) : Int)).toNat b'.size) >>= fun J => ret .none) Q E { s with heap := h1 } := by
  refine aa (.of (eQ (s := { s with heap := h1 }) (hold _ _ hx) ?_ fun h2 k1 k2 => ?_))
  ·refine ae sizeLine_eq ?_; refine ae Array.size_append ?_; refine ae Array.size_append ?_
   exact Nat.le_trans (Nat.add_le_add (Nat.add_le_add (tK hz) hv) (tK hz)) (by decide)
  ·refine aq (h h2 s.toks ?_ fun a o ha e => (k2.2 a ha).trans (hold a o e))
   refine ae k1 ?_
   rw [xo]; rfl
 refine yJ (aa ?_) fin
 refine aa (sh (s := { s with heap := h1 }) (hold _ _ hx) ?_)
 refine bP (by decide) ?_
 exact aq fin
end
namespace BA
theorem du : Slot "bytearray" "__setitem__" "bytearray.__setitem__" :=
 .of (owner := "bytearray") (n := "__setitem__") (by rw [typeLookup_type, builtinLookup_eq_fast]; kernel_rfl) (by decide +kernel) (by decide +kernel) (by decide +kernel)
  (by first | exact .inl (by decide +kernel) | exact .inr (by decide +kernel)) (by rw [isSubtype_type]; kernel_rfl)
theorem lK : entryFor table "bytearray.__setitem__" = some Builtin.«bytearray.__setitem__» := by first | exact entryFor_of_fast (by kernel_rfl) | exact entryFor_of_tree (by kernel_rfl)
theorem nS (a b c : Value) : argsOk "bytearray.__setitem__" ⟨[a, b, c], []⟩ := by skip; kernel_rfl
end BA
section
variable {Z : aL} {L : Nat} {cs : Fm} {Ar : Around} {c c' : Cfg} {A : AS} {s s' : Shared}
theorem si {o lo hi v : V} {u l h w : Value} (H : St Z L cs c A s) (ro : VR c o u) (rl : VR c lo l) (rh : VR c hi h) (rv : VR c v w) {k : Value → Sem Unit} {pos : Pos}
 (hk : ∀ i, k i = (standAt pos >>= fun J => holding [w, u, i] (setItem u i w))) : au Z L cs Ar (newFields "slice" [l, h, .none] >>= k) UR (gw o lo hi v A) c s := by
 have vW : ∀ b o', s.heap.get? b = some o' → (s.heap.push { cls := .type "slice", data := .fields #[l, h, .none] }).get? b = some o' := fun b o' e => Heap.get?_push_of_some _ e
 have H1 : St Z L cs c A { s with heap := s.heap.push { cls := .type "slice", data := .fields #[l, h, .none] } } := H.bk vW rfl rfl
 have a4 : Le Z L c s c { s with heap := s.heap.push { cls := .type "slice", data := .fields #[l, h, .none] } } := Le.bk vW
 refine .bnd fun j J => .bnd fun x J => .bnd fun b J => .dM fun hlen => .bnd fun pq hc => ?_
 obtain ⟨j, rfl⟩ := j
 obtain ⟨x, rfl⟩ := x
 obtain ⟨b, hm⟩ := b
 obtain ⟨p, q⟩ := pq
 obtain ⟨hj, rfl⟩ := ro
 obtain ⟨DV, t, rfl⟩ := rv
 dsimp -iota only at hlen hc
 obtain ⟨xb, cN, pl, pu, e1, _, e2⟩ := fU hc rl rh
 refine (H1.objs _ _ hm).elim fun hb e0 => ?_
 have hz : (BS.den c.ρ b).toArray.size = BS.len b := by rw [List.size_toArray, BS.bq]
 have MK : (BS.den c.ρ x).toArray.size = BS.len x := by rw [List.size_toArray, BS.bq]
 intro r er
 obtain rfl := aO er
 refine iN ?_
 rw [hk]
 refine aa (aY (aA ?_))
 dsimp only [setItem]
 refine aA ?_
 have hT : ({ s with heap := s.heap.push { cls := .type "slice", data := .fields #[l, h, .none] } } : Shared).TypeIs (.ref (c.σ j).1) "bytearray" := ⟨_, e0, rfl⟩
 refine aa (.of (wpAny_sequenceKey hT (by decide) ?_))
 refine aa ?_
 dsimp only [callSpecial?]
 refine aa (.of (wpAny_specialOf hT BA.du.lookup ?_))
 refine aA (aa ?_)
 rw [BA.du.bind]
 refine aq (aa (cy (bS (plainId_quiet BA.du.plain _) (by decide +kernel) BA.lK (BA.du.check _ _ _ _ _ _ _ _ hT (BA.nS _ _ _) ?_))))
 refine vd e0 (Heap.IsSliceOf.new _ _ _ _) pl pu (by refine ae hz ?_; omega) (by refine ae MK ?_; omega) fun h' tk g1 g2 => ?_
 refine aq (aq ?_)
 have D4 : ∀ a ob, (s.heap.push { cls := .type "slice", data := .fields #[l, h, .none] }).get? a = some ob → a ≠ (c.σ j).1 → a ≠ (c.σ j).2 → h'.get? a = some ob := fun a ob e q J => g2 a ob q e
 have Ky : a6 (s.heap.push { cls := .type "slice", data := .fields #[l, h, .none] }) h' := wQ e0 (a7 rfl (by decide)) g1 fun a ob q e => g2 a ob q e
 refine ⟨(), _, c, .head _, a4.trans (Le.change (s' := { s with heap := h', toks := tk }) H1.toHp hj D4 Ky), H1.change (s' := { s with heap := h', toks := tk }) hj D4 Ky ⟨BS.j6 (BS.tC hb) (BS.j6 DV (BS.tB hb)), ?_⟩ rfl rfl, trivial⟩
 refine g1.trans ?_
 congr 3
 refine ae hz ?_; refine ae e1 ?_; refine ae e2 ?_
 apply Array.toList_inj.mp
 simp -iota only [Array.toList_append, Array.toList_extract, List.extract_eq_take_drop, List.toList_toArray]
 rw [BS.fR, BS.fR, BS.ph, BS.pg]
 simp -iota only [List.drop_zero, Nat.sub_zero, List.append_assoc]
 congr 2
 exact List.take_of_length_le (by rw [List.length_drop, BS.bq]; exact Nat.le_refl _)
end
end aD
end
section
open PySem PySem.Calls PyProof.Rows PySem.W PySem.SeqAt PySem.Builtin
set_option maxRecDepth 100000
namespace aD
theorem tL {Z : aL} (G : Z.Glob) : bY Z where
 bin := fun J H ra rb => uJ H ra rb
 BL := fun J H ra rb => rL H ra rb
 cmp := fun hr H ra rb => uR G hr H ra rb
 truth := fun J H ra => pD H ra
 neg := fun J H r => uS H r
 item := fun hx J H ro ri => rO G hx H ro ri
 slice := by intro Ar L cs c A s o lo hi u l h x y p _ H ro rl rh k pos hk; exact pH H ro rl rh hk
 attr := fun J H ro => rR G H ro
 lst := fun J H r => uH H r
 tup := fun J H r => uI H r
 emp := fun J H => uU H
theorem xp {Z : aL} (G : Z.Glob) : bQ Z where
 BM := fun J H ro rv => rS G H ro rv
 ni := fun J H ro ri rv => rP G H ro ri rv
 qT := by intro Ar L cs c A s o lo hi v u l h w _ H ro rl rh rv k pos hk; exact si H ro rl rh rv hk
 iD := fun J H ro ri => rT G H ro ri
 yR := fun hr H hm => rU hr H hm
section
variable {Z : aL} {n : Nat} {ih : bM} {L : Nat} {cs : Fm} {Ar : Around} {c c' : Cfg} {A : AS} {s s' : Shared}
theorem sj (H : St Z L cs c A s) {b : Bool} {u : Value} (r : VR c (.bool b) u) : au Z L cs Ar (call (.type "int") [u]) VR (ok (.int (.lit (if b then 1 else 0))) A) c s := by
 subst r
 refine .look H fun Q E q => call_int_bool (q _ (s.toks + 1) ⟨trivial, s.toks, ?_⟩)
 cases b <;> rfl
theorem pT (H : St Z L cs c A s) : au Z L cs Ar (call (.type "bytearray") []) VR (ok (V.loc (A.alloc (.bT [])).1) (A.alloc (.bT [])).2) c s := by
 intro r er
 obtain rfl := aO er
 refine mH BA.Mz BA.MB BA.MD fun A' => D9 (Heap.get?_push_size _ rfl) fun h' g1 g2 => ⟨rfl, ?_⟩
 have hk : ∀ a o, s.heap.get? a = some o → h'.get? a = some o := fun a o e => (g2.2 a (Nat.ne_of_lt (Heap.lt_size e))).trans (Heap.get?_push_of_some _ e)
 have hz := get_size s.heap
 refine ⟨_, _, c.push (s.heap.objs.size, s.heap.objs.size), .head _, Le.alloc (s' := { s with heap := h' }) hk hz hz, H.alloc (s' := { s with heap := h' }) hk ⟨hz, _, g1⟩ ⟨hz, _, g1⟩ ⟨trivial, by rw [c.aI]; exact g1⟩ rfl rfl, ?_, ?_⟩
 ·refine (?_ : A.n < c.n + 1); refine ae H.n ?_; exact Nat.lt_succ_self _
 ·refine (?_ : _ = Value.ref ((c.push _).σ A.n).1)
  rw [← H.n, c.aI]
theorem tM {α β : Type} {p : Prop} [Decidable p] {o : Option α} {f : α → β} {b : β} (h : (if p then o.map f else none) = some b) : p ∧ ∃ a, o = some a ∧ f a = b := by
 by_cases hp : p
 ·exact ⟨hp, Dd ((if_pos hp).symm.trans h)⟩
 ·exact no ((if_neg hp).symm.trans h)
theorem ints_in {n : Int} {ns : List Int} (hn : 0 ≤ n ∧ n < 256) (h : ∀ m ∈ ns, 0 ≤ m ∧ m < 256) : ∀ m ∈ n :: ns, 0 ≤ m ∧ m < 256 := fun m hm => by
 rcases fg hm with rfl | hm
 ·exact hn
 ·exact h m hm
theorem ib {n : Int} {ns : List Int} {l : List UInt8} (h : (byteArr ns).toList = l) : (byteArr (n :: ns)).toList = UInt8.ofNat n.toNat :: l := by
 refine bK h ?_; simp [byteArr]
set_option backward.match.sparseCases false in
theorem ints_of : ∀ {xs : List V} {us : List Value} {b : BS}, cW A.vars xs = some b → (∀ k d, A.vars[k]? = some d → VD.ok c.ρ k d) → dk c xs us →
 ∃ ns : List Int, IntsAre us ns ∧ (∀ n ∈ ns, 0 ≤ n ∧ n < 256) ∧ (byteArr ns).toList = BS.den c.ρ b ∧ BS.lt c.nv b
 | [], _, b, h, _, r => by obtain rfl := r.nil_inv; obtain rfl := aO h; exact ⟨[], .nil, (fun n h => by cases h), rfl, trivial⟩
 | x :: xs, _, b, h, hv, r => by
  obtain ⟨_, _, rfl, r1, r2⟩ := r.cons_inv
  cases x with
  | int y => cases y with
   | lit n =>
    obtain ⟨hn, b', hb, rfl⟩ := tM h
    refine (ints_of hb hv r2).elim fun ns aj => (aj).elim fun q1 ay => (ay).elim fun q2 aP => (aP).elim fun q3 q4 => ?_
    obtain ⟨_, t, rfl⟩ := r1
    exact ⟨n :: ns, .cons _ _ q1, ints_in hn q2, (ib q3).trans (by rw [BS.hW]; rfl), BS.nF trivial q4⟩
   | va k o =>
    have h : (if o = 0 then (match getL A.vars k with
     | some (.int lo hi) => if 0 ≤ lo ∧ hi ≤ 256 then (cW A.vars xs).map (BS.cons (.rep k 1)) else none
     | _ => none) else none) = some b := h
    rw [bJ] at h
    by_cases ho : o = 0
    case neg => rw [if_neg ho] at h; exact no h
    subst ho
    rw [if_pos rfl] at h
    generalize ML : A.vars[k]? = o at h
    cases o with
    | none => exact no h
    | some d => cases d with
     | int lo hi =>
      obtain ⟨hl, b', hb, rfl⟩ := tM h
      refine (ints_of hb hv r2).elim fun ns aj => (aj).elim fun q1 ay => (ay).elim fun q2 aP => (aP).elim fun q3 q4 => ?_
      obtain ⟨hk, t, hu⟩ := r1
      have hu : _ = Value.int (c.ρ.i k) t := hu.trans (by refine (?_ : Value.int (c.ρ.i k + 0) t = _); rw [Int.add_zero])
      subst hu
      have hd := hv _ _ ML
      exact ⟨c.ρ.i k :: ns, .cons _ _ q1, ints_in ⟨Int.le_trans hl.1 hd.1, Int.lt_of_lt_of_le hd.2 hl.2⟩ q2, (ib q3).trans (by rw [BS.hW]; rfl), BS.nF hk q4⟩
     | _ => exact no h
  | _ => exact no h
theorem nT (H : St Z L cs c A s) {n : Int} {t : Tok} : au Z L cs Ar (call (.type "bytes") [.int n t]) VR (wj n A) c s := by
 refine .dM fun hn => .look H fun Q E q => nP hn.1 (Int.le_trans hn.2 (by decide)) fun t' k => q _ _ ?_
 by_cases h0 : n = 0
 ·subst h0; exact ⟨trivial, t', rfl⟩
 ·refine ae (if_neg h0) ?_
  refine ⟨⟨trivial, trivial⟩, t', ?_⟩
  refine (?_ : Value.bytes _ _ = Value.bytes (List.map UInt8.ofNat (List.replicate n.toNat 0) ++ []).toArray _)
  rw [List.map_replicate, List.append_nil, ← List.toArray_replicate]; rfl
theorem nU (hr : Room 1 Ar cs) (H : St Z L cs c A s) {i : Nat} : au Z L cs Ar (call (.type "bytes") [.ref (c.σ i).1]) VR (qY i A) c s := by
 delta qY
 cases hm : A.heap.get i with
 | none => exact .none
 | some ob => cases ob with
  | bT b =>
   refine .dM fun hl => ?_
   refine (H.objs _ _ hm).elim fun hb e0 => ?_
   exact .look H fun Q E q => lG e0 (by rw [List.size_toArray, BS.bq]; exact hl) fun t' k => q _ _ ⟨hb, t', rfl⟩
  | list xs =>
   refine .dM fun hl => .opt fun a ha => ?_
   obtain ⟨vs, ep, e1, r1⟩ := H.objs _ _ hm
   obtain ⟨b, hb, rfl⟩ := Dd ha
   obtain ⟨ns, q1, q2, q3, q4⟩ := ints_of hb H.vars r1
   refine .done fun Q E q => call_bytes_ints (vs := vs.toList) ⟨_, e1, rfl, _, by refine ae Array.toArray_toList ?_; rfl⟩ q1 q2 (by refine ae sizeLine_eq ?_; refine bK r1.length ?_; exact Nat.le_trans hl.1 (by decide)) (hr.quiet H (yt hl.2)) fun h' t k hk => ?_
   refine q _ _ c (Le.bk (s' := { s with heap := h', toks := k }) hk) (H.bk (s' := { s with heap := h', toks := k }) hk rfl rfl) ⟨q4, t, ?_⟩
   refine bK q3 ?_; rfl
  | _ => exact .none
theorem nV (hr : Room 1 Ar cs) (H : St Z L cs c A s) {as : List V} {us : List Value} (r : dk c as us) : au Z L cs Ar (call (.type "bytes") us) VR (tc as A) c s := by
 refine .bnd fun v hv => ?_
 obtain ⟨u, rfl, r⟩ := dF hv r
 cases v with
 | int x => cases x with
  | lit n => obtain ⟨_, t, rfl⟩ := r; exact nT H
  | va _ _ => exact .none
 | bytes b =>
  obtain ⟨hb, t, rfl⟩ := r
  exact .look H fun Q E q => kD fun t' k => q _ _ ⟨hb, t', rfl⟩
 | loc i => obtain ⟨hi, rfl⟩ := r; exact nU hr H
 | _ => exact .none
theorem ve {n : Int} (h : 0 ≤ n) (h1 : n < 10) : n.natAbs.log2 < 1920 := by
 obtain ⟨k, rfl⟩ := Int.eq_ofNat_of_zero_le h
 have : k < 10 := by omega
 exact Nat.lt_of_le_of_lt (Nat.log2_le_self _) (Nat.le_trans ‹_› (by decide))
theorem vf {n : Int} (h : 0 ≤ n) (h1 : n < 10) : strOf [48 + n.toNat] = Str.ofString (toString n) := by
 obtain ⟨k, rfl⟩ := Int.eq_ofNat_of_zero_le h
 have : k < 10 := by omega
 exact (by decide +kernel : ∀ k : Fin 10, strOf [48 + (k.val : Int).toNat] = Str.ofString (toString (k.val : Int))) ⟨k, this⟩
theorem nW (hr : Room 1 Ar cs) (H : St Z L cs c A s) {t : Ty} {as : List V} {us : List Value} (r : dk c as us) : au Z L cs Ar (call (.type t.name) us) VR (wk t as A) c s := by
 cases t <;> first | exact .none | skip
 ·exact nV hr H r
 ·refine (?_ : au Z L cs Ar (call (.type "bytearray") us) VR (qZ as A) c s)
  delta qZ
  split
  ·cases r; exact pT H
  ·exact .none
 ·refine .bnd fun v hv => .bnd fun b J => ?_
  obtain ⟨u, rfl, r1⟩ := dF hv r
  obtain ⟨b, rfl⟩ := b
  exact sj H r1
 ·refine .bnd fun v hv => .bnd fun n hl => .dM fun hn => ?_
  obtain ⟨u, rfl, r1⟩ := dF hv r
  obtain ⟨t, rfl⟩ := cz hl r1
  refine .look H fun Q E q => PySem.P.str_of_int (ve hn.1 hn.2) (q _ _ ⟨s.toks, ?_⟩)
  refine ae (vf hn.1 hn.2) ?_; rfl
end
section
variable {prog : Program} {w : World} {A : Around} {R : Result → Shared → Prop} {s : Shared}
theorem sk {e : Expr} {env : Env}
 (h : bt (model prog w) (A.deeper env) (eval e env) (fun v s' => R (.ok (.ret v)) s') (fun e' s' => bt (model prog w) (A.deeper env) (leaving env e') (fun J ew => R (.error e') ew) (fun Gy ew => R (.error Gy) ew) s') s) :
 bj (model prog w) A (.expr e env) R s := by
 refine aZ rfl ?_
 refine (?_ : bt _ (A.deeper env) (do point; ret (← (eval e env).onRaise (leaving env))) _ _ s)
 exact aa (lW (aa (aU (az h (fun v s' h' => aq h') fun J J h' => h'))))
theorem ic {a : Addr} {args : Args} {o : Obj} {fd : FuncData} {body : Expr} (xd : A.depth < recursionLimit)
 (ho : s.heap.get? a = some o) (BO : o.data = .func fd) (GQ : fd.scope.isCoroutine = false) (B4 : fd.scope.isGenerator = false) (xe : fd.body = .expr body) (C3 : de s.heap fd.code)
 (h : ∀ q : Str, wpAny (model prog w) A.in1 (bindArgs fd args) (fun binds aV =>
  wpAny (model prog w) A.in1 (newFunctionEnv fd.scope fd.globals fd.closure binds (q ++ ".<locals>.") (some a) fd.code none fd.builtins)
   (fun env gd => gd.heap.NoLimit ∧ bj (model prog w) A (.expr body env) R gd) (fun e s' => R (.error e) s') aV) (fun e s' => R (.error e) s') s) :
 bj (model prog w) A (.call (.ref a) args) R s := by
 refine cj rfl ?_
 refine (?_ : wpAny _ A.in1 (callAny (.ref a) args) _ _ s)
 refine (C3).elim fun c aj => (aj).elim fun oc ay => (ay).elim fun hc aP => (aP).elim fun GR bF => (bF).elim fun _ cZ => (cZ).elim fun vs ia => (ia).elim fun q pL => (pL).elim fun tq rV => (rV).elim fun GS hq => ?_
 refine nd_load ho ?_
 obtain ⟨k1, k2, k3, k4⟩ := o
 obtain rfl : k3 = .func fd := BO
 refine (?_ : wpAny _ A.in1 (callFunction a fd args) _ _ s)
 delta callFunction
 refine ae hc ?_; refine ae xe ?_; refine ae B4 ?_; refine ae GQ ?_
 rw [hc] at h
 refine wpAny_bind (m := field (.ref c) 1) (wpAny_field GR GS hq (wpAny_bind (wpAny_pure ?_)))
 exact wpAny_bind (wpAny_mono (h q) (fun binds aV bZ => wpAny_bind (wpAny_mono bZ (fun env gd xf => wpAny_bind (wpAny_enterFrame xf.1 xd
  (wpAny_pure (And.intro rfl xf.2)))) fun J J h' => h')) fun J J h' => h')
end
section
variable {Z : aL} {n : Nat} {ih : bM} {L : Nat} {cs : Fm} {Ar : Around} {c c' : Cfg} {A : AS} {s s' : Shared} {env : Env} {sc : cG} {m : Nat}
structure G1 (ar : Arguments) (scope : Scope) : Prop where
 po : ar.posonlyargs = []
 ag : ar.args = []
 ko : ar.kwonlyargs = []
 va : ar.vararg = none
 kw : ar.kwarg = none
 df : ar.defaults = []
 kd : ar.kw_defaults = []
 kind : scope.kind = .function
 co : scope.isCoroutine = false
 gen : scope.isGenerator = false
 names : ∀ x ∈ scope.names, x.2 ≠ .cell ∧ x.2 ≠ .local
theorem Eb {ar : Arguments} {scope : Scope} (h : jU ar scope = true) : G1 ar scope := by
 delta jU at h
 refine (ao h).elim fun h MM => ?_
 refine (ao h).elim fun h MN => ?_
 refine (ao h).elim fun h h9 => ?_
 refine (ao h).elim fun h h8 => ?_
 refine (ao h).elim fun h h7 => ?_
 refine (ao h).elim fun h h6 => ?_
 refine (ao h).elim fun h h5 => ?_
 refine (ao h).elim fun h h4 => ?_
 refine (ao h).elim fun h h3 => ?_
 refine (ao h).elim fun h1 h2 => ?_
 refine ⟨sY h1, sY h2, sY h3, yt h4, yt h5, sY h6, sY h7, of_decide_eq_true h8, ?_, ?_, fun x hx => ?_⟩
 ·simpa using h9
 ·simpa using MN
 ·have := lP MM x hx
  simpa using this
set_option backward.match.sparseCases false in
theorem mI {i : Nat} {l : bC V} (e : jN ih i [] A = some l) : ∃ ks b l0, A.heap.get i = some (.Ax ks b) ∧ ih.e b { A with locs := [], cells := ks } = some l0 ∧ l = eB A _root_.id l0 := by
 delta jN at e
 dsimp only at e
 generalize hm : A.heap.get i = o at e
 cases o with
 | none => exact no e
 | some ob => cases ob with
  | Ax ks b =>
   dsimp only at e
   generalize hl : ih.e b { A with locs := [], cells := ks } = r at e
   cases r with
   | none => exact no e
   | some l0 => exact ⟨ks, b, l0, rfl, hl, (aO e).symm⟩
  | _ => exact no e
theorem sm {sc : cG} (h : ∀ x ∈ sc, x.2 ≠ NameKind.cell) : fO sc ≠ true := fun q => by
 refine (List.any_eq_true.mp q).elim fun y aj => (aj).elim fun hy hk => ?_
 exact h y hy (eI hk)
theorem so (G : Z.Glob) (I : aC Z n ih) (hn : uZ n Ar cs) (H : St Z L cs c A s) {i : Nat} {l : bC V} (e : jN ih i [] A = some l) :
 bj Z.M Ar (.call (.ref (c.σ i).1) ⟨[], []⟩) (fun r s' => match r with | .ok (.ret v) => QO Z L cs VR l.list c s v s' | .error e => EO Z L cs l.list c s e s' | _ => False) s := by
 obtain ⟨ks, b, l0, hm, AX, rfl⟩ := mI e
 obtain ⟨name, qual, ar, x, scope, cl, pm, cv, ct, h1, h2, h3, h4, h5⟩ := H.objs _ _ hm
 refine (G.uq h3).elim fun q1 aj => (aj).elim fun m q2 => ?_
 have D := Eb q1
 have lF : s.heap.get? s.heap.objs.size = none := get_size _
 refine ic (by have := hn.1; omega) h1 rfl D.co D.gen rfl h2 fun qn => ?_
 refine ja (names := []) (ds := []) D.po D.ko D.va D.kw (by skip; refine ae D.ag ?_; rfl) List.nodup_nil (Nat.le_refl _) (Nat.le_refl _) (Nat.le_refl _) (fun Q' q => wpAny_bind (wpAny_pure (wpAny_pure (q none rfl)))) ?_
 refine wpAny_newFunctionEnv (fun y hy => (D.names y hy).1) (fun y hy => nomatch hy) (fun bZ tN Cc => ?_) D.kind
 have hk : ∀ b o, s.heap.get? b = some o → bZ.get? b = some o := fun b o e => Cc.extBut b o (Nat.ne_of_lt (Heap.lt_size e)) (Heap.get?_push_of_some _ e)
 refine ⟨G.lim.keeps (fun b o e => hk b o (H.base b o e)), sk ?_⟩
 have ze : Le Z s.heap.objs.size c s c { s with heap := bZ, toks := s.toks + ([] : List (Str × Value)).length } := Le.bk hk
 have B6 : Z.h₀.get? s.heap.objs.size = none := by
  cases e : Z.h₀.get? s.heap.objs.size with
  | none => rfl
  | some o => have := H.base _ _ e; rw [lF] at this; cases this
 have eg : ∀ i, i < c.n → s.heap.objs.size ≠ (c.σ i).1 ∧ s.heap.objs.size ≠ (c.σ i).2 := fun i hi => ⟨((H.up i hi).1.ne lF).symm, ((H.up i hi).2.ne lF).symm⟩
 have H0 : Hp Z c A { s with heap := bZ, toks := s.toks + ([] : List (Str × Value)).length } := H.toHp.still (L := s.heap.objs.size) (fun b o e J => hk b o e) (a6.of hk) H.gens rfl B6 eg
 generalize vg : newEnv scope s.heap.objs.size mainGlobals cl (qn ++ ".<locals>.") (some (c.σ i).1) cv none builtinsNs = pU
 have nD : pU.frame = some s.heap.objs.size := by refine bK vg ?_; rfl
 have G3 : pU.scope = scope := by refine bK vg ?_; rfl
 have yx : pU.cells = cl := by refine bK vg ?_; rfl
 have H1 : St Z s.heap.objs.size ⟨ks, cs.hd, pU :: cs.frs⟩ c { A with locs := [], cells := ks } { s with heap := bZ, toks := s.toks + ([] : List (Str × Value)).length } :=
  ⟨H0.re rfl rfl rfl, ⟨B6, Ns.has tN, eg, _, tN, fun y v q => nomatch q⟩, rfl, H.hd.le ze, fun b hb => (by
   have hb : b ∈ (pU :: cs.frs).filterMap (·.frame) := hb
   rw [List.filterMap_cons, nD] at hb
   rcases fg hb with rfl | hb
   ·refine (Ns.has tN).elim fun o e => ?_
    exact ⟨B6, ⟨o, e, Ns.data tN o e⟩, eg⟩
   ·exact (H.outs b hb).le ze (Ns.data tN)), fun P q => (H.tabs P q).ck ze.ck⟩
 have N1 : aS Z scope.names c s.heap.objs.size ⟨ks, cs.hd, pU :: cs.frs⟩ pU := by
  refine ⟨by refine ae G3 ?_; exact D.kind, fun y k e => .inl (by delta Env.kindOf; refine ae G3 ?_; exact e), by refine bK vg ?_; rfl, by refine bK vg ?_; rfl, by refine bK vg ?_; rfl, fun J => ⟨_, rfl⟩, fun y hy => by refine ae yx ?_; exact h4 y hy, fun b hb => by
   rw [nD] at hb; obtain rfl := aO hb
   refine ae List.filterMap_cons ?_; refine ae nD ?_; exact .head _, fun q => absurd q (sm fun y hy => (D.names y hy).1), fun y j hy q => ?_⟩
  refine ae yx ?_; exact h5 y j hy q
 have MO : pU.scope.kind ≠ .module := by refine ae G3 ?_; refine ae D.kind ?_; decide
 have cw := hn.deeper (cl := ks) MO ⟨_, nD⟩
 refine az (I.e q2 cw H1 N1 l0 AX) (fun v gd q => ?_) fun ev gd q => ?_
 ·obtain ⟨fa, A', c', z1, z2, z3, z4⟩ := q
  exact ⟨fa, _, c', iP (f := _root_.id) z1, (ze.trans z2).re lF, H.back (ze.trans z2) lF (by rfl) z3, z4⟩
 ·obtain ⟨j, A', c', z1, z2, z3, ⟨fi, rfl⟩, E, z4⟩ := q
  exact .of (gm cw rfl nD z3 z4 fun s3 dU H3 J => ⟨j, _, c', mE z1, ((ze.trans z2).trans dU).re lF, H.back ((ze.trans z2).trans dU) lF (by rfl) H3, ⟨fi, rfl⟩, E, z4⟩)
theorem pV (G : Z.Glob) (I : aC Z n ih) (hn : Room (n + 1) Ar cs) (H : St Z L cs c A s) {i : Nat} {as : List V} {us : List Value} (r : dk c as us) : au Z L cs Ar (call (.ref (c.σ i).1) us) VR (jN ih i as A) c s := by
 cases r with
 | cons _ _ => exact .none
 | nil =>
  intro l e
  refine cy (bg (so G I hn.deep H e) fun r s' q => ?_)
  cases r with
  | ok fl => cases fl <;> first | exact q | exact q.elim
  | error e => exact q
theorem Ec (H : St Z L cs c A s) {i : Nat} {vs : List V} : jN ih i vs A = none ∨ ∃ k, Looks Z.M s.heap (keeperOf (.ref (c.σ i).1)) k := by
 cases vs with
 | cons _ _ => exact .inl rfl
 | nil =>
  cases e : jN ih i [] A with
  | none => exact .inl rfl
  | some l =>
   refine (mI e).elim fun ks aj => (aj).elim fun b ay => (ay).elim fun l0 aP => (aP).elim fun hm _ => ?_
   obtain ⟨name, qual, ar, x, scope, cl, pm, cv, ct, h1, _⟩ := H.objs _ _ hm
   exact .inr ⟨.frame, (Looks.ld (part := none) h1).andThen .now⟩
end
section
variable {Z : aL} {n : Nat} {ih : bM} {L : Nat} {cs : Fm} {Ar : Around} {c c' : Cfg} {A : AS} {s s' : Shared} {env : Env} {sc : cG} {m : Nat}
theorem mJ {x : Expr} {name : Str} {apos pos : Pos} {u : Value} {k : Nat} {ts : List (Sem Value)} {r : Res V} {P : Value → List Value → Shared → Prop} (hk : k < 30) (hp : (apos.endLine == pos.line) = true)
 (hm : ∀ (pl : Sem Bool) (Q : Value × List Value → Shared → Prop) (E : Value → Shared → Prop), (∀ f first s', P f first s' → Q (f, first) s') → wpAny Z.M Ar (getMethod u name pl) Q E s)
 (h : ∀ f first s', P f first s' → ∀ l, r = some l → bt Z.M Ar (callWith pos f first (ts.map fun t => (false, t)) []) (QO Z L cs VR l.list c s) (EO Z L cs l.list c s) s') :
 au Z L cs Ar (methodCall x name apos pos env u k (ts.map fun t => (false, t)) []) VR r c s := by
 intro l e
 dsimp only [methodCall]
 have hf : methodCallForm k (ts.map fun t => ((false, t) : Bool × Sem Value)) [] = true := by
  delta methodCallForm
  refine ae List.all_map ?_
  simp [hk]
 refine ae hf ?_
 refine aa (aA ?_)
 delta calleeOf
 refine ae (if_pos rfl) ?_
 refine .of (hm _ _ _ fun f first s' hP => ?_)
 dsimp only [methodCallPos]
 refine ae hp ?_
 refine aa ?_
 refine ae (if_pos (by decide)) ?_
 exact aq (h f first s' hP l e)
theorem mK (inj : ∀ x y, Z.nm x = Z.nm y → x = y) {f : Nat} : ∀ {fs : List (Nat × V)} {es : List DictEntry}, aT (fun (f : Nat × V) (p : DictEntry) => (∃ t, p.key = .str (Z.nm f.1) t) ∧ VR c f.2 p.val) fs es →
 af f fs = none → es.find? (·.key.isStr (Z.nm f)) = none
 | [], _, r, _ => by refine ae r.nil_inv ?_; rfl
 | g :: fs, _, r, e => by
  obtain ⟨p, es, rfl, ⟨⟨t, ht⟩, hv⟩, r⟩ := r.cons_inv
  rw [aK] at e
  refine ae (List.find?_cons) ?_; refine ae ht ?_; refine ae kr ?_
  by_cases q : g.1 = f
  ·rw [if_pos q] at e; cases e
  ·have hq : (Z.nm g.1 == Z.nm f) = false := yr fun z => q (inj _ _ z)
   refine ae hq ?_
   rw [if_neg q] at e
   exact mK inj r e
theorem vh (G : Z.Glob) (Fs : tJ Z) (I : aC Z n ih) (hn : Room (n + 1) Ar cs) (H : St Z L cs c A s) {i C f k : Nat} {fs : List (Nat × V)} {kc : gT} (hm : A.heap.get i = some (.inst C fs)) (hs : af k fs = none) (hc : af C Z.Γ.dq = some kc) (hf : af k kc.meths = some (false, f)) :
 ∀ (pl : Sem Bool) (Q : Value × List Value → Shared → Prop) (E : Value → Shared → Prop), (∀ tk, Q (.ref f, [.ref (c.σ i).1]) { s with toks := tk }) → wpAny Z.M Ar (getMethod (.ref (c.σ i).1) (Z.nm k) pl) Q E s := fun pl Q E q => by
 refine ((H.objs _ _ hm).nM).elim fun k' aj => (aj).elim fun es ay => (ay).elim fun nn It => ?_
 have O := G.cls C kc hc It.nx
 refine (O.meth k f hf).elim fun m1 m2 => ?_
 refine method_fn (G.k.keeps H.base) It.rQ O.ga O.gt m1 m2 ?_ (q s.toks)
 refine (?_ : Option.map (·.isSome) (PySem.W.getL (Z.nm k) es) = some false)
 delta PySem.W.getL
 refine ae (mK G.inj It.all hs) ?_; refine ae (fy (f := k) It.all) ?_
 rfl
structure Cd (Z : aL) : Prop where
 sorted : ∀ {Ar : Around} {L cs c A s} {as : List V} {us : List Value}, Room 1 Ar cs → St Z L cs c A s → dk c as us → au Z L cs Ar (call (.builtin "sorted") us) VR (wo as A) c s
theorem pW (G : Z.Glob) (Fs : tJ Z) (B : Cd Z) (I : aC Z n ih) (hn : Room (n + 1) Ar cs) (H : St Z L cs c A s) {f : V} {u : Value} (rf : VR c f u) {as : List V} {us : List Value} (r : dk c as us) : au Z L cs Ar (call u us) VR (lS Z.Γ ih f as A) c s := by
 have hr : Room 1 Ar cs := hn.le (Nat.succ_le_succ (Nat.zero_le _))
 cases f with
 | fn a => subst rf; exact dX G Fs I hn H r
 | cls a => subst rf; exact pQ G Fs I hn H r
 | ty t => subst rf; exact nW hr H r
 | bi b =>
  subst rf
  cases b with
  | len => exact u7 G H r
  | range => exact pR H r
  | sorted => exact B.sorted hr H r
  | max => exact u9 hr H r
 | loc i => cases rf with | intro hi e => cases e; exact pV G I hn H r
 | _ => exact .none
theorem dY {u : Value} (hu : ∀ a, u ≠ .ref a) (h : Heap) : ∃ k, Looks Z.M h (keeperOf u) k := by
 refine ⟨.machine, Looks.of_pure ?_⟩
 cases u <;> first | rfl | exact absurd rfl (hu _)
set_option tactic.hygienic true in
theorem xq (G : Z.Glob) (Fs : tJ Z) {f : V} {u : Value} (rf : VR c f u) (H : St Z L cs c A s) (vs : List V) : lS Z.Γ ih f vs A = none ∨ ∃ k, Looks Z.M s.heap (keeperOf u) k := by
 have Kz : ∀ a, fnIn Z.K a = true → keepIn Z.K (.ref a) = true := fun a h => by
  delta fnIn at h
  delta keepIn
  split at h
  ·rename_i e; dsimp only; refine ae e ?_; rfl
  ·cases h
 cases f with
 | fn a =>
  subst rf
  by_cases ht : Z.Γ.take = some a
  ·exact .inr (jz G (Kz _ (Fs.AV a ht)) s H.base)
  ·cases hl : af a Z.Γ.fns with
   | none => exact .inl (by refine (?_ : dO Z.Γ ih a vs A = none); refine (j9 (iQ ht)).trans ?_; refine ae hl ?_; rfl)
   | some fn =>
    refine ((Fs.fn a fn hl).ex).elim fun oc aj => (aj).elim fun od ay => (ay).elim fun uT aP => (aP).elim fun fd bF => (bF).elim fun body cZ => (cZ).elim fun m ia => (ia).elim fun k1 _ => ?_
    exact .inr (jz G (Kz a (by delta fnIn; refine ae k1 ?_; rfl)) s H.base)
 | cls C =>
  subst rf
  cases hl : af C Z.Γ.dq with
  | none => exact .inl (by refine (?_ : callC Z.Γ ih C vs A = none); delta callC; refine ae hl ?_; rfl)
  | some k =>
   cases hx : af C Z.Γ.cf with
   | none => exact .inr (jz G (G.cls C k hl hx).kp s H.base)
   | some bs => exact .inr (jz G (G.oY C k bs hl hx).kp s H.base)
 | ty t => subst rf; exact .inr (dY (fun a h => by cases h) _)
 | bi b => subst rf; exact .inr (dY (fun a h => by cases b <;> cases h) _)
 | loc i => obtain ⟨hi, rfl⟩ := rf; exact Ec H
 | _ => exact .inl rfl
theorem sq (G : Z.Glob) (Fs : tJ Z) (B : Cd Z) (I : aC Z n ih) (hn : Room (n + 1) Ar cs) (H : St Z L cs c A s) (N : aS Z sc c L cs env) {f : V} {u : Value} {as : List E} {xs : List Expr} {pos : Pos} (rf : VR c f u) (he : encL (aW Z.nm m sc) as xs = true) :
 au Z L cs Ar (callWith pos u [] (backTo pos (starEach xs env)) (backToKw pos (keywordEach [] env))) VR (Res.bind (eZ ih as A) fun as A => lS Z.Γ ih f as A) c s := by
 rw [dQ env he, fP]
 exact gK H (cY I (hn.le (Nat.le_succ n)) he H N) (fun vs c' A' s' le H' => xq G Fs (rf.mono le.grown) H' vs) (fun vs A' c' s' us le H' q => pW G Fs B I hn H' (rf.mono le.grown) q)
theorem pX (G : Z.Glob) (H : St Z L cs c A s) {C f k : Nat} {kc : gT} (hc : af C Z.Γ.dq = some kc) (hx : af C Z.Γ.cf = none) (hf : af k kc.meths = some (true, f)) :
 ∀ (pl : Sem Bool) (Q : Value × List Value → Shared → Prop) (E : Value → Shared → Prop), (∀ tk, Q (.ref f, []) { s with toks := tk }) → wpAny Z.M Ar (getMethod (.ref C) (Z.nm k) pl) Q E s := fun pl Q E q => by
 have O := G.cls C kc hc hx
 have X := G.k.keeps H.base
 refine (O.uk k f hf).elim fun sg aj => (aj).elim fun p ay => (ay).elim fun rest aP => (aP).elim fun mc bF => (bF).elim fun h1 cZ => (cZ).elim fun h2 h3 => ?_
 exact method_cls X sg (cls_bind X h1 h2 (wpAny_call (sm_get (s := { s with toks := s.toks + 1 }) X h3 (handed_on rfl (q _)))))
end
section
variable {Z : aL} {L : Nat} {cs : Fm} {Ar : Around} {c : Cfg} {A : AS} {s : Shared}
theorem AZ (es : List (Int × V)) (aF : List (Int × Value)) {i : Nat} (d : fc Z c s.heap i es aF) (k : Int) {v : V} {u : Value} (h : VR c v u) : VR c ((bp k es).getD v) ((valueAt aF k).getD u) := by
 cases e : bp k es with
 | none => refine ae (show valueAt aF k = none from KR.none id_eq d.all e) ?_; exact h
 | some w => refine (KR.some id_eq d.all e).elim fun x aj => (aj).elim fun h1 h2 => ?_; refine ae (show valueAt aF k = some x from h1) ?_; exact h2
theorem A0 (G : Z.Glob) (H : St Z L cs c A s) {i : Nat} (hi : i < c.n) {es : List (Int × V)} {aF : List (Int × Value)} (d : fc Z c s.heap i es aF) {k : Int} {t : Tok} :
 au Z L cs Ar (call (.builtin "dict.get") [.ref (c.σ i).1, .int k t]) VR (ok ((bp k es).getD .none) A) c s :=
 .look H fun Q E q => call_meetsIn PySem.F.slot_dict_get d.at_.typeIs PySem.F.entry_dict_get (PySem.F.args_dict_get_2 _ _) (meets_dict_get (intKind Z.prog Z.w) (c.σ i).1 (intKind_is _ _ k t) (cx G H hi))
  ⟨_, d.at_.mapOf, q _ (s.toks + 1) (AZ es aF d k rfl)⟩
theorem A6 (G : Z.Glob) (H : St Z L cs c A s) {i : Nat} (hi : i < c.n) {es : List (Int × V)} {aF : List (Int × Value)} (d : fc Z c s.heap i es aF) {k : Int} {t : Tok} {v : V} {u : Value} (h : VR c v u) :
 au Z L cs Ar (call (.builtin "dict.get") [.ref (c.σ i).1, .int k t, u]) VR (ok ((bp k es).getD v) A) c s :=
 .look H fun Q E q => call_meetsIn PySem.F.slot_dict_get d.at_.typeIs PySem.F.entry_dict_get (PySem.F.args_dict_get_3 _ _ _) (meets_dict_get_default (intKind Z.prog Z.w) (c.σ i).1 (intKind_is _ _ k t) (cx G H hi) u)
  ⟨_, d.at_.mapOf, q _ (s.toks + 1) (AZ es aF d k h)⟩
theorem Ce (es : List (List Nat × V)) (aF : List (Str × Value)) {i : Nat} (d : ka Z c s.heap i es aF) (k : List Nat) {v : V} {u : Value} (h : VR c v u) : VR c ((ez k es).getD v) ((valueAt aF (strOf k)).getD u) := by
 cases e : ez k es with
 | none => refine ae (KR.none cA d.all e) ?_; exact h
 | some w => refine (KR.some cA d.all e).elim fun x aj => (aj).elim fun h1 h2 => ?_; refine ae h1 ?_; exact h2
theorem A8 (G : Z.Glob) (H : St Z L cs c A s) {i : Nat} (hi : i < c.n) {es : List (List Nat × V)} {aF : List (Str × Value)} (d : ka Z c s.heap i es aF) {k : List Nat} {t : Tok} {v : V} {u : Value} (h : VR c v u) :
 au Z L cs Ar (call (.builtin "dict.get") [.ref (c.σ i).1, .str (strOf k) t, u]) VR (ok ((ez k es).getD v) A) c s :=
 .look H fun Q E q => call_meetsIn PySem.F.slot_dict_get d.at_.typeIs PySem.F.entry_dict_get (PySem.F.args_dict_get_3 _ _ _) (meets_dict_get_default (PySem.strKind Z.prog Z.w) (c.σ i).1 (strKind_is _ _ (strOf k) t) (cx G H hi) u)
  ⟨_, d.at_.mapOf, q _ (s.toks + 1) (Ce es aF d k h)⟩
theorem mL (H : St Z L cs c A s) {i : Nat} (hi : i < c.n) {xs : List V} (hm : A.heap.get i = some (.list xs)) (hl : xs.length ≤ 4096) {v : V} {u : Value} (h : VR c v u) :
 au Z L cs Ar (call (.builtin "list.append") [.ref (c.σ i).1, u]) VR (ok .none (A.put i (.list (xs ++ [v])))) c s := by
 obtain ⟨vs, ep, e1, r1⟩ := H.objs _ _ hm
 have hz : vs.size = xs.length := by have := r1.length; simpa using this.symm
 have hu := Heap.get?_update_self (Obj.mapSeq fun xr => xr.push u) e1 rfl
 refine .done fun Q E q => call_meets F.slot_list_append ⟨_, e1, rfl⟩ F.entry_list_append (F.args_list_append_2 _ _) (list_append (c.σ i).1 vs ep u (by refine ae hz ?_; refine ae sizeLine_eq ?_; exact Nat.le_trans ‹_› (by decide))) ⟨e1, ?_⟩
 have hk : ∀ b o, s.heap.get? b = some o → b ≠ (c.σ i).1 → b ≠ (c.σ i).2 → (s.heap.update (c.σ i).1 (Obj.mapSeq fun xr => xr.push u)).get? b = some o := fun b o e hb J => by
  refine ae (Heap.get?_update_other _ _ (Ne.symm hb)) ?_; exact e
 have hp : a6 s.heap (s.heap.update (c.σ i).1 (Obj.mapSeq fun xr => xr.push u)) := cP (.update ..) ⟨_, hu⟩ (hJ e1 (a7 rfl (by decide)))
 refine q _ _ c (Le.change (s' := { s with heap := _, toks := _ }) H.toHp hi hk hp) (H.change (s' := { s with heap := _, toks := _ }) hi hk hp ?_ rfl rfl) rfl
 refine ⟨vs.push u, _, hu, ?_⟩
 refine ae Array.toList_push ?_
 exact r1.append (.cons h .nil)
theorem xt (H : St Z L cs c A s) {i : Nat} (hi : i < c.n) {k : Nat} (hm : A.heap.get i = some (.jl k)) (hl : k ≤ 4096) {u : Value} :
 au Z L cs Ar (call (.builtin "list.append") [.ref (c.σ i).1, u]) VR (ok .none (A.put i (.jl (k + 1)))) c s := by
 obtain ⟨vs, ep, e1, hz⟩ := H.objs _ _ hm
 have hu := Heap.get?_update_self (Obj.mapSeq fun xr => xr.push u) e1 rfl
 refine .done fun Q E q => call_meets F.slot_list_append ⟨_, e1, rfl⟩ F.entry_list_append (F.args_list_append_2 _ _) (list_append (c.σ i).1 vs ep u (by refine ae sizeLine_eq ?_; omega)) ⟨e1, ?_⟩
 have hk : ∀ b o, s.heap.get? b = some o → b ≠ (c.σ i).1 → b ≠ (c.σ i).2 → (s.heap.update (c.σ i).1 (Obj.mapSeq fun xr => xr.push u)).get? b = some o := fun b o e hb J => by
  refine ae (Heap.get?_update_other _ _ (Ne.symm hb)) ?_; exact e
 have hp : a6 s.heap (s.heap.update (c.σ i).1 (Obj.mapSeq fun xr => xr.push u)) := cP (.update ..) ⟨_, hu⟩ (hJ e1 (a7 rfl (by decide)))
 refine q _ _ c (Le.change (s' := { s with heap := _, toks := _ }) H.toHp hi hk hp) (H.change (s' := { s with heap := _, toks := _ }) hi hk hp ⟨vs.push u, _, hu, ?_⟩ rfl rfl) rfl
 rw [Array.size_push]; exact Nat.lt_succ_of_le ‹_›
theorem vi {x : Int} {es : List (Int × V)} : bp x es = none → iD x es = es := by
 induction es with
 | nil => exact fun J => rfl
 | cons p r ih =>
  intro h
  by_cases q : p.1 = x
  ·cases (fS (p := p) (r := r) (pB q)).symm.trans h
  ·exact (iL (p := p) (r := r) (mi q)).trans (congrArg (p :: ·) (ih ((eM (p := p) (r := r) (mi q)).symm.trans h)))
theorem St.again (H : St Z L cs c A s) {i : Nat} {o : ax} (hi : i < c.n) (ho : br Z c s.heap i o) (tk : Nat) : St Z L cs c (A.put i o) { s with toks := tk } :=
 (H.toks tk).change hi (fun J J e J J => e) (a6.of fun J J e => e) ho rfl rfl
theorem xu (G : Z.Glob) (H : St Z L cs c A s) {i : Nat} (hi : i < c.n) {es : List (Int × V)} {aF : List (Int × Value)} (d : fc Z c s.heap i es aF) (hl : es.length ≤ 4096) {k : Int} {t : Tok} {v : V} {u : Value} (h : VR c v u) {o : ax}
 (ho : ∀ h' : Heap, h'.DictOf (intKind Z.prog Z.w) (c.σ i).1 (without aF k) → aT (KR _root_.id c) (iD k es) (without aF k) → br Z c h' i o) (hn : bp k es = none → br Z c s.heap i o) :
 au Z L cs Ar (call (.builtin "dict.pop") [.ref (c.σ i).1, .int k t, u]) VR (ok ((bp k es).getD v) (A.put i o)) c s := by
 cases e : bp k es with
 | some w =>
  obtain ⟨x, h1, h2⟩ := KR.some id_eq d.all e
  refine .done fun Q E q => call_meetsIn PySem.F.slot_dict_pop d.at_.typeIs PySem.F.entry_dict_pop (PySem.F.args_dict_pop_3 _ _ _) (meets_dict_pop_there (intKind Z.prog Z.w) (c.σ i).1 (intKind_is _ _ k t) [u] (.inr ⟨_, rfl⟩) rfl)
   ⟨aF, x, d.at_, by refine ae sizeLine_eq ?_; refine bK d.all.length ?_; exact Nat.le_trans ‹_› (by decide), h1, fun h' hd hs => ?_⟩
  have hk : ∀ b o, s.heap.get? b = some o → b ≠ (c.σ i).1 → b ≠ (c.σ i).2 → h'.get? b = some o := fun b o e q J => (hs.2 b q).trans e
  exact q _ _ c (Le.change (s' := { s with heap := h', toks := s.toks + 1 }) H.toHp hi hk (dm d.at_ hd hs)) (H.change (s' := { s with heap := h', toks := s.toks + 1 }) hi hk (dm d.at_ hd hs) (ho h' hd (KR.del id_eq d.all d.nd)) rfl rfl) h2
 | none =>
  have h0 := KR.none id_eq d.all e
  exact .done fun Q E q => call_meetsIn PySem.F.slot_dict_pop d.at_.typeIs PySem.F.entry_dict_pop (PySem.F.args_dict_pop_3 _ _ _) (meets_dict_pop_default (intKind Z.prog Z.w) (c.σ i).1 (intKind_is _ _ k t) (cx G H hi) rfl u)
   ⟨aF, d.at_, h0, q _ _ c (Le.toks (s.toks + 1)) (H.again hi (hn e) (s.toks + 1)) h⟩
theorem vj (G : Z.Glob) (H : St Z L cs c A s) {i : Nat} (hi : i < c.n) {es : List (Int × V)} (hm : A.heap.get i = some (.aB es)) (hl : es.length ≤ 4096) {k : Int} {t : Tok} {v : V} {u : Value} (h : VR c v u) :
 au Z L cs Ar (call (.builtin "dict.pop") [.ref (c.σ i).1, .int k t, u]) VR (ok ((bp k es).getD v) (A.put i (.aB (iD k es)))) c s := by
 refine ((H.objs _ _ hm).aB).elim fun aF d => ?_
 exact xu G H hi d hl h (fun h' hd hk => by exact br.hX hd hk) fun hn => by refine ae (vi hn) ?_; exact H.objs _ _ hm
theorem ie (G : Z.Glob) (H : St Z L cs c A s) {i : Nat} (hi : i < c.n) {es : List (List Nat × V)} {aF : List (Str × Value)} (d : ka Z c s.heap i es aF) (hl : es.length ≤ 4096) {k : List Nat} {t : Tok} {v : V} {u : Value} (h : VR c v u) :
 au Z L cs Ar (call (.builtin "dict.setdefault") [.ref (c.σ i).1, .str (strOf k) t, u]) VR (match ez k es with | some w => ok w A | none => ok v (A.put i (.aR (qT k v es)))) c s := by
 have go := fun (Q : Value → Shared → Prop) (E : Value → Shared → Prop) (h1 : ∀ w, valueAt aF (strOf k) = some w → Q w { s with toks := s.toks + 1 }) (h2 : valueAt aF (strOf k) = none → ∀ h' : Heap, h'.DictOf (PySem.strKind Z.prog Z.w) (c.σ i).1 (stored aF (strOf k) u) → Heap.SameBut (c.σ i).1 s.heap h' → Q u { s with heap := h', toks := s.toks + 1 }) =>
  call_meetsIn (A := Ar) (E := E) (Q := Q) PySem.F.slot_dict_setdefault d.at_.typeIs PySem.F.entry_dict_setdefault (PySem.F.args_dict_setdefault_3 _ _ _) (kt_meets_setdefault (PySem.strKind Z.prog Z.w) (c.σ i).1 (strKind_is _ _ (strOf k) t) (cx G H hi) u)
   ⟨aF, d.at_, by refine ae sizeLine_eq ?_; refine bK d.all.length ?_; exact Nat.le_trans ‹_› (by decide), h1, h2⟩
 cases e : ez k es with
 | some w =>
  refine (KR.some cA d.all e).elim fun x aj => (aj).elim fun h1 h2 => ?_
  refine .look H fun Q E q => go Q E (fun w hw => ?_) (fun hn => by rw [h1] at hn; cases hn)
  rw [h1] at hw; obtain rfl := aO hw
  exact q _ (s.toks + 1) h2
 | none =>
  have h0 := KR.none cA d.all e
  refine .done fun Q E q => go Q E (fun w hw => by rw [h0] at hw; cases hw) fun J h' hd hs => ?_
  have hk : ∀ b o, s.heap.get? b = some o → b ≠ (c.σ i).1 → b ≠ (c.σ i).2 → h'.get? b = some o := fun b o e q J => (hs.2 b q).trans e
  refine q _ _ c (Le.change (s' := { s with heap := h', toks := s.toks + 1 }) H.toHp hi hk (dm d.at_ hd hs)) (H.change (s' := { s with heap := h', toks := s.toks + 1 }) hi hk (dm d.at_ hd hs) ?_ rfl rfl) h
  exact br.kb hd (KR.set cA h d.all d.nd)
end
theorem insI_perm (x : Int) : ∀ l : List Int, (insI x l).Perm (x :: l)
 | [] => .refl _
 | y :: r => by
  dsimp only [insI]
  split
  ·exact .refl _
  ·exact ((insI_perm x r).cons y).trans (.swap x y r)
theorem sortI_perm : ∀ l : List Int, (sortI l).Perm l
 | [] => .refl _
 | x :: r => (insI_perm x (sortI r)).trans ((sortI_perm r).cons x)
set_option tactic.hygienic true in
theorem je {x : Int} : ∀ {l : List Int}, l.Pairwise (· ≤ ·) → (insI x l).Pairwise (· ≤ ·)
 | [], _ => List.pairwise_singleton ..
 | y :: r, h => by
  dsimp only [insI]
  refine (List.pairwise_cons.mp h).elim fun h1 h2 => ?_
  split
  ·rename_i q
   refine List.pairwise_cons.mpr ⟨fun z hz => ?_, h⟩
   rcases fg hz with rfl | hz
   ·exact q
   ·exact Int.le_trans q (h1 z hz)
  ·rename_i q
   refine List.pairwise_cons.mpr ⟨fun z hz => ?_, je h2⟩
   rcases fg ((insI_perm x r).mem_iff.mp hz) with rfl | hz
   ·omega
   ·exact h1 z hz
theorem ig : ∀ l : List Int, (sortI l).Pairwise (· ≤ ·)
 | [] => .nil
 | _ :: r => je (ig r)
theorem vk {a b : List Int} (h : a.Perm b) (ha : a.Pairwise (· ≤ ·)) (hb : b.Pairwise (· ≤ ·)) : a = b :=
 h.eq_of_pairwise (fun J J J J p q => Int.le_antisymm p q) ha hb
section
variable {prog : Program} {w : World} {A : Around} {E : Value → Shared → Prop} {s : Shared} {T : String} {r d : Addr} {n : Nat} {P : Nat → Value → Prop} {OK : Heap → Prop} {Q : Value → Shared → Prop}
theorem pY (K : KdlSrc prog w T r d n P OK) (hh : A.handled = none) (vc : OK s.heap) (hn : n ≤ sizeLine)
 (h : ∀ (h' : Heap) (tk : Nat) (vs : List Value), (∀ b o, s.heap.get? b = some o → h'.get? b = some o) → vs.length = n → (∀ (j : Nat) (v : Value), vs[j]? = some v → P j v) →
  wpAny (model prog w) A.in1 (call (.builtin "list.sort") [.ref h'.objs.size]) (fun J s' => Q (.ref h'.objs.size) s') E { s with heap := h'.push { cls := .type "list", data := .seq vs.toArray }, toks := tk }) :
 wpAny (model prog w) A (call (.builtin "sorted") [.ref r]) Q E s := by
 refine call_function_entry kind_sorted plain_sorted entry_sorted (args_sorted1 _) ?_
 dsimp only [Builtin.«sorted»]
 refine wpAny_bind (m := checkCount "sorted" 1 1 _) (wpAny_pure (wpAny_bind (kdu_collect (A := A.in1) K hh vc hn fun h' tk acc hk nX => ?_)))
 have hl : acc.toList.length = n := by refine ae Array.length_toList ?_; exact nX.1
 refine wpAny_bind (wpAny_newList (wpAny_bind (wpAny_holding (wpAny_mono (h h' tk acc.toList hk hl fun j v e => nX.2 j v (by refine bK (Array.getElem?_toList) ?_; exact e)) (fun J s' x => ?_) fun J J e => e))) (by refine ae hl ?_; exact hn))
 exact wpAny_pure ⟨_, rfl, x⟩
end
section
variable {Z : aL} {L : Nat} {cs : Fm} {Ar : Around} {c : Cfg} {A : AS} {s : Shared}
theorem su {vs : List Value} {ks : List Int} (hl : vs.length = ks.length) (h : ∀ (j : Nat) (v : Value), vs[j]? = some v → ∃ k, ks[j]? = some k ∧ ∃ t, v = .int k t) : IntsAre vs ks := by
 induction vs generalizing ks with
 | nil => cases ks with
  | nil => exact .nil
  | cons => cases hl
 | cons v vs ih => cases ks with
  | nil => cases hl
  | cons k ks =>
   obtain ⟨k', e, t, rfl⟩ := h 0 v rfl
   obtain rfl := aO e
   exact .cons _ _ (ih (by simpa using hl) fun j w hw => h (j + 1) w hw)
theorem xv {vs : List Value} {ks : List Int} (h : IntsAre vs ks) : dk c (ks.map fun i => .int (.lit i)) vs := by
 induction h with
 | nil => exact .nil
 | cons _ _ _ ih => exact .cons ⟨trivial, _, rfl⟩ ih
theorem jf (G : Z.Glob) (hr : Room 1 Ar cs) (H : St Z L cs c A s) {i : Nat} (hi : i < c.n) {es fs : List (Int × V)} {aF : List (Int × Value)} (d : fc Z c s.heap i fs aF) (p : fs.Perm es) : au Z L cs Ar (call (.builtin "sorted") [.ref (c.σ i).1]) VR (AE es A) c s := by
 refine .dM fun hl => ?_
 obtain ⟨hl, hh⟩ := hl
 obtain ⟨ep, zo⟩ := d.at_.dictAt
 have hlen := d.all.length
 have Fj := p.length_eq
 refine .done fun Q E q => pY (kdl_dict (cx G H hi)) (hr.quiet H (yt hh)) zo (by refine ae sizeLine_eq ?_; refine bK hlen ?_; refine ae Fj ?_; exact Nat.le_trans (Nat.le_of_lt ‹_›) (by decide)) fun h' tk vs hk KA hv => ?_
 have hI : IntsAre vs (fs.map (·.1)) := by
  refine su (by rw [KA, List.length_map, hlen]) fun j v e => ?_
  refine (hv j v e).elim fun k aj => (aj).elim fun x ay => (ay).elim fun e1 e2 => ?_
  have hj : j < fs.length := by refine ae hlen ?_; exact (yv e1).1
  obtain ⟨p, hp, C0, AR⟩ := d.all.at (List.getElem?_eq_getElem hj)
  rw [e1] at hp
  obtain rfl := aO hp
  refine ⟨k, by refine ae (List.getElem?_map) ?_; refine ae (List.getElem?_eq_getElem hj) ?_; exact congrArg some C0.symm, ?_⟩
  exact Value.isInt_shape e2
 have ho : (h'.push { cls := .type "list", data := .seq vs.toArray }).get? h'.objs.size = some (seqObj "list" vs.toArray 0) := Heap.get?_push_size _ rfl
 refine wpAny_call_entry slot_list_sort ⟨_, ho, rfl⟩ entry_list_sort (list_sort_tree ho hI (by refine ae KA ?_; refine bK hlen ?_; refine ae Fj ?_; exact hl) fun out MP q1 q2 q3 => ?_) (args_list_sort _)
 have tN : MP = sortI (es.map (·.1)) := vk (q2.trans ((p.map _).trans (sortI_perm _).symm)) q3 (ig _)
 subst tN
 have rA : ∀ b o, h'.get? b = some o → b ≠ h'.objs.size := fun b o e => Nat.ne_of_lt (Heap.lt_size e)
 have G4 : ∀ b o, s.heap.get? b = some o → (sortedHeap (h'.push { cls := .type "list", data := .seq vs.toArray }) h'.objs.size vs out).get? b = some o := fun b o e => by
  have e := hk b o e
  refine ae (Heap.get?_update_other _ _ (Ne.symm (rA b o e))) ?_
  refine Heap.get?_push_of_some _ (Heap.get?_push_of_some _ ?_)
  refine ae (Heap.get?_update_other _ _ (Ne.symm (rA b o e))) ?_
  exact Heap.get?_push_of_some _ e
 have zp : s.heap.get? h'.objs.size = none := by
  cases e : s.heap.get? h'.objs.size with
  | none => rfl
  | some o => exact absurd rfl (rA _ o (hk _ o e))
 obtain ⟨n1, Cf⟩ : ∃ n1, (sortedHeap (h'.push { cls := .type "list", data := .seq vs.toArray }) h'.objs.size vs out).get? h'.objs.size = some (seqObj "list" out n1) := by
  have u1 := get?_update_seq ho (fun J => #[])
  have u2 := Heap.get?_push_of_some (seqObj "list" #[] 0) (Heap.get?_push_of_some (seqObj "tuple" vs.toArray 0) u1)
  exact ⟨_, get?_update_seq u2 (fun J => out)⟩
 refine ⟨_, rfl, q _ _ (c.push (h'.objs.size, h'.objs.size)) (Le.alloc (s' := { s with heap := _, toks := _ }) G4 zp zp) (H.alloc (s' := { s with heap := _, toks := _ }) G4 ⟨zp, _, Cf⟩ ⟨zp, _, Cf⟩ ?_ rfl rfl) ?_⟩
 ·refine ⟨out, n1, ?_, ?_⟩
  ·rw [c.aI]; exact Cf
  ·exact xv q1
 ·refine ⟨?_, ?_⟩
  ·refine (?_ : A.n < c.n + 1); refine ae H.n ?_; exact Nat.lt_succ_self _
  ·refine (?_ : _ = Value.ref ((c.push _).σ A.n).1)
   rw [← H.n, c.aI]
theorem nY (G : Z.Glob) (hr : Room 1 Ar cs) (H : St Z L cs c A s) {as : List V} {us : List Value} (r : dk c as us) : au Z L cs Ar (call (.builtin "sorted") us) VR (wo as A) c s := by
 refine .bnd fun v hv => .bnd fun i J => .bnd fun es J => ?_
 obtain ⟨u, rfl, r1⟩ := dF hv r
 obtain ⟨i, rfl⟩ := i
 obtain ⟨hi, rfl⟩ := r1
 obtain ⟨es, hm⟩ := es
 rcases hm with hm | hm
 ·refine ((H.objs _ _ hm).aB).elim fun aF d => ?_
  exact jf G hr H hi d (.refl _)
 ·refine ((H.objs _ _ hm).aw).elim fun fs aj => (aj).elim fun aF ay => (ay).elim fun d aP => (aP).elim fun p _ => ?_
  exact jf G hr H hi d p
theorem G5 (G : Z.Glob) : Cd Z where
 sorted := fun hr H r => nY G hr H r
end
section
variable {Z : aL} {n : Nat} {ih : bM} {L : Nat} {cs : Fm} {Ar : Around} {c c' : Cfg} {A : AS} {s s' : Shared} {env : Env} {sc : cG} {m : Nat}
theorem zq {pl : Sem Bool} {Q : Value × List Value → Shared → Prop} {E : Value → Shared → Prop} (X : Z.K.In s.heap)
 (e : findCls Z.K (.type "int") (.type "type") "from_bytes" = some (.get (.builtin "classmethod_descriptor.__get__") (.builtin "int.from_bytes") .none (.type "int")))
 (h : Q (.ref s.heap.objs.size, []) { s with heap := s.heap.push KFB.bound, toks := s.toks + 1 }) :
 wpAny Z.M Ar (getMethod (.type "int") "from_bytes" pl) Q E s := by
 have Ed : opaqueClassAbove (.type "int") = pure none := by skip; refine ae (show Manifest.isStub "int" = false by decide +kernel) ?_; rfl
 have ht : typeOf (.type "int") = pure (.type "type") := by first | rfl | kernel_rfl
 have L0 : Looks Z.M s.heap (typeOf (.type "int")) (.type "type") := Looks.of_pure ht
 have hg : findIn Z.K (.type "type") "__getattribute__" = some (some (.builtin "type.__getattribute__")) := type_tga
 dsimp only [getMethod, specialOf]
 refine wpAny_bind (wpAny_bind (L0.here ((looks_findIn X hg).here ?_)))
 dsimp only
 refine ae (if_pos canon_tga) ?_
 refine wpAny_bind (wpAny_mono (Q := fun v => Q (v, [])) (E := E) ?_ (fun J J z => wpAny_pure z) fun J J z => z)
 refine cls_open X (Looks.of_pure Ed) L0 hg (looks_hook X (r := none) (by rfl)) (by skip; rfl) e ?_
 exact wpAny_bind (wpAny_holding (wpAny_call_entry KFB.slot_get KFB.type_fb KFB.entry_get (KFB.run_get ⟨_, rfl, wpAny_pure (wpAny_pure h)⟩) (KFB.args_get _ _ _)))
theorem kH : ∀ (k n : Nat), ∀ x ∈ cg k n, x < 256
 | 0, _, _, h => by cases h
 | k + 1, n, x, h => by
  dsimp only [cg] at h
  rcases List.mem_append.mp h with h | h
  ·exact kH k _ x h
  ·refine ae (msg h) ?_; exact Nat.mod_lt _ (by decide)
theorem iS : ∀ (k n : Nat), (KTBy.little k (n : Int)).reverse = (cg k n).map fun x : Nat => (x : Int)
 | 0, _ => rfl
 | k + 1, n => by
  refine ae List.reverse_cons ?_; refine ae List.map_append ?_
  have e : ((n : Int) / 256) = ((n / 256 : Nat) : Int) := by omega
  have e' : ((n : Int) % 256) = ((n % 256 : Nat) : Int) := by omega
  refine ae e ?_; refine ae e' ?_; refine ae (iS k (n / 256)) ?_; rfl
theorem mM {b : Array UInt8} {l : List Nat} (h : KBw.bInts b = l.map fun x : Nat => (x : Int)) : b.toList = l.map UInt8.ofNat := by
 have h := congrArg (List.map fun z : Int => UInt8.ofNat z.toNat) h
 have e : (KBw.bInts b).map (fun z : Int => UInt8.ofNat z.toNat) = b.toList := by
  refine ae List.map_map ?_
  conv => rhs; rw [← List.map_id b.toList]
  refine List.map_congr_left fun x J => ?_
  simp
 rw [e, List.map_map] at h
 refine ae h ?_
 exact List.map_congr_left fun x J => rfl
theorem kI : ∀ (k n : Nat), (List.range k).map (fun i => ly k n (0 + i)) = (cg k n).map UInt8.ofNat
 | 0, _ => rfl
 | k + 1, n => by
  refine ae List.range_succ ?_; refine ae List.map_append ?_; refine ae List.map_append ?_; refine bK (kI k (n / 256)) ?_
  congr 1
  ·refine List.map_congr_left fun i hi => ?_
   have hi : i < k := List.mem_range.mp hi
   refine (?_ : UInt8.ofNat (n / 256 ^ (k + 1 - 1 - (0 + i)) % 256) = UInt8.ofNat (n / 256 / 256 ^ (k - 1 - (0 + i)) % 256))
   rw [Nat.div_div_eq_div_mul, ← Nat.pow_succ']
   congr 4
   omega
  ·refine (?_ : [UInt8.ofNat (n / 256 ^ (k + 1 - 1 - (0 + k)) % 256)] = [UInt8.ofNat (n % 256)])
   rw [show k + 1 - 1 - (0 + k) = 0 by omega, Nat.pow_zero, Nat.div_one]
theorem pZ : ∀ (l : List Nat) (x a : Nat), qU (l ++ [x]) a = qU l a * 256 + x
 | [], _, _ => rfl
 | _ :: l, x, a => pZ l x _
theorem tO : ∀ (k n a : Nat), n < 256 ^ k → qU (cg k n) a = a * 256 ^ k + n
 | 0, n, a, h => by
  have : n = 0 := by simpa using h
  subst this
  refine (?_ : a = a * 1 + 0)
  omega
 | k + 1, n, a, h => by
  dsimp only [cg]
  rw [pZ, tO k (n / 256) a (by rw [Nat.pow_succ] at h; exact Nat.div_lt_of_lt_mul (Nat.mul_comm (256 ^ k) 256 ▸ h)), Nat.pow_succ, Nat.add_mul, Nat.mul_assoc, Nat.add_assoc, Nat.div_add_mod' n 256]
theorem mN : ∀ (l : List UInt8) (a : Int), 0 ≤ a → 0 ≤ (KBw.bInts l.toArray).foldl (fun a k => a * 256 + k) a ∧ (KBw.bInts l.toArray).foldl (fun a k => a * 256 + k) a < (a + 1) * 256 ^ l.length
 | [], a, h => by
  refine (?_ : 0 ≤ a ∧ a < (a + 1) * 1)
  omega
 | x :: r, a, h => by
  have hx : ((x.toNat : Nat) : Int) < 256 := by have := x.toNat_lt; omega
  have h2 : (0 : Int) ≤ (x.toNat : Nat) := Int.natCast_nonneg _
  have ih := mN r (a * 256 + ((x.toNat : Nat) : Int)) (by omega)
  refine ⟨ih.1, Int.lt_of_lt_of_le ih.2 ?_⟩
  rw [List.length_cons, Int.pow_succ, Int.mul_comm (256 ^ r.length) 256, ← Int.mul_assoc]
  exact Int.mul_le_mul_of_nonneg_right (by omega) (Int.pow_nonneg (by decide))
theorem vl (H : St Z L cs c A s) {x : SI} {t : Tok} (hx : SI.lt c.nv x) {v : V} {u : Value} {t1 : Tok} (rv : VR c v u) : au Z L cs Ar (call (.builtin "int.to_bytes") [.int (SI.den c.ρ x) t, u, .str (strOf [98, 105, 103]) t1]) VR (J1 x v A) c s := by
 refine .bnd fun k J => ?_
 obtain ⟨k, rfl⟩ := k
 obtain ⟨_, t0, rfl⟩ := rv
 cases x with
 | lit n =>
  refine .dM fun hc => ?_
  obtain ⟨h0, h1, h2, h3⟩ := hc
  obtain ⟨K, rfl⟩ := Int.eq_ofNat_of_zero_le (Int.le_of_lt h1)
  obtain ⟨N, rfl⟩ := Int.eq_ofNat_of_zero_le h0
  simp -iota only [Int.toNat_natCast] at h3 ⊢
  refine .look H fun Q E q => KTBy.to_big (k := K) (B := 256 ^ K) (Int.ofNat_le.mp h2) rfl h0 ?_ fun b t' k' hb hl => q _ _ ⟨⟨trivial, trivial⟩, t', ?_⟩
  ·refine (?_ : (N : Int) < 256 ^ K)
   rw [KTBy.p256]; exact Int.ofNat_lt.mpr h3
  ·have hb : KBw.bInts b = (KTBy.little K ((N : Nat) : Int)).reverse := hb
   rw [iS] at hb
   have e := mM hb
   refine (?_ : Value.bytes b t' = Value.bytes (List.map UInt8.ofNat (cg K N) ++ []).toArray t')
   rw [List.append_nil, ← e]
 | va j o =>
  refine .bnd fun q hq => .dM fun hc => ?_
  obtain ⟨h1, h2, h0, h3⟩ := hc
  have hd := nG H.toHp hq
  obtain ⟨K, rfl⟩ := Int.eq_ofNat_of_zero_le (Int.le_of_lt h1)
  obtain ⟨N, hN⟩ := Int.eq_ofNat_of_zero_le (Int.le_trans h0 hd.1)
  have fi : N < 256 ^ K := by
   have h4 : ((N : Nat) : Int) < 256 ^ K := by refine bK hN ?_; exact Int.lt_of_lt_of_le hd.2 h3
   rw [KTBy.p256] at h4
   exact Int.ofNat_lt.mp h4
  have go : ∀ {V : Type} {b : BS}, BS.lt c.nv b → BS.den c.ρ b = (cg K N).map UInt8.ofNat → au Z L cs Ar (call (.builtin "int.to_bytes") [.int (SI.den c.ρ (.va j o)) t, .int (K : Int) t0, .str (strOf [98, 105, 103]) t1]) VR (ok (.bytes b) A) c s := fun {V} {b} hb Cg => by
   refine .look H fun Q E q => KTBy.to_big (k := K) (B := 256 ^ K) (Int.ofNat_le.mp h2) rfl (Int.le_trans h0 hd.1) ?_ fun b' t' k' qR hl => q _ _ ⟨hb, t', ?_⟩
   ·rw [hN, KTBy.p256]; exact Int.ofNat_lt.mpr fi
   ·have qR : KBw.bInts b' = (KTBy.little K (SI.den c.ρ (.va j o))).reverse := qR
    rw [hN, iS] at qR
    have e := mM qR
    refine ae Cg ?_; refine bK e ?_; rfl
  have Fv : (c.ρ.i j + o).toNat = N := by
   refine (?_ : (SI.den c.ρ (.va j o)).toNat = N)
   refine ae hN ?_; rfl
  by_cases hk : (K : Int) = 1 ∧ o = 0
  ·refine ae (if_pos hk) ?_
   obtain ⟨vW, rfl⟩ := hk
   obtain rfl : K = 1 := by omega
   refine go (V := Unit) ⟨hx, trivial⟩ ?_
   have e2 : cg 1 N = [N] := by
    refine (?_ : [N % 256] = [N])
    refine ae (Nat.mod_eq_of_lt (by simpa using fi)) ?_; rfl
   refine ae e2 ?_
   refine (?_ : List.replicate 1 (UInt8.ofNat (c.ρ.i j).toNat) ++ [] = _)
   refine ae (show (c.ρ.i j).toNat = N by rw [← Fv, Int.add_zero]) ?_; rfl
  ·refine ae (if_neg hk) ?_
   refine go (V := Unit) ⟨hx, trivial⟩ ?_
   refine (?_ : (List.range K).map (fun i => ly K (c.ρ.i j + o).toNat (0 + i)) ++ [] = _)
   rw [List.append_nil, Fv, kI]
set_option tactic.hygienic true in
theorem lL (H : St Z L cs c A s) {x : SI} {u : Value} (rx : VR c (.int x) u) {as : List V} {us : List Value} (r : dk c as us) : au Z L cs Ar (call (.builtin "int.to_bytes") (u :: us)) VR (toBytes x as A) c s := by
 obtain ⟨hx, t, rfl⟩ := rx
 delta toBytes
 split
 ·rename_i p hp
  split
  ·rename_i hs
   obtain ⟨u1, u2, rfl, r1, r2⟩ := dG hp r
   rw [hs] at r2
   obtain ⟨t1, rfl⟩ := r2
   exact vl H hx r1
  ·exact .none
 ·exact .none
theorem kJ : ∀ (l : List Nat) (a : Nat), (l.all fun x => Nat.blt x 256) = true → (KBw.bInts (l.map UInt8.ofNat).toArray).foldl (fun a k => a * 256 + k) (a : Int) = ((qU l a : Nat) : Int)
 | [], _, _ => rfl
 | x :: r, a, h => by
  rw [List.all_cons, Bool.and_eq_true] at h
  have hx : x < 256 := by have := h.1; exact Nat.le_of_ble_eq_true this
  have ih := kJ r (a * 256 + x) h.2
  refine bK ih ?_
  refine (?_ : List.foldl _ ((a : Int) * 256 + (((UInt8.ofNat x).toNat : Nat) : Int)) (KBw.bInts (List.map UInt8.ofNat r).toArray) = _)
  congr 1
  refine ae (UInt8.toNat_ofNat_of_lt' (by simpa using hx)) ?_
  push_cast; rfl
theorem gM {x : Addr} (hx : KFB.StandsAt x s.heap) {b : Array UInt8} {t0 t1 : Tok} {v : Int} (hl : b.size ≤ 8) (hv : KFB.value (KBw.bInts b) = v) {Q : Value → Shared → Prop} {E : Value → Shared → Prop} (q : Q (.int v s.toks) { s with toks := s.toks + 1 }) :
 wpAny Z.M Ar (call (.ref x) [.bytes b t0, .str (strOf [98, 105, 103]) t1]) Q E s :=
 KFB.call_of (o := PySem.Str.ofString "big") hx (fun k => KFB.tree_big hl (by refine ae hv ?_; exact k)) q
theorem p0 (H : St Z L cs c A s) {x : Addr} (hx : KFB.StandsAt x s.heap) {b : BS} {t0 t1 : Tok} (hb : BS.lt c.nv b) : au Z L cs Ar (call (.ref x) [.bytes (BS.den c.ρ b).toArray t0, .str (strOf [98, 105, 103]) t1]) VR (AG b A) c s := by
 cases b with
 | nil => exact .none
 | cons x r =>
 cases r with
 | cons => exact .none
 | nil =>
 cases x with
 | rep => exact .none
 | lit l =>
  refine .dM fun hc => .look H fun Q E q => gM (v := ((qU l 0 : Nat) : Int)) hx (Nat.le_trans (Nat.le_of_eq ?_) hc.1) ?_ (q _ (s.toks + 1) ⟨trivial, _, rfl⟩)
  ·refine (?_ : (List.map UInt8.ofNat l ++ []).toArray.size = _)
   rw [List.append_nil, List.size_toArray, List.length_map]
  ·refine (?_ : KFB.value (KBw.bInts (List.map UInt8.ofNat l ++ []).toArray) = _)
   rw [List.append_nil]; exact kJ l 0 hc.2
 | be k o n a m =>
  refine .bnd fun p hp => .dM fun hc => ?_
  obtain ⟨rfl, rfl, h8, h0, h3⟩ := hc
  have hd := nG H.toHp hp
  refine (Int.eq_ofNat_of_zero_le (Int.le_trans h0 hd.1)).elim fun N hN => ?_
  have fi : N < 256 ^ m := by
   have h4 : ((N : Nat) : Int) < 256 ^ m := by refine bK hN ?_; exact Int.lt_of_lt_of_le hd.2 h3
   rw [KTBy.p256] at h4
   exact Int.ofNat_lt.mp h4
  have Fv : (c.ρ.i k + o).toNat = N := by
   refine (?_ : (SI.den c.ρ (.va k o)).toNat = N)
   refine ae hN ?_; rfl
  have Cg : BS.den c.ρ [.be k o m 0 m] = (cg m N).map UInt8.ofNat := by
   refine (?_ : (List.range m).map (fun i => ly m (c.ρ.i k + o).toNat (0 + i)) ++ [] = _)
   rw [List.append_nil, Fv, kI]
  refine .look H fun Q E q => gM (v := SI.den c.ρ (.va k o)) hx ?_ ?_ (q _ (s.toks + 1) ⟨hb.1, _, rfl⟩)
  ·rw [List.size_toArray, BS.bq]
   exact h8
  ·refine ae Cg ?_; refine ae hN ?_
   refine (kJ (cg m N) 0 (List.all_eq_true.mpr fun x hx => Nat.blt_eq.mpr (kH m N x hx))).trans ?_
   rw [tO m N 0 fi, Nat.zero_mul, Nat.zero_add]
 | d9 k o n =>
  refine .dM fun hc => ?_
  have G6 := mN (BS.den c.ρ [.d9 k o n]) 0 (Int.le_refl _)
  have KC : (BS.den c.ρ [.d9 k o n]).length = n := BS.bq _
  rw [KC, Int.zero_add, Int.one_mul] at G6
  refine .nH H (i := KFB.value (KBw.bInts (BS.den c.ρ [.d9 k o n]).toArray)) ⟨?_, ?_⟩ fun h => gM hx (by refine ae List.size_toArray ?_; refine ae KC ?_; exact hc) rfl h
  ·show 0 ≤ if c.nv = c.nv then _ else _
   refine ae (if_pos rfl) ?_; exact G6.1
  ·refine (?_ : (if c.nv = c.nv then _ else _) < (256 : Int) ^ n)
   refine ae (if_pos rfl) ?_; exact G6.2
set_option tactic.hygienic true in
theorem jt (H : St Z L cs c A s) {x : Addr} (hx : KFB.StandsAt x s.heap) {as : List V} {us : List Value} (r : dk c as us) : au Z L cs Ar (call (.ref x) us) VR (fromBytes as A) c s := by
 delta fromBytes
 split <;> first | exact .none | skip
 rename_i p hp
 split <;> first | exact .none | skip
 rename_i hs
 obtain ⟨u1, u2, rfl, r1, r2⟩ := dG hp r
 rw [hs] at r2
 obtain ⟨t1, rfl⟩ := r2
 split <;> first | exact .none | skip
 rename_i b hb
 rw [hb] at r1
 obtain ⟨hb, t0, rfl⟩ := r1
 exact p0 H hx hb
set_option tactic.hygienic true in
theorem p7 (G : Z.Glob) (H : St Z L cs c A s) {i : Nat} (hi : i < c.n) {v : V} {u : Value} (rv : VR c v u) : au Z L cs Ar (call (.builtin "dict.get") [.ref (c.σ i).1, u]) VR (wq i v A) c s := by
 cases v <;> first | exact .none | skip
 rename_i x
 cases x with
 | va => exact .none
 | lit k =>
 obtain ⟨_, t, rfl⟩ := rv
 dsimp only [wq]
 generalize hm : A.heap.get i = ob
 cases ob with
 | none => exact .none
 | some ob =>
 cases ob <;> first | exact .none | skip
 case aB es =>
  refine ((H.objs _ _ hm).aB).elim fun aF d => ?_
  exact A0 G H hi d
 case aw es =>
  refine ((H.objs _ _ hm).aw).elim fun fs aj => (aj).elim fun aF ay => (ay).elim fun d aP => (aP).elim fun _ bF => (bF).elim fun _ hl => ?_
  dsimp only
  rw [← hl]
  exact A0 G H hi d
set_option tactic.hygienic true in
theorem p8 (G : Z.Glob) (H : St Z L cs c A s) {i : Nat} (hi : i < c.n) {v d : V} {u w : Value} (rv : VR c v u) (rd : VR c d w) : au Z L cs Ar (call (.builtin "dict.get") [.ref (c.σ i).1, u, w]) VR (te i v d A) c s := by
 cases v <;> first | exact .none | skip
 case int x =>
  cases x with
  | va => exact .none
  | lit k =>
  obtain ⟨_, t, rfl⟩ := rv
  dsimp only [te]
  generalize hm : A.heap.get i = ob
  cases ob with
  | none => exact .none
  | some ob =>
  cases ob <;> first | exact .none | skip
  case aB es => exact by obtain ⟨aF, d⟩ := (H.objs _ _ hm).aB; exact A6 G H hi d rd
  case a0 => exact A6 G H hi (H.objs _ _ hm).fw rd
 case str k =>
  obtain ⟨t, rfl⟩ := rv
  dsimp only [te]
  generalize hm : A.heap.get i = ob
  cases ob with
  | none => exact .none
  | some ob =>
  cases ob <;> first | exact .none | skip
  case aR es => exact by obtain ⟨aF, d⟩ := (H.objs _ _ hm).aR; exact A8 G H hi d rd
  case a0 => exact A8 G H hi (H.objs _ _ hm).nJ rd
set_option tactic.hygienic true in
theorem Ci (G : Z.Glob) (H : St Z L cs c A s) {i : Nat} (hi : i < c.n) {as : List V} {us : List Value} (r : dk c as us) : au Z L cs Ar (call (.builtin "dict.get") (.ref (c.σ i).1 :: us)) VR (gX i N.get as A) c s := by
 refine (?_ : au Z L cs Ar _ VR (BC i as A) c s)
 delta BC
 split
 ·rename_i v hv
  obtain ⟨u, rfl, r1⟩ := dF hv r
  exact p7 G H hi r1
 ·split <;> first | exact .none | skip
  rename_i p hp
  obtain ⟨u, w, rfl, r1, r2⟩ := dG hp r
  exact p8 G H hi r1 r2
set_option tactic.hygienic true in
theorem Cj (G : Z.Glob) (H : St Z L cs c A s) {i : Nat} (hi : i < c.n) {as : List V} {us : List Value} (r : dk c as us) : au Z L cs Ar (call (.builtin "dict.pop") (.ref (c.σ i).1 :: us)) VR (gX i N.pop as A) c s := by
 refine (?_ : au Z L cs Ar _ VR (BD i as A) c s)
 delta BD
 split <;> first | exact .none | skip
 rename_i p hp
 obtain ⟨u, w, rfl, r1, r2⟩ := dG hp r
 obtain ⟨v, d⟩ := p
 cases v <;> first | exact .none | skip
 rename_i x
 cases x with
 | va => exact .none
 | lit k =>
 obtain ⟨_, t, rfl⟩ := r1
 dsimp only [AF]
 generalize hm : A.heap.get i = ob
 cases ob with
 | none => exact .none
 | some ob =>
 cases ob <;> first | exact .none | skip
 case aB es => exact .dM fun hc => vj G H hi hm hc r2
 case a0 =>
  exact .look H fun Q E q => call_meetsIn PySem.F.slot_dict_pop (H.objs _ _ hm).fw.at_.typeIs PySem.F.entry_dict_pop (PySem.F.args_dict_pop_3 _ _ _) (meets_dict_pop_default (intKind Z.prog Z.w) (c.σ i).1 (intKind_is _ _ _ t) (cx G H hi) rfl _)
   ⟨[], (H.objs _ _ hm).fw.at_, rfl, q _ (s.toks + 1) r2⟩
set_option tactic.hygienic true in
theorem zt (G : Z.Glob) (H : St Z L cs c A s) {i : Nat} (hi : i < c.n) {as : List V} {us : List Value} (r : dk c as us) : au Z L cs Ar (call (.builtin "dict.setdefault") (.ref (c.σ i).1 :: us)) VR (gX i N.bO as A) c s := by
 refine (?_ : au Z L cs Ar _ VR (wu i as A) c s)
 delta wu
 split <;> first | exact .none | skip
 rename_i p hp
 obtain ⟨u, w, rfl, r1, r2⟩ := dG hp r
 obtain ⟨v, d⟩ := p
 cases v <;> first | exact .none | skip
 obtain ⟨t, rfl⟩ := r1
 dsimp only [wt]
 generalize hm : A.heap.get i = ob
 cases ob with
 | none => exact .none
 | some ob =>
 cases ob <;> first | exact .none | skip
 case aR es => exact .dM fun hc => by obtain ⟨aF, d⟩ := (H.objs _ _ hm).aR; exact ie G H hi d hc r2
 case a0 =>
  exact ie G H hi (H.objs _ _ hm).nJ (Nat.zero_le _) r2
set_option tactic.hygienic true in
theorem fE (H : St Z L cs c A s) {i : Nat} (hi : i < c.n) {as : List V} {us : List Value} (r : dk c as us) : au Z L cs Ar (call (.builtin "list.append") (.ref (c.σ i).1 :: us)) VR (jL i N.append as A) c s := by
 delta jL
 split <;> first | exact .none | skip
 rename_i v hv
 obtain ⟨u, rfl, r1⟩ := dF hv r
 generalize hm : A.heap.get i = ob
 cases ob with
 | none => exact .none
 | some ob =>
 cases ob <;> first | exact .none | skip
 case list xs => exact .dM fun hc => mL H hi hm hc.2 r1
 case jl k =>
  exact .dM fun hc => xt H hi hm hc.2
end
section
variable {Z : aL} {n : Nat} {ih : bM} {L : Nat} {cs : Fm} {Ar : Around} {c c' : Cfg} {A : AS} {s s' : Shared} {env : Env} {sc : cG} {m : Nat}
theorem nZ {x : Addr} {h : Heap} (hx : KFB.StandsAt x h) : ∃ k, Looks Z.M h (keeperOf (.ref x)) k := by
 refine ⟨.machine, ?_⟩
 refine (Looks.ld (part := none) hx).andThen ?_
 exact Looks.of_pure rfl
structure Found (Z : aL) (ih : bM) (L : Nat) (cs : Fm) (Ar : Around) (c : Cfg) (s : Shared) (u : Value) (k : Nat) (mt : yI) : Prop where
 ex : ∃ f first, (∀ (pl : Sem Bool) (Q : Value × List Value → Shared → Prop) (E : Value → Shared → Prop), (∀ tk, Q (f, first) { s with toks := tk }) → wpAny Z.M Ar (getMethod u (Z.nm k) pl) Q E s) ∧
  (∀ vs c' A' s', Le Z L c s c' s' → St Z L cs c' A' s' → wy Z.Γ ih mt k vs A' = none ∨ ∃ k, Looks Z.M s'.heap (keeperOf f) k) ∧
  ∀ vs A' c' s' us, Le Z L c s c' s' → St Z L cs c' A' s' → dk c' vs us → au Z L cs Ar (call f (first ++ us) []) VR (wy Z.Γ ih mt k vs A') c' s'
theorem fV (G : Z.Glob) {i k : Nat} (hi : i < c.n) (hx : ∃ o, s.heap.get? (c.σ i).1 = some o ∧ o.ExactDict) (hk : k = N.get ∨ k = N.pop ∨ k = N.bO) : Found Z ih L cs Ar c s (.ref (c.σ i).1) k (.dict i) := by
 refine (hx).elim fun o aj => (aj).elim fun ho hd => ?_
 have hT : s.TypeIs (.ref (c.σ i).1) "dict" := ⟨o, ho, hd.1⟩
 have BU : ∀ a, Value.ref (c.σ i).1 = .ref a → ∃ o, s.heap.get? a = some o ∧ o.dict = none := fun a e => by cases e; exact ⟨o, ho, hd.2.1⟩
 have hb : ∀ (id : String) (s' : Shared), ∃ k, Looks Z.M s'.heap (keeperOf (.builtin id)) k := fun id s' => dY (fun a h => by cases h) _
 rcases hk with rfl | rfl | rfl
 ·refine ⟨.builtin "dict.get", [.ref (c.σ i).1], fun pl Q E q => ?_, fun J J J s' J J => .inr (hb _ s'), fun vs A' c' s' us le H' r => ?_⟩
  ·refine ae G.oU ?_; exact getMethod_builtin hT F.plainAttrs_dict F.slot_dict_get F.type_dict_get BU (q s.toks)
  ·have := Ci (Ar := Ar) G H' (Nat.lt_of_lt_of_le hi le.n) r
   rw [le.σ i hi] at this; exact this
 ·refine ⟨.builtin "dict.pop", [.ref (c.σ i).1], fun pl Q E q => ?_, fun J J J s' J J => .inr (hb _ s'), fun vs A' c' s' us le H' r => ?_⟩
  ·refine ae G.oV ?_; exact getMethod_builtin hT F.plainAttrs_dict F.slot_dict_pop F.type_dict_pop BU (q s.toks)
  ·have := Cj (Ar := Ar) G H' (Nat.lt_of_lt_of_le hi le.n) r
   rw [le.σ i hi] at this; exact this
 ·refine ⟨.builtin "dict.setdefault", [.ref (c.σ i).1], fun pl Q E q => ?_, fun J J J s' J J => .inr (hb _ s'), fun vs A' c' s' us le H' r => ?_⟩
  ·refine ae G.i6 ?_; exact getMethod_builtin hT F.plainAttrs_dict F.slot_dict_setdefault F.type_dict_setdefault BU (q s.toks)
  ·have := zt (Ar := Ar) G H' (Nat.lt_of_lt_of_le hi le.n) r
   rw [le.σ i hi] at this; exact this
inductive fF (Γ : Ctx) (m : Nat) (A : AS) : V → yI → Prop
 | uk {C k f} (hc : af C Γ.dq = some k) (hx : af C Γ.cf = none) (hf : af m k.meths = some (true, f)) : fF Γ m A (.cls C) (.fn f [])
 | inst {i C fs k f} (hm : A.heap.get i = some (.inst C fs)) (hs : af m fs = none) (hc : af C Γ.dq = some k) (hf : af m k.meths = some (false, f)) : fF Γ m A (.loc i) (.fn f [.loc i])
 | aB {i es} (hm : A.heap.get i = some (.aB es)) (hk : m = N.get ∨ m = N.pop) : fF Γ m A (.loc i) (.dict i)
 | aR {i es} (hm : A.heap.get i = some (.aR es)) (hk : m = N.get ∨ m = N.bO) : fF Γ m A (.loc i) (.dict i)
 | a0 {i} (hm : A.heap.get i = some .a0) (hk : m = N.get ∨ m = N.pop ∨ m = N.bO) : fF Γ m A (.loc i) (.dict i)
 | aw {i es} (hm : A.heap.get i = some (.aw es)) (hk : m = N.get ∨ m = N.pop) : fF Γ m A (.loc i) (.dict i)
 | jl {i k} (hm : A.heap.get i = some (.jl k)) (hk : m = N.append) : fF Γ m A (.loc i) (.list i)
 | list {i xs} (hm : A.heap.get i = some (.list xs)) (hk : m = N.append) : fF Γ m A (.loc i) (.list i)
 | int {x} (hk : m = N.to_bytes) : fF Γ m A (.int x) (.int x)
 | jK (hk : m = N.from_bytes) : fF Γ m A (.ty .int) .jK
theorem c8 {α : Type} {p : Prop} [Decidable p] {a b : α} (h : (if p then some a else none) = some b) : p ∧ a = b := by
 by_cases hp : p
 ·exact ⟨hp, aO ((if_pos hp).symm.trans h)⟩
 ·exact no ((if_neg hp).symm.trans h)
theorem sv {Γ : Ctx} {o : V} {m : Nat} {mt : yI} (e : iZ Γ o m A = some mt) : fF Γ m A o mt := by
 cases o with
 | cls C =>
  dsimp only [iZ] at e
  generalize hc : af C Γ.dq = y at e
  cases y with
  | none => exact no e
  | some k =>
   dsimp only at e
   generalize hx : af C Γ.cf = z at e
   cases z with
   | some _ => exact no e
   | none =>
   dsimp only at e
   generalize hf : af m k.meths = y at e
   cases y with
   | none => exact no e
   | some x =>
    obtain ⟨b, f⟩ := x
    cases b with
    | true => obtain rfl := aO e; exact .uk hc hx hf
    | false => exact no e
 | loc i =>
  dsimp only [iZ] at e
  generalize hm : A.heap.get i = y at e
  cases y with
  | none => exact no e
  | some ob => cases ob with
   | inst C fs =>
    dsimp only at e
    generalize hs : af m fs = y at e
    cases y with
    | some _ => exact no e
    | none =>
     dsimp only at e
     generalize hc : af C Γ.dq = y at e
     cases y with
     | none => exact no e
     | some k =>
      dsimp only at e
      generalize hf : af m k.meths = y at e
      cases y with
      | none => exact no e
      | some x =>
       obtain ⟨b, f⟩ := x
       cases b with
       | true => exact no e
       | false => obtain rfl := aO e; exact .inst hm hs hc hf
   | aB es => obtain ⟨hk, rfl⟩ := c8 e; exact .aB hm hk
   | aw es => obtain ⟨hk, rfl⟩ := c8 e; exact .aw hm hk
   | jl k => obtain ⟨hk, rfl⟩ := c8 e; exact .jl hm hk
   | aR es => obtain ⟨hk, rfl⟩ := c8 e; exact .aR hm hk
   | a0 => obtain ⟨hk, rfl⟩ := c8 e; exact .a0 hm hk
   | list xs => obtain ⟨hk, rfl⟩ := c8 e; exact .list hm hk
   | _ => exact no e
 | int x => obtain ⟨hk, rfl⟩ := c8 e; exact .int hk
 | ty t => cases t with
  | int => obtain ⟨hk, rfl⟩ := c8 e; exact .jK hk
  | _ => exact no e
 | _ => exact no e
theorem p9 (G : Z.Glob) (Fs : tJ Z) (I : aC Z n ih) (hn : Room (n + 1) Ar cs) (H : St Z L cs c A s) {o : V} {u : Value} {k : Nat} {mt : yI} (r : VR c o u) (e : iZ Z.Γ o k A = some mt) :
 Found Z ih L cs Ar c s u k mt ∨ (u = .type "int" ∧ k = N.from_bytes ∧ mt = .jK) := by
 have hb : ∀ (id : String) (s' : Shared), ∃ k, Looks Z.M s'.heap (keeperOf (.builtin id)) k := fun id s' => dY (fun a h => by cases h) _
 have w := sv e
 clear e
 induction w with
 | uk hc hx hf =>
  obtain rfl := r
  exact .inl ⟨_, [], pX G H hc hx hf, fun vs c' A' s' le H' => xq (ih := ih) G Fs (f := .fn _) rfl H' vs, fun vs A' c' s' us le H' q => dX G Fs I hn H' q⟩
 | inst hm hs hc hf =>
  obtain ⟨hi, rfl⟩ := r
  refine .inl ⟨_, [_], vh G Fs I hn H hm hs hc hf, ?_, fun vs A' c' s' us le H' q => dX G Fs I hn H' (.cons (VR.mono (v := .loc _) le.grown ⟨hi, rfl⟩) q)⟩
  exact fun vs c' A' s' le H' => xq (ih := ih) G Fs (f := .fn _) rfl H' _
 | aB hm hk =>
  obtain ⟨hi, rfl⟩ := r
  obtain ⟨aF, d⟩ := (H.objs _ _ hm).aB
  obtain ⟨ob, CY, ep, h1, h2, _⟩ := d.at_
  exact .inl (fV G hi ⟨ob, h1, h2⟩ (hk.imp id .inl))
 | aw hm hk =>
  obtain ⟨hi, rfl⟩ := r
  refine ((H.objs _ _ hm).aw).elim fun fs aj => (aj).elim fun aF ay => (ay).elim fun d _ => ?_
  obtain ⟨ob, CY, ep, h1, h2, _⟩ := d.at_
  exact .inl (fV G hi ⟨ob, h1, h2⟩ (hk.imp id .inl))
 | @jl i k hm hk =>
  obtain ⟨hi, rfl⟩ := r
  obtain rfl := hk
  refine (H.objs _ _ hm).elim fun vs aj => (aj).elim fun ep ay => (ay).elim fun e1 r1 => ?_
  refine .inl ⟨.builtin "list.append", [.ref (c.σ i).1], fun pl Q E q => ?_, fun J J J s' J J => .inr (hb _ s'), fun vs A' c' s' us le H' r => ?_⟩
  ·refine ae G.nC ?_; exact getMethod_builtin (dW e1) F.plainAttrs_list F.slot_list_append F.type_list_append (fun a h => by cases h; exact ⟨_, e1, rfl⟩) (q s.toks)
  ·have := fE (Ar := Ar) H' (Nat.lt_of_lt_of_le hi le.n) r
   rw [le.σ _ hi] at this; exact this
 | aR hm hk =>
  obtain ⟨hi, rfl⟩ := r
  obtain ⟨aF, d⟩ := (H.objs _ _ hm).aR
  obtain ⟨ob, CY, ep, h1, h2, _⟩ := d.at_
  exact .inl (fV G hi ⟨ob, h1, h2⟩ (hk.imp id .inr))
 | a0 hm hk =>
  obtain ⟨hi, rfl⟩ := r
  refine (H.objs _ _ hm).elim fun ob aj => (aj).elim fun h1 ay => (ay).elim fun h2 _ => ?_
  exact .inl (fV G hi ⟨ob, h1, h2⟩ hk)
 | @list i xs hm hk =>
  obtain ⟨hi, rfl⟩ := r
  obtain rfl := hk
  obtain ⟨vs, ep, e1, r1⟩ := H.objs _ _ hm
  refine .inl ⟨.builtin "list.append", [.ref (c.σ i).1], fun pl Q E q => ?_, fun J J J s' J J => .inr (hb _ s'), fun vs A' c' s' us le H' r => ?_⟩
  ·refine ae G.nC ?_; exact getMethod_builtin (dW e1) F.plainAttrs_list F.slot_list_append F.type_list_append (fun a h => by cases h; exact ⟨_, e1, rfl⟩) (q s.toks)
  ·have := fE (Ar := Ar) H' (Nat.lt_of_lt_of_le hi le.n) r
   rw [le.σ _ hi] at this; exact this
 | @int x hk =>
  obtain rfl := hk
  obtain ⟨hx, t, rfl⟩ := id r
  refine .inl ⟨.builtin "int.to_bytes", [.int (SI.den c.ρ x) t], fun pl Q E q => ?_, fun J J J s' J J => .inr (hb _ s'), fun vs A' c' s' us le H' q => lL H' (VR.mono le.grown r) q⟩
  refine ae G.oW ?_; exact KTBy.method (q s.toks)
 | jK hk => exact .inr ⟨r, hk, rfl⟩
theorem sx (G : Z.Glob) (Fs : tJ Z) (I : aC Z n ih) (hn : Room (n + 1) Ar cs) (H : St Z L cs c A s) (N : aS Z sc c L cs env) {o : V} {u : Value} {k : Nat} {as : List E} {x : Expr} {xs : List Expr} {apos pos : Pos} (r : VR c o u)
 (he : encL (aW Z.nm m sc) as xs = true) (hl : xs.length < 30) (hp : (apos.endLine == pos.line) = true) :
 au Z L cs Ar (methodCall x (Z.nm k) apos pos env u (xs.length + ([] : List Keyword).length) (backTo pos (starEach xs env)) (backToKw pos (keywordEach [] env))) VR (match iZ Z.Γ o k A with | none => none | some mt => Res.bind (eZ ih as A) fun as A => wy Z.Γ ih mt k as A) c s := by
 rw [dQ env he, fP]
 have cw : Room n Ar cs := hn.le (Nat.le_succ n)
 have hl : xs.length + ([] : List Keyword).length < 30 := hl
 cases MQ : iZ Z.Γ o k A with
 | none => exact .none
 | some mt =>
  rcases p9 (ih := ih) G Fs I hn H r MQ with F | ⟨rfl, rfl, rfl⟩
  ·refine Classical.byContradiction fun bad => ?_
   obtain ⟨f, first, h1, h2, h3⟩ := F.ex
   refine bad (mJ (P := fun f' Ck s' => f' = f ∧ Ck = first ∧ ∃ tk, s' = { s with toks := tk }) hl hp (fun pl Q E q => h1 pl Q E fun tk => q _ _ _ ⟨rfl, rfl, tk, rfl⟩) ?_)
   rintro _ _ _ ⟨rfl, rfl, tk, rfl⟩
   exact au.from H.bw (Le.toks tk) (gK (H.toks tk) (cY I cw he (H.toks tk) N) (fun vs c' A' s' le H' => h2 vs c' A' s' ((Le.toks tk).trans le) H') fun vs A' c' s' us le H' q => h3 vs A' c' s' us ((Le.toks tk).trans le) H' q)
  ·have vW : ∀ b o, s.heap.get? b = some o → (s.heap.push KFB.bound).get? b = some o := fun b o e => Heap.get?_push_of_some _ e
   have hx : (s.heap.push KFB.bound).get? s.heap.objs.size = some KFB.bound := Heap.get?_push_size _ rfl
   have G7 := get_size s.heap
   refine mJ (P := fun f first s' => f = .ref s.heap.objs.size ∧ first = [] ∧ s' = { s with heap := s.heap.push KFB.bound, toks := s.toks + 1 }) hl hp (fun pl Q E q => ?_) ?_
   ·refine ae G.oX ?_; exact zq (G.k.keeps H.base) G.fb (q _ _ _ ⟨rfl, rfl, rfl⟩)
   ·rintro _ _ _ ⟨rfl, rfl, rfl⟩
    have H1 : St Z L cs c A { s with heap := s.heap.push KFB.bound, toks := s.toks + 1 } := H.bk (s' := { s with heap := s.heap.push KFB.bound, toks := s.toks + 1 }) vW rfl rfl
    have a4 : Le Z L c s c { s with heap := s.heap.push KFB.bound, toks := s.toks + 1 } := Le.bk (s' := { s with heap := s.heap.push KFB.bound, toks := s.toks + 1 }) vW
    have xw : ∀ c' (s' : Shared), Le Z L c { s with heap := s.heap.push KFB.bound, toks := s.toks + 1 } c' s' → KFB.StandsAt s.heap.objs.size s'.heap := fun c' s' le =>
     let ⟨o', e', w⟩ := le.keep _ _ hx (Ne.symm (H.bw.ne G7)) fun i hi => ⟨Ne.symm ((H.up i hi).1.ne G7), Ne.symm ((H.up i hi).2.ne G7)⟩
     by have q := w.same (fun J J q => Data.noConfusion q) (a7 rfl (by decide)).1; rw [q] at e'; exact e'
    exact au.from H.bw a4 (gK H1 (cY I cw he H1 N) (fun J c' A' s' le J => .inr (nZ (xw _ _ le))) fun vs A' c' s' us le H' q => jt H' (xw _ _ le) q)
end
structure Own (L : Nat) (c : Cfg) (aE : Shared) (a : Nat) : Prop where
 new : aE.heap.get? a = none
 ne : a ≠ L
 off : ∀ i, i < c.n → a ≠ (c.σ i).1 ∧ a ≠ (c.σ i).2
noncomputable def jg (L : Nat) (c : Cfg) (aE s : Shared) : It → Value → Prop
 | .iz x n st, u => ∃ a, u = .ref a ∧ Own L c aE a ∧ IsRangeIter s.heap a x (n : Int) st
 | .lst i k, u => i < c.n ∧ ∃ a, u = .ref a ∧ Own L c aE a ∧ s.heap.IsListIter a (c.σ i).1 k
 | .tup i k, u => i < c.n ∧ ∃ a, u = .ref a ∧ Own L c aE a ∧ s.heap.IsTupleIter a (c.σ i).1 k
 | .keys i n k, u => i < c.n ∧ n < c.nv ∧ ∃ a es ep, u = .ref a ∧ Own L c aE a ∧ (c.ρ.o n).data = .dict es ep ∧ s.heap.IsKeyIter a (c.σ i).1 k es.size ep
section
variable {Z : aL} {L : Nat} {cs : Fm} {Ar : Around} {c c' c₀ : Cfg} {A A' : AS} {s s' aE : Shared} {a : Nat}
theorem St.eG (H : St Z L cs c A s) (hd : ∀ o, s.heap.get? a = some o → jR o) (hf : ∀ b ∈ cs.frs.filterMap (·.frame), b ≠ a) (hk : ∀ b o, s.heap.get? b = some o → b ≠ a → s'.heap.get? b = some o) (hg : s'.gens = s.gens) (ho : s'.os = s.os) (hb : Z.h₀.get? a = none) (O : Own L c aE a) : St Z L cs c A s' := by
 have kt : ∀ b o, s.heap.get? b = some o → dA o ∨ dP o ∨ bc o → s'.heap.get? b = some o := fun b o e t => hk b o e fun q => t.elim (hd o (q ▸ e)).1 fun t => t.elim (hd o (q ▸ e)).2.1 (hd o (q ▸ e)).2.2
 refine ⟨⟨fun b o e => hk b o (H.base b o e) (Has.ne ⟨o, e⟩ hb), hg.trans H.gens, ho.trans H.os, H.n, H.nv, H.vars, fun i ob e => ?_, H.lt, H.lo, fun i hi => ?_, H.apart⟩, H.toFrm.keep (bu.refl c) (fun o e => hk _ o e (Ne.symm O.ne)) fun i h h' => absurd h (Nat.not_le_of_lt h'), H.cells, ?_, fun b hm => ?_, fun P m => ?_⟩
 ·have hi : i < c.n := H.lt i ob e
  exact (H.objs i ob e).keep (bu.refl c) hi (fun o q J => hk _ o q (Ne.symm (O.off i hi).1)) (fun o q J => hk _ o q (Ne.symm (O.off i hi).2)) fun b o e t => ⟨o, kt b o e (t.elim (fun t => .inl (.inl t)) fun t => .inr (.inr t)), id, id⟩
 ·refine (H.up i hi).elim fun aj ay => (aj).elim fun o1 q1 => (ay).elim fun o2 q2 => ?_
  exact ⟨⟨o1, hk _ o1 q1 (Ne.symm (O.off i hi).1)⟩, ⟨o2, hk _ o2 q2 (Ne.symm (O.off i hi).2)⟩⟩
 ·have := H.hd
  revert this
  cases A.hd <;> cases cs.hd <;> intro this <;> first | exact this | skip
  refine (this).elim fun h1 aj => (aj).elim fun h2 ay => (ay).elim fun o aP => (aP).elim fun h3 h4 => ?_
  exact ⟨h1, h2, o, hk _ o h3 fun q => (hd o (q ▸ h3)).2.1 h4, h4⟩
 ·refine (H.outs b hm).elim fun h1 aj => (aj).elim fun ay h4 => (ay).elim fun o aP => (aP).elim fun h2 h3 => ?_
  exact ⟨h1, ⟨o, hk _ o h2 (hf b hm), h3⟩, h4⟩
 ·refine (H.tabs P m).elim fun o aj => (aj).elim fun e w => ?_
  exact ⟨o, kt P o e (.inl (.inr w.l)), w.mk' fun b o e t => ⟨o, kt b o e (.inr (.inr t)), t⟩⟩
theorem Le.eG (x : Le Z L c₀ aE c s) (hd : ∀ o, s.heap.get? a = some o → jR o) (hk : ∀ b o, s.heap.get? b = some o → b ≠ a → s'.heap.get? b = some o) (h0 : aE.heap.get? a = none) : Le Z L c₀ aE c s' where
 n := x.n
 nv := x.nv
 σ := x.σ
 ρ := x.ρ
 ck := fun b o e => by refine (x.ck b o e).elim fun o' aj => (aj).elim fun e' w => ?_; exact ⟨o', hk b o' e' (Has.ne ⟨o, e⟩ h0), w.tb, w.no, w.cd, fun t => (w.tab t).mk' fun b o e cl => ⟨o, hk b o e fun q => (hd o (q ▸ e)).2.2 cl, cl⟩⟩
 old := fun b o e0 e => hk b o (x.old b o e0 e) (Has.ne ⟨o, e⟩ h0)
 keep := fun b o e hb hn => by refine (x.keep b o e hb hn).elim fun o' aj => (aj).elim fun e' w => ?_; exact ⟨o', hk b o' e' (Has.ne ⟨o, e⟩ h0), w⟩
 new := x.new
theorem St.zu (H : St Z L cs c A s) {o : Obj} (e : s.heap.get? a = some o) (hd : ∀ es ep, o.data ≠ .dict es ep) : ∀ b ∈ cs.frs.filterMap (·.frame), b ≠ a := fun b hm q => by
 obtain ⟨_, ⟨o', h2, es, ep, h3⟩, _⟩ := H.outs b hm
 rw [q, e] at h2
 obtain rfl := aO h2
 exact hd es ep h3
theorem Own.mono (O : Own L c aE a) (ha : Has s.heap a) (le : Le Z L c s c' s') : Own L c' aE a :=
 ⟨O.new, O.ne, fun i hi => by
  by_cases q : i < c.n
  ·refine ae (le.σ i q) ?_; exact O.off i q
  ·have := le.new i (Nat.le_of_not_lt q) hi
   exact ⟨ha.ne this.1, ha.ne this.2⟩⟩
theorem Own.fresh (H : St Z L cs c A s) : Own L c s s.heap.objs.size :=
 ⟨get_size _, Ne.symm (H.bw.ne (get_size _)), fun i hi => ⟨Ne.symm ((H.up i hi).1.ne (get_size _)), Ne.symm ((H.up i hi).2.ne (get_size _))⟩⟩
theorem jg.mono {it : It} {u : Value} (r : jg L c aE s it u) (le : Le Z L c s c' s') : jg L c' aE s' it u := by
 have keep : ∀ a o, Own L c aE a → s.heap.get? a = some o → (∀ es ep, o.data ≠ .dict es ep) → ¬ dA o → s'.heap.get? a = some o := fun a o O e h1 h2 => by
  refine (le.keep a o e O.ne O.off).elim fun o' aj => (aj).elim fun e' w => ?_
  rw [w.same h1 h2] at e'; exact e'
 cases it with
 | iz x n st =>
  obtain ⟨a, rfl, O, h⟩ := r
  exact ⟨a, rfl, O.mono ⟨_, h⟩ le, keep _ _ O h (fun J J q => Data.noConfusion q) (a7 rfl (by decide)).1⟩
 | lst i k =>
  obtain ⟨hi, a, rfl, O, o, h, h'⟩ := r
  refine ⟨Nat.lt_of_lt_of_le hi le.n, a, rfl, O.mono ⟨_, h⟩ le, o, keep _ _ O h (fun J J q => by rw [h'.2] at q; cases q) (a7 h'.1 (by decide)).1, ?_⟩
  refine ae (le.σ i hi) ?_; exact h'
 | tup i k =>
  obtain ⟨hi, a, rfl, O, o, h, h'⟩ := r
  refine ⟨Nat.lt_of_lt_of_le hi le.n, a, rfl, O.mono ⟨_, h⟩ le, o, keep _ _ O h (fun J J q => by rw [h'.2] at q; cases q) (a7 h'.1 (by decide)).1, ?_⟩
  refine ae (le.σ i hi) ?_; exact h'
 | keys i n k =>
  obtain ⟨hi, hn, a, es, ep, rfl, O, hd, o, h, h'⟩ := r
  refine ⟨Nat.lt_of_lt_of_le hi le.n, Nat.lt_of_lt_of_le hn le.nv, a, es, ep, rfl, O.mono ⟨_, h⟩ le, ?_, o, keep _ _ O h (fun J J q => by rw [h'.2] at q; cases q) (a7 h'.1 (by decide)).1, ?_⟩
  ·have : c'.ρ.o n = c.ρ.o n := congrArg Prod.snd (le.ρ n hn).2.1
   refine ae this ?_; exact hd
  ·refine ae (le.σ i hi) ?_; exact h'
theorem dZ {prog : Program} {w : World} {Q : Unit → Shared → Prop} {E : Value → Shared → Prop} {target : Expr} {r : Addr} {x : Value} {o : Obj} {n : String} (ho : s.heap.get? r = some o) (hc : o.cls = .type n)
 (hn : (["enumerate", "zip", "dict_itemiterator", "dict_reverseitemiterator", "odict_iterator", "itertools.zip_longest", "itertools.pairwise"].contains n) = false) (h : Q () s) : wpAny (model prog w) Ar (letOwnedTupleGo target (.ref r) x) Q E s := by
 have go : wpAny (model prog w) Ar (do
  let (.ref r, .ref a) := ((Value.ref r, x) : Value × Value) | return
  let o ← load r
  match o.cls, o.data with
  | .type n, .fields vs =>
   if ["enumerate", "zip", "dict_itemiterator", "dict_reverseitemiterator", "odict_iterator", "itertools.zip_longest", "itertools.pairwise"].contains n && vs[0]? == some (rawInt a) then
    rule "for.unpacks-the-owned-tuple"
    updateField r 0 .none
  | _, _ => pure ()) Q E s := by
  cases x <;> first | exact wpAny_pure h | skip
  refine wpAny_bind (wpAny_load ho ?_)
  refine ae hc ?_
  cases o.data <;> first | exact wpAny_pure h | skip
  dsimp only
  rw [hn, Bool.false_and, if_neg (by decide)]
  exact wpAny_pure h
 cases target <;> first | exact wpAny_pure h | exact go
theorem ij (G : Z.Glob) (H : St Z L cs c A s) {i : Nat} (hi : i < c.n) {es : List (Int × V)} (ho : br Z c s.heap i (.aB es)) {Q : Value → Shared → Prop} {E : Value → Shared → Prop}
 (q : ∀ c' s' w, (∀ b o, s.heap.get? b = some o → s'.heap.get? b = some o) → Le Z L c s c' s' → St Z L cs c' (freeze i es A).2 s' → jg L c' s s' (freeze i es A).1 w → Q w s') : wpAny Z.M Ar (pyIter (.ref (c.σ i).1)) Q E s := by
 obtain ⟨o, aF, h1, h2, h3⟩ := ho
 refine (id h2).elim fun dh aj => (aj).elim fun ep ay => (ay).elim fun k1 aP => (aP).elim fun k2 bF => (bF).elim fun k3 cZ => (cZ).elim fun k4 k5 => ?_
 have zo : s.heap.DictAt (intKind Z.prog Z.w) (c.σ i).1 aF ep := ⟨o, dh, h1, k1, k2, k3, k4, k5⟩
 have ru : dh.size = aF.length := by refine bK k4.length ?_; simp
 have H1 : St Z L cs (c.draw 0 (fun J => 0) o) (A.fresh .oct).2 s := H.fresh (d := .oct) trivial
 have G8 : (c.draw 0 (fun J => 0) o).ρ.o A.vars.length = o := by
  refine (?_ : (if A.vars.length = c.nv then ((fun J => 0 : Nat → UInt8), o) else c.ρ.bo A.vars.length).2 = o)
  refine ae (if_pos H.nv.symm) ?_; rfl
 have H2 : St Z L cs (c.draw 0 (fun J => 0) o) (freeze i es A).2 s := by
  refine H1.change (o' := .cU A.vars.length es) hi (fun J J e J J => e) (a6.of fun J J e => e) ⟨?_, ?_, aF, ?_, ?_⟩ rfl rfl
  ·refine (?_ : A.vars.length < c.nv + 1); refine ae H.nv ?_; exact Nat.lt_succ_self _
  ·refine ae G8 ?_; exact h1
  ·refine ae G8 ?_; exact h2
  ·exact h3.imp fun J J y => ⟨y.1, y.2.mono (c.dB 0 (fun J => 0) o)⟩
 refine wpAny_pyIter_dict (cx G H hi) zo ?_
 have hk : ∀ b ob, s.heap.get? b = some ob → (s.heap.push { cls := .type "dict_keyiterator", data := .fields #[.ref (c.σ i).1, .int 0 0, .int aF.length 0, .int ep 0] }).get? b = some ob := fun b ob e => Heap.get?_push_of_some _ e
 refine q (c.draw 0 (fun J => 0) o) { s with heap := _ } _ hk ((Le.fresh (s := s)).trans (Le.bk (s' := { s with heap := _ }) hk)) (H2.bk (s' := { s with heap := _ }) hk rfl rfl) ?_
 refine ⟨hi, ?_, s.heap.objs.size, dh, ep, rfl, ?_, ?_, _, Heap.get?_push_size _ rfl, rfl, ?_⟩
 ·refine (?_ : A.vars.length < c.nv + 1); refine ae H.nv ?_; exact Nat.lt_succ_self _
 ·exact Own.fresh H2
 ·refine ae G8 ?_; exact k2
 ·refine ae ru ?_; rfl
inductive sy (A : AS) : V → It × AS → Prop
 | iz {i lo hi st} (hm : A.heap.get i = some (.iz lo hi st)) (h1 : Builtin.Range.small lo hi st = true) (h2 : 0 ≤ Builtin.Range.rangeSize lo hi st) : sy A (.loc i) (.iz lo (Builtin.Range.rangeSize lo hi st).toNat st, A)
 | lst {i xs} (hm : A.heap.get i = some (.list xs) ∨ ∃ n, A.heap.get i = some (.rl n xs)) : sy A (.loc i) (.lst i 0, A)
 | tup {i xs} (hm : A.heap.get i = some (.tup xs)) : sy A (.loc i) (.tup i 0, A)
 | KD {i es} (hm : A.heap.get i = some (.aB es)) : sy A (.loc i) (freeze i es A)
 | KG {i} (hm : A.heap.get i = some .a0) : sy A (.loc i) (freeze i [] A)
theorem kK {v : V} {p : It × AS} (e : cV v A = some p) : sy A v p := by
 cases v with
 | loc i =>
  dsimp only [cV] at e
  generalize hm : A.heap.get i = o at e
  cases o with
  | none => exact no e
  | some ob => cases ob with
   | iz lo hi st =>
    dsimp only at e
    cases hc : (Builtin.Range.small lo hi st && decide (0 ≤ Builtin.Range.rangeSize lo hi st)) with
    | false => rw [hc] at e; exact no e
    | true =>
     rw [hc] at e
     obtain rfl := aO e
     exact .iz hm (ao hc).1 (of_decide_eq_true (ao hc).2)
   | list xs => obtain rfl := aO e; exact .lst (.inl hm)
   | rl n xs => obtain rfl := aO e; exact .lst (.inr ⟨_, hm⟩)
   | tup xs => obtain rfl := aO e; exact .tup hm
   | aB es => obtain rfl := aO e; exact .KD hm
   | a0 => obtain rfl := aO e; exact .KG hm
   | _ => exact no e
 | _ => exact no e
theorem list_of (H : St Z L cs c A s) {i : Nat} {xs : List V} (hm : A.heap.get i = some (.list xs) ∨ ∃ n, A.heap.get i = some (.rl n xs)) : ∃ vs ep, s.heap.get? (c.σ i).1 = some { cls := .type "list", data := .seq vs ep } ∧ aT (VR c) xs vs.toList := by
 rcases hm with hm | ⟨n, hm⟩
 ·obtain ⟨vs, ep, h1, r1⟩ := H.objs _ _ hm
  exact ⟨vs, ep, h1, r1⟩
 ·refine (H.objs _ _ hm).elim fun _ aj => (aj).elim fun h1 ay => (ay).elim fun vs aP => (aP).elim fun ep bF => (bF).elim fun h2 r1 => ?_
  rw [h2] at h1
  exact ⟨vs, ep, h1, r1⟩
theorem kL (H : St Z L cs c A s) {it : It} {ob : Obj} {Q : Value → Shared → Prop}
 (q : ∀ c' s' w, (∀ b o, s.heap.get? b = some o → s'.heap.get? b = some o) → Le Z L c s c' s' → St Z L cs c' A s' → jg L c' s s' it w → Q w s')
 (hi : Own L c s s.heap.objs.size → (s.heap.push ob).get? s.heap.objs.size = some ob → jg L c s { s with heap := s.heap.push ob } it (.ref s.heap.objs.size)) (hf : ob.isFreed = false) : Q (.ref s.heap.objs.size) { s with heap := s.heap.push ob } := by
 have lit : ∀ b o, s.heap.get? b = some o → (s.heap.push ob).get? b = some o := fun b o e => Heap.get?_push_of_some _ e
 exact q c { s with heap := s.heap.push ob } _ lit (Le.bk (s' := { s with heap := s.heap.push ob }) lit) (H.bk (s' := { s with heap := s.heap.push ob }) lit rfl rfl) (hi (Own.fresh H) (Heap.get?_push_size _ hf))
theorem fG (G : Z.Glob) (H : St Z L cs c A s) {v : V} {u : Value} {p : It × AS} (r : VR c v u) (e : cV v A = some p) {Q : Value → Shared → Prop} {E : Value → Shared → Prop}
 (q : ∀ c' s' w, (∀ b o, s.heap.get? b = some o → s'.heap.get? b = some o) → Le Z L c s c' s' → St Z L cs c' p.2 s' → jg L c' s s' p.1 w → Q w s') : wpAny Z.M Ar (pyIter u) Q E s := by
 have w := kK e
 clear e
 induction w with
 | iz hm MR MS =>
  obtain ⟨hi, rfl⟩ := r
  refine (H.objs _ _ hm).elim fun t aj => (aj).elim fun t' ay => (ay).elim fun CU h1 => ?_
  exact wpAny_pyIter_range h1 MR (kL H q (fun O g => ⟨_, rfl, O, by refine ae (Int.toNat_of_nonneg MS) ?_; exact g⟩) rfl)
 | lst hm =>
  obtain ⟨hi, rfl⟩ := r
  refine (list_of H hm).elim fun vs aj => (aj).elim fun ep ay => (ay).elim fun h1 _ => ?_
  exact wpAny_pyIter_list ⟨_, h1, rfl, _, rfl⟩ (kL H q (fun O g => ⟨hi, _, rfl, O, _, g, rfl, rfl⟩) rfl)
 | tup hm =>
  obtain ⟨hi, rfl⟩ := r
  refine (H.objs _ _ hm).elim fun vs aj => (aj).elim fun h1 _ => ?_
  exact wpAny_pyIter_tuple ⟨_, h1, rfl, _, rfl⟩ (kL H q (fun O g => ⟨hi, _, rfl, O, _, g, rfl, rfl⟩) rfl)
 | KD hm =>
  obtain ⟨hi, rfl⟩ := r
  exact ij G H hi (H.objs _ _ hm) q
 | KG hm =>
  obtain ⟨hi, rfl⟩ := r
  have hd := (H.objs _ _ hm).fw
  exact ij G H hi (.hX hd.at_ hd.all) q
end
section
variable {Z : aL} {L : Nat} {cs : Fm} {Ar : Around} {c c' c₀ : Cfg} {A A' : AS} {s s' aE : Shared} {a : Nat}
theorem xx {vs : Array Value} {k : Nat} {u : Value} (h : vs.toList[k]? = some u) : vs[k]? = some u := by refine bK (Array.getElem?_toList) ?_; exact h
theorem qa {xs : List V} {vs : Array Value} (r : dk c xs vs.toList) {k : Nat} (h : xs[k]? = none) : vs[k]? = none := by
 rw [← Array.getElem?_toList, List.getElem?_eq_none_iff, ← r.length]
 exact List.getElem?_eq_none_iff.mp h
def vm (Z : aL) (L : Nat) (cs : Fm) (c₀ : Cfg) (aE : Shared) (c : Cfg) (Q : Option Value → Shared → Prop) (A' : AS) : Prop := ∀ s', Le Z L c₀ aE c s' → St Z L cs c A' s' → Q none s'
def vn (Z : aL) (L : Nat) (cs : Fm) (Ar : Around) (c₀ : Cfg) (aE : Shared) (c : Cfg) (u : Value) (Q : Option Value → Shared → Prop) (A' : AS) (v : V) (tP : It) : Prop :=
 ∀ w s', (∀ (target : Expr) (Q' : Unit → Shared → Prop) (E' : Value → Shared → Prop), (∀ c' ew, bu c c' → Le Z L c₀ aE c' ew → St Z L cs c' A' ew → VR c' v w → jg L c' aE ew tP u → Q' () ew) → wpAny Z.M Ar (letOwnedTupleGo target u w) Q' E' s') → Q (some w) s'
def Ee (Z : aL) (L : Nat) (cs : Fm) (Ar : Around) (c₀ : Cfg) (aE : Shared) (c : Cfg) (u : Value) (Q : Option Value → Shared → Prop) (A' : AS) (x : Itm) : Prop := match x with
 | .fin => vm Z L cs c₀ aE c Q A'
 | .one v tP => vn Z L cs Ar c₀ aE c u Q A' v tP
inductive ik (A : AS) : It → Itm × AS → Prop
 | Ef {x st} : ik A (.iz x 0 st) (.fin, A)
 | Eg {x n st} : ik A (.iz x (n + 1) st) (.one (.int (.lit x)) (.iz (x + st) n st), A)
 | Cm {i k xs} (hm : A.heap.get i = some (.list xs) ∨ ∃ n, A.heap.get i = some (.rl n xs)) (hv : xs[k]? = none) : ik A (.lst i k) (.fin, A)
 | Cn {i k xs v} (hm : A.heap.get i = some (.list xs) ∨ ∃ n, A.heap.get i = some (.rl n xs)) (hv : xs[k]? = some v) : ik A (.lst i k) (.one v (.lst i (k + 1)), A)
 | Eh {i k xs} (hm : A.heap.get i = some (.tup xs)) (hv : xs[k]? = none) : ik A (.tup i k) (.fin, A)
 | Ei {i k xs v} (hm : A.heap.get i = some (.tup xs)) (hv : xs[k]? = some v) : ik A (.tup i k) (.one v (.tup i (k + 1)), A)
 | Ej {i n k es} (hm : A.heap.get i = some (.cU n es)) (hv : es[k]? = none) : ik A (.keys i n k) (.fin, A.put i (.aB es))
 | Ek {i n k es} {e : Int × V} (hm : A.heap.get i = some (.cU n es)) (hv : es[k]? = some e) : ik A (.keys i n k) (.one (.int (.lit e.1)) (.keys i n (k + 1)), A)
theorem qb {it : It} {p : Itm × AS} (e : cJ it A = some p) : ik A it p := by
 cases it with
 | iz x left st => cases left with
  | zero => obtain rfl := aO e; exact .Ef
  | succ n => obtain rfl := aO e; exact .Eg
 | lst i k =>
  dsimp only [cJ] at e
  generalize hm : A.heap.get i = o at e
  cases o with
  | none => exact no e
  | some ob => cases ob with
   | list xs =>
    dsimp only at e
    rw [bJ] at e
    generalize hv : xs[k]? = y at e
    cases y with
    | none => obtain rfl := aO e; exact .Cm (.inl hm) hv
    | some v => obtain rfl := aO e; exact .Cn (.inl hm) hv
   | rl n xs =>
    dsimp only at e
    rw [bJ] at e
    generalize hv : xs[k]? = y at e
    cases y with
    | none => obtain rfl := aO e; exact .Cm (.inr ⟨_, hm⟩) hv
    | some v => obtain rfl := aO e; exact .Cn (.inr ⟨_, hm⟩) hv
   | _ => exact no e
 | tup i k =>
  dsimp only [cJ] at e
  generalize hm : A.heap.get i = o at e
  cases o with
  | none => exact no e
  | some ob => cases ob with
   | tup xs =>
    dsimp only at e
    rw [bJ] at e
    generalize hv : xs[k]? = y at e
    cases y with
    | none => obtain rfl := aO e; exact .Eh hm hv
    | some v => obtain rfl := aO e; exact .Ei hm hv
   | _ => exact no e
 | keys i n k =>
  dsimp only [cJ] at e
  generalize hm : A.heap.get i = o at e
  cases o with
  | none => exact no e
  | some ob => cases ob with
   | cU m es =>
    dsimp only at e
    cases hn : Nat.beq n m with
    | false => rw [hn] at e; exact no e
    | true =>
     rw [hn] at e
     obtain rfl := Nat.eq_of_beq_eq_true hn
     rw [bJ] at e
     generalize hv : es[k]? = y at e
     cases y with
     | none => obtain rfl := aO e; exact .Ej hm hv
     | some v => obtain rfl := aO e; exact .Ek hm hv
   | _ => exact no e
theorem base_of (bI : ∀ b o, Z.h₀.get? b = some o → aE.heap.get? b = some o) {a : Nat} (h : aE.heap.get? a = none) : Z.h₀.get? a = none := by
 cases e : Z.h₀.get? a with
 | none => rfl
 | some o => have := bI _ _ e; rw [h] at this; cases this
def Iter (s : Shared) (a : Addr) : Prop := ∃ o n vs, s.heap.get? a = some o ∧ o.cls = .type n ∧ (n ≠ "traceback" ∧ n ≠ "code") ∧ o.data = .fields vs
theorem Iter.of {o : Obj} {n : String} {vs : Array Value} (e : s.heap.get? a = some o) (hc : o.cls = .type n) (hn : n ≠ "traceback" ∧ n ≠ "code") (hd : o.data = .fields vs) : Iter s a := ⟨o, n, vs, e, hc, hn, hd⟩
theorem Iter.has {n : String} {vs : Array Value} (x : ∃ o, s.heap.get? a = some o ∧ o.cls = .type n ∧ o.data = .fields vs) (hn : n ≠ "traceback" ∧ n ≠ "code") : Iter s a := by refine (x).elim fun o aj => (aj).elim fun h1 ay => (ay).elim fun h2 h3 => ?_; exact ⟨o, n, vs, h1, h2, hn, h3⟩
theorem Iter.qc (x : Iter s a) : ∀ o, s.heap.get? a = some o → jR o := fun o e => by
 obtain ⟨o', n, _, h1, h2, h3, _⟩ := x
 rw [e] at h1; obtain rfl := aO h1
 exact a7 h2 h3
theorem Iter.out (x : Iter s a) (H : St Z L cs c A s) : ∀ b ∈ cs.frs.filterMap (·.frame), b ≠ a := by
 refine (x).elim fun o aj => (aj).elim fun n ay => (ay).elim fun vs aP => (aP).elim fun h1 bF => (bF).elim fun _ cZ => (cZ).elim fun _ h4 => ?_
 exact H.zu h1 fun J J q => by rw [h4] at q; cases q
section
variable {Q : Option Value → Shared → Prop} {E : Value → Shared → Prop} {u : Value} (hh : Ar.handled = none) (bI : ∀ b o, Z.h₀.get? b = some o → aE.heap.get? b = some o) (le : Le Z L c₀ aE c s) (H : St Z L cs c A s)
include bI le H
theorem iT (it : Iter s a) (O : Own L c aE a) (q : vm Z L cs c₀ aE c Q A) {h' : Heap} (hk : ∀ b o, s.heap.get? b = some o → b ≠ a → h'.get? b = some o) : Q none { s with heap := h' } :=
 q { s with heap := h' } (le.eG (s' := { s with heap := h' }) it.qc hk O.new) (H.eG (s' := { s with heap := h' }) it.qc (it.out H) hk rfl rfl (base_of bI O.new) O)
theorem fW (it : Iter s a) (O : Own L c aE a) {v : V} {tP : It} {w : Value} {h' : Heap} {tk : Nat} (q : vn Z L cs Ar c₀ aE c u Q A v tP) (hk : ∀ b o, s.heap.get? b = some o → b ≠ a → h'.get? b = some o)
 (hw : VR c v w) (hi : jg L c aE { s with heap := h', toks := tk } tP u)
 (hl : ∀ (target : Expr) (Q' : Unit → Shared → Prop) (E' : Value → Shared → Prop), Q' () { s with heap := h', toks := tk } → wpAny Z.M Ar (letOwnedTupleGo target u w) Q' E' { s with heap := h', toks := tk }) : Q (some w) { s with heap := h', toks := tk } :=
 q _ _ fun target Q' E' k => hl target Q' E' (k c _ (bu.refl c) (le.eG (s' := { s with heap := h', toks := tk }) it.qc hk O.new) (H.eG (s' := { s with heap := h', toks := tk }) it.qc (it.out H) hk rfl rfl (base_of bI O.new) O) hw hi)
include hh
theorem vo {x st : Int} (r : jg L c aE s (.iz x 0 st) u) (q : vm Z L cs c₀ aE c Q A) : wpAny Z.M Ar (pyNext u) Q E s := by
 obtain ⟨a, rfl, O, h⟩ := r
 exact wpAny_pyNext_range_end hh h (Int.le_refl 0) fun h' hs => iT bI le H (.of h rfl (by decide) rfl) O q fun b o e q => hs b o q e
omit hh in
theorem vp {x st : Int} {n : Nat} (r : jg L c aE s (.iz x (n + 1) st) u) (q : vn Z L cs Ar c₀ aE c u Q A (.int (.lit x)) (.iz (x + st) n st)) : wpAny Z.M Ar (pyNext u) Q E s := by
 obtain ⟨a, rfl, O, h⟩ := r
 refine wpAny_pyNext_range_item h (Int.ofNat_lt.mpr (Nat.succ_pos n)) fun h' g hs => ?_
 exact fW (tk := s.toks + 1) bI le H (.of h rfl (by decide) rfl) O q (fun b o e q => (hs.2 b q).trans e) ⟨trivial, _, rfl⟩ ⟨a, rfl, O, g.trans (by rw [Int.natCast_succ, Int.add_sub_cancel])⟩ fun target Q' E' k => dZ g rfl (by decide) k
theorem vq {i k : Nat} {xs : List V} (hm : A.heap.get i = some (.list xs) ∨ ∃ n, A.heap.get i = some (.rl n xs)) (hv : xs[k]? = none) (r : jg L c aE s (.lst i k) u) (q : vm Z L cs c₀ aE c Q A) : wpAny Z.M Ar (pyNext u) Q E s := by
 obtain ⟨hi, a, rfl, O, h⟩ := r
 refine (list_of H hm).elim fun vs aj => (aj).elim fun ep ay => (ay).elim fun h1 r1 => ?_
 exact wpAny_pyNext_list_end hh h ⟨_, h1, rfl, _, rfl⟩ (qa r1 hv) fun h' hs => iT bI le H (.has h (by decide)) O q fun b o e q => hs b o q e
omit hh in
theorem vr {i k : Nat} {xs : List V} {v : V} (hm : A.heap.get i = some (.list xs) ∨ ∃ n, A.heap.get i = some (.rl n xs)) (hv : xs[k]? = some v) (r : jg L c aE s (.lst i k) u) (q : vn Z L cs Ar c₀ aE c u Q A v (.lst i (k + 1))) : wpAny Z.M Ar (pyNext u) Q E s := by
 obtain ⟨hi, a, rfl, O, h⟩ := r
 refine (list_of H hm).elim fun vs aj => (aj).elim fun ep ay => (ay).elim fun h1 r1 => ?_
 refine (r1.at hv).elim fun w aj => (aj).elim fun hw G9 => ?_
 refine wpAny_pyNext_list_item h ⟨_, h1, rfl, _, rfl⟩ (xx hw) fun h' ⟨og, g1, g2, g3⟩ hs => ?_
 exact fW (tk := s.toks) bI le H (.has h (by decide)) O q (fun b o e q => (hs.2 b q).trans e) G9 ⟨hi, a, rfl, O, og, g1, g2, g3⟩ fun target Q' E' k => dZ g1 g2 (by decide) k
theorem vt {i k : Nat} {xs : List V} (hm : A.heap.get i = some (.tup xs)) (hv : xs[k]? = none) (r : jg L c aE s (.tup i k) u) (q : vm Z L cs c₀ aE c Q A) : wpAny Z.M Ar (pyNext u) Q E s := by
 obtain ⟨hi, a, rfl, O, h⟩ := r
 refine (H.objs _ _ hm).elim fun vs aj => (aj).elim fun h1 r1 => ?_
 exact wpAny_pyNext_tuple_end hh h ⟨_, h1, rfl, _, rfl⟩ (qa r1 hv) fun h' hs => iT bI le H (.has h (by decide)) O q fun b o e q => hs b o q e
omit hh in
theorem vu {i k : Nat} {xs : List V} {v : V} (hm : A.heap.get i = some (.tup xs)) (hv : xs[k]? = some v) (r : jg L c aE s (.tup i k) u) (q : vn Z L cs Ar c₀ aE c u Q A v (.tup i (k + 1))) : wpAny Z.M Ar (pyNext u) Q E s := by
 obtain ⟨hi, a, rfl, O, h⟩ := r
 refine (H.objs _ _ hm).elim fun vs aj => (aj).elim fun h1 r1 => ?_
 refine (r1.at hv).elim fun w aj => (aj).elim fun hw G9 => ?_
 refine wpAny_pyNext_tuple_item h ⟨_, h1, rfl, _, rfl⟩ (xx hw) fun h' ⟨og, g1, g2, g3⟩ hs => ?_
 exact fW (tk := s.toks) bI le H (.has h (by decide)) O q (fun b o e q => (hs.2 b q).trans e) G9 ⟨hi, a, rfl, O, og, g1, g2, g3⟩ fun target Q' E' k => dZ g1 g2 (by decide) k
omit bI le hh in
theorem keys_of {i n : Nat} {es : List (Int × V)} (hm : A.heap.get i = some (.cU n es)) {dh : Array DictEntry} {ep : Nat} (hd : (c.ρ.o n).data = .dict dh ep) :
 ∃ aF, s.heap.DictAt (intKind Z.prog Z.w) (c.σ i).1 aF ep ∧ dh.size = aF.length ∧ aT (fun (x : Int × V) (y : Int × Value) => y.1 = x.1 ∧ VR c x.2 y.2) es aF := by
 refine (H.objs _ _ hm).elim fun _ aj => (aj).elim fun h1 ay => (ay).elim fun aF aP => (aP).elim fun h2 h3 => ?_
 obtain ⟨Om, AQ, k1, k2, k3, k4, k5⟩ := id h2
 rw [hd] at k2
 cases k2
 exact ⟨aF, ⟨_, dh, h1, k1, hd, k3, k4, k5⟩, by refine bK k4.length ?_; simp, h3⟩
theorem vv {i n k : Nat} {es : List (Int × V)} (hm : A.heap.get i = some (.cU n es)) (hv : es[k]? = none) (r : jg L c aE s (.keys i n k) u) (q : vm Z L cs c₀ aE c Q (A.put i (.aB es))) : wpAny Z.M Ar (pyNext u) Q E s := by
 obtain ⟨hi, hn, a, dh, ep, rfl, O, hd, h⟩ := r
 refine (keys_of H hm hd).elim fun aF aj => (aj).elim fun zo ay => (ay).elim fun ru h3 => ?_
 rw [ru] at h
 refine wpAny_pyNext_dict_end hh h zo (by rw [List.getElem?_eq_none_iff, ← h3.length]; exact List.getElem?_eq_none_iff.mp hv) fun h' hs => ?_
 have hk : ∀ b o, s.heap.get? b = some o → b ≠ a → h'.get? b = some o := fun b o e q => hs b o q e
 have it : Iter s a := .has h (by decide)
 have H' := H.eG (s' := { s with heap := h' }) it.qc (it.out H) hk rfl rfl (base_of bI O.new) O
 exact q { s with heap := h' } (le.eG (s' := { s with heap := h' }) it.qc hk O.new) (H'.change (s' := { s with heap := h' }) hi (fun J J e J J => e) (a6.of fun J J e => e) (H'.objs _ _ hm).cU rfl rfl)
omit hh in
theorem vw {i n k : Nat} {es : List (Int × V)} {e : Int × V} (hm : A.heap.get i = some (.cU n es)) (hv : es[k]? = some e) (r : jg L c aE s (.keys i n k) u) (q : vn Z L cs Ar c₀ aE c u Q A (.int (.lit e.1)) (.keys i n (k + 1))) : wpAny Z.M Ar (pyNext u) Q E s := by
 obtain ⟨hi, hn, a, dh, ep, rfl, O, hd, h⟩ := r
 refine (keys_of H hm hd).elim fun aF aj => (aj).elim fun zo ay => (ay).elim fun ru h3 => ?_
 rw [ru] at h
 refine (h3.at hv).elim fun p aj => (aj).elim fun hp ay => (ay).elim fun C0 AR => ?_
 refine wpAny_pyNext_dict_item h zo (k := p.1) (v := p.2) hp fun key h' Ha ⟨og, g1, g2, g3⟩ hs => ?_
 obtain ⟨t, rfl⟩ := Value.isInt_shape Ha
 exact fW (tk := s.toks) bI le H (.has h (by decide)) O q (fun b o e q => (hs.2 b q).trans e) ⟨trivial, t, by refine ae C0 ?_; rfl⟩ ⟨hi, hn, a, dh, ep, rfl, O, hd, og, g1, g2, by refine ae g3 ?_; refine ae ru ?_; rfl⟩ fun target Q' E' k => dZ g1 g2 (by decide) k
theorem dv {it : It} {p : Itm × AS} (r : jg L c aE s it u) (e : cJ it A = some p) (q : Ee Z L cs Ar c₀ aE c u Q p.2 p.1) : wpAny Z.M Ar (pyNext u) Q E s := by
 have w := qb e
 clear e
 induction w with
 | Ef => exact vo hh bI le H r q
 | Eg => exact vp bI le H r q
 | Cm hm hv => exact vq hh bI le H hm hv r q
 | Cn hm hv => exact vr bI le H hm hv r q
 | Eh hm hv => exact vt hh bI le H hm hv r q
 | Ei hm hv => exact vu bI le H hm hv r q
 | Ej hm hv => exact vv hh bI le H hm hv r q
 | Ek hm hv => exact vw bI le H hm hv r q
end
end
section
variable {Z : aL} {n : Nat} {ih : bM} {L : Nat} {cs : Fm} {Ar : Around} {c c' c₀ : Cfg} {A A' : AS} {s s' aE : Shared} {env : Env} {sc : cG} {m : Nat}
theorem QO.sub {α β : Type} {R : Cfg → α → β → Prop} {l l' : List (Except Nat α × AS)} {u : β} (h : ∀ x ∈ l, x ∈ l') (q : QO Z L cs R l c s u s') : QO Z L cs R l' c s u s' := by
 obtain ⟨a, A', c', h1, h2, h3, h4⟩ := q
 exact ⟨a, A', c', h _ h1, h2, h3, h4⟩
theorem fH (G : Z.Glob) (P : bY Z) (P2 : bQ Z) (I : aC Z n ih) (h1 : 1 ≤ n) (hn : Room n Ar cs) {is : List Nat} {t : Expr} {v : V} {u : Value} (h : g7 Z.nm sc is t = true) (nd : is.Nodup) (H : St Z L cs c A s) (N : aS Z sc c L cs env) (r : VR c v u) :
 au Z L cs Ar (assign t env u) UR (match jO is v A with | some A => ok () A | none => none) c s := by
 cases t with
 | Name id p =>
  match is, h with
  | [], h => exact bf h
  | [i], h => exact fQ (m := 0) G P P2 I h1 hn (t := .loc i) (wI h) H N r
  | _ :: _ :: _, h => exact bf h
 | Tuple xs k p =>
  refine (ao h).elim fun h2 h3 => ?_
  exact fQ (m := 0) G P P2 I h1 hn (t := .tup is) (oQ (by refine ae h3 ?_; refine ae (decide_eq_true nd) ?_; refine ae h2 ?_; rfl)) H N r
 | _ => exact bf h
theorem ff {R : Result → Shared → Prop} (h : R (.ok .next) s) : bj Z.M Ar (.block [] env) R s := by
 refine aZ rfl ?_
 refine (?_ : bt Z.M Ar ((execs [] env).onRaise (fun x => do noteFrame x env; theTreesLotGoes x) >>= fun f => pure (PySem.Fin.done f)) _ _ s)
 exact aa (aU (aq (aq h)))
theorem qd {α : Type} {is : List Nat} {it : It} {r : AS → Res α} {f : It × AS → Res α} {l : bC α} (e : oK is it A r f = some l) :
 (∃ A1, cJ it A = some (.fin, A1) ∧ r A1 = some l) ∨ ∃ v tP A1 A2, cJ it A = some (.one v tP, A1) ∧ jO is v A1 = some A2 ∧ f (tP, A2) = some l := by
 obtain ⟨⟨x, A1⟩, hN, e⟩ := f9 e
 cases x with
 | fin => exact .inl ⟨A1, hN, e⟩
 | one v tP =>
  obtain ⟨A2, hB, e⟩ := f9 e
  exact .inr ⟨v, tP, A1, A2, hN, hB, e⟩
theorem vx {is : List Nat} {b : List S} {k : Nat} {it : It} : aD.loop ih is b (k + 1) it A = oK is it A (fun A => ok .next A) fun p => Res.bind (aX ih b p.2) (wA (aD.loop ih is b k) p.1) := rfl
theorem vy (hf : env.frame = some L) (hh : Ar.handled = none) (G : Z.Glob) (P : bY Z) (P2 : bQ Z) (I : aC Z n ih) (h1 : 1 ≤ n) (hn : Room n Ar cs) {is : List Nat} {t : Expr} {b : List S} {body : List Stmt} {u : Value} (hF : g7 Z.nm sc is t = true) (nd : is.Nodup) (hb : encL (cE Z.nm m sc) b body = true)
 (bI : ∀ b o, Z.h₀.get? b = some o → aE.heap.get? b = some o) (KH : Has aE.heap L) (xy : aS Z sc c₀ L cs env) : ∀ (fuel : Nat) {it : It} {A : AS} {c : Cfg} {s : Shared} {l : bC Fl}, aD.loop ih is b fuel it A = some l → kC l.list → Le Z L c₀ aE c s → St Z L cs c A s → jg L c aE s it u →
 bj Z.M Ar (.forLoop t u body [] env) (fun r s' => match r with | .ok fl => QO Z L cs FR l.list c₀ aE fl s' | .error _ => False) s := by
 intro fuel
 induction fuel with
 | zero => exact fun e => no e
 | succ fuel IH =>
  intro it A c s l e vc le H r
  refine aZ rfl ?_
  refine (?_ : bt Z.M Ar ((forTurn t u body [] env).onRaise _) _ _ s)
  refine aU (az (E := fun J J => False) ?_ (fun J J q => q) fun J J f => f.elim)
  dsimp only [forTurn]
  refine aa (aY (aa (aU ?_)))
  refine Classical.byContradiction fun bad => ?_
  rcases qd (vx.symm.trans e) with ⟨A1, hN, e⟩ | ⟨v, tP, A1, A2, hN, Hc, e⟩
  ·obtain rfl := aO e
   exact bad (.of (dv hh bI le H r hN fun s' uA H' => aq ⟨rfl, ff ⟨_, _, _, .head _, uA, H', rfl⟩⟩))
  ·refine bad (.of (dv hh bI le H r hN fun w s' K => ?_))
   refine aa (.of (K t _ _ fun c3 s3 J dU H3 r3 i3 => ?_))
   have kM : au Z L cs Ar (assign t env w) UR (aD.ok () A2) c3 s3 := by
    have := fH G P P2 I h1 hn hF nd H3 (xy.mono dU.grown) r3
    rw [Hc] at this
    exact this
   refine aa (kM.one fun J c4 s4 yW H4 J => ?_)
   have xA := dU.trans yW
   refine aa (au.use (fun l0 h0 => bN I hf hn b hb H4 (xy.mono xA.grown) l0 h0) e (fun fa A5 c5 fl s5 r' y1 y2 yz H5 f5 => ?_) fun i A5 c5 v5 s5 m5 J J J => (vc.no m5).elim)
   have Co := xA.trans yz
   have again := fun (y1 : aD.loop ih is b fuel tP A5 = some r') => bg (IH y1 (fun x hx => vc x (y2 x hx)) Co H5 ((i3.mono yW).mono yz)) (R' := fun r s' => match r with | .ok fl => QO Z L cs FR l.list c₀ aE fl s' | .error _ => False) fun r s' z => by
    cases r with
    | ok fl => exact QO.sub y2 z
    | error => exact z
   cases fa with
   | next => obtain rfl : fl = .next := f5; exact aq ⟨rfl, again y1⟩
   | cont => obtain rfl : fl = .cont := f5; exact aq ⟨rfl, again y1⟩
   | brk =>
    obtain rfl : fl = .brk := f5
    obtain rfl := aO y1
    exact aq ⟨_, _, _, y2 _ (.head _), Co, H5, rfl⟩
   | ret v =>
    obtain ⟨w5, rfl, hw⟩ := f5
    obtain rfl := aO y1
    exact aq ⟨_, _, _, y2 _ (.head _), Co, H5, _, rfl, hw⟩
theorem sA (hf : env.frame = some L) (G : Z.Glob) (P : bY Z) (P2 : bQ Z) (I : aC Z n ih) (h1 : 1 ≤ n) (hn : Room (n + 1) Ar cs) {is : List Nat} {t : Expr} {b : List S} {body : List Stmt} {v : V} {u : Value} (hF : g7 Z.nm sc is t = true) (nd : is.Nodup) (hb : encL (cE Z.nm m sc) b body = true)
 (H : St Z L cs c A s) (N : aS Z sc c L cs env) (r : VR c v u) :
 au Z L cs Ar (pyIter u >>= fun it => runOwn (.forLoop t it body [] env) env) FR (match cV v A with | some (it, A) => if A.hd.isNone = true then ef (aD.loop ih is b 300 it A) else none | none => none) c s := by
 intro l e
 cases hN : cV v A with
 | none => rw [hN] at e; cases e
 | some p =>
  obtain ⟨it, A1⟩ := p
  rw [hN] at e
  have e : (if A1.hd.isNone = true then ef (aD.loop ih is b 300 it A1) else none) = some l := e
  cases hq : A1.hd with
  | some x => rw [hq] at e; exact no e
  | none =>
  rw [hq] at e
  refine (fB (r := aD.loop ih is b 300 it A1) e).elim fun e1 vc => ?_
  refine aa (.of (fG G H r hN fun c1 s1 w J a4 H1 i1 => ?_))
  refine aU (az (E := fun J J => False) (jw (bg (vy hf (hn.quiet H1 hq) G P P2 I h1 (hn.le (Nat.le_succ n)) hF nd hb H.base H.bw N 300 e1 vc a4 H1 i1) fun r s' z => ?_) Gr) (fun J J q => q) fun J J f => f.elim)
  cases r with
  | ok fl => exact z
  | error => exact z
end
noncomputable def Cp (env : Env) (x : Str × NameKind) (acc : List (Str × Addr)) : List (Str × Addr) := if x.2 == .free then (x.1, (env.cells.lookup x.1).getD 0) :: acc else acc
noncomputable def gf (env : Env) (l : List (Str × NameKind)) (acc : List (Str × Addr)) : List (Str × Addr) := List.rec (motive := fun J => List (Str × Addr) → List (Str × Addr)) (fun acc => acc) (fun x J ih acc => ih (Cp env x acc)) l acc
theorem sC {env : Env} (l : List (Str × NameKind)) (acc : List (Str × Addr)) (h : ∀ x ∈ l, x.2 = .free → ∃ a, env.cells.lookup x.1 = some a) :
 (forIn (m := Sem) l acc fun x r => if x.2 == .free then (cellOf env x.1 >>= fun a => pure (.yield ((x.1, a) :: r))) else pure (.yield r)) = pure (gf env l acc) := by
 induction l generalizing acc with
 | nil => rfl
 | cons x r ih =>
  rw [List.forIn_cons]
  refine (?_ : _ = (pure (gf env r (Cp env x acc)) : Sem _))
  delta Cp
  by_cases q : (x.2 == .free) = true
  ·refine (h x (.head _) (eI q)).elim fun a ha => ?_
   refine ae (if_pos q) ?_; refine ae (if_pos q) ?_
   have : cellOf env x.1 = pure a := by delta cellOf; refine ae ha ?_; rfl
   refine ae this ?_
   rw [pure_bind, pure_bind]
   refine ae ha ?_
   exact ih _ fun y hy => h y (.tail _ hy)
  ·refine ae (if_neg q) ?_; refine ae (if_neg q) ?_
   rw [pure_bind]
   exact ih _ fun y hy => h y (.tail _ hy)
theorem qe {env : Env} {l : List (Str × NameKind)} {acc : List (Str × Addr)} (hl : ∀ x ∈ l, x.2 = .free → ∃ a, env.cells.lookup x.1 = some a) (h : ∀ n b, acc.lookup n = some b → env.cells.lookup n = some b) :
 ∀ n b, (gf env l acc).lookup n = some b → env.cells.lookup n = some b := by
 induction l generalizing acc with
 | nil => exact h
 | cons x r ih =>
  refine ih (acc := Cp env x acc) (fun y hy => hl y (.tail _ hy)) fun n b e => ?_
  dsimp only [Cp] at e
  by_cases q : (x.2 == .free) = true
  ·rw [if_pos q, List.lookup_cons] at e
   refine (hl x (.head _) (eI q)).elim fun a ha => ?_
   cases hn : n == x.1 with
   | true =>
    rw [hn] at e
    obtain rfl := aO e
    refine ae (eI hn) ?_; refine ae ha ?_; rfl
   | false => rw [hn] at e; exact h n b e
  ·rw [if_neg q] at e; exact h n b e
theorem qf {env : Env} {n : Str} {l : List (Str × NameKind)} {acc : List (Str × Addr)} (h : (n, NameKind.free) ∈ l ∨ (acc.lookup n).isSome = true) : ((gf env l acc).lookup n).isSome = true := by
 induction l generalizing acc with
 | nil =>
  rcases h with h | h
  ·cases h
  ·exact h
 | cons x r ih =>
  refine ih (acc := Cp env x acc) ?_
  delta Cp
  rcases h with h | h
  ·rcases fg h with rfl | h
   ·refine .inr ?_
    rw [if_pos (by rfl), List.lookup_cons, beq_self_eq_true]; rfl
   ·exact .inl h
  ·refine .inr ?_
   by_cases q : (x.2 == .free) = true
   ·rw [if_pos q, List.lookup_cons]
    cases n == x.1 with
    | true => rfl
    | false => exact h
   ·rw [if_neg q]; exact h
theorem gv {scope : Scope} {env : Env} (h : ∀ x ∈ scope.names, x.2 = .free → ∃ a, env.cells.lookup x.1 = some a) : closureFor scope env = pure (gf env scope.names []) := by
 have := sC scope.names [] h
 dsimp only [closureFor]
 refine (?_ : (forIn (m := Sem) scope.names [] _ >>= fun r => pure r) = _)
 rw [bind_pure]
 refine bK this ?_; rfl
theorem fI {env : Env} {x : Str} {k : NameKind} : ∀ {names : List (Str × NameKind)}, names.lookup x = some k →
 (names.map fun (n, k) => if (k == NameKind.free && env.scope.kind == .function && env.kindOf n == some .cell) then (n, NameKind.cell) else (n, k)).lookup x = some k ∨
 (k = .free ∧ (names.map fun (n, k) => if (k == NameKind.free && env.scope.kind == .function && env.kindOf n == some .cell) then (n, NameKind.cell) else (n, k)).lookup x = some .cell)
 | [], h => by simp at h
 | (n, k') :: r, h => by
  rw [List.lookup_cons] at h
  refine (?_ : List.lookup x ((if (k' == NameKind.free && env.scope.kind == .function && env.kindOf n == some .cell) = true then (n, NameKind.cell) else (n, k')) :: _) = _ ∨ (_ ∧ List.lookup x ((if (k' == NameKind.free && env.scope.kind == .function && env.kindOf n == some .cell) = true then (n, NameKind.cell) else (n, k')) :: _) = _))
  cases hx : x == n with
  | true =>
   rw [hx] at h
   cases h
   by_cases hc : (k == NameKind.free && env.scope.kind == .function && env.kindOf n == some .cell) = true
   ·refine .inr ⟨?_, ?_⟩
    ·simp -iota only [Bool.and_eq_true] at hc
     exact eI hc.1.1
    ·refine ae (if_pos hc) ?_; refine ae List.lookup_cons ?_; refine ae hx ?_; rfl
   ·refine .inl ?_
    refine ae (if_neg hc) ?_; refine ae List.lookup_cons ?_; refine ae hx ?_; rfl
  | false =>
   rw [hx] at h
   have ih := fI (env := env) h
   by_cases hc : (k' == NameKind.free && env.scope.kind == .function && env.kindOf n == some .cell) = true
   ·refine ae (if_pos hc) ?_; refine ae List.lookup_cons ?_; refine ae hx ?_; exact ih
   ·refine ae (if_neg hc) ?_; refine ae List.lookup_cons ?_; refine ae hx ?_; exact ih
section
variable {Z : aL} {n : Nat} {ih : bM} {L : Nat} {cs : Fm} {Ar : Around} {c c' c₀ c₂ : Cfg} {A A' : AS} {s s' aE : Shared} {env : Env} {sc : cG} {m : Nat}
theorem fJ {scope : Scope} (h : eK sc scope = true) : scope.kind = .function ∧ (∀ x ∈ scope.names, x.2 ≠ .cell) ∧ (∀ x ∈ scope.names, x.2 = .local → scope.names.lookup x.1 = some .local) ∧
 (∀ x ∈ scope.names, x.2 = .free → cK sc x.1 = true) := by
 delta eK at h
 refine (ao h).elim fun h1 h2 => ?_
 rw [List.all_eq_true] at h2
 refine ⟨of_decide_eq_true h1, fun x hx => ?_, fun x hx hl => ?_, fun x hx hf => ?_⟩
 ·have := (ao (ao (h2 x hx)).1).1
  simpa using this
 ·have := (ao (ao (h2 x hx)).1).2
  simpa [hl] using this
 ·have := (ao (h2 x hx)).2
  simp -iota only [hf, bne_self_eq_false, Bool.false_or, Bool.and_eq_true] at this
  exact this.1
theorem mO {scope : Scope} (h : eK sc scope = true) (N : aS Z sc c L cs env) : ∀ x ∈ scope.names, x.2 = .free → ∃ a, env.cells.lookup x.1 = some a :=
 fun x hx hf => N.has _ ((fJ h).2.2.2 x hx hf)
theorem comp_env {scope : Scope} (h : eK sc scope = true) (N : aS Z sc c L cs env) (C : Addr) (hC : env.frame ≠ some C) : aS Z scope.names c C cs (compEnvC scope (gf env scope.names []) C env) := by
 refine (fJ h).elim fun h1 aj => (aj).elim fun h2 ay => (ay).elim fun h3 h4 => ?_
 have hf := mO h N
 have has : ∀ n, cK scope.names n = true → cK sc n = true ∧ ∃ a, env.cells.lookup n = some a ∧ (gf env scope.names []).lookup n = some a := fun n hn => by
  delta cK at hn
  have nD : scope.names.lookup n = some .free := by
   rcases yu hn with hn | hn
   ·exact absurd rfl (h2 _ (mem_of_lookup (kind_of hn)))
   ·exact kind_of hn
  have hm := mem_of_lookup nD
  have hs := qf (env := env) (l := scope.names) (acc := []) (.inl hm)
  refine (Option.isSome_iff_exists.mp hs).elim fun b hb => ?_
  exact ⟨h4 _ hm rfl, b, qe hf (fun J J e => by cases e) _ _ hb, hb⟩
 refine ⟨h1, fun x k e => fI e, rfl, N.globals, N.builtins, fun e => (hC e).elim, fun n hn => ?_, N.fr, fun q => ?_, fun x i hx e => ?_⟩
 ·refine (has n hn).elim fun _ aj => (aj).elim fun a ay => (ay).elim fun _ ha => ?_
  exact ⟨a, ha⟩
 ·refine (List.any_eq_true.mp q).elim fun y aj => (aj).elim fun hy hk => ?_
  exact absurd (eI hk) (h2 y hy)
 ·obtain ⟨hc, a, h5, h6⟩ := has _ hx
  refine (N.cells x i hc e).elim fun q1 q2 => ?_
  rw [h5] at q2
  obtain rfl := aO q2
  exact ⟨q1, h6⟩
theorem Le.zx {C : Nat} (x : Le Z C c₀ aE c s) (hC : aE.heap.get? C = none) : Le Z L c₀ aE c s :=
 ⟨x.n, x.nv, x.σ, x.ρ, x.ck, x.old, fun b o e J hn => x.keep b o e (Has.ne ⟨o, e⟩ hC) hn, x.new⟩
theorem sD {elt : E} {is : List Nat} {acc k : Nat} {it : It} : turns ih elt is acc (k + 1) it A = oK is it A (fun A => ok () A) fun p => Res.bind (ih.e elt p.2) fun u A => (dz (A.heap.get acc)).bind fun us => if us.1.length ≤ 4096 then turns ih elt is acc k p.1 (A.put acc (.list (us.1 ++ [u]))) else none := rfl
theorem vz (hh : Ar.handled = none) (G : Z.Glob) (P : bY Z) (P2 : bQ Z) (I : aC Z n ih) (h1 : 1 ≤ n) (hn : Room n Ar cs) {is : List Nat} {t y z : Expr} {elt : E} {scope : Scope} {pos : Pos} {u : Value} {cenv : Env} {C acc : Nat} (hF : g7 Z.nm scope.names is t = true) (nd : is.Nodup) (hy : aW Z.nm m scope.names elt y = true)
 (bI : ∀ b o, Z.h₀.get? b = some o → aE.heap.get? b = some o) (xy : aS Z scope.names c₀ C cs cenv) (nX : acc < c₂.n) : ∀ (fuel : Nat) {it : It} {A : AS} {c : Cfg} {s : Shared} {l : bC Unit}, turns ih elt is acc fuel it A = some l → kC l.list → Le Z C c₀ aE c s → bu c₂ c → St Z C cs c A s → jg C c aE s it u →
 bj Z.M Ar (.compLoop (.ListComp y [⟨t, z, [], 0⟩] scope pos) 0 u (.ref (c₂.σ acc).1) cenv) (fun r s' => match r with | .ok _ => ∃ A' c', (Except.ok (), A') ∈ l.list ∧ Le Z C c₀ aE c' s' ∧ bu c₂ c' ∧ St Z C cs c' A' s' | .error _ => False) s := by
 intro fuel
 induction fuel with
 | zero => exact fun e => no e
 | succ fuel IH =>
  intro it A c s l e vc le gr H r
  refine aZ rfl ?_
  refine (?_ : bt Z.M Ar ((compTurn (.ListComp y [⟨t, z, [], 0⟩] scope pos) 0 u (.ref (c₂.σ acc).1) cenv).onRaise _) _ _ s)
  refine aU (az (E := fun J J => False) ?_ (fun J J q => q) fun J J f => f.elim)
  rw [compTurn_list1]
  refine aa (aY (aa ?_))
  refine Classical.byContradiction fun bad => ?_
  rcases qd (sD.symm.trans e) with ⟨A1, hN, e⟩ | ⟨v, tP, A1, A2, hN, Hc, e⟩
  ·obtain rfl := aO e
   exact bad (.of (dv hh bI le H r hN fun s' uA H' => aq ⟨_, _, .head _, uA, gr, H'⟩))
  ·refine bad (.of (dv hh bI le H r hN fun w s' K => ?_))
   refine aa (.of (K t _ _ fun c3 s3 g3 dU H3 r3 i3 => ?_))
   have kM : au Z C cs Ar (assign t cenv w) UR (aD.ok () A2) c3 s3 := by
    have := fH G P P2 I h1 hn hF nd H3 (xy.mono dU.grown) r3
    rw [Hc] at this
    exact this
   refine aa (kM.one fun J c4 s4 yW H4 J => ?_)
   have xA := dU.trans yW
   refine aa (aa (au.use (I.e hy hn H4 (xy.mono xA.grown)) e (fun fa A5 c5 uv s5 r' y1 y2 yz H5 f5 => ?_) fun i A5 c5 v5 s5 m5 J J J => (vc.no m5).elim))
   have g5 : bu c₂ c5 := gr.trans (g3.trans (yW.grown.trans yz.grown))
   refine Classical.byContradiction fun bad => ?_
   obtain ⟨⟨us, MT⟩, _, y1⟩ := f9 y1
   by_cases hle : us.length ≤ 4096
   case neg => exact no ((if_neg hle).symm.trans y1)
   replace y1 := (if_pos hle).symm.trans y1
   have El := mL (Ar := Ar) H5 (Nat.lt_of_lt_of_le nX g5.n) MT hle f5
   rw [g5.σ acc nX] at El
   refine bad (aa (El.one fun J c6 s6 Em H6 J => aq (aq ⟨rfl, bg (IH y1 (fun x hx => vc x (y2 x hx)) ((xA.trans yz).trans Em) (g5.trans Em.grown) H6 (((i3.mono yW).mono yz).mono Em)) fun r s' zz => ?_⟩)))
   cases r with
   | ok fl => obtain ⟨A', c', k1, k2⟩ := zz; exact ⟨A', c', y2 _ k1, k2⟩
   | error => exact zz
end
section
variable {M : Model} {A : Around} {E : Value → Shared → Prop} {s : Shared} {name qual : Str} {params : Arguments} {body : Expr} {scope : Scope} {env : Env} {c P : Addr} {ps : Array Value} {pos : Pos} {firstLine : Nat} {mg : Str → Option Value}
 {xg : List (Str × Addr)} {Q : Value → Shared → Prop}
theorem mP {h : Heap} {c P : Addr} {q : Str} {ps : Array Value} (x : h.CodeRec (.ref c) q) (y : h.TableAt c P ps) : de h (.ref c) := by
 obtain ⟨c', o, vs, t, e, e1, e2, e3⟩ := x
 cases e
 obtain ⟨⟨o', J8, f1, f2, f3, _⟩, _⟩ := y
 rw [e1] at f1; obtain rfl := aO f1
 exact ⟨c, o, rfl, e1, f2, vs, q, t, e2, e3⟩
theorem zy (yx : closureFor scope env = pure xg) (Hd : env.globals = mainGlobals) (hg : s.heap.Ns mainGlobals mg) (tQ : env.code = .ref c) (C : CodeHd s.heap c P) (hP : s.heap.get? P = some (tabObj ps)) (ht : TriplesOk ps.toList)
 (KI : codeAmong pos ps.toList = none) (Fw : mainGlobals ≠ P) (hb : s.heap.BuiltinsAt mg P)
 (h : ∀ c' He h' tk, Heap.ExtBut P s.heap h' → s.heap.objs.size ≤ h'.objs.size → de h' (.ref c') → h'.get? P = some (tabObj (ps ++ #[rawInt pos.line, rawInt pos.col, .ref c'])) →
  Q (.ref h'.objs.size) { s with heap := h'.push { cls := .type "function", data := .func (kla_fn name qual params body scope xg ((mg "__name__").getD .none) (.ref c') He) }, toks := tk }) :
 wpAny M A (makeFunction name qual params (.expr body) scope env [] [] [] pos firstLine) Q E s := by
 rw [makeFunction_eq]
 simp -iota only [List.zip_nil_right, List.filterMap_nil, List.isEmpty_nil, if_true, pure_bind]
 refine (hb).elim fun bm aj => (aj).elim fun ob ay => (ay).elim fun A9 aP => (aP).elim fun En bF => (bF).elim fun _ cZ => (cZ).elim fun Eo ia => (ia).elim fun KJ pL => (pL).elim fun Ep rV => (rV).elim fun Ba Bb => ?_
 dsimp only [makeTail]
 refine ae yx ?_; refine ae Hd ?_
 refine wpAny_bind (wpAny_pure ?_)
 cases xg with
 | nil =>
  refine wpAny_bind (wpAny_pure ?_)
  refine wpAny_bind (wpAny_functionCodeX tQ (C.code hP ht) (C.tab hP) KI fun c' h' tk hx B3 fi J Cq D7 zB => ?_)
  refine (zB).elim fun P' aj => (aj).elim fun _ ay => (ay).elim fun _ zB => ?_
  have Bc := hg.extBut hx Fw
  refine wpAny_bind (wpAny_builtinsFor Bc A9 En (hx _ _ Eo KJ) Ep Ba Bb ?_)
  refine wpAny_bind (wpAny_nsGet Bc ?_)
  exact wpAny_bind (wpAny_pure (wpAny_newObj_type (h c' .none h' tk hx (Nat.le_trans B3 (Nat.le_of_lt fi)) (mP Cq zB) D7.2) (by size_fits)))
 | cons q r =>
  refine wpAny_bind (wpAny_newTextTuple ?_)
  refine wpAny_bind (wpAny_functionCodeX tQ ((C.keeps fun b o e => Heap.get?_push_of_some _ e).code (Heap.get?_push_of_some _ hP) ht) ((C.keeps fun b o e => Heap.get?_push_of_some _ e).tab (Heap.get?_push_of_some _ hP)) KI fun c' h' tk hx B3 fi J Cq D7 zB => ?_)
  refine (zB).elim fun P' aj => (aj).elim fun _ ay => (ay).elim fun _ zB => ?_
  have Bc := (hg.push _).extBut hx Fw
  have KL : Heap.ExtBut P s.heap h' := fun b o qR e => hx b o qR (Heap.get?_push_of_some _ e)
  have Hf : s.heap.objs.size ≤ c' := Nat.le_trans (by rw [Heap.size_push]; exact Nat.le_succ _) B3
  refine wpAny_bind (wpAny_builtinsFor Bc A9 En (KL _ _ Eo KJ) Ep Ba Bb ?_)
  refine wpAny_bind (wpAny_nsGet Bc ?_)
  exact wpAny_bind (wpAny_pure (wpAny_newObj_type (h c' _ h' tk KL (Nat.le_trans Hf (Nat.le_of_lt fi)) (mP Cq zB) D7.2) (by size_fits)))
set_option tactic.hygienic true in
theorem sE {pos : Pos} {a b : Nat} {c v : Value} (l : List Value) (h : TriplesOk l) (e : codeAmong pos (l ++ [rawInt a, rawInt b, c]) = some v) : codeAmong pos l = some v ∨ v = c := by
 fun_induction TriplesOk l with
 | case1 =>
  refine .inr ?_
  dsimp only [List.nil_append, codeAmong, rawInt] at e
  split at e
  ·exact (aO e).symm
  ·cases e
 | case2 a' t b' u x rest ih =>
  dsimp only [List.cons_append, codeAmong] at e ⊢
  split at e
  ·rename_i hc; refine ae (if_pos hc) ?_; exact .inl e
  ·rename_i hc; refine ae (if_neg hc) ?_; exact ih h e
 | case3 l h1 h2 => exact h.elim
theorem sF {ar : Arguments} {env : Env} (hd : ar.defaults = []) (hk : ar.kw_defaults = []) : defaultsOf ar env = ([], []) := by
 rw [defaultsOf_eq, hd, hk]; rfl
end
section
variable {Z : aL} {n : Nat} {ih : bM} {L : Nat} {cs : Fm} {Ar : Around} {c c' : Cfg} {A : AS} {s s' : Shared} {env : Env} {sc : cG} {m : Nat}
theorem St.table (H : St Z L cs c A s) {P : Nat} (h0 : Z.h₀.get? P = none) {o o' : Obj} (e : s.heap.get? P = some o) (w : yN o) {h' : Heap} {tk : Nat} (e' : h'.get? P = some o') (w' : gi h' o') (x : Heap.ExtBut P s.heap h') :
 Le Z L c s c { s with heap := h', toks := tk } ∧ St Z L cs c A { s with heap := h', toks := tk } := by
 have ne : ∀ b ob, s.heap.get? b = some ob → ¬ dA ob → b ≠ P := fun b ob e1 nt q => by rw [q, e] at e1; obtain rfl := aO e1; exact nt (.inr w)
 have code : ∀ b ob, s.heap.get? b = some ob → bc ob → b ≠ P := fun b ob e1 cl q => by
  rw [q, e] at e1; obtain rfl := aO e1
  have := w.1.symm.trans cl.1; cases this
 have pr : a6 s.heap h' := fun b ob e1 => by
  by_cases q : b = P
  ·rw [q, e] at e1; obtain rfl := aO e1
   exact ⟨o', q ▸ e', fun t => (by have := w.1.symm.trans t.1; cases this), fun ⟨⟨C, t⟩, _⟩ => (by have := w.1.symm.trans t; cases this), fun t => (by have := w.1.symm.trans t.1; cases this), fun J => w'⟩
  ·exact ⟨ob, x b ob q e1, id, id, id, fun t => t.mk' fun b o e1 cl => ⟨o, x b o (code b o e1 cl) e1, cl⟩⟩
 have old : ∀ b ob, Z.h₀.get? b = some ob → s.heap.get? b = some ob → h'.get? b = some ob := fun b ob e0 e1 => x b ob (Has.ne ⟨ob, e0⟩ h0) e1
 have le : Le Z L c s c { s with heap := h', toks := tk } := ⟨Nat.le_refl _, Nat.le_refl _, fun J J => rfl, fun J J => ⟨rfl, rfl, rfl⟩, pr, old, fun b ob e1 J J => by
  by_cases q : b = P
  ·rw [q, e] at e1; obtain rfl := aO e1
   exact ⟨o', q ▸ e', .inr (.inr ⟨.inr w, .inr w'.l⟩)⟩
  ·exact ⟨ob, x b ob q e1, .inl rfl⟩, fun i h h' => absurd h (Nat.not_le_of_lt h')⟩
 refine ⟨le, H.next (H.toHp.wR (s' := { s with heap := h', toks := tk }) old (fun i hi => ⟨fun ob e nt => x _ ob (ne _ ob e nt) e, fun ob e nt => x _ ob (ne _ ob e nt) e⟩) pr rfl rfl) ⟨H.oO, pr.has H.bw, H.off, ?_⟩ rfl rfl le⟩
 refine (H.ns).elim fun m aj => (aj).elim fun ay h3 => (ay).elim fun ob aP => (aP).elim fun es bF => (bF).elim fun ep cZ => (cZ).elim fun h1 h2 => ?_
 exact ⟨m, ⟨ob, es, ep, x _ ob (ne _ ob h1 fun w => w.notDict ⟨es, ep, h2.1⟩) h1, h2⟩, h3⟩
theorem dH {x : Nat} {fv : List Nat} {i : Nat} : ∀ {l : List (Nat × Nat)}, af x (l.filter fun y => fv.contains y.1) = some i → (x, i) ∈ l ∧ fv.contains x = true
 | [], h => nomatch h
 | p :: r, h => by
  rw [List.filter_cons] at h
  by_cases hp : fv.contains p.1 = true
  ·rw [if_pos hp, aK] at h
   by_cases q : p.1 = x
   ·rw [if_pos q] at h
    obtain rfl := aO h; subst q
    exact ⟨.head _, hp⟩
   ·rw [if_neg q] at h
    exact ⟨.tail _ (dH h).1, (dH h).2⟩
  ·rw [if_neg hp] at h
   exact ⟨.tail _ (dH h).1, (dH h).2⟩
theorem et {x : Nat} {fv : List Nat} {i : Nat} : ∀ {l : List (Nat × Nat)}, af x (l.filter fun y => fv.contains y.1) = some i → af x l = some i
 | [], h => h
 | p :: r, h => by
  rw [aK]
  rw [List.filter_cons] at h
  by_cases hp : fv.contains p.1 = true
  ·rw [if_pos hp, aK] at h
   by_cases q : p.1 = x
   ·rw [if_pos q] at h ⊢; exact h
   ·rw [if_neg q] at h ⊢; exact et h
  ·rw [if_neg hp] at h
   have h' := et h
   by_cases q : p.1 = x
   ·exact absurd (dH h) (by rw [q] at hp; exact fun ⟨hm, hx⟩ => hp hx)
   ·refine ae (if_neg q) ?_; exact h'
theorem vA (G : Z.Glob) {fv : List Nat} {b : E} {x : Expr} (he : aW Z.nm (m + 1) sc (.lam fv b) x = true) (H : St Z L cs c A s) (N : aS Z sc c L cs env) :
 au Z L cs Ar (eval x env) VR (AJ Z.Γ ih (.lam fv b) A) c s := by
 replace he := bL he
 cases he with
 | @lam _ _ ar y scope p he =>
 refine (ao he).elim fun he h4 => ?_
 refine (ao he).elim fun he h3 => ?_
 refine (ao he).elim fun h1 h2 => ?_
 have D := Eb h1
 have Bd : ∀ x ∈ scope.names, x.2 = .free → cK sc x.1 = true ∧ scope.names.lookup x.1 = some .free := fun x hx hf => by
  have := lP h2 x hx
  simp -iota only [hf, bne_self_eq_false, Bool.false_or, Bool.and_eq_true] at this
  exact ⟨this.1, eI this.2⟩
 have hf : ∀ x ∈ scope.names, x.2 = .free → ∃ a, env.cells.lookup x.1 = some a := fun x hx hf => N.has _ (Bd x hx hf).1
 have has : ∀ n, cK scope.names n = true → cK sc n = true ∧ ∃ a, env.cells.lookup n = some a ∧ (gf env scope.names []).lookup n = some a := fun n hn => by
  delta cK at hn
  have nD : scope.names.lookup n = some .free := by
   rcases yu hn with hn | hn
   ·exact absurd rfl (D.names _ (mem_of_lookup (kind_of hn))).1
   ·exact kind_of hn
  have hm := mem_of_lookup nD
  have hs := qf (env := env) (l := scope.names) (acc := []) (.inl hm)
  obtain ⟨b, hb⟩ := Option.isSome_iff_exists.mp hs
  exact ⟨(Bd _ hm rfl).1, b, qe hf (fun J J e => by cases e) _ _ hb, hb⟩
 have yx := gv (scope := scope) (env := env) hf
 refine (N.code h3).elim fun cc aj => (aj).elim fun P ay => (ay).elim fun hc aP => (aP).elim fun hC hP => ?_
 have KN := G.tabs P hP
 obtain ⟨_, Fx, ps, rfl, ht, xB⟩ := H.tabs P hP
 have KO : CodeHd s.heap cc P := hC.keeps H.base
 have KP : s.heap.Ns mainGlobals Z.mg := G.g.keeps H.base
 have Fw : mainGlobals ≠ P := Has.ne (Ns.has G.g) KN
 have KQ : s.heap.BuiltinsAt Z.mg P := by
  refine (G.CW P hP).elim fun bm aj => (aj).elim fun ob ay => (ay).elim fun b1 aP => (aP).elim fun b2 bF => (bF).elim fun b3 cZ => (cZ).elim fun b4 ia => (ia).elim fun b5 b6 => ?_
  exact ⟨bm, ob, b1, b2, b3, b4, H.base _ _ b5, b6⟩
 -- the Cr object, made in a state
 have fin : ∀ {s1 : Shared} {cv ct : Value} {name qual : Str} {pm : Value} (Q : Value → Shared → Prop), Le Z L c s c s1 → St Z L cs c A s1 → de s1.heap cv →
  (∀ u s' c', Le Z L c s c' s' → St Z L cs c' (A.alloc (.Ax (A.cells.filter fun x => fv.contains x.1) b)).2 s' → VR c' (V.loc A.n) u → Q u s') →
  Q (.ref s1.heap.objs.size) { s1 with heap := s1.heap.push { cls := .type "function", data := .func (kla_fn name qual ar y scope (gf env scope.names []) pm cv ct) } } := fun {s1 cv ct name qual pm} Q a4 H1 Hg q => by
  have hk : ∀ b o, s1.heap.get? b = some o → (s1.heap.push { cls := .type "function", data := .func (kla_fn name qual ar y scope (gf env scope.names []) pm cv ct) }).get? b = some o := fun b o e => Heap.get?_push_of_some _ e
  have at_ := Heap.get?_push_size s1.heap (o := { cls := .type "function", data := .func (kla_fn name qual ar y scope (gf env scope.names []) pm cv ct) }) rfl
  have hn : s1.heap.get? s1.heap.objs.size = none := get_size _
  refine q _ _ (c.push (s1.heap.objs.size, s1.heap.objs.size)) (a4.trans (Le.alloc (s' := { s1 with heap := _ }) hk hn hn)) (H1.alloc (s' := { s1 with heap := _ }) hk ⟨hn, _, at_⟩ ⟨hn, _, at_⟩ ?_ rfl rfl) ⟨?_, ?_⟩
  ·refine ⟨name, qual, ar, y, scope, _, pm, cv, ct, by rw [c.aI]; exact at_, Hg.ck (a6.of hk), G.um h1 h4, fun n hn => ?_, fun z i hz e => ?_⟩
   ·refine (has n hn).elim fun _ aj => (aj).elim fun a ay => (ay).elim fun _ ha => ?_
    exact ⟨a, ha⟩
   ·obtain ⟨hc, a, h5, h6⟩ := has _ hz
    have e' : af z cs.cs = some i := by refine bK H.cells ?_; exact et e
    refine (N.cells z i hc e').elim fun q1 q2 => ?_
    rw [h5] at q2
    obtain rfl := aO q2
    exact ⟨Nat.lt_succ_of_lt q1, by refine ae h6 ?_; refine ae ((c.aJ _).σ i q1) ?_; rfl⟩
  ·refine (?_ : A.n < c.n + 1); refine ae H.n ?_; exact Nat.lt_succ_self _
  ·rw [← H.n, c.aI]
 refine au.done (A' := (A.alloc (.Ax (A.cells.filter fun x => fv.contains x.1) b)).2) (a := V.loc A.n) fun Q E q => kla_eval (sF D.df D.kd) ?_
 cases Hh : codeAmong p ps.toList with
 | some cv =>
  refine kla_makeFunctionHit yx N.globals KP hc KO Fx ht Hh KQ fun He h' tk hk J => ?_
  have Hg := xB p cv Hh
  exact fin (s1 := { s with heap := h', toks := tk }) Q (Le.bk (s' := { s with heap := h', toks := tk }) hk) (H.bk (s' := { s with heap := h', toks := tk }) hk rfl rfl) (Hg.ck (a6.of hk)) q
 | none =>
  refine zy yx N.globals KP hc KO Fx ht Hh Fw KQ fun c' He h' tk hx J C3 zB => ?_
  have tab : gi h' (tabObj (ps ++ #[rawInt p.line, rawInt p.col, .ref c'])) := ⟨_, rfl, by simp -iota only [Array.toList_append]; exact TriplesOk_snoc _ _ _ _ ht, fun pos v e => by
   simp -iota only [Array.toList_append] at e
   rcases sE _ ht e with e | e
   ·obtain ⟨cc, o, e1, e2, e3⟩ := xB pos v e
    refine ⟨cc, o, e1, hx _ _ (fun q => ?_) e2, e3⟩
    rw [q, Fx] at e2; obtain rfl := aO e2; cases e3.1
   ·refine ae e ?_; exact C3⟩
  refine (H.table (tk := tk) KN Fx ⟨rfl, _, rfl⟩ zB tab hx).elim fun a4 H1 => ?_
  exact fin Q a4 H1 C3 q
end
section
variable {Z : aL} {n : Nat} {ih : bM} {L : Nat} {cs : Fm} {Ar : Around} {c c' c₀ c₂ : Cfg} {A A' : AS} {s s' aE : Shared} {env : Env} {sc : cG} {m : Nat}
theorem qg {α : Type} {M : Model} {E : Value → Shared → Prop} {p : Prop} [Decidable p] {pos : Pos} {k : PUnit → Sem α} {Q : α → Shared → Prop} (h : bt M Ar (k ()) Q E s) : bt M Ar (if p then (standAt pos >>= k) else k ()) Q E s := by
 split
 ·exact aa (aY h)
 ·exact h
theorem vB {it : It} {u : Value} (r : jg L c aE s it u) {Q : Value → Shared → Prop} {E : Value → Shared → Prop} (q : Q u s) : wpAny Z.M Ar (pyIter u) Q E s := by
 cases it with
 | iz x n st => obtain ⟨a, rfl, O, h⟩ := r; exact wpAny_pyIter_rangeiter h q
 | lst i k => obtain ⟨hi, a, rfl, O, h⟩ := r; exact wpAny_pyIter_listiter h q
 | tup i k => obtain ⟨hi, a, rfl, O, h⟩ := r; exact wpAny_pyIter_tupleiter h q
 | keys i n k => obtain ⟨hi, hn, a, dh, ep, rfl, O, hd, h⟩ := r; exact wpAny_pyIter_keyiter h q
theorem kN {v : V} {it : It} (e : cV v A = some (it, A')) : A'.locs = A.locs ∧ A'.cells = A.cells ∧ A'.hd = A.hd := by
 have go : ∀ {v : V} {p : It × AS}, sy A v p → p.2.locs = A.locs ∧ p.2.cells = A.cells ∧ p.2.hd = A.hd := fun w => by
  induction w <;> exact ⟨rfl, rfl, rfl⟩
 exact go (kK e)
theorem qh {R : Result → Shared → Prop} {y t z : Expr} {scope : Scope} {pos : Pos} {u acc : Value} {cenv : Env} (h : bj Z.M Ar (.compLoop (.ListComp y [⟨t, z, [], 0⟩] scope pos) 0 u acc cenv) R s)
 (hi : ∀ (Q : Value → Shared → Prop) (E : Value → Shared → Prop), Q u s → wpAny Z.M Ar (pyIter u) Q E s) : bj Z.M Ar (.compStart (.ListComp y [⟨t, z, [], 0⟩] scope pos) 0 u acc cenv) R s := by
 refine aZ rfl ?_
 refine (?_ : bt Z.M Ar ((compStart (.ListComp y [⟨t, z, [], 0⟩] scope pos) 0 u acc cenv).onRaise _) _ _ s)
 refine aU (az (E := fun J J => False) ?_ (fun J J q => q) fun J J f => f.elim)
 refine aa (.of (wpAny_askSetting (yK ?_)))
 split
 ·first
   | exact aa (aq (aq (And.intro rfl h)))
   | exact aq (And.intro rfl h)
 ·refine aa (jQ ?_)
  refine (?_ : bt Z.M Ar (standAt z.pos >>= _) _ _ s)
  exact aa (aY (aa (.of (hi _ _ (aq (And.intro rfl h))))))
theorem jg.other {C : Nat} {c2 c3 : Cfg} {s1 s2 s3 : Shared} {it : It} {u : Value} (i2 : jg L c2 s1 s2 it u) (i3 : jg L c3 s1 s3 it u) (hC : s2.heap.get? C = none) : jg C c3 s1 s3 it u := by
 have tr : ∀ a o, Own L c3 s1 a → s2.heap.get? a = some o → Own C c3 s1 a := fun a o O e => ⟨O.new, Has.ne ⟨o, e⟩ hC, O.off⟩
 cases it with
 | iz x n st => obtain ⟨a, rfl, O, h⟩ := i3; obtain ⟨a', e', _, h'⟩ := i2; cases e'; exact ⟨a, rfl, tr _ _ O h', h⟩
 | lst i k => obtain ⟨hi, a, rfl, O, h⟩ := i3; obtain ⟨_, a', e', _, o, h', _⟩ := i2; cases e'; exact ⟨hi, a, rfl, tr _ _ O h', h⟩
 | tup i k => obtain ⟨hi, a, rfl, O, h⟩ := i3; obtain ⟨_, a', e', _, o, h', _⟩ := i2; cases e'; exact ⟨hi, a, rfl, tr _ _ O h', h⟩
 | keys i nn k => obtain ⟨hi, hn, a, dh, ep, rfl, O, hd, h⟩ := i3; obtain ⟨_, _, a', _, _, e', _, _, o, h', _⟩ := i2; cases e'; exact ⟨hi, hn, a, dh, ep, rfl, tr _ _ O h', hd, h⟩
set_option backward.match.sparseCases false in
theorem mQ (G : Z.Glob) (P : bY Z) (P2 : bQ Z) (I : aC Z n ih) (h1 : 1 ≤ n) (hn : Room n Ar cs) {use : Option (Value → Sem Unit)} {is : List Nat} {t y z : Expr} {elt it : E} {scope : Scope} {pos Hi : Pos}
 (hF : g7 Z.nm scope.names is t = true) (hc : eK sc scope = true) (nd : is.Nodup) (hy : aW Z.nm m scope.names elt y = true) (hz : aW Z.nm m sc it z = true) (H : St Z L cs c A s) (N : aS Z sc c L cs env)
 {l : bC V} (e : AJ Z.Γ ih (.eJ elt is it) A = some l) {Q : Value → Shared → Prop} {E : Value → Shared → Prop} (hE : ∀ ev s', EO Z L cs l.list c s ev s' → E ev s')
 (hU : ∀ A' c' s' C mC w a, (Except.ok w, A') ∈ l.list → Le Z L c s c' s' → St Z L cs c' A' s' → VR c' w a → s'.heap.Ns C mC → C ≠ L → (∀ i, i < c'.n → C ≠ (c'.σ i).1 ∧ C ≠ (c'.σ i).2) → s.heap.get? C = none → Z.h₀.get? C = none →
  match use with
  | none => ∀ h', Heap.SameBut C s'.heap h' → Q a { s' with heap := h' }
  | some u => bt Z.M Ar (u a) (fun J ew => ∃ m, ew.heap.Ns C m ∧ ∀ h', Heap.SameBut C ew.heap h' → Q .none { ew with heap := h' }) E s') :
 bt Z.M Ar (comprehension (.ListComp y [⟨t, z, [], 0⟩] scope pos) scope env Hi (newList []) false (eval z env) use) Q E s := by
 have K := fJ hc
 delta comprehension
 refine ae (gv (mO hc N)) ?_
 have e : Res.bind (ih.e it A) (fun v A => match cV v A with
  | none => none
  | some (it, A) => if A.hd.isNone = true then (match ef (turns ih elt is A.n 300 it { (A.alloc (.list [])).2 with locs := [] }) with
   | none => none
   | some l => some (eB A (fun J => V.loc A.n) l)) else none) = some l := e
 refine aa (au.use (I.e hz hn H N) e (fun v A1 c1 x s1 r' y1 y2 a4 H1 r1 => ?_) fun i A1 c1 ev s1 m1 a4 H1 r1 => hE _ _ ⟨i, A1, c1, m1, a4, H1, r1⟩)
 have Er : foldedSetIterable z env x = pure x := iJ hz
 refine aa (aY (aa (lX Er ?_)))
 refine Classical.byContradiction fun bad => ?_
 cases hN : cV v A1 with
 | none => rw [hN] at y1; exact no y1
 | some p =>
 obtain ⟨MU, A2⟩ := p
 rw [hN] at y1
 dsimp only at y1
 cases hq : A2.hd with
 | some x => rw [hq] at y1; exact no y1
 | none =>
 rw (occs := .all) [hq, if_pos (by rfl)] at y1
 generalize fi : ef _ = o at y1
 cases o with
 | none => exact no y1
 | some lt =>
 obtain rfl := aO y1
 refine (fB fi).elim fun qi vc => ?_
 refine bad (aa (aA (.of (fG G H1 r1 hN fun c2 s2 w zC le2 H2 i2 => ?_))))
 refine qg (aa (.of (wpAny_newObj_type ?_)))
 refine aa (aq (aa (.of (wpAny_newFunctionEnv K.2.1 (by intro y hy; simp at hy) (fun bZ tN Cc => ?_) K.1))))
 dsimp only at tN Cc ⊢
 -- the list and the frame
 generalize hD : s2.heap.objs.size = D at tN Cc ⊢
 generalize hH : s2.heap.push { cls := .type "list", data := .seq ([] : List Value).toArray } = AR at tN Cc ⊢
 generalize hC : AR.objs.size = C at tN Cc ⊢
 have MV : C = D + 1 := by rw [← hC, ← hH, Heap.size_push, hD]
 have Es : ∀ b o, s2.heap.get? b = some o → AR.get? b = some o := fun b o e => by refine bK hH ?_; exact Heap.get?_push_of_some _ e
 have Et : ∀ b o, AR.get? b = some o → bZ.get? b = some o := fun b o e => Cc.extBut b o (by refine bK hC ?_; exact Nat.ne_of_lt (Heap.lt_size e)) (Heap.get?_push_of_some _ e)
 have Cs : ∀ b o, s2.heap.get? b = some o → bZ.get? b = some o := fun b o e => Et b o (Es b o e)
 have C4 : s2.heap.get? D = none := by refine bK hD ?_; exact get_size _
 have Ct : bZ.get? D = some { cls := .type "list", data := .seq #[] } := Et _ _ (by refine bK hH ?_; refine bK hD ?_; exact Heap.get?_push_size _ rfl)
 have MW : AR.get? C = none := by refine bK hC ?_; exact get_size _
 have Fy : s2.heap.get? C = none := by
  cases e : s2.heap.get? C with
  | none => rfl
  | some o => have := Es _ _ e; rw [MW] at this; cases this
 have Cu : s1.heap.get? C = none := by
  cases e : s1.heap.get? C with
  | none => rfl
  | some o => have := zC _ _ e; rw [Fy] at this; cases this
 have zE : s.heap.get? C = none := by
  cases e : s.heap.get? C with
  | none => rfl
  | some o => obtain ⟨o', h, _⟩ := a4.ck _ o e; rw [Cu] at h; cases h
 have KS : Z.h₀.get? C = none := by
  cases e : Z.h₀.get? C with
  | none => rfl
  | some o => have := H.base _ _ e; rw [zE] at this; cases this
 have MX : env.frame ≠ some C := fun e => by
  refine (H.outs C (N.fr C e)).elim fun _ aj => (aj).elim fun ay _ => (ay).elim fun o aP => (aP).elim fun h _ => ?_
  rw [zE] at h; cases h
 have Be : C ≠ D := by refine ae MV ?_; exact Nat.succ_ne_self _
 have Hj : Has bZ C := Ns.has tN
 -- the state in the vX frame
 have H3 : St Z L cs (c2.push (D, D)) (A2.alloc (.list [])).2 { s2 with heap := bZ, toks := s2.toks + ([] : List (Str × Value)).length } :=
  H2.alloc (s' := { s2 with heap := bZ, toks := s2.toks + ([] : List (Str × Value)).length }) Cs ⟨C4, _, Ct⟩ ⟨C4, _, Ct⟩ ⟨#[], 0, by rw [c2.aI]; exact Ct, .nil⟩ rfl rfl
 have Eu : ∀ i, i < (c2.push (D, D)).n → C ≠ ((c2.push (D, D)).σ i).1 ∧ C ≠ ((c2.push (D, D)).σ i).2 := fun i hi => by
  by_cases q : i = c2.n
  ·subst q; rw [c2.aI]; exact ⟨Be, Be⟩
  ·have cN : i < c2.n := Nat.lt_of_le_of_ne (Nat.le_of_lt_succ hi) q
   refine ae ((c2.aJ _).σ i cN) ?_
   exact ⟨Ne.symm ((H2.up i cN).1.ne Fy), Ne.symm ((H2.up i cN).2.ne Fy)⟩
 have H4 : St Z C cs (c2.push (D, D)) { (A2.alloc (.list [])).2 with locs := [] } { s2 with heap := bZ, toks := s2.toks + ([] : List (Str × Value)).length } :=
  ⟨H3.toHp.re rfl rfl rfl, ⟨KS, Hj, Eu, _, tN, fun x v e => by cases e⟩, H3.cells, H3.hd, H3.outs, H3.tabs⟩
 have MY : Le Z C c1 s1 (c2.push (D, D)) { s2 with heap := bZ, toks := s2.toks + ([] : List (Str × Value)).length } := by
  have a1 : Le Z C c1 s1 c2 s2 := ⟨le2.n, le2.nv, le2.σ, le2.ρ, a6.of zC, fun b o J e => zC b o e, fun b o e J J => ⟨o, zC b o e, .inl rfl⟩, le2.new⟩
  exact a1.trans (Le.alloc (p := (D, D)) (s' := { s2 with heap := bZ, toks := _ }) Cs C4 C4)
 have i4 : jg C (c2.push (D, D)) s1 { s2 with heap := bZ, toks := s2.toks + ([] : List (Str × Value)).length } MU w :=
  i2.other (i2.mono (Le.alloc (Z := Z) (L := L) (p := (D, D)) (s' := { s2 with heap := bZ, toks := s2.toks + ([] : List (Str × Value)).length }) (c := c2) Cs C4 C4)) Fy
 have nX : A2.n < (c2.push (D, D)).n := by refine (?_ : A2.n < c2.n + 1); refine ae H2.n ?_; exact Nat.lt_succ_self _
 have AO : ((c2.push (D, D)).σ A2.n) = (D, D) := by rw [← H2.n, c2.aI]
 have N4 : aS Z scope.names c1 C cs (compEnvC scope (gf env scope.names []) C env) := (comp_env hc N C MX).mono a4.grown
 have code := vz (hn.quiet H2 hq) (y := y) (z := z) (pos := pos) G P P2 I h1 hn hF nd hy H1.base N4 nX 300 qi vc MY (bu.refl _) H4 i4
 rw [AO] at code
 have start := qh code fun Q E q => vB i4 q
 have hv : ∀ x ∈ (scope.names.filter fun x => (x.2 == .local || x.2 == .cell) && x.1 != (".0" : Str)).reverse, x.2 = .local → Env.kindOf (compEnvC scope (gf env scope.names []) C env) x.1 = some .local :=
  fun x hx hl => lookup_relabel_local (K.2.2.1 x (List.mem_filter.mp (List.mem_reverse.mp hx)).1 hl)
 have MZ : ∀ x ∈ (scope.names.filter fun x => (x.2 == .local || x.2 == .cell) && x.1 != (".0" : Str)).reverse.drop 1 ++ (scope.names.filter fun x => (x.2 == .local || x.2 == .cell) && x.1 != (".0" : Str)).reverse.take 1,
  x.2 = .local → Env.kindOf (compEnvC scope (gf env scope.names []) C env) x.1 = some .local := fun x hx hl => by
  rcases List.mem_append.mp hx with h1 | h1
  ·exact hv x (List.mem_of_mem_drop h1) hl
  ·exact hv x (List.mem_of_mem_take h1) hl
 refine aA (aa (i0 (aA (jw (bg start fun rr s5 hr => ?_) Gr))))
 refine Classical.byContradiction fun bad => ?_
 cases rr with
 | error => exact hr.elim
 | ok fl =>
  refine (hr).elim fun A5 aj => (aj).elim fun c5 ay => (ay).elim fun m5 aP => (aP).elim fun yz bF => (bF).elim fun g5 H5 => ?_
  have hm := y2 _ (iP (A := A2) (f := fun J => V.loc A2.n) m5)
  have Em : Le Z L c1 s1 c5 s5 := yz.zx Cu
  have H6 : St Z L cs c5 { A5 with locs := A2.locs, cells := A2.cells } s5 := by
   have := H1.back yz Cu (by rfl) H5
   refine ae ((kN hN).1) ?_; refine ae ((kN hN).2.1) ?_
   exact this
  refine (H5.ns).elim fun mC aj => (aj).elim fun KU _ => ?_
  have Hk : VR c5 (.loc A2.n) (.ref D) := ⟨Nat.lt_of_lt_of_le nX g5.n, by refine ae (g5.σ _ nX) ?_; refine ae AO ?_; rfl⟩
  have fin := hU _ c5 s5 C mC _ _ hm (a4.trans Em) H6 Hk KU (Ne.symm (H.bw.ne zE)) H5.off zE KS
  refine bad ?_
  cases use with
  | none =>
   exact aa (aA (.of (wpAny_comp_letGo (cenv := compEnvC scope (gf env scope.names []) C env) K.1 _ s5 mC hv KU fun h' m' J js => aq (fin h' js))))
  | some u =>
   refine aa (jQ (aa (aA (az fin (fun J s7 q => ?_) fun J J q => q))))
   refine (q).elim fun m7 aj => (aj).elim fun M0 q => ?_
   exact aa (.of (wpAny_comp_letGo (cenv := compEnvC scope (gf env scope.names []) C env) K.1 _ s7 m7 MZ M0 fun h' m' J js => aq (q h' js)))
theorem jh (H : St Z L cs c A s) {C : Nat} (hC : s.heap.get? C = none) : ∀ b ∈ cs.frs.filterMap (·.frame), b ≠ C := fun b hm q => by
 refine (H.outs b hm).elim fun _ aj => (aj).elim fun ay _ => (ay).elim fun o aP => (aP).elim fun h _ => ?_
 rw [q, hC] at h; cases h
theorem qj {ts : List Nat} {elt it : E} {x : Expr} (he : aW Z.nm (m + 1) sc (.eJ elt ts it) x = true) : ∃ y t z scope pos, x = .ListComp y [⟨t, z, [], 0⟩] scope pos ∧ eK sc scope = true ∧ aW Z.nm m scope.names elt y = true ∧ aW Z.nm m sc it z = true ∧ g7 Z.nm scope.names ts t = true ∧ ts.Nodup := by
 replace he := bL he
 cases he with
 | eJ h =>
  refine (ao h).elim fun h h5 => ?_
  obtain ⟨h, h4⟩ := ao h
  obtain ⟨h, h3⟩ := ao h
  obtain ⟨h1, h2⟩ := ao h
  exact ⟨_, _, _, _, _, rfl, h1, h2, h3, h4, of_decide_eq_true h5⟩
theorem vC {e : E} {z : Expr} (hl : jV z = true) : ∀ {m : Nat}, aW Z.nm m sc e z = true → ∃ elt ts it, e = .eJ elt ts it
 | 0, h => bf h
 | m + 1, h => by
  replace h := bL h
  induction h <;> first | exact bf hl | exact ⟨_, _, _, rfl⟩
theorem sG (G : Z.Glob) (P : bY Z) (P2 : bQ Z) (I : aC Z n ih) (h1 : 1 ≤ n) (hn : Room (n + 1) Ar cs) {ts : List Nat} {elt it : E} {x : Expr} (he : aW Z.nm (m + 1) sc (.eJ elt ts it) x = true) (H : St Z L cs c A s) (N : aS Z sc c L cs env) :
 au Z L cs Ar (eval x env) VR (AJ Z.Γ ih (.eJ elt ts it) A) c s := by
 obtain ⟨y, t, z, scope, pos, rfl, k1, k2, k3, k4, k5⟩ := qj he
 intro l e
 rw [eval_ListComp]
 refine mQ G P P2 I h1 (hn.le (Nat.le_succ n)) (use := none) k4 k1 k5 k2 k3 H N e (fun J J q => q) fun A' c' s' C mC w a hm le H' r' hC h2 h3 h4 h5 => ?_
 intro h' hs
 have O : Own L c' s C := ⟨h4, h2, h3⟩
 have hd := Ns.gj hC
 have hf := jh H h4
 have hk : ∀ b o, s'.heap.get? b = some o → b ≠ C → h'.get? b = some o := fun b o e q => (hs.2 b q).trans e
 exact ⟨w, A', c', hm, le.eG (s' := { s' with heap := h' }) hd hk h4, H'.eG (s' := { s' with heap := h' }) hd hf hk rfl rfl h5 O, r'⟩
theorem sH (G : Z.Glob) (P : bY Z) (P2 : bQ Z) (I : aC Z n ih) (h1 : 1 ≤ n) (hn : Room n Ar cs) {i : Nat} {id : Str} {pos pos' : Pos} {e : E} {z : Expr} (hx : di Z.nm sc i (.Name id pos) = true) (he : aW Z.nm m sc e z = true) (hl : jV z = true) (hs : oR id pos z = true) (H : St Z L cs c A s) (N : aS Z sc c L cs env) :
 au Z L cs Ar (exec (.Assign [.Name id pos] z pos') env) FR (Res.bind (AJ Z.Γ ih e A) fun v A => ok .next (aN i v A)) c s := by
 obtain ⟨elt, ts, it, rfl⟩ := vC hl he
 cases m with
 | zero => cases he
 | succ m =>
 obtain ⟨y, t, z', scope, Hl, rfl, k1, k2, k3, k4, k5⟩ := qj he
 have yw : id = Z.nm i := by obtain ⟨_, _, q1, q2⟩ := iI hx; cases q1; exact q2
 have kd : env.kindOf id = some .local := by
  have h2 : cu sc id .local = true := by
   delta di at hx
   exact (ao (ao hx).1).2
  rcases N.names id .local (kind_of h2) with h | h
  ·exact h
  ·cases h.1
 have M1 : swapsWith (.ListComp y [⟨t, z', [], 0⟩] scope Hl) (some (.Name id pos)) pos'.line env = pure true := by
  delta oR at hs
  have hs := ao hs
  show pure (env.blockKind == .function && env.kindOf id == some .local && pos.line == _ && !(scope.names.any fun (n, k) => n == id && (k == .local || k == .cell))) = pure true
  have hb : env.blockKind = .function := by delta Env.blockKind; refine ae N.kind ?_; rfl
  refine ae hb ?_; refine ae kd ?_; refine ae hs.1 ?_; refine ae hs.2 ?_; rfl
 refine ae (exec_Assign_Name_used _ _ _ _ M1) ?_
 refine .at ?_
 intro l e
 refine (eC e).elim fun lz aj => (aj).elim fun M3 ay => (ay).elim fun q1 q2 => ?_
 refine aa (aa (az (mQ (Q := fun J s' => ∃ A' c', (Except.ok Fl.next, A') ∈ l.list ∧ Le Z L c s c' s' ∧ St Z L cs c' A' s') (E := EO Z L cs l.list c s) G P P2 I h1 hn (use := some (assign (.Name id pos) env)) k4 k1 k5 k2 k3 H N M3 (fun ev s' q => ?_) fun A' c' s' C mC w a hm le H' r' hC h2 h3 h4 h5 => ?_) (fun J s' q => ?_) fun J J q => q))
 ·obtain ⟨i, B, d, y1, y2, y3, y4⟩ := q
  exact ⟨i, B, d, q2 i B y1, y2, y3, y4⟩
 ·refine az (cQ G hx H' (N.mono le.grown) r' _ rfl) (fun J s7 q => ?_) fun J s7 q => ?_
  ·obtain ⟨_, A7, c7, m7, Hm, H7, _⟩ := q
   cases msg m7
   obtain ⟨oC, es, ep, Fz, M4⟩ := hC
   refine (Hm.keep C oC Fz h2 h3).elim fun M5 aj => (aj).elim fun M6 w7 => ?_
   have n7 : s7.heap.Ns C mC := Ns.stays ⟨oC, es, ep, Fz, M4⟩ fun o e => by
    rw [Fz] at e; obtain rfl := aO e
    exact ⟨M5, M6, w7⟩
   have hd := Ns.gj n7
   have hf := jh H h4
   refine ⟨mC, n7, fun h' M7 => ?_⟩
   have O : Own L c7 s C := (Own.mk h4 h2 h3 : Own L c' s C).mono ⟨_, Fz⟩ Hm
   have hk : ∀ b o, s7.heap.get? b = some o → b ≠ C → h'.get? b = some o := fun b o e q => (M7.2 b q).trans e
   obtain ⟨r', y1, y2⟩ := q1 w A' hm
   have y1 : aD.ok Fl.next (aN i w A') = some r' := y1
   obtain rfl := aO y1
   exact ⟨_, c7, y2 _ (.head _), (le.trans Hm).eG (s' := { s7 with heap := h' }) hd hk h4, H7.eG (s' := { s7 with heap := h' }) hd hf hk rfl rfl h5 O⟩
  ·obtain ⟨i, A7, c7, m7, _⟩ := q
   cases msg m7
 ·refine (q).elim fun A' aj => (aj).elim fun c' ay => (ay).elim fun k1 aP => (aP).elim fun k2 k3 => ?_
  exact aq (aq ⟨_, A', c', k1, k2, k3, rfl⟩)
end
end aD
end
section
open PySem PySem.Calls PyProof.Rows PySem.W PySem.SeqAt PySem.Builtin
set_option backward.match.sparseCases false
set_option maxRecDepth 100000
namespace aD
section
variable {Z : aL} {L : Nat} {cs : Fm} {Ar : Around} {c c' : Cfg} {A : AS} {s s' : Shared} {env : Env} {sc : cG} {m : Nat}
theorem sI {j : Nat} {k : Int} {w : V} {B : AS} (h : eY j k A = some (.one w B)) : eY j k A = ok w A := by
 have go : ∀ o : Option V, bA o A = some (.one w B) → bA o A = ok w A := fun o h => by
  cases o with
  | none => cases h
  | some v => cases h; rfl
 delta eY at h ⊢
 cases hm : A.heap.get j with
 | none => rw [hm] at h; cases h
 | some ob =>
  rw [hm] at h
  cases ob <;> first | (cases h; done) | skip
  all_goals dsimp only at h ⊢
  all_goals first
   | exact go _ h
   | (by_cases q : 0 ≤ k ∧ k ≤ 4096
      ·rw [if_pos q] at h ⊢; exact go _ h
      ·rw [if_neg q] at h; cases h)
noncomputable def qk : bM where
 e := fun e A => match e with
  | .cst v => ok v A
  | .loc x => bA (af x A.locs) A
  | .sub (.loc y) (.cst v) => Res.bind (bA (af y A.locs) A) fun o A => Res.bind (ok v A) fun i A => gU o i A
  | _ => none
 c := fun J J => none
 s := fun J J => none
 fuel := 0
theorem ql {v : V} {x : Expr} (he : aW Z.nm m sc (.cst v) x = true) (H : St Z L cs c A s) : au Z L cs Ar (eval x env) VR (ok v A) c s := by
 cases m with
 | zero => cases he
 | succ m =>
 replace he := bL he
 cases he with
 | cst he => exact l4 H he
theorem qm {i : Nat} {x : Expr} (he : aW Z.nm m sc (.loc i) x = true) (H : St Z L cs c A s) (N : aS Z sc c L cs env) : au Z L cs Ar (eval x env) VR (bA (af i A.locs) A) c s := by
 cases m with
 | zero => cases he
 | succ m =>
 replace he := bL he
 cases he with
 | @loc _ _ p he =>
  refine (ao he).elim fun he hd => ?_
  refine (ao he).elim fun he hk => ?_
  exact l5 (Ar := Ar) (env := env) (pos := p) (eI he) H N hk hd
theorem sub_eval (G : Z.Glob) (hb : Room 1 Ar cs) {i : Nat} {v : V} {x : Expr} (he : aW Z.nm m sc (.sub (.loc i) (.cst v)) x = true) (H : St Z L cs c A s) (N : aS Z sc c L cs env) :
 au Z L cs Ar (eval x env) VR (Res.bind (bA (af i A.locs) A) fun o A => Res.bind (ok v A) fun i A => gU o i A) c s := by
 cases m with
 | zero => cases he
 | succ m =>
 replace he := bL he
 cases he with
 | @sub _ _ y q p he =>
  refine (ao he).elim fun he h3 => ?_
  refine (ao he).elim fun h1 h2 => ?_
  refine au.bind H.bw (qm h2 H N) fun v A1 c1 s1 u a4 H1 r1 => ?_
  refine au.bind H1.bw (.hold (ql h3 H1)) fun w A2 c2 s2 u2 le2 H2 r2 => .at ?_
  have := ((tL G).item (x := q) (by simpa using h1) hb H2 (r1.mono le2.grown) r2).hG (base := y) (o := u)
  rwa [bind_assoc] at this
theorem sJ (G : Z.Glob) : aC Z 1 qk where
 fuel := Nat.zero_le _
 s := fun J J J J J => .none
 c := fun J J J J => .none
 e := by
  intro m sc e x Ar L cs c A s env he hn H N
  cases e with
  | cst v => exact ql he H
  | loc i => exact qm he H N
  | sub o i =>
   cases o with
   | loc y => cases i with
    | cst v => exact sub_eval G hn he H N
    | _ => exact .none
   | _ => exact .none
  | _ => exact .none
theorem qo (G : Z.Glob) (hb : Room 1 Ar cs) {a b : E} {op : oG} {x : Expr} (he : aW Z.nm m sc (.cmp a [op] [b]) x = true) (H : St Z L cs c A s) (N : aS Z sc c L cs env) :
 au Z L cs Ar (isTrue x env (eval x env)) BR (Res.bind (qk.e a A) fun a A => Res.bind (qk.e b A) fun b A => ea A op a b) c s := by
 cases m with
 | zero => cases he
 | succ m =>
 replace he := bL he
 cases he with
 | @cmp _ _ _ l os xs pos he =>
  refine (ao he).elim fun he _ => ?_
  refine (ao he).elim fun he hl => ?_
  refine (ao he).elim fun he hm => ?_
  refine (ao he).elim fun he h4 => ?_
  refine (ao he).elim fun h2 h3 => ?_
  have S := sJ G
  refine au.bind H.bw (S.e h2 hb H N) fun v A1 c1 s1 u a4 H1 r1 => ?_
  refine ae (eh (by simpa using hm)) ?_
  exact gB (tL G) S (Nat.le_refl _) hb [op] h3 h4 (by simpa using hl) H1 (N.mono a4.grown) r1
theorem vD {op : oG} {n : Nat} {o k : Int} (h : op = .eq ∨ op = .lt) : ∃ l, ea A op (.int (.va n o)) (.int (.lit k)) = some l ∧ ∀ a B, (Except.ok a, B) ∈ l.list → B = A := by
 dsimp only [ea]
 cases nj A op (.int (.va n o)) (.int (.lit k)) with
 | some t => exact ⟨_, rfl, fun a B hm => by cases msg hm; rfl⟩
 | none =>
  have go : ∀ a B, (Except.ok (ε := Nat) a, B) ∈ (bC.many [(.ok true, A), (.ok false, A)]).list → B = A := fun a B hm => by
   rcases fg hm with q | hm
   ·cases q; rfl
   ·cases msg hm; rfl
  rcases h with rfl | rfl <;> exact ⟨_, rfl, go⟩
theorem Ew (G : Z.Glob) : wN Z := by
 intro Ar L cs c A s env sc m e es xs hb hz he H N
 refine (ao hz).elim fun Cv Ex => ?_
 cases es with
 | nil => cases Ex
 | cons e2 es => cases es with
 | cons _ _ => cases Ex
 | nil =>
 obtain @⟨x, op, k, n, o, KV, hx⟩ := dD Cv
 obtain @⟨y, j, M8, t, i, w, B, hy, hi, Hn⟩ := dD Ex
 replace hi := sI hi
 obtain ⟨x1, xs, rfl, q1, q2⟩ := aQ he
 obtain ⟨x2, xs, rfl, q3, q4⟩ := aQ q2
 obtain rfl := cL q4
 have w1 := qo (Ar := Ar) G hb q1 H N
 have e1 : (Res.bind (qk.e (.loc x) A) fun a A => Res.bind (qk.e (.cst (.int (.lit k))) A) fun b A => ea A op a b) = ea A op (.int (.va n o)) (.int (.lit k)) := by
  refine (?_ : Res.bind (bA (af x A.locs) A) _ = _)
  refine ae hx ?_; rfl
 rw [e1] at w1
 obtain ⟨l1, FA, same⟩ := vD (A := A) (n := n) (o := o) (k := k) KV
 intro l e
 obtain rfl := aO e
 refine aa (az (w1 l1 FA) (fun u s1 q => ?_) fun ev s1 q => ?_)
 ·obtain ⟨t1, A1, c1, m1, a4, H1, r1⟩ := q
  have r1 : u = t1 := r1
  subst r1
  cases same u A1 m1
  cases u with
  | false => exact aq ⟨false, A, c1, .head _, a4, H1, rfl⟩
  | true =>
   have w2 := qo (Ar := Ar) G hb q3 H1 (N.mono a4.grown)
   have e2 : (Res.bind (qk.e (.sub (.loc y) (.cst (.int (.lit j)))) A) fun a A => Res.bind (qk.e (.cst (.str t)) A) fun b A => ea A M8 a b) = ok false A := by
    have e3 : qk.e (.sub (.loc y) (.cst (.int (.lit j)))) A = ok (.str w) A := by
     refine (?_ : Res.bind (bA (af y A.locs) A) _ = _)
     refine ae hy ?_
     exact hi
    refine ae e3 ?_
    rcases Hn with ⟨rfl, hs⟩ | ⟨rfl, hs⟩
    ·refine (?_ : ea A .eq (.str w) (.str t) = _)
     dsimp only [ea]
     have : nj A .eq (.str w) (.str t) = some false := by refine (?_ : some (jG w t) = _); refine ae hs ?_; rfl
     refine ae this ?_; rfl
    ·refine (?_ : ea A .ne (.str w) (.str t) = _)
     dsimp only [ea]
     have : nj A .ne (.str w) (.str t) = some false := by refine (?_ : (some (jG w t)).map not = _); refine ae hs ?_; rfl
     refine ae this ?_; rfl
   rw [e2] at w2
   refine aa (az (w2 _ rfl) (fun u s2 q => ?_) fun ev s2 q => ?_)
   ·obtain ⟨t2, A2, c2, m2, le2, H2, r2⟩ := q
    cases msg m2
    have r2 : u = false := r2
    subst r2
    exact aq ⟨false, A, c2, .head _, a4.trans le2, H2, rfl⟩
   ·obtain ⟨i, A2, c2, m2, _⟩ := q
    cases msg m2
 ·obtain ⟨i, A1, c1, m1, _, _, _⟩ := q
  exfalso
  have : ∀ l1 : bC Bool, ea A op (.int (.va n o)) (.int (.lit k)) = some l1 → ∀ i B, (Except.error i, B) ∉ l1.list := fun l1 h i B hm => by
   dsimp only [ea] at h
   cases hv : nj A op (.int (.va n o)) (.int (.lit k)) with
   | some t => rw [hv] at h; obtain rfl := aO h; cases msg hm
   | none =>
    rw [hv] at h
    rcases KV with rfl | rfl <;>
    ·obtain rfl := aO h
     rcases fg hm with q | hm
     ·cases q
     ·cases msg hm
  exact this l1 FA i A1 m1
end
end aD
end
section
open PySem PySem.Calls PyProof.Rows PySem.W PySem.SeqAt PySem.Builtin
set_option maxRecDepth 100000
namespace aD
variable {Z : aL}
theorem Ey (G : Z.Glob) (Fs : tJ Z) (P : bY Z) (P2 : bQ Z) {n : Nat} {ih : bM} (I : aC Z n ih) (h1 : 1 ≤ n) : wO Z n ih where
 call := fun hn H N rf he J => sq G Fs (G5 G) I hn H N rf he
 meth := fun hn H N r he hl hp => sx G Fs I hn H N r he hl hp
 eJ := fun he hn H N => sG G P P2 I h1 hn he H N
 lam := fun he J H N => vA G he H N
theorem Cw (G : Z.Glob) : aC Z 1 (bH Z.Γ 0) where
 fuel := Nat.zero_le _
 s := fun J J J J J => .none
 e := fun J J J J => .none
 c := fun J J J J => .none
theorem sound (G : Z.Glob) (Fs : tJ Z) : ∀ k : Nat, aC Z (k + 1) (bH Z.Γ k)
 | 0 => Cw G
 | k + 1 => by
  have P := tL G
  have P2 := xp G
  have I := sound G Fs k
  have C := Ey G Fs P P2 I (Nat.succ_le_succ (Nat.zero_le _))
  have Lo : AM Z (k + 1) (bH Z.Γ k) := {
   loop := fun hF nd hb hf hn H N r => sA hf G P P2 I (Nat.succ_le_succ (Nat.zero_le _)) hn hF nd hb H N r
   swap := by
    intro Ar L cs c A s env sc m i id pos pos' e z hx he hl hs hn H N
    cases k with
    | zero => exact .none
    | succ j => exact sH G P P2 (sound G Fs j) (Nat.succ_le_succ (Nat.zero_le _)) (hn.le (by omega)) hx he hl hs H N }
  exact {
   fuel := Nat.succ_le_succ I.fuel
   s := fun he hf hn H N => uF G P P2 I C Lo (Nat.succ_le_succ (Nat.zero_le _)) hn hf he H N
   e := fun he hn H N => ux G P I C (Nat.succ_le_succ (Nat.zero_le _)) hn he H N
   c := fun he hn H N => uz (Ew G) P I (Nat.succ_le_succ (Nat.zero_le _)) hn he H N }
end aD
end
section
open PySem PySem.Calls PyProof.Rows PySem.W PySem.SeqAt PySem.Builtin
set_option backward.match.sparseCases false
set_option maxRecDepth 100000
namespace aD
inductive GV where
 | int (x : SI)
 | oct (b : BS)
noncomputable def GV.ctorIdx (x : GV) : Nat := GV.casesOn (motive := fun J => Nat) x (fun J => 0) (fun J => 1)
structure eH where
 f : List Nat
 g : List GV
noncomputable def zI (x : SI) (o : Int) : SI := match x with
 | .lit i => .lit (i + o)
 | .va k p => .va k (p + o)
noncomputable def Ho : (o : Option GV) → Option { x : SI // o = some (.int x) }
 | some (.int x) => some ⟨x, rfl⟩
 | _ => none
noncomputable def M9 : (o : Option GV) → Option { b : BS // o = some (.oct b) }
 | some (.oct b) => some ⟨b, rfl⟩
 | _ => none
noncomputable def FC (g : List GV) (x : SI) : Option SI := match x with
 | .lit i => some (.lit i)
 | .va k o => (Ho (getL g k)).bind fun z => some (zI z.1 o)
noncomputable def Ez (g : List GV) (x : Seg) : Option BS := match x with
 | .lit l => some [.lit l]
 | .rep k n => (Ho (getL g k)).bind fun z => (match z.1 with
  | .va j p => if p = 0 then some [.rep j n] else none
  | .lit v => some [.lit (List.replicate n v.toNat)])
 | .d9 k o n => (M9 (getL g k)).bind fun b => if o + n ≤ BS.len b.1 then some (BS.slice o (o + n) b.1) else none
 | .be k o n a m => (Ho (getL g k)).bind fun z => (match z.1 with
  | .va j p => some [.be j (p + o) n a m]
  | .lit v => some [.lit ((List.range m).map fun j => (v + o).toNat / 256 ^ (n - 1 - (a + j)) % 256)])
noncomputable def Hq (g : List GV) (l : BS) : Option BS := List.rec (motive := fun J => Option BS) (some []) (fun x J ih => (Ez g x).bind fun a => ih.bind fun d => some (BS.app a d)) l
noncomputable def BS.norm (l : BS) : BS := List.rec (motive := fun J => BS) [] (fun x J ih => BS.cons x ih) l
noncomputable def EA (g : List GV) (a b : BS) : Bool := Option.rec (motive := fun J => Bool) false (fun x => yD (BS.norm x) (BS.norm b)) (Hq g a)
noncomputable def EB (x y : SI) : Bool := SI.rec (motive := fun J => Bool) (fun a => SI.rec (motive := fun J => Bool) (De a) (fun J J => false) y) (fun k o => SI.rec (motive := fun J => Bool) (fun J => false) (fun j p => lr (Nat.beq k j) (De o p)) y) x
noncomputable def gF (m : eH) (j i : Nat) : Bool := Option.rec (motive := fun J => Bool) false (fun k => Nat.beq k i) (getL m.f j)
noncomputable def gI (m : eH) (x y : SI) : Bool := Option.rec (motive := fun J => Bool) false (fun z => EB z y) (FC m.g x)
noncomputable def C5 (n : Bool) (b : Bool → Bool) (i : SI → Bool) (s : List Nat → Bool) (y : BS → Bool) (l : Nat → Bool) (v : V) : Bool := V.rec (motive := fun J => Bool) n b i s y l (fun J => false) (fun J => false) (fun J => false) (fun J => false) false v
noncomputable def F1 {α : Type} (J : α) : Bool := false
noncomputable def eqB (a b : Bool) : Bool := Bool.rec (motive := fun J => Bool) (Bool.rec (motive := fun J => Bool) true false b) b a
noncomputable def gV (m : eH) (v w : V) : Bool := V.rec (motive := fun J => Bool) (C5 true F1 F1 F1 F1 F1 w) (fun a => C5 false (eqB a) F1 F1 F1 F1 w) (fun x => C5 false F1 (gI m x) F1 F1 F1 w) (fun a => C5 false F1 F1 (jG a) F1 F1 w)
 (fun a => C5 false F1 F1 F1 (EA m.g a) F1 w) (fun j => C5 false F1 F1 F1 F1 (gF m j) w) (fun J => false) (fun J => false) (fun J => false) (fun J => false) true v
noncomputable def all2 {α β : Type} (p : α → β → Bool) (l : List α) (k : List β) : Bool := List.rec (motive := fun J => List β → Bool) (fun k => List.rec (motive := fun J => Bool) true (fun J J J => false) k)
 (fun a J ih k => List.rec (motive := fun J => Bool) false (fun b t J => Bool.rec (motive := fun J => Bool) false (ih t) (p a b)) k) l k
noncomputable def gC (m : eH) : Option V → Option V → Bool
 | some a, some b => gV m a b
 | none, none => true
 | _, _ => false
noncomputable def zK (x : Int × V) : List (Int × V) → List (Int × V)
 | [] => [x]
 | y :: r => if x.1 ≤ y.1 then x :: y :: r else y :: zK x r
noncomputable def qp : List (Int × V) → List (Int × V)
 | [] => []
 | x :: r => zK x (qp r)
noncomputable def gP (m : eH) (x y : Int × V) : Bool := lr (De x.1 y.1) (gV m x.2 y.2)
inductive SO (m : eH) : ax → ax → Prop
 | inst {c fs d gs} (h : (Nat.beq c d && all2 (fun x y => lr (Nat.beq x.1 y.1) (gV m x.2 y.2)) fs gs) = true) : SO m (.inst c fs) (.inst d gs)
 | list {xs ys} (h : all2 (gV m) xs ys = true) : SO m (.list xs) (.list ys)
 | tup {xs ys} (h : all2 (gV m) xs ys = true) : SO m (.tup xs) (.tup ys)
 | aB {es ds} (h : all2 (gP m) es ds = true) : SO m (.aB es) (.aB ds)
 | aR {es ds} (h : all2 (fun x y => lr (jG x.1 y.1) (gV m x.2 y.2)) es ds = true) : SO m (.aR es) (.aR ds)
 | a0 : SO m .a0 .a0
 | bT {a b} (h : EA m.g a b = true) : SO m (.bT a) (.bT b)
 | cell {v w} (h : gC m v w = true) : SO m (.cell v) (.cell w)
 | src : SO m .src .src
 | jl {k l} (h : Nat.ble l k = true) : SO m (.jl k) (.jl l)
 | KW {k ys} (h : Nat.ble (List.length ys) k = true) : SO m (.jl k) (.list ys)
 | aw {es ds} (h : all2 (gP m) es ds = true) : SO m (.aw es) (.aw ds)
 | KX {es ds} (h : all2 (gP m) es (qp ds) = true) : SO m (.aw es) (.aB ds)
 | KY : SO m (.aw []) .a0
noncomputable def Na (m : eH) (o p : ax) : Option (PLift (SO m o p)) := match o with
 | .inst c fs => match p with
  | .inst d gs => dj (Nat.beq c d && all2 (fun x y => lr (Nat.beq x.1 y.1) (gV m x.2 y.2)) fs gs) .inst
  | _ => none
 | .list xs => match p with
  | .list ys => dj (all2 (gV m) xs ys) .list
  | _ => none
 | .tup xs => match p with
  | .tup ys => dj (all2 (gV m) xs ys) .tup
  | _ => none
 | .aB es => match p with
  | .aB ds => dj (all2 (gP m) es ds) .aB
  | _ => none
 | .aR es => match p with
  | .aR ds => dj (all2 (fun x y => lr (jG x.1 y.1) (gV m x.2 y.2)) es ds) .aR
  | _ => none
 | .a0 => match p with
  | .a0 => some ⟨.a0⟩
  | _ => none
 | .bT a => match p with
  | .bT b => dj (EA m.g a b) .bT
  | _ => none
 | .cell v => match p with
  | .cell w => dj (gC m v w) .cell
  | _ => none
 | .src => match p with
  | .src => some ⟨.src⟩
  | _ => none
 | .jl k => match p with
  | .jl l => dj (Nat.ble l k) .jl
  | .list ys => dj (Nat.ble (List.length ys) k) .KW
  | _ => none
 | .aw es => match p with
  | .aw ds => dj (all2 (gP m) es ds) .aw
  | .aB ds => dj (all2 (gP m) es (qp ds)) .KX
  | .a0 => match es with
   | [] => some ⟨.KY⟩
   | _ :: _ => none
  | _ => none
 | _ => none
noncomputable def gO (m : eH) (o p : ax) : Bool := Option.rec (motive := fun J => Bool) false (fun J => true) (Na m o p)
inductive Md where
 | first (lim : Nat)
 | turn (d : Nat)
noncomputable def Md.ctorIdx (x : Md) : Nat := Md.casesOn (motive := fun J => Nat) x (fun J => 0) (fun J => 1)
noncomputable def gD (md : Md) (g : List GV) (vs : List VD) : VD → GV → Bool
 | .int lo hi, .int x => match bnd vs x with
  | some (l, h) => decide (lo ≤ l) && decide (h ≤ hi)
  | none => false
 | .oct, .oct _ => true
 | .any, .int _ => true
 | .lt j, .int x => match getL g j with
  | some (.int y) => (match bnd vs x with
   | some (l, _) => decide (0 ≤ l) && (match bnd vs y with
    | some (_, h) => decide (h ≤ 2147483649)
    | none => false) && (ltI vs x y == some true)
   | none => false)
  | _ => false
 | .gh s, .int x => match md with
  | .first lim => (match x with
   | .lit v => decide (0 ≤ v) && decide (v + s + lim ≤ 2147483648)
   | _ => false)
  | .turn d => (match x with
   | .va k o => (match getL vs k with
    | some (.gh s') => decide (0 ≤ o) && decide (o + s ≤ s' + d)
    | _ => false)
   | _ => false)
 | _, _ => false
noncomputable def Hr (l : List Nat) (a : Nat) : Bool := List.rec (motive := fun J => Nat → Bool) (fun J => true) (fun i J ih a => Bool.rec (motive := fun J => Bool) false (ih (Nat.lor a (Nat.shiftLeft 1 i))) (Nat.beq (Nat.land (Nat.shiftRight a i) 1) 0)) l a
noncomputable def FD (l : List Nat) : Bool := Hr l 0
theorem xC {l : List Nat} : ∀ {a : Nat}, Hr l a = true → l.Nodup ∧ ∀ i ∈ l, a.testBit i = false := by
 induction l with
 | nil => exact fun _ => ⟨.nil, fun _ h => nomatch h⟩
 | cons i r ih =>
  intro a h
  have h : lr (Nat.beq (Nat.land (Nat.shiftRight a i) 1) 0) (Hr r (Nat.lor a (Nat.shiftLeft 1 i))) = true := h
  obtain ⟨h1, h2⟩ := lC h
  obtain ⟨h3, h4⟩ := ih h2
  have h4 : ∀ j ∈ r, a.testBit j = false ∧ (1 <<< i).testBit j = false := fun j hj => Bool.or_eq_false_iff.mp ((Nat.testBit_or a (1 <<< i) j).symm.trans (h4 j hj))
  have h0 : a.testBit i = false := by
   refine (?_ : (1 &&& (a >>> i) != 0) = false)
   rw [Nat.and_comm, show (a >>> i) &&& 1 = 0 from Nat.eq_of_beq_eq_true h1]; rfl
  refine ⟨List.nodup_cons.mpr ⟨fun hm => ?_, h3⟩, fun j hj => ?_⟩
  ·have := (h4 i hm).2
   rw [Nat.one_shiftLeft, Nat.testBit_two_pow_self] at this
   cases this
  ·rcases fg hj with rfl | hj
   ·exact h0
   ·exact (h4 j hj).1
theorem kO {l : List Nat} (h : FD l = true) : l.Nodup := (xC h).1
structure LS where
 hs : List ax
 locs : List (Nat × V)
 cells : List (Nat × Nat)
 vars : List VD
noncomputable def LS.as (T : LS) : AS := { heap := Tr.yC T.hs, n := T.hs.length, locs := T.locs, cells := T.cells, vars := T.vars }
noncomputable def xD : Nat → List VD → Bool
 | _, [] => true
 | k, .lt j :: r => Nat.blt j k && xD (Nat.succ k) r
 | k, _ :: r => xD (Nat.succ k) r
theorem mR {j : Nat} : ∀ {vs : List VD} {n k : Nat}, xD n vs = true → vs[k]? = some (.lt j) → j < n + k
 | [], _, _, _, h => by cases h
 | d :: r, n, k, e, h => by
  have e2 : xD (n + 1) r = true := by
   cases d <;> first | exact e | exact (ao e).2
  cases k with
  | zero =>
   obtain rfl := aO h
   exact Nat.blt_eq.mp (ao e).1
  | succ k =>
   have := mR (k := k) e2 h
   omega
noncomputable def cover (md : Md) (m : eH) (A : AS) (T : LS) : Bool :=
 A.hd.isNone && FD m.f && all2 (fun o i => Option.rec (motive := fun J => Bool) false (fun p => gO m o p) (A.heap.get i)) T.hs m.f && all2 (gD md m.g A.vars) T.vars m.g && xD (nat_lit 0) T.vars &&
 T.locs.all (fun x => Option.rec (motive := fun J => Bool) false (fun v => gV m x.2 v) (af x.1 A.locs)) && T.cells.isEmpty && A.cells.isEmpty
noncomputable def cp (c : Cfg) (m : eH) (g : Nat) : Cfg where
 ρ := ⟨g, fun k => match getL m.g k with | some (.int x) => SI.den c.ρ x | _ => 0, fun k => (fun j => match getL m.g k with | some (.oct b) => (BS.den c.ρ b).getD j 0 | _ => 0, emptyDict)⟩
 σ := fun j => c.σ (m.f.getD j 0)
 n := m.f.length
 nv := m.g.length
theorem xE {α : Type} : ∀ (l : List α) (t : Tr α) (k i : Nat), (Tr.J0 l t k).get i = if k ≤ i ∧ i < k + l.length then l[i - k]? else t.get i
 | [], t, k, i => by refine ae (if_neg (by simp -iota only [List.length_nil]; omega)) ?_; rfl
 | a :: l, t, k, i => by
  refine (xE l (t.put k a) (k + 1) i).trans ?_
  by_cases h : k + 1 ≤ i ∧ i < k + 1 + l.length
  ·refine ae (if_pos h) ?_; refine ae (if_pos (by rw [List.length_cons]; omega)) ?_; refine ae (show i - k = (i - (k + 1)) + 1 by omega) ?_; rfl
  ·rw [if_neg h, Tr.ba]
   by_cases q : i = k
   ·subst q
    rw [if_pos rfl, if_pos (by rw [List.length_cons]; omega), Nat.sub_self]; rfl
   ·refine ae (if_neg q) ?_; refine ae (if_neg (by rw [List.length_cons]; omega)) ?_; rfl
theorem fX {α : Type} (l : List α) (i : Nat) : (Tr.yC l).get i = l[i]? := by
 have h := xE l .nil 0 i
 refine ae h ?_
 by_cases q : i < l.length
 ·refine ae (if_pos ⟨Nat.zero_le _, by omega⟩) ?_; rfl
 ·refine ae (if_neg (by omega)) ?_; refine ae (List.getElem?_eq_none (by omega)) ?_; rfl
section
variable {c : Cfg} {m : eH} {g : Nat}
theorem BS.qq {ρ : Val} (b : BS) : BS.den ρ (BS.norm b) = BS.den ρ b := by
 induction b with
 | nil => rfl
 | cons x r ih =>
  refine (?_ : BS.den ρ (BS.cons x (BS.norm r)) = Seg.den ρ x ++ BS.den ρ r)
  rw [BS.hW, ih]
theorem iU {α : Type} {l : List α} {k : Nat} {a : α} (h : getL l k = some a) : k < l.length := (yv ((bJ l k).symm.trans h)).1
theorem xF {α : Type} {l : List α} {k : Nat} {a : α} (h : l[k]? = some a) : k < l.length := (yv h).1
theorem xG {ρ : Val} {x : SI} {o : Int} : SI.den ρ (zI x o) = SI.den ρ x + o := by
 cases x with
 | lit i => rfl
 | va k p => refine (?_ : ρ.i k + (p + o) = ρ.i k + p + o); omega
theorem vE {x y : SI} (h : FC m.g x = some y) : SI.lt (cp c m g).nv x ∧ SI.den (cp c m g).ρ x = SI.den c.ρ y := by
 cases x with
 | lit i => obtain rfl := aO h; exact ⟨trivial, rfl⟩
 | va k o =>
  obtain ⟨⟨z, hz⟩, _, h⟩ := f9 h
  obtain rfl := aO h
  refine ⟨iU hz, ?_⟩
  refine (?_ : (match getL m.g k with | some (.int x) => SI.den c.ρ x | _ => 0) + o = SI.den c.ρ (zI z o))
  refine ae hz ?_; refine ae xG ?_; rfl
theorem sL {x : Seg} {b : BS} (h : Ez m.g x = some b) : Seg.lt (cp c m g).nv x ∧ Seg.den (cp c m g).ρ x = BS.den c.ρ b := by
 cases x with
 | lit l => obtain rfl := aO h; exact ⟨trivial, (List.append_nil _).symm⟩
 | rep k n =>
  obtain ⟨⟨z, hz⟩, _, h⟩ := f9 h
  cases z with
  | va j p =>
   by_cases hp : p = 0
   case neg => exact no ((if_neg hp).symm.trans h)
   obtain rfl := aO ((if_pos hp).symm.trans h)
   subst hp
   refine ⟨iU hz, ?_⟩
   refine (?_ : List.replicate n (UInt8.ofNat (match getL m.g k with | some (.int x) => SI.den c.ρ x | _ => 0).toNat) = List.replicate n (UInt8.ofNat (c.ρ.i j).toNat) ++ [])
   rw [hz, List.append_nil]
   refine (?_ : List.replicate n (UInt8.ofNat (c.ρ.i j + 0).toNat) = _)
   rw [Int.add_zero]
  | lit v =>
   obtain rfl := aO h
   refine ⟨iU hz, ?_⟩
   refine (?_ : List.replicate n (UInt8.ofNat (match getL m.g k with | some (.int x) => SI.den c.ρ x | _ => 0).toNat) = List.map UInt8.ofNat (List.replicate n v.toNat) ++ [])
   rw [hz, List.append_nil, List.map_replicate]; rfl
 | d9 k o n =>
  obtain ⟨⟨b', hz⟩, _, h⟩ := f9 h
  by_cases hle : o + n ≤ BS.len b'
  case neg => exact no ((if_neg hle).symm.trans h)
  obtain rfl := aO ((if_pos hle).symm.trans h)
  refine ⟨iU hz, ?_⟩
  rw [BS.iK]
  refine (?_ : (List.range n).map (fun j => (match getL m.g k with | some (.oct b) => (BS.den c.ρ b).getD (o + j) 0 | _ => 0)) = List.take (o + n - o) (List.drop o (BS.den c.ρ b')))
  refine ae hz ?_
  dsimp only
  have hl : (BS.den c.ρ b').length = BS.len b' := BS.bq _
  refine List.ext_getElem ?_ fun i h1 h2 => ?_
  ·rw [List.length_map, List.length_range, List.length_take, List.length_drop, hl, Nat.add_sub_cancel_left, Nat.min_eq_left (Nat.le_sub_of_add_le (Nat.add_comm n o ▸ hle))]
  ·rw [List.length_map, List.length_range] at h1
   rw [List.getElem_map, List.getElem_range, List.getElem_take, List.getElem_drop, List.getD_eq_getElem?_getD, List.getElem?_eq_getElem (hl ▸ Nat.lt_of_lt_of_le (Nat.add_lt_add_left h1 o) hle)]; rfl
 | be k o n a mm =>
  obtain ⟨⟨z, hz⟩, _, h⟩ := f9 h
  cases z with
  | va j p =>
   obtain rfl := aO h
   refine ⟨iU hz, ?_⟩
   refine (?_ : (List.range mm).map (fun i => ly n ((match getL m.g k with | some (.int x) => SI.den c.ρ x | _ => 0) + o).toNat (a + i)) = (List.range mm).map (fun i => ly n (c.ρ.i j + (p + o)).toNat (a + i)) ++ [])
   rw [hz, List.append_nil]
   refine (?_ : (List.range mm).map (fun i => ly n (c.ρ.i j + p + o).toNat (a + i)) = _)
   rw [Int.add_assoc]
  | lit v =>
   obtain rfl := aO h
   refine ⟨iU hz, ?_⟩
   refine (?_ : (List.range mm).map (fun i => ly n ((match getL m.g k with | some (.int x) => SI.den c.ρ x | _ => 0) + o).toNat (a + i)) = List.map UInt8.ofNat ((List.range mm).map fun j => (v + o).toNat / 256 ^ (n - 1 - (a + j)) % 256) ++ [])
   rw [hz, List.append_nil, List.map_map]; rfl
theorem vF {x : BS} {b : BS} : Hq m.g x = some b → BS.lt (cp c m g).nv x ∧ BS.den (cp c m g).ρ x = BS.den c.ρ b := by
 induction x generalizing b with
 | nil => intro h; obtain rfl := aO h; exact ⟨trivial, rfl⟩
 | cons x r ih =>
  intro h
  obtain ⟨a, ha, h⟩ := f9 h
  obtain ⟨d, hd, h⟩ := f9 h
  obtain rfl := aO h
  have h1 := sL (c := c) (g := g) ha
  have h2 := ih hd
  refine ⟨⟨h1.1, h2.1⟩, ?_⟩
  rw [BS.fR]
  refine (?_ : Seg.den _ x ++ BS.den _ r = _)
  refine ae h1.2 ?_; refine ae h2.2 ?_; rfl
theorem ip {a b : BS} (h : EA m.g a b = true) : BS.lt (cp c m g).nv a ∧ BS.den (cp c m g).ρ a = BS.den c.ρ b := by
 delta EA at h
 cases hx : Hq m.g a with
 | none => rw [hx] at h; exact bf h
 | some x =>
  rw [hx] at h
  have h1 := vF (c := c) (g := g) hx
  refine ⟨h1.1, ?_⟩
  rw [h1.2, ← BS.qq x, tD h, BS.qq]
theorem Cx {j i : Nat} (h : m.f[j]? = some i) : j < (cp c m g).n ∧ (cp c m g).σ j = c.σ i :=
 ⟨xF h, by refine (?_ : c.σ (m.f.getD j 0) = _); refine ae (List.getD_eq_getElem?_getD) ?_; refine ae h ?_; rfl⟩
theorem EC {m : eH} {x y : SI} (h : gI m x y = true) : FC m.g x = some y := by
 delta gI at h
 cases q : FC m.g x with
 | none => rw [q] at h; exact bf h
 | some z =>
  rw [q] at h
  have h : EB z y = true := h
  cases z with
  | lit a => cases y with
   | lit b => cases nI h; rfl
   | va => exact bf h
  | va k o => cases y with
   | lit b => exact bf h
   | va j p => cases Nat.eq_of_beq_eq_true (lC h).1; cases nI (lC h).2; rfl
theorem ED {m : eH} {j i : Nat} (h : gF m j i = true) : m.f[j]? = some i := by
 delta gF at h
 rw [bJ] at h
 cases q : m.f[j]? with
 | none => rw [q] at h; exact bf h
 | some k => rw [q] at h; cases Nat.eq_of_beq_eq_true h; rfl
theorem dI {v v' : V} {u : Value} (h : gV m v' v = true) (r : VR c v u) : VR (cp c m g) v' u := by
 cases v' with
 | bb => exact r.handed
 | none =>
  cases v <;> first | exact bf h | exact r
 | bool a =>
  cases v <;> first | exact bf h | skip
  have e : a = b := by cases a <;> cases b <;> first | exact bf h | rfl
  subst e; exact r
 | int x =>
  cases v <;> first | exact bf h | skip
  obtain ⟨_, t, rfl⟩ := r
  have := vE (c := c) (g := g) (EC h)
  exact ⟨this.1, t, by refine ae this.2 ?_; rfl⟩
 | str a =>
  cases v <;> first | exact bf h | skip
  cases dV.mp h; exact r
 | bytes a =>
  cases v <;> first | exact bf h | skip
  obtain ⟨_, t, rfl⟩ := r
  have := ip (c := c) (g := g) h
  exact ⟨this.1, t, by refine ae this.2 ?_; rfl⟩
 | loc j =>
  cases v <;> first | exact bf h | skip
  obtain ⟨_, rfl⟩ := r
  have := Cx (c := c) (g := g) (ED h)
  exact ⟨this.1, by refine ae this.2 ?_; rfl⟩
 | fn => exact bf h
 | cls => exact bf h
 | ty => exact bf h
 | bi => exact bf h
theorem Cy {α β : Type} {p : α → β → Bool} {a : α} {b : β} {l : List α} {k : List β} (h : all2 p (a :: l) (b :: k) = true) : p a b = true ∧ all2 p l k = true := lC (a := p a b) (b := all2 p l k) h
theorem cI {α β γ : Type} {p : α → β → Bool} {R : β → γ → Prop} {R' : α → γ → Prop} (hp : ∀ a b u, p a b = true → R b u → R' a u) : ∀ {l : List α} {k : List β} {us : List γ}, all2 p l k = true → aT R k us → aT R' l us
 | [], k, us, h, r => by
  cases k with
  | nil => refine ae r.nil_inv ?_; exact .nil
  | cons => exact bf h
 | a :: l, k, us, h, r => by
  cases k with
  | nil => exact bf h
  | cons b k =>
   obtain ⟨u, us, rfl, r, t⟩ := r.cons_inv
   exact .cons (hp _ _ _ (Cy h).1 r) (cI hp (Cy h).2 t)
theorem jA {α β : Type} {p : α → β → Bool} : ∀ {l : List α} {k : List β} {i : Nat} {a : α}, all2 p l k = true → l[i]? = some a → ∃ b, k[i]? = some b ∧ p a b = true
 | [], _, _, _, _, e => by cases e
 | _ :: _, [], _, _, h, _ => by cases h
 | a :: l, b :: k, i, x, h, e => by
  obtain ⟨h1, h2⟩ := Cy h
  cases i with
  | zero => obtain rfl := aO e; exact ⟨b, rfl, h1⟩
  | succ i =>
   have q := jA h2 (show l[i]? = some x from e)
   exact q
theorem fK {α β : Type} {p : α → β → Bool} : ∀ {l : List α} {k : List β}, all2 p l k = true → l.length = k.length
 | [], [], _ => rfl
 | [], _ :: _, h => by cases h
 | _ :: _, [], h => by cases h
 | _ :: _, _ :: _, h => by refine ae List.length_cons ?_; refine ae List.length_cons ?_; refine ae (fK (Cy h).2) ?_; rfl
variable {Z : aL}
theorem xH {v v' : Option V} {u : Option Value} (e : gC m v' v = true) (r : yM c v u) : yM (cp c m g) v' u := by
 cases v with
 | none => cases v' with
  | none => cases u <;> exact r
  | some a => exact bf e
 | some b => cases v' with
  | none => exact bf e
  | some a => cases u with
   | none => exact r.elim
   | some u => exact dI e r
theorem empty_dict {o : Obj} {ep : Nat} (h : o.ExactDict) (hd : o.data = .dict #[] ep) : o.IsDictOf (intKind Z.prog Z.w) [] := ⟨#[], ep, h, hd, fun J q => (by simp at q), .nil, List.nodup_nil⟩
theorem mT (x : Int × V) : ∀ l : List (Int × V), (zK x l).Perm (x :: l)
 | [] => .refl _
 | y :: r => by
  dsimp only [zK]
  split
  ·exact .refl _
  ·exact ((mT x r).cons y).trans (.swap x y r)
theorem kP : ∀ l : List (Int × V), (qp l).Perm l
 | [] => .nil
 | x :: r => (mT x _).trans ((kP r).cons x)
theorem mU {α β : Type} {p : α → β → Bool} {k k' : List β} (h : k.Perm k') : ∀ {l : List α}, all2 p l k = true → ∃ l', l'.Perm l ∧ all2 p l' k' = true := by
 induction h with
 | nil => exact fun {l} e => ⟨l, .refl _, e⟩
 | cons x _ ih =>
  intro l e
  cases l with
  | nil => cases e
  | cons a l =>
   refine (Cy e).elim fun h1 h2 => ?_
   refine (ih h2).elim fun l' aj => (aj).elim fun q1 q2 => ?_
   exact ⟨a :: l', q1.cons a, by refine (?_ : lr (p _ _) (all2 p _ _) = true); refine ae h1 ?_; refine ae q2 ?_; rfl⟩
 | swap x y r =>
  intro l e
  cases l with
  | nil => cases e
  | cons a l =>
   refine (Cy e).elim fun h1 h2 => ?_
   cases l with
   | nil => cases h2
   | cons b l =>
    refine (Cy h2).elim fun h2 h3 => ?_
    exact ⟨b :: a :: l, .swap a b l, by refine (?_ : lr (p _ _) (lr (p _ _) (all2 p _ _)) = true); refine ae h1 ?_; refine ae h2 ?_; refine ae h3 ?_; rfl⟩
 | trans _ _ Nb Nc =>
  intro l e
  refine (Nb e).elim fun l1 aj => (aj).elim fun q1 q2 => ?_
  refine (Nc q2).elim fun l2 aj => (aj).elim fun q3 q4 => ?_
  exact ⟨l2, q3.trans q1, q4⟩
theorem kQ : ∀ (a b : Int × V) (u : Int × Value), gP m a b = true → u.1 = b.1 ∧ VR c b.2 u.2 → u.1 = a.1 ∧ VR (cp c m g) a.2 u.2 := fun J J J hp hr => ⟨hr.1.trans (nI (lC hp).1).symm, dI (lC hp).2 hr.2⟩
theorem Nd {P : Prop} {o : Option (PLift P)} (h : Option.rec (motive := fun J => Bool) false (fun J => true) o = true) : o.isSome = true := by
 cases o with
 | none => exact bf h
 | some => rfl
theorem xI {h : Heap} {i j : Nat} {o o' : ax} (e : gO m o' o = true) (hj : m.f[j]? = some i) (r : br Z c h i o) : br Z (cp c m g) h j o' := by
 refine (?_ : wC Z (cp c m g) h ((cp c m g).σ j) o')
 refine ae ((Cx (c := c) (g := g) hj).2) ?_
 have r : wC Z c h (c.σ i) o := r
 replace e := dD (Nd e)
 induction e with
 | inst e =>
  refine (ao e).elim fun e1 e2 => ?_
  cases Nat.eq_of_beq_eq_true e1
  obtain ⟨h1, ⟨k, hk, Nf, hf⟩, es, n, h2, h3⟩ := r
  refine ⟨h1, ⟨k, hk, Nf, fun f DY => ?_⟩, es, n, h2, cI (fun a b u hp hr => ?_) e2 h3⟩
  ·obtain ⟨q, hq, rfl⟩ := List.mem_iff_getElem.mp DY
   refine (jA e2 (List.getElem?_eq_getElem hq)).elim fun b aj => (aj).elim fun hb hp => ?_
   refine ae (Nat.eq_of_beq_eq_true (lC hp).1) ?_
   exact hf b (List.mem_of_getElem? hb)
  ·refine (lC hp).elim fun p1 p2 => ?_
   refine (hr).elim fun aj hr => (aj).elim fun t ht => ?_
   exact ⟨⟨t, by refine ae (Nat.eq_of_beq_eq_true p1) ?_; exact ht⟩, dI p2 hr⟩
 | list e => exact by obtain ⟨vs, ep, h1, h2⟩ := r; exact ⟨vs, ep, h1, cI (R := VR c) (R' := VR (cp c m g)) (fun J J J hp hr => dI hp hr) e h2⟩
 | tup e => exact by refine (r).elim fun vs aj => (aj).elim fun h1 h2 => ?_; exact ⟨vs, h1, cI (R := VR c) (R' := VR (cp c m g)) (fun J J J hp hr => dI hp hr) e h2⟩
 | aB e => exact by obtain ⟨ob, aF, h1, h2, h3⟩ := r; exact ⟨ob, aF, h1, h2, cI kQ e h3⟩
 | aR e => exact by obtain ⟨ob, aF, h1, h2, h3⟩ := r; exact ⟨ob, aF, h1, h2, cI (fun a b J hp hr => ⟨hr.1.trans (by refine ae (dV.mp (lC hp).1) ?_; rfl), dI (lC hp).2 hr.2⟩) e h3⟩
 | a0 => exact r
 | bT e =>
  have := ip (c := c) (g := g) e
  exact ⟨this.1, by refine ae this.2 ?_; exact r.2⟩
 | cell e => exact by refine (r).elim fun u aj => (aj).elim fun h1 h2 => ?_; exact ⟨u, h1, xH e h2⟩
 | src => exact r
 | KW e => exact by obtain ⟨vs, ep, h1, h2⟩ := r; exact ⟨vs, ep, h1, by refine bK Array.length_toList ?_; refine bK h2.length ?_; exact Nat.le_of_ble_eq_true e⟩
 | jl e => exact by refine (r).elim fun vs aj => (aj).elim fun ep ay => (ay).elim fun h1 h2 => ?_; exact ⟨vs, ep, h1, Nat.le_trans h2 (Nat.le_of_ble_eq_true e)⟩
 | aw e =>
  obtain ⟨fs, ob, aF, h1, h2, h3, h4⟩ := r
  refine (mU h3.symm e).elim fun Hs aj => (aj).elim fun p1 p2 => ?_
  exact ⟨Hs, ob, aF, h1, h2, p1, cI kQ p2 h4⟩
 | @KX es ds e =>
  obtain ⟨ob, aF, h1, h2, h3⟩ := r
  refine (mU (kP ds) e).elim fun Hs aj => (aj).elim fun p1 p2 => ?_
  exact ⟨Hs, ob, aF, h1, h2, p1, cI kQ p2 h3⟩
 | KY => exact by refine (r).elim fun ob aj => (aj).elim fun h1 ay => (ay).elim fun h2 aP => (aP).elim fun ep h3 => ?_; exact ⟨[], ob, [], h1, empty_dict h2 h3, .nil, .nil⟩
def EE (md : Md) (c : Cfg) (g : Nat) : Prop := match md with
 | .first lim => g ≤ lim
 | .turn d => g + d ≤ c.ρ.g
set_option tactic.hygienic true in
theorem xJ {md : Md} {vs : List VD} (hv : ∀ k d, vs[k]? = some d → VD.ok c.ρ k d) {d : VD} {k : Nat} {x : GV} (FE : EE md c g) (fi : ∀ j, d = .lt j → j < k) (e : gD md m.g vs d x = true) (hk : getL m.g k = some x) : VD.ok (cp c m g).ρ k d := by
 cases d with
 | int lo hi =>
  cases x with
  | oct b => cases e
  | int z =>
  dsimp only [gD] at e
  split at e <;> first | (cases e; done) | skip
  rename_i l h hb
  refine (ao e).elim fun e1 e2 => ?_
  have h1 := dr hv hb
  have e1 := of_decide_eq_true e1
  have e2 := of_decide_eq_true e2
  have cN : (cp c m g).ρ.i k = SI.den c.ρ z := by refine (?_ : (match getL m.g k with | some (.int x) => SI.den c.ρ x | _ => 0) = _); refine ae hk ?_; rfl
  refine (?_ : lo ≤ (cp c m g).ρ.i k ∧ (cp c m g).ρ.i k < hi)
  refine ae cN ?_
  omega
 | oct => trivial
 | any => trivial
 | lt j =>
  cases x with
  | oct b => cases e
  | int z =>
  dsimp only [gD] at e
  cases hj : getL m.g j with
  | none => rw [hj] at e; cases e
  | some y => cases y with
   | oct b => rw [hj] at e; cases e
   | int y =>
   rw [hj] at e
   cases hb : bnd vs z with
   | none => rw [hb] at e; cases e
   | some p =>
   rw [hb] at e
   refine (ao e).elim fun e e3 => ?_
   refine (ao e).elim fun e1 e2 => ?_
   have h1 := dr hv hb
   have e1 := of_decide_eq_true e1
   cases B0 : bnd vs y with
   | none => rw [B0] at e2; cases e2
   | some p2 =>
   rw [B0] at e2
   have h2 := dr hv B0
   have e2 := of_decide_eq_true e2
   have h3 := of_decide_eq_true (nL hv (eI e3))
   have hi : (cp c m g).ρ.i k = SI.den c.ρ z := by refine (?_ : (match getL m.g k with | some (.int x) => SI.den c.ρ x | _ => 0) = _); refine ae hk ?_; rfl
   have cN : (cp c m g).ρ.i j = SI.den c.ρ y := by refine (?_ : (match getL m.g j with | some (.int x) => SI.den c.ρ x | _ => 0) = _); refine ae hj ?_; rfl
   refine ⟨?_, ?_⟩
   ·exact fi j rfl
   ·refine ae hi ?_; refine ae cN ?_; omega
 | gh s =>
  cases x with
  | oct b => cases e
  | int z =>
  dsimp only [gD] at e
  have hi : (cp c m g).ρ.i k = SI.den c.ρ z := by refine (?_ : (match getL m.g k with | some (.int x) => SI.den c.ρ x | _ => 0) = _); refine ae hk ?_; rfl
  refine (?_ : 0 ≤ (cp c m g).ρ.i k ∧ (cp c m g).ρ.i k + s + g ≤ 2147483648)
  refine ae hi ?_
  cases md with
  | first lim =>
   have hg : g ≤ lim := FE
   cases z with
   | va => cases e
   | lit v =>
    refine (ao e).elim fun e1 e2 => ?_
    have e1 := of_decide_eq_true e1
    have e2 := of_decide_eq_true e2
    refine (?_ : 0 ≤ v ∧ v + s + g ≤ 2147483648)
    omega
  | turn d =>
   have hg : g + d ≤ c.ρ.g := FE
   cases z with
   | lit v => cases e
   | va j o =>
    dsimp only at e
    cases hj : getL vs j with
    | none => rw [hj] at e; cases e
    | some y =>
     rw [hj] at e
     cases y <;> first | (cases e; done) | skip
     rename_i s'
     refine (ao e).elim fun e1 e2 => ?_
     have e1 := of_decide_eq_true e1
     have e2 := of_decide_eq_true e2
     have h1 : 0 ≤ c.ρ.i j ∧ c.ρ.i j + s' + c.ρ.g ≤ 2147483648 := hv j _ ((bJ vs j).symm.trans hj)
     refine (?_ : 0 ≤ c.ρ.i j + o ∧ c.ρ.i j + o + s + g ≤ 2147483648)
     omega
theorem bB {α : Type} {x : Nat} {v : α} : ∀ {l : List (Nat × α)}, af x l = some v → (x, v) ∈ l
 | [], h => by cases h
 | p :: r, h => by
  rw [aK] at h
  by_cases e : p.1 = x
  ·rw [if_pos e] at h
   refine bK e ?_; refine bK (aO h) ?_; exact .head _
  ·rw [if_neg e] at h
   exact .tail _ (bB h)
theorem aS.flat {sc : cG} {L : Nat} {cs : Fm} {env : Env} {c' : Cfg} (h : cs.cs = []) (N : aS Z sc c L cs env) : aS Z sc c' L cs env :=
 ⟨N.kind, N.names, N.locals, N.globals, N.builtins, N.top, N.has, N.fr, N.code, fun x i hx hi => by rw [h] at hi; cases hi⟩
theorem ji {L : Nat} {cs : Fm} {md : Md} {A : AS} {T : LS} {s : Shared} (FE : EE md c g) (e : cover md m A T = true) (H : St Z L cs c A s) :
 St Z L cs (cp c m g) T.as s ∧ (∀ {sc env}, aS Z sc c L cs env → aS Z sc (cp c m g) L cs env) ∧ ∀ j, j < (cp c m g).n → ∃ i, i < c.n ∧ (cp c m g).σ j = c.σ i := by
 delta cover at e
 refine (ao e).elim fun e e6 => ?_
 refine (ao e).elim fun e e5 => ?_
 refine (ao e).elim fun e e4 => ?_
 refine (ao e).elim fun e e7 => ?_
 refine (ao e).elim fun e e3 => ?_
 refine (ao e).elim fun e e2 => ?_
 refine (ao e).elim fun e0 e1 => ?_
 have e1 := kO e1
 have e5 : T.cells = [] := sY e5
 have e6 : cs.cs = [] := H.cells.symm.trans (sY e6)
 have e0 : A.hd = none := yt e0
 rw [List.all_eq_true] at e4
 have EF := fK e2
 have obj : ∀ j o, T.as.heap.get j = some o → ∃ i p, m.f[j]? = some i ∧ A.heap.get i = some p ∧ gO m o p = true := fun j o h => by
  have h : (Tr.yC T.hs).get j = some o := h
  rw [fX] at h
  refine (jA e2 h).elim fun i aj => (aj).elim fun hi hp => ?_
  cases hg : A.heap.get i with
  | none => rw [hg] at hp; cases hp
  | some p => rw [hg] at hp; exact ⟨i, p, hi, hg, hp⟩
 have xK : ∀ j, j < (cp c m g).n → ∃ i, m.f[j]? = some i ∧ i < c.n ∧ (cp c m g).σ j = c.σ i := fun j hj => by
  have hj : j < m.f.length := hj
  refine (obj j (T.hs[j]'(EF ▸ hj)) (by refine (?_ : (Tr.yC T.hs).get j = _); rw [fX, List.getElem?_eq_getElem])).elim fun i aj => (aj).elim fun p ay => (ay).elim fun h1 aP => (aP).elim fun h2 _ => ?_
  exact ⟨i, h1, H.lt i p h2, (Cx (c := c) (g := g) h1).2⟩
 have hp : Hp Z (cp c m g) T.as s := by
  refine ⟨H.base, H.gens, H.os, EF.symm, (fK e3).symm, fun k d hd => ?_, fun j o ho => ?_, fun j o ho => ?_, fun j hj => ?_, fun j hj => ?_, fun j k hj hk rA => ?_⟩
  ·refine (jA e3 hd).elim fun x aj => (aj).elim fun hx hp => ?_
   exact xJ H.vars FE (fun j q => by have h := mR (n := 0) e7 (q ▸ hd); rwa [Nat.zero_add] at h) hp ((bJ _ _).trans hx)
  ·refine (obj j o ho).elim fun i aj => (aj).elim fun p ay => (ay).elim fun h1 aP => (aP).elim fun h2 h3 => ?_
   exact xI h3 h1 (H.objs i p h2)
  ·refine (obj j o ho).elim fun i aj => (aj).elim fun p ay => (ay).elim fun h1 aP => (aP).elim fun h2 h3 => ?_
   exact xF h1
  ·refine (xK j hj).elim fun i aj => (aj).elim fun _ ay => (ay).elim fun hi hs => ?_
   refine ae hs ?_; exact H.lo i hi
  ·refine (xK j hj).elim fun i aj => (aj).elim fun _ ay => (ay).elim fun hi hs => ?_
   refine ae hs ?_; exact H.up i hi
  ·refine (xK j hj).elim fun i aj => (aj).elim fun hf ay => (ay).elim fun hi hs => ?_
   obtain ⟨i', DY, cN, js⟩ := xK k hk
   refine ae hs ?_; refine ae js ?_
   refine H.apart i i' hi cN fun q => rA ?_
   subst q
   refine (yv hf).elim fun q1 q2 => ?_
   refine (yv DY).elim fun q3 q4 => ?_
   exact (List.getElem_inj e1).mp (q2.trans q4.symm)
 have hh : cs.hd = none := by
  have := H.hd
  rw [e0] at this
  cases q : cs.hd with
  | none => rfl
  | some x => rw [q] at this; exact this.elim
 refine ⟨⟨hp, ⟨H.oO, H.bw, fun j hj => ?_, ?_⟩, e5.trans e6.symm, by refine ae hh ?_; trivial, fun b hb => ?_, H.tabs⟩, fun {sc env} N => N.flat e6, fun j hj => ?_⟩
 ·obtain ⟨i, _, hi, hs⟩ := xK j hj
  refine ae hs ?_; exact H.off i hi
 ·refine (H.ns).elim fun mm aj => (aj).elim fun h1 h2 => ?_
  refine ⟨mm, h1, fun x v hv => ?_⟩
  have := e4 _ (bB hv)
  dsimp -iota only at this
  cases hw : af x A.locs with
  | none => rw [hw] at this; cases this
  | some w =>
   rw [hw] at this
   refine (h2 x w hw).elim fun u aj => (aj).elim fun z1 z2 => ?_
   exact ⟨u, z1, dI this z2⟩
 ·refine (H.outs b hb).elim fun h1 aj => (aj).elim fun h2 h3 => ?_
  refine ⟨h1, h2, fun j hj => ?_⟩
  refine (xK j hj).elim fun i aj => (aj).elim fun _ ay => (ay).elim fun hi hs => ?_
  refine ae hs ?_; exact h3 i hi
 ·refine (xK j hj).elim fun i aj => (aj).elim fun _ ay => (ay).elim fun hi hs => ?_
  exact ⟨i, hi, hs⟩
end
end aD
end
section
open PySem PySem.Calls PyProof.Rows PySem.W PySem.SeqAt PySem.Builtin
set_option maxRecDepth 100000
namespace aD
structure xM (Z : aL) (s' : Shared) : Prop where
 base : ∀ b o, Z.h₀.get? b = some o → s'.heap.get? b = some o
 os : s'.os = Z.tl
 gens : s'.gens = #[]
 tabs : ∀ P ∈ Z.tabs, TabAt s'.heap P
def Goes (Z : aL) (Ar : Around) (sc : cG) (L : Nat) (cs : Fm) (env : Env) (b : List Stmt) (A : AS) : Prop :=
 ∀ c s, St Z L cs c A s → aS Z sc c L cs env → bt Z.M Ar (execs b env) (fun fl s' => fl = .ret (.bool true) ∧ xM Z s') (fun J J => False) s
section
variable {Z : aL} {n : Nat} {ih : bM} {L : Nat} {cs : Fm} {Ar : Around} {c c' : Cfg} {A A' : AS} {s s' : Shared} {env : Env} {sc : cG} {m : Nat} {b : List Stmt} {x : Stmt}
theorem St.ended (H : St Z L cs c A s) : xM Z s := ⟨H.base, H.os, H.gens, H.tabs⟩
noncomputable def After (P : AS → Prop) : Except Nat Fl × AS → Prop
 | (.ok .next, A) => P A
 | (.ok (.ret (.bool true)), _) => True
 | _ => False
theorem After.ret {P Q : AS → Prop} {v : V} (h : After P (.ok (.ret v), A)) : After Q (.ok (.ret v), A) := by
 cases v with
 | bool t => cases t <;> exact h
 | _ => exact h
theorem vG (hf : env.frame = some L) (I : aC Z n ih) (hn : Room n Ar cs) {st : S} (he : cE Z.nm m sc st x = true) {l : bC Fl} (e : ih.s st A = some l) (h : ∀ r ∈ l.list, After (Goes Z Ar sc L cs env b) r) : Goes Z Ar sc L cs env (x :: b) A := fun c s H N => by
 refine aa (az (I.s he hf hn H N l e) (fun fl s1 q => ?_) fun ev s1 q => ?_)
 ·obtain ⟨fa, A1, c1, m1, a4, H1, r1⟩ := q
  have := h _ m1
  cases fa with
  | next => subst r1; exact this c1 s1 H1 (N.mono a4.grown)
  | ret v =>
   obtain ⟨w, rfl, hw⟩ := r1
   cases v with
   | bool t =>
    cases t with
    | true => subst hw; exact aq ⟨rfl, H1.ended⟩
    | false => exact this.elim
   | _ => exact this.elim
  | brk => exact this.elim
  | cont => exact this.elim
 ·obtain ⟨i, A1, c1, m1, _⟩ := q
  exact (h _ m1).elim
set_option backward.match.sparseCases false in
theorem kR (hf : env.frame = some L) (I : aC Z n ih) (hn : Room n Ar cs) {ss : List S} {xs : List Stmt} (he : encL (cE Z.nm m sc) ss xs = true) {l : bC Fl} (e : aX ih ss A = some l) (h : ∀ r ∈ l.list, After (Goes Z Ar sc L cs env b) r) : Goes Z Ar sc L cs env (xs ++ b) A := by
 induction ss generalizing xs A l with
 | nil => cases xs with
  | nil => obtain rfl := aO e; exact h _ (.head _)
  | cons => cases he
 | cons st ss Gf => cases xs with
  | nil => cases he
  | cons x xs =>
   obtain ⟨h1, h2⟩ : cE Z.nm m sc st x = true ∧ encL (cE Z.nm m sc) ss xs = true := ao he
   have e : Res.bind (ih.s st A) (J2 (aX ih ss)) = some l := e
   refine (eC e).elim fun l0 aj => (aj).elim fun AX ay => (ay).elim fun q1 q2 => ?_
   refine vG hf I hn h1 AX fun r hr => ?_
   obtain ⟨fa, A1⟩ := r
   cases fa with
   | error i => exact (h _ (q2 i A1 hr)).elim
   | ok f =>
    obtain ⟨r', y1, y2⟩ := q1 f A1 hr
    cases f with
    | next => exact Gf h2 y1 fun r hr => h r (y2 r hr)
    | brk => obtain rfl := aO y1; exact h _ (y2 _ (.head _))
    | cont => obtain rfl := aO y1; exact h _ (y2 _ (.head _))
    | ret v => obtain rfl := aO y1; exact (h _ (y2 _ (.head _))).ret
theorem mV {env : Env} : ∀ (xs : List Stmt) {ys : List Stmt}, execs (xs ++ ys) env = execs xs env >>= fun (f : Flow) => (match f with | .next => execs ys env | f => pure f)
 | [], ys => by
  refine (?_ : execs ys env = ((pure Flow.next : Sem Flow) >>= _))
  rw [pure_bind]
 | x :: xs, ys => by
  refine (?_ : (exec x env >>= _) = ((exec x env >>= _) >>= _))
  rw [bind_assoc]
  refine congrArg _ (funext fun f => ?_)
  cases f with
  | next => exact mV xs
  | _ => simp only [pure_bind]
def iV (ih : bM) (bs : List S) (d : Nat) (M : List LS) (A : AS) : Prop := 0 < A.vars.length ∧ ∃ lb, aX ih bs A = some lb ∧ ∀ r ∈ lb.list, ∃ A1 T mp, r = (.ok .next, A1) ∧ T ∈ M ∧ cover (.turn d) mp A1 T = true
set_option tactic.hygienic true in
theorem qr (hf : env.frame = some L) (I : aC Z n ih) (hn : Room n Ar cs) {bs : List S} {body : List Stmt} (hb : encL (cE Z.nm m sc) bs body = true) {d g : Nat} {M : List LS} (P : iV ih bs d M A) (hg : c.ρ.g = g + d) (H : St Z L cs c A s) (N : aS Z sc c L cs env) {a : Addr} {o : Obj} (Cz : a ≠ L)
 (ho : s.heap.get? a = some o) (hd : ∀ es ep, o.data ≠ .dict es ep) (hs : ¬ dA o) (eg : ∀ i, i < c.n → a ≠ (c.σ i).1 ∧ a ≠ (c.σ i).2) {Q : Flow → Shared → Prop} {E : Value → Shared → Prop}
 (k : ∀ c' s' T, T ∈ M → c'.ρ.g = g → St Z L cs c' T.as s' → aS Z sc c' L cs env → s'.heap.get? a = some o → (∀ i, i < c'.n → a ≠ (c'.σ i).1 ∧ a ≠ (c'.σ i).2) → Q .next s') : bt Z.M Ar (execs body env) Q E s := by
 refine (P).elim fun hv aj => (aj).elim fun lb ay => (ay).elim fun Ng hr => ?_
 refine az (bN I hf hn bs hb H N lb Ng) (fun fl s3 q => Classical.byContradiction fun bad => ?_) fun e s3 q => ?_
 ·obtain ⟨fa, A3, c3, m3, dU, H3, f3⟩ := q
  obtain ⟨A4, T, mp, e4, hT, CA⟩ := hr _ m3
  cases e4
  subst f3
  have Ht : g + d ≤ c3.ρ.g := by
   have : c3.ρ.g = c.ρ.g := (dU.ρ 0 (by refine ae H.nv ?_; exact hv)).2.2
   refine ae this ?_; refine ae hg ?_; exact Nat.le_refl _
  refine (ji (g := g) (md := .turn d) Ht CA H3).elim fun H5 aj => (aj).elim fun N5 xK => ?_
  have hit : ∀ i, i < c3.n → a ≠ (c3.σ i).1 ∧ a ≠ (c3.σ i).2 := fun i hi => by
   by_cases q : i < c.n
   ·refine ae (dU.σ i q) ?_; exact eg i q
   ·have := dU.new i (Nat.le_of_not_lt q) hi
    exact ⟨Has.ne ⟨_, ho⟩ this.1, Has.ne ⟨_, ho⟩ this.2⟩
  refine (dU.keep a o ho Cz eg).elim fun o' aj => (aj).elim fun e' w => ?_
  rw [w.same hd hs] at e'
  refine bad (k _ s3 T hT rfl H5 (N5 (N.mono dU.grown)) e' fun j hj => ?_)
  refine (xK j hj).elim fun i aj => (aj).elim fun hi hs => ?_
  refine ae hs ?_; exact hit i hi
 ·obtain ⟨i, A3, c3, m3, _⟩ := q
  refine (hr _ m3).elim fun A4 aj => (aj).elim fun A5 ay => (ay).elim fun mp aP => (aP).elim fun e4 _ => ?_
  cases e4
theorem xN (hf : env.frame = some L) (hh : Ar.handled = none) (G : Z.Glob) (P : bY Z) (P2 : bQ Z) (I : aC Z n ih) (h1 : 1 ≤ n) (hn : Room n Ar cs) {kS S₁ : List LS} {t : Nat} {id : Str} {tp : Pos} {b1 b2 : List S} {tR tS : List Stmt} {a : Addr} {st : Int} (hF : g7 Z.nm sc [t] (.Name id tp) = true)
 (Nh : encL (cE Z.nm m sc) b1 tR = true) (B0 : encL (cE Z.nm m sc) b2 tS = true)
 (qi : ∀ T ∈ kS, af t T.locs = none ∧ iV ih b1 1 S₁ T.as) (CB : ∀ T ∈ S₁, iV ih b2 0 kS T.as) (C6 : Z.h₀.get? a = none) (Cz : a ≠ L) : ∀ (k : Nat) {T : LS} {c : Cfg} {s : Shared} {x0 : Int}, T ∈ kS → c.ρ.g = k → St Z L cs c T.as s → aS Z sc c L cs env →
 IsRangeIter s.heap a x0 (k : Int) st → (∀ i, i < c.n → a ≠ (c.σ i).1 ∧ a ≠ (c.σ i).2) →
 bj Z.M Ar (.forLoop (.Name id tp) (.ref a) (tR ++ tS) [] env) (fun r s' => match r with | .ok .next => ∃ T' c', T' ∈ kS ∧ St Z L cs c' T'.as s' ∧ aS Z sc c' L cs env | _ => False) s := by
 intro k
 induction k with
 | zero =>
  intro T c s x0 hi hg H N hit eg
  refine aZ rfl ?_
  refine (?_ : bt Z.M Ar ((forTurn (.Name id tp) (.ref a) (tR ++ tS) [] env).onRaise _) _ _ s)
  refine aU (az (E := fun J J => False) ?_ (fun J J q => q) fun J J f => f.elim)
  refine aa (aY (aa (aU ?_)))
  refine .of (wpAny_pyNext_range_end hh hit (Int.le_refl 0) fun h' hs => ?_)
  have hk : ∀ b o, s.heap.get? b = some o → b ≠ a → h'.get? b = some o := fun b o e q => hs b o q e
  have O : Own L c { s with heap := Z.h₀ } a := ⟨C6, Cz, eg⟩
  have it : Iter s a := .of hit rfl (by decide) rfl
  exact aq ⟨rfl, ff ⟨T, c, hi, H.eG (s' := { s with heap := h' }) it.qc (it.out H) hk rfl rfl C6 O, N⟩⟩
 | succ k IH =>
  intro T c s x0 hi hg H N hit eg
  refine aZ rfl ?_
  refine (?_ : bt Z.M Ar ((forTurn (.Name id tp) (.ref a) (tR ++ tS) [] env).onRaise _) _ _ s)
  refine aU (az (E := fun J J => False) ?_ (fun J J q => q) fun J J f => f.elim)
  refine aa (aY (aa (aU ?_)))
  refine .of (wpAny_pyNext_range_item hit (Int.ofNat_lt.mpr (Nat.succ_pos k)) fun h' g hs => ?_)
  have hk : ∀ b o, s.heap.get? b = some o → b ≠ a → h'.get? b = some o := fun b o e q => (hs.2 b q).trans e
  have O : Own L c { s with heap := Z.h₀ } a := ⟨C6, Cz, eg⟩
  have it : Iter s a := .of hit rfl (by decide) rfl
  have H1 : St Z L cs c T.as { s with heap := h', toks := s.toks + 1 } := H.eG (s' := { s with heap := h', toks := s.toks + 1 }) it.qc (it.out H) hk rfl rfl C6 O
  have g : IsRangeIter h' a (x0 + st) (k : Int) st := g.trans (by rw [Int.natCast_succ, Int.add_sub_cancel])
  refine (qi T hi).elim fun Ni Bf => ?_
  refine aa (aq ?_)
  have kM := fH G P P2 I h1 hn hF (by simp) H1 N (v := .int (.lit x0)) (u := .int x0 s.toks) ⟨trivial, _, rfl⟩
  refine aa ((show au Z L cs Ar _ UR (aD.ok () (aN t (.int (.lit x0)) T.as)) c _ from kM).one fun J c2 s2 le2 H2 J => ?_)
  have Nj : St Z L cs c2 T.as s2 := by
   have := H2.locs (locs := T.locs) fun y v hv => by
    refine (?_ : af y (fj t _ T.locs) = some v)
    rw [bG]
    by_cases q : y = t
    ·cases q; rw [Ni] at hv; cases hv
    ·refine ae (if_neg q) ?_; exact hv
   exact this
  have Hu : ∀ i, i < c2.n → a ≠ (c2.σ i).1 ∧ a ≠ (c2.σ i).2 := fun i hi => by
   by_cases q : i < c.n
   ·refine ae (le2.σ i q) ?_; exact eg i q
   ·have := le2.new i (Nat.le_of_not_lt q) hi
    exact ⟨Has.ne ⟨_, g⟩ this.1, Has.ne ⟨_, g⟩ this.2⟩
  have g2 : IsRangeIter s2.heap a (x0 + st) (k : Int) st := by
   refine (le2.keep a _ g Cz eg).elim fun o' aj => (aj).elim fun e' w => ?_
   rw [w.same (fun J J q => Data.noConfusion q) (a7 rfl (by decide)).1] at e'; exact e'
  have Nk : 0 < c.nv := by refine ae H.nv ?_; exact Bf.1
  refine aa ?_
  rw [mV]
  refine aa (qr hf I hn Nh (g := k) Bf ((le2.ρ 0 Nk).2.2.trans hg) Nj (N.mono le2.grown) Cz g2 (fun J J q => Data.noConfusion q) (a7 rfl (by decide)).1 Hu fun c3 s3 T3 Nm Ht H3 N3 e3 Hv => ?_)
  refine qr hf I hn B0 (g := k) (CB T3 Nm) Ht H3 N3 Cz e3 (fun J J q => Data.noConfusion q) (a7 rfl (by decide)).1 Hv fun c4 s4 T4 Nn Np H4 N4 e4 Hw => ?_
  exact aq ⟨rfl, IH Nn Np H4 N4 e4 Hw⟩
noncomputable def sM (kS : List LS) : Except Nat V × AS → Prop
 | (.ok v, A) => ∃ x k st A1 T mp, cV v A = some (.iz x k st, A1) ∧ k ≤ 64 ∧ T ∈ kS ∧ cover (.first 64) mp A1 T = true
 | _ => False
theorem gN {α β : Type} {p : α → β → Bool} : ∀ {l1 l2 : List α} {ys : List β}, encL p (l1 ++ l2) ys = true → ∃ y1 y2, ys = y1 ++ y2 ∧ encL p l1 y1 = true ∧ encL p l2 y2 = true
 | [], _, ys, h => ⟨[], ys, rfl, rfl, h⟩
 | _ :: _, _, [], h => by cases h
 | a :: l1, l2, y :: ys, h => by
  refine (ao h).elim fun h1 h2 => ?_
  obtain ⟨y1, y2, rfl, q1, q2⟩ := gN h2
  exact ⟨y :: y1, y2, rfl, by refine (?_ : (_ && _) = true); refine ae h1 ?_; refine ae q1 ?_; rfl, q2⟩
set_option tactic.hygienic true in
theorem vH {t : Nat} {it : E} {bs : List S} (he : cE Z.nm (m + 1) sc (.for_ [t] it bs) x = true) : ∃ id tp y z pos, x = .For (.Name id tp) y z [] pos ∧ g7 Z.nm sc [t] (.Name id tp) = true ∧ aW Z.nm m sc it y = true ∧ encL (cE Z.nm m sc) bs z = true := by
 replace he := lZ he
 refine Classical.byContradiction fun bad => ?_
 cases he with
 | for_ h =>
  rename_i tg y z pos
  refine (ao h).elim fun h h4 => ?_
  refine (ao h).elim fun h h3 => ?_
  refine (ao h).elim fun h2 hd => ?_
  cases tg with
  | Name id tp => exact bad ⟨id, tp, y, z, pos, rfl, h2, h3, h4⟩
  | _ => exact Bool.false_ne_true h2
theorem vI (hf : env.frame = some L) (hh : Ar.handled = none) (G : Z.Glob) (P : bY Z) (P2 : bQ Z) (I : aC Z n ih) (h1 : 1 ≤ n) (hn : Room n Ar cs) {kS S₁ : List LS} {t : Nat} {it : E} {b1 b2 : List S} (he : cE Z.nm (m + 1) sc (.for_ [t] it (b1 ++ b2)) x = true) {l : bC V} (e : ih.e it A = some l)
 (hl : ∀ r ∈ l.list, sM kS r) (qi : ∀ T ∈ kS, af t T.locs = none ∧ iV ih b1 1 S₁ T.as) (CB : ∀ T ∈ S₁, iV ih b2 0 kS T.as)
 (Hx : ∀ T ∈ kS, Goes Z Ar sc L cs env b T.as) : Goes Z Ar sc L cs env (x :: b) A := fun c s H N => by
 ·obtain ⟨id, tp, y, z, pos, rfl, h2, h3, h4⟩ := vH he
  obtain ⟨z1, z2, rfl, q1, q2⟩ := gN h4
  refine aa ?_
  refine aa (aY (aa (az (I.e h3 hn H N l e) (fun u s1 q => Classical.byContradiction fun bad => ?_) fun ev s1 q => ?_)))
  ·obtain ⟨v, A1, c1, m1, a4, H1, r1⟩ := q
   refine (hl _ m1).elim fun x0 aj => (aj).elim fun k ay => (ay).elim fun st aP => (aP).elim fun Oo bF => (bF).elim fun T cZ => (cZ).elim fun mp ia => (ia).elim fun hN pL => (pL).elim fun hk rV => (rV).elim fun hi CA => ?_
   have Nq : foldedSetIterable y env u = pure u := iJ h3
   refine bad (aa (lX Nq (aa (aY (aa (aA (.of (fG G H1 r1 hN fun c2 s2 w G4 le2 H2 i2 => Classical.byContradiction fun bad => ?_))))))))
   obtain ⟨a, rfl, O, hit⟩ := i2
   have C6 : Z.h₀.get? a = none := by
    cases e : Z.h₀.get? a with
    | none => rfl
    | some o => have := H1.base _ _ e; rw [O.new] at this; cases this
   refine (ji (g := k) (md := .first 64) hk CA H2).elim fun H3 aj => (aj).elim fun N3 xK => ?_
   refine bad ?_
   refine aU (az (E := fun J J => False) (jw (bg (xN hf hh G P P2 I h1 hn h2 q1 q2 qi CB C6 O.ne k hi rfl H3 (N3 ((N.mono a4.grown).mono le2.grown)) hit fun j hj => ?_) fun r s' z => ?_) Gr) (fun J J q => q) fun J J f => f.elim)
   ·refine (xK j hj).elim fun i aj => (aj).elim fun hi hs => ?_
    refine ae hs ?_; exact O.off i hi
   ·cases r with
    | error => exact z.elim
    | ok fl =>
     cases fl <;> first | exact z.elim | skip
     refine (z).elim fun T' aj => (aj).elim fun c' ay => (ay).elim fun cN aP => (aP).elim fun H' N' => ?_
     exact Hx T' cN c' s' H' N'
  ·obtain ⟨i, A1, c1, m1, _⟩ := q
   exact (hl _ m1).elim
end
end aD
end
section
open PySem PySem.Calls PyProof.Rows PySem.W PySem.SeqAt PySem.Builtin
set_option backward.match.sparseCases false
set_option maxRecDepth 100000
namespace aD
noncomputable def zL {α : Type} (d : α) (i : SI → α) (b : BS → α) (l : Nat → α) (v : V) : α := V.rec (motive := fun J => α) d (fun J => d) i (fun J => d) b l (fun J => d) (fun J => d) (fun J => d) (fun J => d) d v
structure US where
 f : List Nat
 n : Nat
 g : List (Option GV)
noncomputable def Hy {α : Type} (x : α) (l : List (Option α)) (n : Nat) : List (Option α) := List.rec (motive := fun J => Nat → List (Option α)) (fun J => []) (fun y r ih n => Nat.rec (motive := fun J => List (Option α)) (some x :: r) (fun m J => y :: ih m) n) l n
noncomputable def uG (k : Nat) (x : GV) (u : US) : US := US.rec (motive := fun J => US) (fun f n g => Option.rec (motive := fun J => US) u (fun q => Option.rec (motive := fun J => US) ⟨f, n, Hy x g k⟩ (fun J => u) q) (getL g k)) u
noncomputable def uL (j i : Nat) (u : US) : Option US := US.rec (motive := fun J => Option US) (fun f n g => Bool.rec (motive := fun J => Option US) (some u) (some ⟨i :: f, Nat.succ n, g⟩) (Nat.beq j n)) u
noncomputable def Nr (x y : SI) (u : US) : Option US := match x, y with
 | .lit a, .lit b => if a = b then some u else none
 | .va k o, y => some (uG k (.int (zI y (-o))) u)
 | _, _ => none
noncomputable def Hz (x : Seg) (b : BS) (u : US) : Option US := match x with
 | .lit _ => some u
 | .rep k _ => match BS.norm b with
  | [.rep j _] => some (uG k (.int (.va j 0)) u)
  | [.lit (v :: _)] => some (uG k (.int (.lit v)) u)
  | _ => none
 | .d9 k o _ => if Nat.beq o 0 then some (uG k (.oct b) u) else some u
 | .be k o _ _ _ => match b with
  | [.be j p _ _ _] => some (uG k (.int (.va j (p - o))) u)
  | _ => some u
noncomputable def KZ (l b : BS) (u : US) : Option US := List.rec (motive := fun J => BS → US → Option US) (fun b u => Bool.rec (motive := fun J => Option US) none (some u) (Nat.beq (BS.len b) 0))
 (fun x J ih b u => Bool.rec (motive := fun J => Option US) ((Hz x (BS.take (BS.a5 x) b) u).bind fun u => ih (BS.drop (BS.a5 x) b) u) none (Nat.blt (BS.len b) (BS.a5 x))) l b u
noncomputable def uV (v w : V) (u : US) : Option US := zL (some u) (fun x => zL none (fun y => Nr x y u) (fun J => none) (fun J => none) w) (fun a => zL none (fun J => none) (fun b => KZ a b u) (fun J => none) w) (fun j => zL none (fun J => none) (fun J => none) (fun i => uL j i u) w) v
noncomputable def qs {α β : Type} (p : α → β → US → Option US) (l : List α) (k : List β) (u : US) : Option US := List.rec (motive := fun J => List β → US → Option US) (fun k u => List.rec (motive := fun J => Option US) (some u) (fun J J J => none) k)
 (fun a J ih k u => List.rec (motive := fun J => Option US) none (fun b t J => Option.rec (motive := fun J => Option US) none (fun u => ih t u) (p a b u)) k) l k u
noncomputable def uO (o p : ax) (u : US) : Option US := match o, p with
 | .inst _ fs, .inst _ gs => qs (fun x y u => uV x.2 y.2 u) fs gs u
 | .list xs, .list ys => qs uV xs ys u
 | .tup xs, .tup ys => qs uV xs ys u
 | .aB es, .aB ds => qs (fun x y u => uV x.2 y.2 u) es ds u
 | .aw es, .aw ds => qs (fun x y u => uV x.2 y.2 u) es ds u
 | .aw es, .aB ds => qs (fun x y u => uV x.2 y.2 u) es (qp ds) u
 | .aR es, .aR ds => qs (fun x y u => uV x.2 y.2 u) es ds u
 | .bT a, .bT b => KZ a b u
 | .cell (some a), .cell (some b) => uV a b u
 | _, _ => some u
noncomputable def Nt (A : Tr ax) (T : List ax) (j : Nat) (u : US) : Option US := List.rec (motive := fun J => Nat → US → Option US) (fun J u => some u)
 (fun o J ih j u => US.rec (motive := fun J => Option US) (fun f n g => Option.rec (motive := fun J => Option US) none (fun i => Option.rec (motive := fun J => Option US) none (fun p => Option.rec (motive := fun J => Option US) none (fun u => ih (Nat.succ j) u) (uO o p u)) (A.get i)) (getL f (Nat.sub n (Nat.succ j)))) u) T j u
noncomputable def xO {α : Type} (l : List (Option α)) : Option (List α) := List.rec (motive := fun J => Option (List α)) (some []) (fun x J ih => Option.rec (motive := fun J => Option (List α)) none (fun a => Option.rec (motive := fun J => Option (List α)) none (fun l => some (a :: l)) ih) x) l
noncomputable def HA {α : Type} (l k : List α) : List α := List.rec (motive := fun J => List α → List α) (fun k => k) (fun a J ih k => ih (a :: k)) l k
noncomputable def HB (u : US) : Option eH := US.rec (motive := fun J => Option eH) (fun f n g => Option.rec (motive := fun J => Option eH) none (fun g => some ⟨HA f [], g⟩) (xO g)) u
noncomputable def unify (A : AS) (T : LS) : Option eH := AS.rec (motive := fun J => Option eH) (fun h J lo J J J =>
 Option.rec (motive := fun J => Option eH) none (fun u => Option.rec (motive := fun J => Option eH) none (fun u => HB u) (Nt h T.hs 0 u))
  (qs (fun (x : Nat × V) (J : Nat × V) u => Option.rec (motive := fun J => Option US) none (fun v => uV x.2 v u) (af x.1 lo)) T.locs T.locs ⟨[], 0, T.vars.map fun J => none⟩)) A
noncomputable def coverAt (md : Md) (A : AS) (T : LS) : Bool := match unify A T with
 | some mp => cover md mp A T
 | none => false
theorem iq {md : Md} {A : AS} {T : LS} (h : coverAt md A T = true) : ∃ mp, cover md mp A T = true := by
 delta coverAt at h
 cases hu : unify A T with
 | none => rw [hu] at h; cases h
 | some mp => rw [hu] at h; exact ⟨mp, h⟩
noncomputable def sN (r : Except Nat Fl) : Bool := match r with
 | .ok f => (match f with
  | .next => true
  | _ => false)
 | .error _ => false
theorem mW {r : Except Nat Fl} (h : sN r = true) : r = .ok .next := by
 cases r with
 | error => exact bf h
 | ok f => cases f <;> first | rfl | exact bf h
noncomputable def look (f : Nat → LS × List Nat) (N : List (List Nat)) (i : Nat) : Option LS := (getL N (Nat.div i 16)).bind fun l => (getL l (Nat.mod i 16)).bind fun k => some (f k).1
noncomputable def iW (f : Nat → LS × List Nat) (N : List (List Nat)) : List (LS × List Nat) := N.flatten.map f
theorem qt {f : Nat → LS × List Nat} {N : List (List Nat)} {i : Nat} {T : LS} (h : look f N i = some T) : T ∈ (iW f N).map (·.1) := by
 obtain ⟨l, h1, h⟩ := f9 h
 obtain ⟨k, h2, h⟩ := f9 h
 cases h
 rw [bJ] at h1 h2
 exact List.mem_map.mpr ⟨f k, List.mem_map.mpr ⟨k, List.mem_flatten.mpr ⟨l, List.mem_of_getElem? h1, List.mem_of_getElem? h2⟩, rfl⟩, rfl⟩
noncomputable def endAt (d : Nat) (S : Nat → Option LS) (A : AS) (i : Nat) : Bool := match S i with
 | some T => coverAt (.turn d) A T
 | none => false
noncomputable def sO (d : Nat) (S : Nat → Option LS) : List (Except Nat Fl × AS) → List Nat → Bool
 | [], is => is.isEmpty
 | x :: r, is => match is with
  | [] => false
  | i :: is => sN x.1 && (endAt d S x.2 i && sO d S r is)
theorem jj {d : Nat} {f : Nat → LS × List Nat} {N : List (List Nat)} : ∀ {l : List (Except Nat Fl × AS)} {is : List Nat}, sO d (look f N) l is = true → ∀ r ∈ l, ∃ A T mp, r = (.ok .next, A) ∧ T ∈ (iW f N).map (·.1) ∧ cover (.turn d) mp A T = true
 | [], _, _, _, hm => nomatch hm
 | x :: l, is, h, r, hm => by
  cases is with
  | nil => exact bf h
  | cons i is =>
  obtain ⟨h0, h⟩ := ao h
  refine (ao h).elim fun h1 h2 => ?_
  rcases fg hm with rfl | hm
  ·delta endAt at h1
   cases hs : look f N i with
   | none => rw [hs] at h1; cases h1
   | some T =>
    rw [hs] at h1
    refine (iq h1).elim fun mp q => ?_
    exact ⟨r.2, T, mp, Prod.ext (mW h0) rfl, qt hs, q⟩
  ·exact jj h2 r hm
noncomputable def jk (ih : bM) (bs : List S) (d : Nat) (M : Nat → Option LS) (p : LS × List Nat) : Bool := (match p.1.vars with | [] => false | _ :: _ => true) && match aX ih bs p.1.as with
 | some lb => sO d M lb.list p.2
 | none => false
theorem kT {ih : bM} {bs : List S} {d : Nat} {f : Nat → LS × List Nat} {N : List (List Nat)} {p : LS × List Nat} (h : jk ih bs d (look f N) p = true) : iV ih bs d ((iW f N).map (·.1)) p.1.as := by
 delta jk at h
 refine (ao h).elim fun h1 h2 => ?_
 refine ⟨?_, ?_⟩
 ·refine (?_ : 0 < p.1.vars.length)
  cases hv : p.1.vars with
  | nil => rw [hv] at h1; cases h1
  | cons => exact Nat.succ_pos _
 cases hb : aX ih bs p.1.as with
 | none => rw [hb] at h2; cases h2
 | some lb => rw [hb] at h2; exact ⟨lb, rfl, jj h2⟩
noncomputable def HC (t : Nat) (p : LS × List Nat) : Bool := (af t p.1.locs).isNone
noncomputable def startB (S : Nat → Option LS) : List (Except Nat V × AS) → List Nat → Bool
 | [], [] => true
 | (.ok v, A) :: r, i :: is => (match cV v A with
  | some (.iz _ k _, A1) => Nat.ble k (nat_lit 64) && (match S i with
   | some T => coverAt (.first 64) A1 T
   | none => false)
  | _ => false) && startB S r is
 | _, _ => false
set_option tactic.hygienic true in
theorem jm {f : Nat → LS × List Nat} {N : List (List Nat)} : ∀ {l : List (Except Nat V × AS)} {is : List Nat}, startB (look f N) l is = true → ∀ r ∈ l, sM ((iW f N).map (·.1)) r
 | [], _, _, _, hm => nomatch hm
 | (.error _, _) :: _, [], h, _, _ => nomatch h
 | (.error _, _) :: _, _ :: _, h, _, _ => nomatch h
 | (.ok _, _) :: _, [], h, _, _ => nomatch h
 | (.ok v, A) :: l, i :: is, h, r, hm => by
  obtain ⟨h1, h2⟩ : _ ∧ startB (look f N) l is = true := ao h
  rcases fg hm with rfl | hm
  ·cases hN : cV v A with
   | none => rw [hN] at h1; cases h1
   | some q =>
    obtain ⟨it, A1⟩ := q
    rw [hN] at h1
    cases it <;> first | exact bf h1 | skip
    rename_i x k st
    refine (ao h1).elim fun h3 h4 => ?_
    cases hs : look f N i with
    | none => rw [hs] at h4; cases h4
    | some T =>
     rw [hs] at h4
     refine (iq h4).elim fun mp q => ?_
     exact ⟨x, k, st, A1, T, mp, hN, Nat.le_of_ble_eq_true h3, qt hs, q⟩
  ·exact jm h2 r hm
noncomputable def K0 (r : Except Nat Fl) : Bool := match r with
 | .ok f => (match f with
  | .ret v => (match v with
   | .bool b => b
   | _ => false)
  | _ => false)
 | .error _ => false
noncomputable def qu (ih : bM) (post : List S) (A : AS) : Bool := match aX ih post A with
 | some l => l.list.all fun r => K0 r.1
 | none => false
noncomputable def Bg (ih : bM) (it : E) (S : Nat → Option LS) (A : AS) (is : List Nat) : Bool := match ih.e it A with
 | some l2 => startB S l2.list is
 | none => false
noncomputable def n8 (ih : bM) (it : E) (S : Nat → Option LS) : List (Except Nat Fl × AS) → List (List Nat) → Bool
 | [], lp => lp.isEmpty
 | x :: r, lp => match lp with
  | [] => false
  | is :: lp => sN x.1 && (Bg ih it S x.2 is && n8 ih it S r lp)
noncomputable def tT (ih : bM) (pre : List S) (it : E) (S : Nat → Option LS) (A : AS) (lp : List (List Nat)) : Bool := match aX ih pre A with
 | some l => n8 ih it S l.list lp
 | none => false
section
variable {Z : aL} {n : Nat} {ih : bM} {L : Nat} {cs : Fm} {Ar : Around} {A A' : AS} {env : Env} {sc : cG} {m : Nat}
set_option tactic.hygienic true in
theorem xP (hf : env.frame = some L) (I : aC Z n ih) (hn : Room n Ar cs) {ss : List S} {xs : List Stmt} (he : encL (cE Z.nm m sc) ss xs = true) (h : qu ih ss A = true) : Goes Z Ar sc L cs env xs A := by
 delta qu at h
 cases hl : aX ih ss A with
 | none => rw [hl] at h; cases h
 | some l =>
  rw [hl] at h
  have := kR (Z := Z) (L := L) (cs := cs) (env := env) (b := []) hf I hn he hl fun r hr => ?_
  ·rwa [List.append_nil] at this
  ·have this : K0 r.1 = true := lP h r hr
   obtain ⟨r, B⟩ := r
   cases r with
   | error => exact bf this
   | ok f =>
   cases f <;> first | exact bf this | skip
   rename_i v
   cases v <;> first | exact bf this | skip
   rename_i b
   obtain rfl : b = true := this
   trivial
theorem iu {it : E} {f : Nat → LS × List Nat} {N : List (List Nat)} : ∀ {l : List (Except Nat Fl × AS)} {lp : List (List Nat)}, n8 ih it (look f N) l lp = true → ∀ r ∈ l, ∃ A1 l2, r = (.ok .next, A1) ∧ ih.e it A1 = some l2 ∧ ∀ q ∈ l2.list, sM ((iW f N).map (·.1)) q
 | [], _, _, _, hm => nomatch hm
 | x :: l, lp, h, r, hm => by
  cases lp with
  | nil => exact bf h
  | cons is lp =>
  obtain ⟨h0, h⟩ := ao h
  refine (ao h).elim fun h1 h2 => ?_
  rcases fg hm with rfl | hm
  ·delta Bg at h1
   cases hl : ih.e it r.2 with
   | none => rw [hl] at h1; cases h1
   | some l2 =>
    rw [hl] at h1
    exact ⟨r.2, l2, Prod.ext (mW h0) rfl, hl, jm h1⟩
  ·exact iu h2 r hm
theorem xQ (hf : env.frame = some L) (hh : Ar.handled = none) (G : Z.Glob) (P : bY Z) (P2 : bQ Z) (I : aC Z n ih) (h1 : 1 ≤ n) (hn : Room n Ar cs) {pre post b1 b2 : List S} {it : E} {t : Nat} {CC xR : List Stmt} {x : Stmt} {f : Nat → LS × List Nat} {gQ ju : List (List Nat)} {lp : List (List Nat)} {m1 m2 : Nat}
 (kU : encL (cE Z.nm m1 sc) pre CC = true) (EG : cE Z.nm (m + 1) sc (.for_ [t] it (b1 ++ b2)) x = true) (EH : encL (cE Z.nm m2 sc) post xR = true)
 (k1 : tT ih pre it (look f gQ) A lp = true) (k2 : ∀ p ∈ iW f gQ, HC t p = true ∧ jk ih b1 1 (look f ju) p = true) (k4 : ∀ p ∈ iW f ju, jk ih b2 0 (look f gQ) p = true) (k3 : ∀ p ∈ iW f gQ, qu ih post p.1.as = true) : Goes Z Ar sc L cs env (CC ++ x :: xR) A := by
 delta tT at k1
 cases hl : aX ih pre A with
 | none => rw [hl] at k1; cases k1
 | some l =>
  rw [hl] at k1
  refine kR hf I hn kU hl fun r hr => ?_
  obtain ⟨A1, l2, rfl, Nu, hs⟩ := iu k1 r hr
  refine vI hf hh G P P2 I h1 hn EG Nu hs (S₁ := (iW f ju).map (·.1)) (fun T hT => ?_) (fun T hT => ?_) fun T hT => ?_
  ·obtain ⟨p, hp, rfl⟩ := yB hT
   exact ⟨yt (k2 p hp).1, kT (k2 p hp).2⟩
  ·obtain ⟨p, hp, rfl⟩ := yB hT
   exact kT (k4 p hp)
  ·obtain ⟨p, hp, rfl⟩ := yB hT
   exact xP hf I hn EH (k3 p hp)
end
end aD
end
section
open PySem PySem.Calls PyProof.Rows PySem.W PySem.SeqAt PySem.Builtin
set_option maxRecDepth 100000
namespace aD
theorem qw {c : Cfg} {x y : Int} {vs : Array Value} (h : aT (VR c) [.int (.lit x), .int (.lit y)] vs.toList) : ∃ t t', vs = #[.int x t, .int y t'] := by
 obtain ⟨a, l, e, ⟨_, t, rfl⟩, h⟩ := h.cons_inv
 obtain ⟨b, l', e', ⟨_, t', rfl⟩, h⟩ := h.cons_inv
 refine ⟨t, t', Array.toList_inj.mp ?_⟩
 refine ae e ?_; refine ae e' ?_; refine ae h.nil_inv ?_; rfl
noncomputable def eR (a b d : Nat) : Fn := ⟨[a, b], [], [], [
 .bE (.cmp (.sub (.loc a) (.cst (.int (.lit 0)))) [.gt] [.cst (.int (.lit 0))]) [
  .asg (.loc d) (.bin .mod (.sub (.loc a) (.cst (.int (.lit 0)))) (.loc b)),
  .asg (.sub (.loc a) (.cst (.int (.lit 0)))) (.bin .div (.sub (.loc a) (.cst (.int (.lit 0)))) (.loc b)),
  .ret (some (.loc d))] [],
 .asg (.sub (.loc a) (.cst (.int (.lit 1)))) (.bin .mod (.bin .add (.bin .mul (.sub (.loc a) (.cst (.int (.lit 1)))) (.cst (.int (.lit 39373)))) (.cst (.int (.lit 7)))) (.cst (.int (.lit 2147483647)))),
 .ret (some (.bin .mod (.bin .div (.bin .mod (.bin .mul (.sub (.loc a) (.cst (.int (.lit 1)))) (.sub (.loc a) (.cst (.int (.lit 1))))) (.cst (.int (.lit 2147483629)))) (.cst (.int (.lit 32)))) (.loc b)))]⟩
theorem aG {α β : Type} {a : α} {A : AS} (f : α → AS → Res β) : Res.bind (ok a A) f = f a A := by
 rfl
section
variable {Γ : Ctx} {B : AS} {a b d i : Nat} {x y t : Int}
theorem n9 {k : Nat} (h1 : af a B.locs = some (.loc i)) (h2 : B.heap.get i = some (.list [.int (.lit x), .int (.lit y)])) : (bH Γ (k + 2)).e (.sub (.loc a) (.cst (.int (.lit 0)))) B = ok (.int (.lit x)) B := by
 refine (?_ : Res.bind (bA (af a B.locs) B) (fun o A => Res.bind (ok (.int (.lit 0)) A) fun i A => gU o i A) = _)
 refine ae h1 ?_
 refine (?_ : Res.bind (ok _ B) _ = _)
 rw [aG, aG]
 dsimp only [gU, eY]
 refine ae h2 ?_
 rfl
theorem oa {k : Nat} (h1 : af a B.locs = some (.loc i)) (h2 : B.heap.get i = some (.list [.int (.lit x), .int (.lit y)])) : (bH Γ (k + 2)).e (.sub (.loc a) (.cst (.int (.lit 1)))) B = ok (.int (.lit y)) B := by
 refine (?_ : Res.bind (bA (af a B.locs) B) (fun o A => Res.bind (ok (.int (.lit 1)) A) fun i A => gU o i A) = _)
 refine ae h1 ?_
 refine (?_ : Res.bind (ok _ B) _ = _)
 rw [aG, aG]
 dsimp only [gU, eY]
 refine ae h2 ?_
 rfl
theorem bV {k : Nat} {o : qP} {e e' : E} {u v w : V} (h1 : (bH Γ (k + 1)).e e B = ok u B) (h2 : (bH Γ (k + 1)).e e' B = ok v B) (h3 : ee o u v B = ok w B) : (bH Γ (k + 2)).e (.bin o e e') B = ok w B := by
 refine (?_ : Res.bind ((bH Γ (k + 1)).e e B) (fun a A => Res.bind ((bH Γ (k + 1)).e e' A) fun b A => ee o a b A) = _)
 rw [h1, aG, h2, aG, h3]
theorem b0 {k : Nat} {v : V} (h : af a B.locs = some v) : (bH Γ (k + 1)).e (.loc a) B = ok v B := by
 refine (?_ : bA (af a B.locs) B = _)
 refine ae h ?_; rfl
theorem eu {k : Nat} {v : V} : (bH Γ (k + 1)).e (.cst v) B = ok v B := rfl
set_option tactic.hygienic true in
theorem xS {k : Nat} {e : E} {u : V} {j : Int} {xs : List V} (he : (bH Γ (k + 1)).e e B = ok u B) (h1 : af a B.locs = some (.loc i)) (h2 : B.heap.get i = some (.list xs)) (hj : 0 ≤ j ∧ j.toNat < xs.length ∧ xs.length ≤ 4096) :
 (bH Γ (k + 2)).s (.asg (.sub (.loc a) (.cst (.int (.lit j)))) e) B = ok .next (B.put i (.list (xs.set j.toNat u))) := by
 refine (?_ : Res.bind ((bH Γ (k + 1)).e e B) (fun v A => Res.bind (Res.bind (bA (af a A.locs) A) fun o A => Res.bind (ok (.int (.lit j)) A) fun i A => eA o i v A) fun J A => ok Fl.next A) = _)
 rw [he, aG, h1]
 refine (?_ : Res.bind (Res.bind (ok _ B) _) _ = _)
 rw [aG, aG]
 dsimp only [eA, nk]
 refine ae h2 ?_
 dsimp only
 rw [if_pos hj, aG]
set_option tactic.hygienic true in
theorem jB {x y : Int} (h : y.natAbs < 18446744073709551616 ∨ Builtin.Int.intBits x + Builtin.Int.intBits y ≤ 134217728) : ee .mul (.int (.lit x)) (.int (.lit y)) B = ok (.int (.lit (x * y))) B := if_pos h
theorem fY {x y : Int} (h : y ≠ 0) : ee .mod (.int (.lit x)) (.int (.lit y)) B = ok (.int (.lit (x.fmod y))) B := if_pos h
theorem tU {x y : Int} (h : ¬(y = 0 ∨ 1073741824 ≤ y.natAbs)) : ee .div (.int (.lit x)) (.int (.lit y)) B = ok (.int (.lit (x.fdiv y))) B := if_pos h
theorem cB {ih : bM} {s : S} {r : List S} {B' : AS} (h : ih.s s B = ok .next B') : aX ih (s :: r) B = aX ih r B' := by
 refine (?_ : Res.bind (ih.s s B) _ = _)
 rw [h, aG]; rfl
theorem jC {ih : bM} {s : S} {r : List S} {B' : AS} {v : V} (h : ih.s s B = ok (.ret v) B') : aX ih (s :: r) B = ok (.ret v) B' := by
 refine (?_ : Res.bind (ih.s s B) _ = _)
 rw [h, aG]; rfl
theorem xT {k : Nat} {e : E} {u : V} (he : (bH Γ (k + 1)).e e B = ok u B) : (bH Γ (k + 2)).s (.ret (some e)) B = ok (.ret u) B := by
 refine (?_ : Res.bind ((bH Γ (k + 1)).e e B) (fun v A => ok (Fl.ret v) A) = _)
 rw [he, aG]
theorem zM {k : Nat} (h1 : af a B.locs = some (.loc i)) (h2 : B.heap.get i = some (.list [.int (.lit x), .int (.lit y)])) (h0 : 0 ≤ x) : (bH Γ (k + 3)).c (.cmp (.sub (.loc a) (.cst (.int (.lit 0)))) [.gt] [.cst (.int (.lit 0))]) B = ok (decide (0 < x)) B := by
 refine (?_ : Res.bind ((bH Γ (k + 2)).e _ B) (fun a A => Res.bind (ok (.int (.lit 0)) A) fun b A => ea A .gt a b) = _)
 rw [n9 h1 h2, aG, aG]
 have e : nj B .gt (.int (.lit x)) (.int (.lit 0)) = some (decide (0 < x)) := by
  refine (?_ : (if (0 : Int) + 1 ≤ x then some true else if x + 1 ≤ 0 + 1 then some false else none) = _)
  by_cases h : 0 < x
  ·refine ae (if_pos (by omega)) ?_; refine ae (decide_eq_true h) ?_; rfl
  ·refine ae (if_neg (by omega)) ?_; refine ae (if_pos (by omega)) ?_; refine ae (decide_eq_false h) ?_; rfl
 dsimp only [ea]
 refine ae e ?_; rfl
inductive EI (Γ : Ctx) (k a b d i : Nat) (t : Int) (B : AS) : Prop
 | mk (r x' y' : Int) (B' : AS) (run : aX (bH Γ (k + 10)) (eR a b d).body B = some (.one (.ret (.int (.lit r))) B')) (r0 : 0 ≤ r) (rt : r < t) (x0 : 0 ≤ x') (y0 : 0 ≤ y') (y1 : y' < 2147483647)
  (hp : ∀ j, B'.heap.get j = if j = i then some (.list [.int (.lit x'), .int (.lit y')]) else B.heap.get j) (vs : B'.vars = B.vars) (n : B'.n = B.n) (hd : B'.hd = B.hd)
set_option tactic.hygienic true in
theorem xU (k : Nat) (h1 : B.heap.get i = some (.list [.int (.lit x), .int (.lit y)])) (hl : B.locs = [(a, .loc i), (b, .int (.lit t))]) (tG : a ≠ b) (HD : a ≠ d) (HE : b ≠ d) (hx : 0 ≤ x) (hy : 0 ≤ y) (HF : y < 2147483647) (ht : 0 < t) (K1 : t ≤ 256) :
 EI Γ k a b d i t B := by
 have la : af a B.locs = some (.loc i) := by rw [hl, aK, if_pos rfl]
 have lb : af b B.locs = some (.int (.lit t)) := by
  rw [hl, aK, if_neg tG, aK, if_pos rfl]
 have test := zM (Γ := Γ) (k := k + 6) la h1 hx
 have head : ∀ r, (bH Γ (k + 10)).s (.bE (.cmp (.sub (.loc a) (.cst (.int (.lit 0)))) [.gt] [.cst (.int (.lit 0))]) r []) B = aX (bH Γ (k + 9)) (if decide (0 < x) = true then r else []) B := fun r => by
  refine (?_ : Res.bind ((bH Γ (k + 9)).c _ B) (fun t A => aX (bH Γ (k + 9)) (Bool.rec (motive := fun _ => List S) [] r t) A) = _)
  rw [test, aG]
  cases decide (0 < x) <;> rfl
 by_cases h : 0 < x
 ·have m1 : ee .mod (.int (.lit x)) (.int (.lit t)) B = ok (.int (.lit (x.fmod t))) B := fY (Int.ne_of_gt ht)
  have s1 : (bH Γ (k + 9)).s (.asg (.loc d) (.bin .mod (.sub (.loc a) (.cst (.int (.lit 0)))) (.loc b))) B = ok .next (aN d (.int (.lit (x.fmod t))) B) := by
   refine (?_ : Res.bind ((bH Γ (k + 8)).e _ B) (fun v A => Res.bind (ok () (aN d v A)) fun J A => ok Fl.next A) = _)
   rw [bV (k := k + 6) (n9 (k := k + 5) la h1) (b0 (k := k + 6) lb) m1, aG, aG]
  have C7 : af a (aN d (.int (.lit (x.fmod t))) B).locs = some (.loc i) := by
   refine (?_ : af a (fj d _ B.locs) = _)
   rw [bG, if_neg HD, la]
  have FF : af b (aN d (.int (.lit (x.fmod t))) B).locs = some (.int (.lit t)) := by
   refine (?_ : af b (fj d _ B.locs) = _)
   rw [bG, if_neg HE, lb]
  have C8 : (aN d (.int (.lit (x.fmod t))) B).heap.get i = some (.list [.int (.lit x), .int (.lit y)]) := h1
  have m2 : ee .div (.int (.lit x)) (.int (.lit t)) (aN d (.int (.lit (x.fmod t))) B) = ok (.int (.lit (x.fdiv t))) (aN d (.int (.lit (x.fmod t))) B) := tU (by omega)
  have s2 := xS (Γ := Γ) (k := k + 7) (j := 0) (bV (k := k + 6) (n9 (k := k + 5) C7 C8) (b0 (k := k + 6) FF) m2) C7 C8 ⟨by decide, by simp, by simp⟩
  refine ⟨x.fmod t, x.fdiv t, y, (aN d (.int (.lit (x.fmod t))) B).put i (.list [.int (.lit (x.fdiv t)), .int (.lit y)]), ?_, ?_, ?_, ?_, hy, HF, fun j => Tr.ba _ _ _ _, rfl, rfl, rfl⟩
  ·refine jC ?_
   rw [head, decide_eq_true h, if_pos rfl, cB s1, cB s2]
   refine jC (xT (b0 ?_))
   refine (?_ : af d (fj d _ B.locs) = _)
   rw [bG, if_pos rfl]
  ·refine ae (Int.fmod_eq_emod_of_nonneg _ (Int.le_of_lt ht)) ?_; exact Int.emod_nonneg _ (by omega)
  ·refine ae (Int.fmod_eq_emod_of_nonneg _ (Int.le_of_lt ht)) ?_; exact Int.emod_lt_of_pos _ ht
  ·refine ae (Int.fdiv_eq_ediv_of_nonneg _ (Int.le_of_lt ht)) ?_; exact Int.ediv_nonneg hx (Int.le_of_lt ht)
 ·have Oq : x = 0 := by omega
  have hd : ∀ r, (bH Γ (k + 10)).s (.bE (.cmp (.sub (.loc a) (.cst (.int (.lit 0)))) [.gt] [.cst (.int (.lit 0))]) r []) B = ok .next B := fun r => by refine ae (head r) ?_; refine ae (decide_eq_false h) ?_; refine ae (if_neg (by decide)) ?_; rfl
  generalize K2 : (y * 39373 + 7).fmod 2147483647 = y1
  have EJ : 0 ≤ y1 ∧ y1 < 2147483647 := by
   refine bK K2 ?_; refine ae (Int.fmod_eq_emod_of_nonneg _ (by decide)) ?_
   exact ⟨Int.emod_nonneg _ (by decide), Int.emod_lt_of_pos _ (by decide)⟩
  have m1 : ee .mul (.int (.lit y)) (.int (.lit 39373)) B = ok (.int (.lit (y * 39373))) B := jB (.inl (by decide))
  have m2 : ee .add (.int (.lit (y * 39373))) (.int (.lit 7)) B = ok (.int (.lit (y * 39373 + 7))) B := rfl
  have m3 : ee .mod (.int (.lit (y * 39373 + 7))) (.int (.lit 2147483647)) B = ok (.int (.lit y1)) B := by refine bK K2 ?_; exact fY (by decide)
  have e1 := bV (Γ := Γ) (k := k + 7) (bV (k := k + 6) (bV (k := k + 5) (oa (k := k + 4) la h1) (eu (k := k + 5)) m1) (eu (k := k + 6)) m2) (eu (k := k + 7)) m3
  have s1 := xS (Γ := Γ) (k := k + 8) (j := 1) e1 la h1 ⟨by decide, by simp, by simp⟩
  have C7 : af a (B.put i (.list [.int (.lit x), .int (.lit y1)])).locs = some (.loc i) := la
  have FF : af b (B.put i (.list [.int (.lit x), .int (.lit y1)])).locs = some (.int (.lit t)) := lb
  have C8 : (B.put i (.list [.int (.lit x), .int (.lit y1)])).heap.get i = some (.list [.int (.lit x), .int (.lit y1)]) := by
   refine (?_ : (B.heap.put i _).get i = _)
   rw [Tr.ba, if_pos rfl]
  generalize EK : B.put i (.list [.int (.lit x), .int (.lit y1)]) = B2 at C7 FF C8
  have n1 : ee .mul (.int (.lit y1)) (.int (.lit y1)) B2 = ok (.int (.lit (y1 * y1))) B2 := jB (.inl (by omega))
  have n2 : ee .mod (.int (.lit (y1 * y1))) (.int (.lit 2147483629)) B2 = ok (.int (.lit ((y1 * y1).fmod 2147483629))) B2 := fY (by decide)
  have n3 : ee .div (.int (.lit ((y1 * y1).fmod 2147483629))) (.int (.lit 32)) B2 = ok (.int (.lit (((y1 * y1).fmod 2147483629).fdiv 32))) B2 := tU (by decide)
  have n4 : ee .mod (.int (.lit (((y1 * y1).fmod 2147483629).fdiv 32))) (.int (.lit t)) B2 = ok (.int (.lit ((((y1 * y1).fmod 2147483629).fdiv 32).fmod t))) B2 := fY (Int.ne_of_gt ht)
  have e2 := bV (Γ := Γ) (k := k + 7) (bV (k := k + 6) (bV (k := k + 5) (bV (k := k + 4) (oa (k := k + 3) C7 C8) (oa (k := k + 3) C7 C8) n1) (eu (k := k + 5)) n2) (eu (k := k + 6)) n3) (b0 (k := k + 7) FF) n4
  refine ⟨(((y1 * y1).fmod 2147483629).fdiv 32).fmod t, x, y1, B2, ?_, ?_, ?_, hx, EJ.1, EJ.2, fun j => by refine bK EK ?_; exact Tr.ba _ _ _ _, by refine bK EK ?_; rfl, by refine bK EK ?_; rfl, by refine bK EK ?_; rfl⟩
  ·have Nv : B.put i (.list (List.set [.int (.lit x), .int (.lit y)] (Int.toNat 1) (.int (.lit y1)))) = B2 := EK
   refine ae (cB (hd _)) ?_; refine ae (cB s1) ?_; refine ae Nv ?_
   exact jC (xT (k := k + 8) e2)
  ·refine ae (Int.fmod_eq_emod_of_nonneg _ (Int.le_of_lt ht)) ?_; exact Int.emod_nonneg _ (by omega)
  ·refine ae (Int.fmod_eq_emod_of_nonneg _ (Int.le_of_lt ht)) ?_; exact Int.emod_lt_of_pos _ ht
end
section
variable {Z : aL} {L : Nat} {cs : Fm} {Ar : Around} {c c' : Cfg} {A A' : AS} {s s' : Shared}
noncomputable def aL.plain (Z : aL) : aL := { Z with Γ := { Z.Γ with take := none } }
theorem Hp.plain (H : Hp Z c A s) : Hp Z.plain c A s := ⟨H.base, H.gens, H.os, H.n, H.nv, H.vars, H.objs, H.lt, H.lo, H.up, H.apart⟩
theorem Hp.iw (H : Hp Z.plain c A s) : Hp Z c A s := ⟨H.base, H.gens, H.os, H.n, H.nv, H.vars, H.objs, H.lt, H.lo, H.up, H.apart⟩
theorem St.plain (H : St Z L cs c A s) : St Z.plain L cs c A s := ⟨H.toHp.plain, ⟨H.oO, H.bw, H.off, H.ns⟩, H.cells, H.hd, H.outs, H.tabs⟩
theorem St.iw (H : St Z.plain L cs c A s) : St Z L cs c A s := ⟨H.toHp.iw, ⟨H.oO, H.bw, H.off, H.ns⟩, H.cells, H.hd, H.outs, H.tabs⟩
theorem Le.iw (x : Le Z.plain L c s c' s') : Le Z L c s c' s' := ⟨x.n, x.nv, x.σ, x.ρ, x.ck, x.old, x.keep, x.new⟩
theorem g8.plain {C : Nat} {k : gT} (O : g8 Z C k) : g8 Z.plain C k := ⟨O.ga, O.sa, O.gt, O.over, O.BJ, O.hd, O.dp, O.meth, O.uk, O.kp⟩
theorem fp.plain {C : Nat} {k : gT} (O : fp Z C k) : fp Z.plain C k := ⟨O.sa, O.over, O.hd, O.dp, O.meth, O.BJ, O.kp⟩
theorem aL.Glob.plain (G : Z.Glob) : Z.plain.Glob :=
 { g := G.g, b := G.b, inj := G.inj, sys := G.sys, k := G.k, lim := G.lim, yO := G.yO, oU := G.oU, oV := G.oV, i6 := G.i6, nC := G.nC, oW := G.oW, oX := G.oX, fb := G.fb, look := G.look, tabs := G.tabs, CW := G.CW, um := G.um, uq := G.uq, exc := G.exc,
   cls := fun C k h x => (G.cls C k h x).plain, oY := fun C k bs h x => (G.oY C k bs h x).plain }
theorem iO.plain {a : Nat} {fn : Fn} (h : iO Z a fn) : iO Z.plain a fn := ⟨h.ex⟩
theorem qx (h : ∀ a fn, af a Z.Γ.fns = some fn → iO Z a fn) : tJ Z.plain where
 fn := fun a fn e => (h a fn e).plain
 take := { run := fun a e => by cases e }
 AV := fun a e => by cases e
theorem mX {n : Nat} {B : AS} : ∀ {k : Nat} {r : Int}, k ≤ n → (n : Int) - k ≤ r → r < n → (Except.ok (V.int (.lit r)), B) ∈ drawn n B k
 | 0, r, _, h1, h2 => by omega
 | k + 1, r, hk, h1, h2 => by
  by_cases e : r = ((n - (k + 1) : Nat) : Int)
  ·refine ae e ?_; exact .head _
  ·exact .tail _ (mX (by omega) (by omega) h2)
theorem St.HG (H : St Z L cs c A s) (h1 : ∀ j, A'.heap.get j = A.heap.get j) (h2 : A'.n = A.n) (h3 : A'.vars = A.vars) (h4 : A'.locs = A.locs) (h5 : A'.cells = A.cells) (h6 : A'.hd = A.hd) : St Z L cs c A' s :=
 ⟨⟨H.base, H.gens, H.os, by refine ae h2 ?_; exact H.n, by refine ae h3 ?_; exact H.nv, by refine ae h3 ?_; exact H.vars, fun i o e => H.objs i o (by rw [← h1]; exact e), fun i o e => H.lt i o (by rw [← h1]; exact e), H.lo, H.up, H.apart⟩,
   by refine ae h4 ?_; exact H.toFrm, h5.trans H.cells, by refine ae h6 ?_; exact H.hd, H.outs, H.tabs⟩
noncomputable def kV (n : Int) : Int → List (Int × Int) → Bool
 | k, [] => decide (n ≤ k)
 | k, p :: r => decide (p.1 ≤ k) && decide (p.1 < p.2) && kV n p.2 r
theorem zU (A : AS) : kV 8 0 (ways A) = true := by
 delta ways
 cases wx (af (nat_lit 91) A.locs) with
 | none => rfl
 | some i =>
 dsimp only
 cases rj (eY i.1 0 A) with
 | none => rfl
 | some t =>
 dsimp only
 split
 ·decide
 ·split <;> decide
theorem kW {n : Int} {A : AS} : ∀ {l : List (Int × Int)} {k r : Int}, kV n k l = true → k ≤ r → r < n → ∃ p ∈ l, p.1 ≤ r ∧ r < p.2
 | [], k, r, h, h1, h2 => by
  have := of_decide_eq_true h
  omega
 | p :: l, k, r, h, h1, h2 => by
  refine (ao h).elim fun h h5 => ?_
  refine (ao h).elim fun h3 h4 => ?_
  have h3 := of_decide_eq_true h3
  by_cases q : r < p.2
  ·exact ⟨p, .head _, by omega, q⟩
  ·refine (kW (A := A) h5 (by omega) h2).elim fun p' aj => (aj).elim fun hp h6 => ?_
   exact ⟨p', .tail _ hp, h6⟩
theorem mY {A : AS} : ∀ {l : List (Int × Int)} {p : Int × Int}, p ∈ l → (if p.1 + 1 = p.2 then (Except.ok (ε := Nat) (V.int (.lit p.1)), A) else (.ok (.int (.va (A.fresh (.int p.1 p.2)).1 0)), (A.fresh (.int p.1 p.2)).2)) ∈ pieces A l
 | [], _, h => nomatch h
 | q :: l, p, h => by
  rcases fg h with rfl | h
  ·exact .head _
  ·exact .tail _ (mY h)
theorem symbol {lo hi rr : Int} {tu : Tok} (le : Le Z L c s c' s') (H : St Z L cs c' A s') (k1 : lo ≤ rr) (k2 : rr < hi) :
 ∃ wF, Le Z L c s wF s' ∧ St Z L cs wF (A.fresh (.int lo hi)).2 s' ∧ VR wF (.int (.va (A.fresh (.int lo hi)).1 0)) (.int rr tu) := by
 refine ⟨c'.draw rr (fun J => 0), le.trans Le.fresh, H.fresh (d := .int lo hi) ⟨?_, ?_⟩, ?_, tu, ?_⟩
 ·refine (?_ : lo ≤ (if c'.nv = c'.nv then rr else _)); refine ae (if_pos rfl) ?_; exact k1
 ·refine (?_ : (if c'.nv = c'.nv then rr else _) < hi); refine ae (if_pos rfl) ?_; exact k2
 ·refine (?_ : A.vars.length < c'.nv + 1); refine ae H.nv ?_; exact Nat.lt_succ_self _
 ·refine (?_ : Value.int rr tu = Value.int ((if A.vars.length = c'.nv then rr else _) + 0) tu); rw [if_pos H.nv.symm, Int.add_zero]
theorem CD (G : Z.Glob) (B7 : ∀ a fn, af a Z.Γ.fns = some fn → iO Z a fn) {tk a b d : Nat} (Nw : ∀ x, Z.Γ.take = some x → x = tk) (hf : af tk Z.Γ.fns = some (eR a b d)) (tG : a ≠ b) (HD : a ≠ d) (HE : b ≠ d) : xi Z where
 run := fun D5 e {Ar L cs c A s as us} hr H r => by
  cases Nw _ e
  delta tf
  cases oJ as with
  | none => exact .none
  | some p =>
  obtain ⟨⟨i, t⟩, rfl⟩ := p
  intro l el
  refine Classical.byContradiction fun bad => ?_
  have el : (AH (A.heap.get i)).bind _ = some l := el
  obtain ⟨⟨hm⟩, _, el⟩ := f9 el
  dsimp only at el
  cases r with
  | cons r0 r1 =>
  cases r1 with
  | cons r1 r2 =>
  cases r2
  obtain ⟨hi, rfl⟩ := r0
  obtain ⟨_, tt, rfl⟩ := r1
  obtain ⟨x, y, t1, t2, ep, h1, hx, hy, HF⟩ := H.objs _ _ hm
  have H1 : St Z L cs c (A.put i (.list [.int (.lit x), .int (.lit y)])) s := H.change hi (fun J J e J J => e) (a6.of fun J J e => e) ⟨#[.int x t1, .int y t2], ep, h1, .cons ⟨trivial, _, rfl⟩ (.cons ⟨trivial, _, rfl⟩ .nil)⟩ rfl rfl
  have main : 0 < t → t ≤ 256 → ∀ (Q : Value → Shared → Prop) (E : Value → Shared → Prop), (∀ (rr : Int) c' s' u, 0 ≤ rr → rr < t → Le Z L c s c' s' → St Z L cs c' A s' → VR c' (.int (.lit rr)) u → Q u s') → bt Z.M Ar (call (.ref tk) [.ref (c.σ i).1, .int t tt]) Q E s := fun ht K1 Q E q => Classical.byContradiction fun bad => by
   have kM : fk (eR a b d).params (eR a b d).params.length (eR a b d).dflts [.loc i, .int (.lit t)] = some [(a, .loc i), (b, .int (.lit t))] := rfl
   obtain ⟨rr, x', y', B', HH, q1, q2, q3, q4, q5, q6, q7, q8, q9⟩ := xU (Γ := Z.plain.Γ) (B := { (A.put i (.list [.int (.lit x), .int (.lit y)])) with locs := [(a, .loc i), (b, .int (.lit t))], cells := [] }) (a := a) (b := b) (d := d) (i := i) (x := x) (y := y) (t := t) 8
    (by refine (?_ : (A.heap.put i _).get i = _); rw [Tr.ba, if_pos rfl]) rfl tG HD HE hx hy HF ht K1
   have xV : dO Z.plain.Γ (bH Z.plain.Γ 18) tk [.loc i, .int (.lit t)] (A.put i (.list [.int (.lit x), .int (.lit y)])) = ok (.int (.lit rr)) { B' with locs := A.locs, cells := A.cells } := by
    exact pO (by intro h; cases h) (show af tk Z.plain.Γ.fns = some (eR a b d) from hf) kM rfl HH
   refine bad (au.one (fun l e => dX G.plain (qx B7) (sound G.plain (qx B7) 18) (hr.le (by decide)) H1.plain (as := [.loc i, .int (.lit t)]) (us := [.ref (c.σ i).1, .int t tt]) (.cons ⟨hi, rfl⟩ (.cons ⟨trivial, tt, rfl⟩ .nil)) l (xV.trans e)) fun u c' s' le H' r' => ?_)
   ·have H2 := H'.iw
    have le := le.iw
    have cN : i < c'.n := Nat.lt_of_lt_of_le hi le.n
    refine q rr c' s' u q1 q2 le ?_ r'
    have yy := H2.objs i (.list [.int (.lit x'), .int (.lit y')]) ((q6 i).trans (if_pos rfl))
    obtain ⟨vs, AQ, g1, g2⟩ := yy
    have H4 := H2.change cN (o' := .src) (fun J J e J J => e) (a6.of fun J J e => e) (by
     obtain ⟨u1, u2, rfl⟩ := qw g2
     exact ⟨x', y', u1, u2, AQ, g1, q3, q4, q5⟩) rfl rfl
    refine H4.HG (fun j => ?_) q8.symm q7.symm rfl rfl q9.symm
    refine (?_ : A.heap.get j = (B'.heap.put i .src).get j)
    rw [Tr.ba]
    by_cases q : j = i
    ·refine ae (if_pos q) ?_; refine ae q ?_; exact hm
    ·rw [if_neg q, q6, if_neg q]
     refine (?_ : _ = (A.heap.put i _).get j)
     rw [Tr.ba, if_neg q]
  by_cases h8 : t = 8
  ·rw [if_pos h8] at el
   cases el
   have h8 : t = 8 := h8
   refine bad (main (by omega) (by omega) _ _ fun rr c' s' u k1 k2 le H' hu => ?_)
   obtain ⟨p, hp, p1, p2⟩ := kW (A := A) (zU A) k1 (h8 ▸ k2)
   have zV := mY (A := A) hp
   obtain ⟨_, tu, rfl⟩ := hu
   by_cases q : p.1 + 1 = p.2
   ·rw [if_pos q] at zV
    exact ⟨_, A, c', zV, le, H', trivial, tu, by refine (?_ : Value.int rr tu = Value.int p.1 tu); refine ae (show rr = p.1 by omega) ?_; rfl⟩
   ·rw [if_neg q] at zV
    refine (symbol (lo := p.1) (hi := p.2) (tu := tu) le H' p1 p2).elim fun wF aj => (aj).elim fun x1 ay => (ay).elim fun x2 x3 => ?_
    exact ⟨_, _, wF, zV, x1, x2, x3⟩
  ·rw [if_neg h8] at el
   by_cases ht : 0 < t ∧ t ≤ 8
   ·rw [if_pos ht] at el
    cases el
    exact bad (main ht.1 (by omega) _ _ fun rr c' s' u k1 k2 le H' hu => ⟨_, A, c', mX (Nat.le_refl _) (by omega) (by omega), le, H', hu⟩)
   ·rw [if_neg ht] at el
    by_cases ht : 8 < t ∧ t ≤ 256
    ·rw [if_pos ht] at el
     obtain rfl := aO el
     refine bad (main (by omega) ht.2 _ _ fun rr c' s' u k1 k2 le H' hu => ?_)
     obtain ⟨_, tu, rfl⟩ := hu
     obtain ⟨wF, x1, x2, x3⟩ := symbol (lo := 0) (hi := t) (tu := tu) le H' k1 k2
     exact ⟨_, _, wF, .head _, x1, x2, x3⟩
    ·rw [if_neg ht] at el; cases el
end
end aD
end
section
open PySem PySem.Calls PyProof.Rows PySem.W PySem.SeqAt PySem.Builtin
set_option backward.match.sparseCases false
set_option maxRecDepth 100000
namespace aD
noncomputable def fragOf (h : Heap) (as : List Nat) : Frag := as.filterMap fun a => (h.get? a).map fun o => (a, o)
set_option tactic.hygienic true in
theorem fZ (h : Heap) : ∀ as : List Nat, (fragOf h as).In h
 | [] => fun a o e => by cases e
 | b :: r => fun a o e => by
  delta fragOf at e
  rw [List.filterMap_cons] at e
  cases hb : h.get? b with
  | none => rw [hb] at e; exact fZ h r a o e
  | some p =>
   rw [hb] at e
   dsimp -iota only [Option.map_some] at e
   rw [List.lookup_cons] at e
   split at e
   ·rename_i q; obtain rfl := aO e; refine ae (eI q) ?_; exact hb
   ·exact fZ h r a o e
noncomputable def jv (t : List (List Nat)) (i : Nat) : Str := match t[i]? with
 | some l => strOf l
 | none => strOf [1114112 + i]
theorem xW {a b : List Nat} : jG a b = true ↔ a = b := dV.to_iff
noncomputable def oh : List (List Nat) → Bool
 | [] => true
 | a :: r => !(r.any (jG a)) && a.all (fun x => Nat.blt x 1114112) && oh r
theorem jn : ∀ {t : List (List Nat)}, oh t = true → t.Nodup ∧ ∀ l ∈ t, ∀ x ∈ l, x < 1114112
 | [], _ => ⟨.nil, fun J h => by cases h⟩
 | a :: r, h => by
  refine (ao h).elim fun h h3 => ?_
  refine (ao h).elim fun h1 h2 => ?_
  refine (jn h3).elim fun n1 n2 => ?_
  rw [Bool.not_eq_true', List.any_eq_false] at h1
  refine ⟨List.nodup_cons.mpr ⟨fun hm => h1 a hm (xW.mpr rfl), n1⟩, fun l hl x hx => ?_⟩
  rcases fg hl with rfl | hl
  ·exact Nat.le_of_ble_eq_true (lP h2 x hx)
  ·exact n2 l hl x hx
set_option tactic.hygienic true in
theorem xX {t : List (List Nat)} (h : oh t = true) : ∀ x y, jv t x = jv t y → x = y := fun x y e => by
 refine (jn h).elim fun n1 n2 => ?_
 delta jv at e
 split at e
 ·rename_i l hl
  split at e
  ·rename_i k hk
   have := dy _ _ e
   subst this
   obtain ⟨p1, p2⟩ := yv hl
   refine (yv hk).elim fun p3 p4 => ?_
   exact (List.getElem_inj n1).mp (p2.trans p4.symm)
  ·have := dy _ _ e
   have h' := n2 l (List.mem_of_getElem? hl) (1114112 + y) (by refine ae this ?_; exact .head _)
   omega
 ·split at e
  ·rename_i k hk
   have := dy _ _ e
   have h' := n2 k (List.mem_of_getElem? hk) (1114112 + x) (by refine bK this ?_; exact .head _)
   omega
  ·have := dy _ _ e
   simp -iota only [List.cons.injEq, and_true] at this
   omega
noncomputable def oi (u : Value) (s : String) : Bool := match u with
 | .builtin n => n == s
 | _ => false
theorem f6 {u : Value} {s : String} (h : oi u s = true) : u = .builtin s := by
 cases u with
 | builtin n => (refine ae (eI h) ?_; rfl)
 | _ => exact bf h
noncomputable def jo (u : Value) (s : String) : Bool := match u with
 | .type n => n == s
 | _ => false
theorem dJ {u : Value} {s : String} (h : jo u s = true) : u = .type s := by
 cases u with
 | type n => (refine ae (eI h) ?_; rfl)
 | _ => exact bf h
noncomputable def eS (u : Value) (a : Nat) : Bool := match u with
 | .ref b => Nat.beq a b
 | _ => false
theorem cR {u : Value} {a : Nat} (h : eS u a = true) : u = .ref a := by
 cases u with
 | ref n => (refine ae (Nat.eq_of_beq_eq_true h) ?_; rfl)
 | _ => exact bf h
noncomputable def EL (i : Int) (u : Value) : Bool := match u with
 | .int j _ => decide (i = j)
 | _ => false
noncomputable def strOk (l : List Nat) (u : Value) : Bool := match u with
 | .str s _ => s == strOf l
 | _ => false
noncomputable def tV (b : BS) (u : Value) : Bool := match u with
 | .bytes a _ => b == bif a.toList.isEmpty then [] else [.lit (a.toList.map (·.toNat))]
 | _ => false
noncomputable def oj (u : Value) : Bool := match u with
 | .none => true
 | _ => false
noncomputable def CE (a : Bool) (u : Value) : Bool := match u with
 | .bool b => a == b
 | _ => false
noncomputable def HI (b : Bi) (u : Value) : Bool := match b with
 | .range => jo u "range"
 | .len => oi u "len"
 | .sorted => oi u "sorted"
 | .max => oi u "max"
noncomputable def EM (v : V) (u : Value) : Bool := match v with
 | .none => oj u
 | .bool a => CE a u
 | .int (.lit i) => EL i u
 | .str l => strOk l u
 | .bytes b => tV b u
 | .fn a => eS u a
 | .cls a => eS u a
 | .ty t => jo u t.name
 | .bi b => HI b u
 | _ => false
theorem lM {b : BS} {u : Value} (h : tV b u = true) (c : Cfg) : VR c (.bytes b) u := by
 cases u with
 | bytes a t =>
  obtain rfl := eI (show (b == bif a.toList.isEmpty then [] else [.lit (a.toList.map (·.toNat))]) = true from h)
  exact ⟨(jy (ρ := c.ρ) a.toList).1, t, by refine ae ((jy (nv := 0) a.toList).2) ?_; rfl⟩
 | _ => exact bf h
theorem iX {u : Value} (h : oj u = true) : u = .none := by
 cases u with
 | none => rfl
 | _ => exact bf h
theorem iY {v : V} {u : Value} (h : EM v u = true) (c : Cfg) : VR c v u := by
 cases v with
 | none => exact iX h
 | bool b => cases u with
  | bool d => obtain rfl := eI (show (b == d) = true from h); rfl
  | _ => exact bf h
 | loc i => exact bf h
 | bb => exact bf h
 | int x =>
  cases x with
  | va k o => exact bf h
  | lit i => cases u with
   | int j t => obtain rfl := of_decide_eq_true (show decide (i = j) = true from h); exact ⟨trivial, _, rfl⟩
   | _ => exact bf h
 | str l => cases u with
  | str s t => exact ⟨t, by refine ae (eI (show (s == strOf l) = true from h)) ?_; rfl⟩
  | _ => exact bf h
 | bytes b => exact lM h c
 | fn a => exact cR h
 | cls a => exact cR h
 | ty t => exact dJ h
 | bi b => cases b <;> first | exact dJ h | exact f6 h
theorem mZ {α β : Type} {f : α → β → Bool} {R : α → β → Prop} (h : ∀ a b, f a b = true → R a b) : ∀ {l : List α} {k : List β}, encL f l k = true → aT R l k
 | [], [], _ => .nil
 | [], _ :: _, e => by cases e
 | _ :: _, [], e => by cases e
 | _ :: _, _ :: _, e => .cons (h _ _ (ao e).1) (mZ h (ao e).2)
noncomputable def C9 (r : Option (Option Value)) (s : String) : Bool := match r with
 | some (some u) => oi u s
 | _ => false
theorem kX {r : Option (Option Value)} {s : String} (h : C9 r s = true) : r = some (some (.builtin s)) := by
 cases r with
 | none => exact bf h
 | some o => cases o with
  | none => exact bf h
  | some u => (refine ae (f6 (u := u) (s := s) h) ?_; rfl)
noncomputable def zW (r : Option (Option Value)) : Bool := match r with
 | some none => true
 | _ => false
theorem om {r : Option (Option Value)} (h : zW r = true) : r = some none := by
 cases r with
 | none => exact bf h
 | some o => cases o with
  | none => rfl
  | some u => exact bf h
noncomputable def sP (r : Option (Option Value)) (a : Nat) : Bool := match r with
 | some (some u) => eS u a
 | _ => false
theorem oq {r : Option (Option Value)} {a : Nat} (h : sP r a = true) : r = some (some (.ref a)) := by
 cases r with
 | none => exact bf h
 | some o => cases o with
  | none => exact bf h
  | some u => (refine ae (cR (u := u) (a := a) h) ?_; rfl)
noncomputable def xY (r : Option Value) (s : String) : Bool := match r with
 | some u => jo u s
 | _ => false
theorem tW {r : Option Value} {s : String} (h : xY r s = true) : r = some (.type s) := by
 cases r with
 | none => exact bf h
 | some u => (refine ae (dJ (u := u) (s := s) h) ?_; rfl)
noncomputable def Bh (b : FuncBody) (p : List Stmt → Bool) : Bool := match b with
 | .stmts x => p x
 | _ => false
theorem xZ {b : FuncBody} {p : List Stmt → Bool} (h : Bh b p = true) : ∃ x, b = .stmts x ∧ p x = true := by
 cases b with
 | stmts x => exact ⟨_, rfl, h⟩
 | _ => exact bf h
noncomputable def CF (r : Option Obj) (p : List Value → Bool) : Bool := match r with
 | some o => (match o.data with | .seq xs _ => p xs.toList | _ => false)
 | none => false
theorem zX {r : Option Obj} {p : List Value → Bool} (h : CF r p = true) : ∃ o xs n, r = some o ∧ o.data = .seq xs n ∧ p xs.toList = true := by
 cases r with
 | none => exact bf h
 | some o =>
  have h : (match o.data with | .seq xs _ => p xs.toList | _ => false) = true := h
  generalize hd : o.data = d at h
  cases d with
  | seq xs n => exact ⟨o, xs, n, rfl, hd, h⟩
  | _ => exact bf h
noncomputable def x4 (d : Value) (f : Nat → Bool) (e : Bool) : Bool := match d with
 | .none => e
 | .ref T => f T
 | _ => false
theorem x5 {d : Value} {f : Nat → Bool} {e : Bool} (h : x4 d f e = true) : (d = .none ∧ e = true) ∨ ∃ T, d = .ref T ∧ f T = true := by
 cases d with
 | none => exact .inl ⟨rfl, h⟩
 | ref T => exact .inr ⟨_, rfl, h⟩
 | _ => exact bf h
noncomputable def x6 (k : ScopeKind) : Bool := match k with
 | .function => true
 | _ => false
theorem vJ {k : ScopeKind} (h : x6 k = true) : k = .function := by
 cases k <;> first | rfl | exact bf h
noncomputable def x7 {α : Type} (o : Option α) (p : α → Bool) : Bool := match o with
 | some a => p a
 | none => false
theorem jD {α : Type} {o : Option α} {p : α → Bool} (h : x7 o p = true) : ∃ a, o = some a ∧ p a = true := by
 cases o with
 | none => exact bf h
 | some a => exact ⟨a, rfl, h⟩
noncomputable def HJ (r : Option CFound) (p : Value → Value → Value → Value → Bool) : Bool := match r with
 | some (.get g a n t) => p g a n t
 | _ => false
theorem x8 {r : Option CFound} {p : Value → Value → Value → Value → Bool} (h : HJ r p = true) : ∃ g a n t, r = some (.get g a n t) ∧ p g a n t = true := by
 cases r with
 | none => exact bf h
 | some c => cases c with
  | val v => exact bf h
  | get g a n t => exact ⟨g, a, n, t, rfl, h⟩
noncomputable def zY (u : Value) (p : Addr → Bool) : Bool := match u with
 | .ref a => p a
 | _ => false
theorem ot {u : Value} {p : Addr → Bool} (h : zY u p = true) : ∃ a, u = .ref a ∧ p a = true := by
 cases u with
 | ref a => exact ⟨a, rfl, h⟩
 | _ => exact bf h
noncomputable def Bj (r : Option (List Value)) (p : Value → Bool) : Bool := match r with
 | some (v :: _) => p v
 | _ => false
theorem x9 {r : Option (List Value)} {p : Value → Bool} (h : Bj r p = true) : ∃ v t, r = some (v :: t) ∧ p v = true := by
 cases r with
 | none => exact bf h
 | some l => cases l with
  | nil => exact bf h
  | cons v t => exact ⟨v, t, rfl, h⟩
noncomputable def fnAt (r : Option Obj) (p : FuncData → Bool) : Bool := match r with
 | some ⟨_, _, .func fd, _⟩ => p fd
 | _ => false
theorem zZ {r : Option Obj} {p : FuncData → Bool} (h : fnAt r p = true) : ∃ oc od uT fd, r = some ⟨oc, od, .func fd, uT⟩ ∧ p fd = true := by
 cases r with
 | none => exact bf h
 | some o =>
  obtain ⟨oc, od, d, uT⟩ := o
  cases d with
  | func fd => exact ⟨_, _, _, fd, rfl, h⟩
  | _ => exact bf h
theorem aM {a b : Bool} (h : (a && b) = true) : a = true := (ao h).1
theorem ai {a b : Bool} (h : (a && b) = true) : b = true := (ao h).2
theorem kY {a : Bool} (h : (!a) = true) : a = false := by
 cases a with
 | false => rfl
 | true => exact bf h
noncomputable def ya (d : Data) (p : Array Value → Bool) : Bool := match d with
 | .fields vs => p vs
 | _ => false
theorem qy {d : Data} {p : Array Value → Bool} (h : ya d p = true) : ∃ vs, d = .fields vs ∧ p vs = true := by
 cases d with
 | fields vs => exact ⟨vs, rfl, h⟩
 | _ => exact bf h
noncomputable def sQ (u : Value) : Bool := match u with
 | .int _ _ => true
 | _ => false
noncomputable def yb (u : Value) : Bool := match u with
 | .str _ _ => true
 | _ => false
noncomputable def tX (u : Value) : Bool := match u with
 | .bool _ => true
 | _ => false
theorem m4 {u : Value} (h : sQ u = true) : ∃ i t, u = .int i t := by
 cases u <;> first | exact ⟨_, _, rfl⟩ | exact bf h
theorem vK {u : Value} (h : yb u = true) : ∃ i t, u = .str i t := by
 cases u <;> first | exact ⟨_, _, rfl⟩ | exact bf h
theorem sR {u : Value} (h : tX u = true) : ∃ i, u = .bool i := by
 cases u <;> first | exact ⟨_, rfl⟩ | exact bf h
noncomputable def z9 (p : Nat) (l : List Nat) : Bool := l.any (Nat.beq p)
theorem Aa {p : Nat} {l : List Nat} (h : z9 p l = true) : p ∈ l := by
 refine (List.any_eq_true.mp h).elim fun x aj => (aj).elim fun hx e => ?_
 refine ae (Nat.eq_of_beq_eq_true e) ?_; exact hx
theorem Ab {p : Nat} {l : List Nat} (h : z9 p l = false) : p ∉ l := fun hm => by
 have := List.any_eq_false.mp h p hm
 exact this (Nat.beq_refl p)
section
variable (K : Frag) (nm : Nat → Str)
noncomputable def codeB (tabs : List Nat) (v : Value) : Bool := zY v fun c => x7 (K.lookup c) fun o => jo o.cls "code" && ya o.data fun vs => zY (vs.getD 11 .none) fun P => z9 P tabs && (!(Nat.beq c P) && (yb (vs.getD 18 .none) && (sQ (vs.getD 7 .none) && (tX (vs.getD 9 .none) && sQ (vs.getD 10 .none)))))
noncomputable def kindB (r : Option NameKind) (k : NameKind) : Bool := match r with
 | some x => x == k
 | none => false
noncomputable def Bk (fn : Fn) (fd : FuncData) : Bool :=
 Bh fd.body (encL (cE nm 60 fd.scope.names) fn.body) && (Nat.beq fd.globals mainGlobals && (fd.closure.isEmpty && (Nat.beq fd.builtins builtinsNs && (codeIn K fd.code fd.qualname && (!fd.scope.isCoroutine && (!fd.scope.isGenerator && (x6 fd.scope.kind &&
  (fd.params.posonlyargs.isEmpty && (fd.params.kwonlyargs.isEmpty && (fd.params.vararg.isNone && (fd.params.kwarg.isNone && (encL (fun (p : Arg) q => p.arg == nm q) fd.params.args fn.params &&
  (fn.params.all (fun p => if fn.cells.contains p then kindB (fd.scope.names.lookup (nm p)) .cell else kindB (fd.scope.names.lookup (nm p)) .local) && (fn.cells.all (fun p => kindB (fd.scope.names.lookup (nm p)) .cell) &&
  (fd.scope.names.all (fun x => x.2 != .free) && (x4 fd.defaults (fun T => CF (K.lookup T) (encL EM fn.dflts)) fn.dflts.isEmpty && (FD fn.params && (FD fn.cells && Nat.ble fn.dflts.length fn.params.length))))))))))))))))))
noncomputable def qz (tabs : List Nat) (a : Nat) (fn : Fn) : Bool := fnAt (K.lookup a) fun fd => Bk K nm fn fd && (!(fO fd.scope.names) || codeB K tabs fd.code)
noncomputable def tY (C : Nat) (m f : Nat) : Bool := C9 (specialIn K (.ref C) "__getattribute__") "type.__getattribute__" &&
 x7 (typeIn K (.ref C)) fun mc => readsIn K C mc && HJ (findCls K (.ref C) mc (nm m)) fun g a n t => oi g "staticmethod.__get__" && (oj n && (eS t C && zY a fun p => Bj (recIn K p "staticmethod") fun v => eS v f))
noncomputable def sS (C : Nat) (k : gT) : Bool :=
 C9 (findIn K (.ref C) "__getattribute__") "object.__getattribute__" && C9 (findIn K (.ref C) "__setattr__") "object.__setattr__" && zW (findIn K (.ref C) "__getattr__") && jW K C && makesIn K C && (clsIn K C).any (·.hasDict) &&
 k.dp.all (fun f => zW (findIn K (.ref C) (nm f))) && k.meths.all (fun x => if x.2.1 then tY K nm C x.1 x.2.2 else sP (findIn K (.ref C) (nm x.1)) x.2.2 && xY (typeIn K (.ref x.2.2)) "function") && keepIn K (.ref C)
noncomputable def clsAt (r : Option Obj) (p : Value → ClassData → List (Option Value) → Bool) : Bool := match r with
 | some ⟨oc, _, .cls cd, sl⟩ => p oc cd sl.toList
 | _ => false
noncomputable def Dc (f : List (Option Value) → Bool) : List (Option Value) → Bool
 | [] => false
 | _ :: r => f r
noncomputable def B5 (l : List (Option Value)) : Bool := match l with
 | [] => false
 | u :: r => x7 u (fun u => oi u "Exception.__new__") && Dc (·.isEmpty) r
noncomputable def newX (l : List (Option Value)) : Bool := Dc (Dc (Dc (Dc B5))) l
noncomputable def EN (C : Nat) (l : List Value) : Bool := match l with
 | u :: bm => eS u C && (bm.contains (.type "Exception") && (!(bm.contains (.type "AttributeError")) && !(bm.contains (.type "NameError"))))
 | _ => false
noncomputable def sT (C : Nat) : Bool := clsAt (K.lookup C) (fun oc cd sl => jo oc "type" && (!cd.abstract && (!cd.hasDel && (newX sl && EN C cd.mro)))) && C9 (specialIn K (.ref C) "__call__") "type.__call__" && (instIn K (.ref C) (.type "type") == some true)
noncomputable def sU (C : Nat) (k : gT) : Bool :=
 C9 (findIn K (.ref C) "__setattr__") "object.__setattr__" && (jW K C && ((clsIn K C).any (·.hasDict) && (k.dp.all (fun f => zW (findIn K (.ref C) (nm f))) &&
  (k.meths.all (fun x => x.2.1 || (sP (findIn K (.ref C) (nm x.1)) x.2.2 && xY (typeIn K (.ref x.2.2)) "function")) && (sT K C && keepIn K (.ref C))))))
noncomputable def jE (x : Nat) (v : V) : Bool := match nsIn K mainGlobals (nm x) with
 | some (some u) => EM v u
 | some none => (match nsIn K builtinsNs (nm x) with
  | some (some u) => EM v u
  | _ => false)
 | none => false
noncomputable def yc (l : List (Nat × List Nat)) : Bool := l.all fun d => l.all fun c => exmOne K (.ref d.1) (.ref c.1) == some (d.2.contains c.1)
noncomputable def EP (Γ : Ctx) (C : Nat) : Bool := (af C Γ.cf).isSome
noncomputable def kZ (tabs : List Nat) (Γ : Ctx) : Bool := Γ.fns.all (fun x => qz K nm tabs x.1 x.2) && Γ.dq.all (fun x => cond (EP Γ x.1) (sU K nm x.1 x.2) (sS K nm x.1 x.2)) && Γ.glob.all (fun x => jE K nm x.1 x.2) && (K.lookup sysModules).isSome && (match Γ.take with | some a => fnIn K a | none => true) && yc K Γ.cf
end
section
variable {Z : aL}
theorem k7 {r : Option NameKind} {k : NameKind} (h : kindB r k = true) : r = some k := by
 cases r with
 | none => exact bf h
 | some x => (refine ae (eI (show (x == k) = true from h)) ?_; rfl)
theorem qD {α β γ : Type} [DecidableEq γ] {f : α → γ} {g : β → γ} : ∀ {l : List α} {k : List β}, encL (fun a b => f a == g b) l k = true → l.map f = k.map g
 | [], [], _ => rfl
 | [], _ :: _, e => by cases e
 | _ :: _, [], e => by cases e
 | _ :: _, _ :: _, e => by refine ae List.map_cons ?_; refine ae List.map_cons ?_; refine ae (eI (ao e).1) ?_; refine ae (qD (ao e).2) ?_; rfl
theorem CG {l : List (Str × NameKind)} (h : (l.all fun x => x.2 != .free) = true) (n : Str) : l.lookup n ≠ some .free := fun e => by
 have := lP h _ (mem_of_lookup e)
 exact Bool.false_ne_true this
theorem Ad {b : Bool} {r : Option NameKind} (h : (if b then kindB r .cell else kindB r .local) = true) : (b = false ∧ r = some .local) ∨ (b = true ∧ r = some .cell) := by
 cases b with
 | false => exact .inl ⟨rfl, k7 h⟩
 | true => exact .inr ⟨rfl, k7 h⟩
theorem CH {K : Frag} {d : Value} {l : List V} (h : x4 d (fun T => CF (K.lookup T) (encL EM l)) l.isEmpty = true) : (d = .none ∧ l = []) ∨ ∃ T o xs n, d = .ref T ∧ K.lookup T = some o ∧ o.data = .seq xs n ∧ ∀ c, aT (VR c) l xs.toList := by
 rcases x5 h with ⟨h1, h2⟩ | ⟨T, h1, h2⟩
 ·exact .inl ⟨h1, sY h2⟩
 ·refine (zX h2).elim fun o aj => (aj).elim fun xs ay => (ay).elim fun n aP => (aP).elim fun h3 bF => (bF).elim fun h4 h5 => ?_
  exact .inr ⟨T, o, xs, n, h1, h3, h4, fun c => mZ (fun J J h => iY h c) h5⟩
theorem qE {K : Frag} {nm : Nat → Str} {fn : Fn} {fd : FuncData} (h : Bk K nm fn fd = true) : ∃ body, encL (cE nm 60 fd.scope.names) fn.body body = true ∧ Kr K nm fn fd body := by
 refine (xZ (aM h)).elim fun body aj => (aj).elim fun hb he => ?_
 exact ⟨body, he, Nat.eq_of_beq_eq_true (aM (ai h)), sY (aM (ai (ai h))), Nat.eq_of_beq_eq_true (aM (ai (ai (ai h)))), hb, (aM (ai (ai (ai (ai h))))), kY (aM (ai (ai (ai (ai (ai h)))))), kY (aM (ai (ai (ai (ai (ai (ai h))))))), vJ (aM (ai (ai (ai (ai (ai (ai (ai h)))))))),
  sY (aM (ai (ai (ai (ai (ai (ai (ai (ai h))))))))), sY (aM (ai (ai (ai (ai (ai (ai (ai (ai (ai h)))))))))), yt (aM (ai (ai (ai (ai (ai (ai (ai (ai (ai (ai h))))))))))), yt (aM (ai (ai (ai (ai (ai (ai (ai (ai (ai (ai (ai h)))))))))))), qD (aM (ai (ai (ai (ai (ai (ai (ai (ai (ai (ai (ai (ai h))))))))))))),
  fun p hp => Ad (lP (aM (ai (ai (ai (ai (ai (ai (ai (ai (ai (ai (ai (ai (ai h)))))))))))))) p hp), fun p hp => k7 (lP (aM (ai (ai (ai (ai (ai (ai (ai (ai (ai (ai (ai (ai (ai (ai h))))))))))))))) p hp), CG (aM (ai (ai (ai (ai (ai (ai (ai (ai (ai (ai (ai (ai (ai (ai (ai h)))))))))))))))), CH (aM (ai (ai (ai (ai (ai (ai (ai (ai (ai (ai (ai (ai (ai (ai (ai (ai h))))))))))))))))), kO (aM (ai (ai (ai (ai (ai (ai (ai (ai (ai (ai (ai (ai (ai (ai (ai (ai (ai h)))))))))))))))))), kO (aM (ai (ai (ai (ai (ai (ai (ai (ai (ai (ai (ai (ai (ai (ai (ai (ai (ai (ai h))))))))))))))))))), Nat.le_of_ble_eq_true (ai (ai (ai (ai (ai (ai (ai (ai (ai (ai (ai (ai (ai (ai (ai (ai (ai (ai (ai h)))))))))))))))))))⟩
theorem qF (X : Z.K.In Z.h₀) {v : Value} (h : codeB Z.K Z.tabs v = true) : rp Z v := by
 obtain ⟨c, rfl, h⟩ := ot h
 refine (jD h).elim fun o aj => (aj).elim fun ho h => ?_
 refine (qy (ai h)).elim fun vs aj => (aj).elim fun hd h2 => ?_
 refine (ot h2).elim fun P aj => (aj).elim fun hP h3 => ?_
 refine (vK (aM (ai (ai h3)))).elim fun s aj => (aj).elim fun ts Nx => ?_
 refine (m4 (aM (ai (ai (ai h3))))).elim fun i7 aj => (aj).elim fun t7 e7 => ?_
 refine (sR (aM (ai (ai (ai (ai h3)))))).elim fun b9 e9 => ?_
 refine (m4 (ai (ai (ai (ai (ai h3)))))).elim fun Ny aj => (aj).elim fun Nz NA => ?_
 have NB : vs[11]? = some (.ref P) := by
  rw [Array.getD_eq_getD_getElem?] at hP
  cases q : vs[11]? with
  | none => rw [q] at hP; cases hP
  | some u => rw [q] at hP; exact congrArg some hP
 exact ⟨c, P, rfl, ⟨o, vs, s, ts, i7, t7, b9, Ny, Nz, X _ _ ho, dJ (aM h), hd, NB, hP, Nx, e7, e9, NA, Nat.ne_of_beq_eq_false (kY (aM (ai h3)))⟩, Aa (aM h3)⟩
theorem qG (X : Z.K.In Z.h₀) {a : Nat} {fn : Fn} (h : qz Z.K Z.nm Z.tabs a fn = true) : iO Z a fn := by
 refine (zZ h).elim fun oc aj => (aj).elim fun od ay => (ay).elim fun uT aP => (aP).elim fun fd bF => (bF).elim fun hk h => ?_
 refine (qE (aM h)).elim fun body aj => (aj).elim fun h1 h2 => ?_
 refine ⟨oc, od, uT, fd, body, 60, hk, h1, h2, fun hc => qF X ?_⟩
 have q := ai h
 rw [hc] at q
 exact q
theorem sV {C m f : Nat} (h : tY Z.K Z.nm C m f = true) : specialIn Z.K (.ref C) "__getattribute__" = some (some (.builtin "type.__getattribute__")) ∧
 ∃ p rest mc, readsIn Z.K C mc = true ∧ findCls Z.K (.ref C) mc (Z.nm m) = some (.get (.builtin "staticmethod.__get__") (.ref p) .none (.ref C)) ∧ recIn Z.K p "staticmethod" = some (.ref f :: rest) := by
 refine ⟨kX (aM h), ?_⟩
 refine (jD (ai h)).elim fun mc aj => (aj).elim fun _ h => ?_
 obtain ⟨g, a, n, t, hc, q⟩ := x8 (ai h)
 obtain rfl := f6 (aM q)
 obtain rfl := iX (aM (ai q))
 obtain rfl := cR (aM (ai (ai q)))
 obtain ⟨p, rfl, q1⟩ := ot (ai (ai (ai q)))
 obtain ⟨v, rest, hr, q2⟩ := x9 q1
 obtain rfl := cR q2
 exact ⟨p, rest, mc, aM h, hc, hr⟩
theorem ou {C : Nat} {k : gT} (h : sS Z.K Z.nm C k = true) : g8 Z C k :=
 ⟨kX (aM (aM (aM (aM (aM (aM (aM (aM h)))))))), kX (ai (aM (aM (aM (aM (aM (aM (aM h)))))))), om (ai (aM (aM (aM (aM (aM (aM h))))))), (ai (aM (aM (aM (aM (aM h)))))), (ai (aM (aM (aM (aM h))))), (ai (aM (aM (aM h)))), fun f hf => om (lP (ai (aM (aM h))) f hf),
  fun m f hm => have q : (sP (findIn Z.K (.ref C) (Z.nm m)) f && xY (typeIn Z.K (.ref f)) "function") = true := lP (ai (aM h)) _ (bB hm); ⟨oq (aM q), tW (ai q)⟩,
  fun m f hm => sV (lP (ai (aM h)) _ (bB hm)), (ai h)⟩
theorem yd {r : Option Obj} {p : Value → ClassData → List (Option Value) → Bool} (h : clsAt r p = true) : ∃ oc od cd sl, r = some ⟨oc, od, .cls cd, sl⟩ ∧ p oc cd sl.toList = true := by
 cases r with
 | none => exact bf h
 | some o =>
  obtain ⟨oc, od, d, sl⟩ := o
  cases d with
  | cls cd => exact ⟨_, _, cd, _, rfl, h⟩
  | _ => exact bf h
theorem k8 {f : List (Option Value) → Bool} {l : List (Option Value)} (h : Dc f l = true) : ∃ a r, l = a :: r ∧ f r = true := by
 cases l with
 | nil => exact bf h
 | cons a r => exact ⟨a, r, rfl, h⟩
theorem Ae {l : List (Option Value)} (h0 : newX l = true) : ∃ k0 k1 k2 k3 k5, l = [k0, k1, k2, k3, some (.builtin "Exception.__new__"), k5] := by
 obtain ⟨k0, l, rfl, h1⟩ := k8 h0
 obtain ⟨k1, l, rfl, h2⟩ := k8 h1
 obtain ⟨k2, l, rfl, h3⟩ := k8 h2
 obtain ⟨k3, l, rfl, h4⟩ := k8 h3
 cases l with
 | nil => exact bf h4
 | cons u l =>
  refine (ao h4).elim fun q1 q2 => ?_
  obtain ⟨u, rfl, q1⟩ := jD q1
  obtain ⟨k5, l, rfl, q2⟩ := k8 q2
  refine ae (f6 q1) ?_; refine ae (sY q2) ?_
  exact ⟨k0, k1, k2, k3, k5, rfl⟩
theorem Af {C : Nat} {l : List Value} (h : EN C l = true) : ∃ bm, l = .ref C :: bm ∧ bm.contains (.type "Exception") = true ∧ bm.contains (.type "AttributeError") = false ∧ bm.contains (.type "NameError") = false := by
 cases l with
 | nil => exact bf h
 | cons u bm =>
  have h : (eS u C && (bm.contains (.type "Exception") && (!(bm.contains (.type "AttributeError")) && !(bm.contains (.type "NameError"))))) = true := h
  exact ⟨bm, by refine ae (cR (aM h)) ?_; rfl, aM (ai h), kY (aM (ai (ai h))), kY (ai (ai (ai h)))⟩
theorem ow {K : Frag} {C : Nat} (h : sT K C = true) {hp : Heap} (X : K.In hp) : nB hp C := by
 delta sT at h
 refine (ao h).elim fun h h3 => ?_
 refine (ao h).elim fun h1 h2 => ?_
 obtain ⟨oc, od, cd, sl, hk, q⟩ := yd h1
 obtain ⟨k0, k1, k2, k3, k5, hs⟩ := Ae (aM (ai (ai (ai q))))
 obtain ⟨bm, hm, m1, m2, m3⟩ := Af (ai (ai (ai (ai q))))
 obtain ⟨nm, bs, mro, ns, qn, hd, sn, sub, ab, col, del⟩ := cd
 obtain rfl := dJ (aM q)
 obtain rfl : ab = false := kY (aM (ai q))
 obtain rfl : del = false := kY (aM (ai (ai q)))
 obtain rfl : mro = .ref C :: bm := hm
 obtain rfl : sl = #[k0, k1, k2, k3, some (.builtin "Exception.__new__"), k5] := Array.toList_inj.mp hs
 exact ⟨⟨nm, qn, ns, bs, bm, hd, sn, sub, col, od, k0, k1, k2, k3, k5, X _ _ hk, m1, m2, m3⟩, fun M => looks_specialIn X (kX h2), fun M => looks_instIn X (eI h3)⟩
theorem oy {C : Nat} {k : gT} (h : sU Z.K Z.nm C k = true) : fp Z C k :=
 ⟨kX (aM h), aM (ai h), aM (ai (ai h)), fun f hf => om (lP (aM (ai (ai (ai h)))) f hf),
  fun m f hm => have q : (sP (findIn Z.K (.ref C) (Z.nm m)) f && xY (typeIn Z.K (.ref f)) "function") = true := lP (aM (ai (ai (ai (ai h))))) _ (bB hm); ⟨oq (aM q), tW (ai q)⟩,
  fun hp X => ow (aM (ai (ai (ai (ai (ai h)))))) X, ai (ai (ai (ai (ai (ai h)))))⟩
theorem jF {K : Frag} {h : Heap} (X : K.In h) {ns : Addr} {m : Str → Option Value} (hn : h.Ns ns m) {name : Str} {r : Option Value} (e : nsIn K ns name = some r) : m name = r := by
 delta nsIn at e
 generalize hk : K.lookup ns = o at e
 cases o with
 | none => exact no e
 | some o =>
 obtain ⟨c, d, dt, n⟩ := o
 cases dt with
 | dict es sl =>
  obtain ⟨o', CY, AQ, h1, h2, h3, h4⟩ := hn
  cases (X _ _ hk).symm.trans h1
  cases h2
  refine bK (h4 name) ?_
  dsimp only [nsFind, findBy]
  refine bK (Array.find?_toList) ?_
  replace e : PySem.W.getL name es.toList = some r := e
  delta PySem.W.getL at e
  generalize es.toList.find? (fun x => x.key.isStr name) = q at e
  cases q with
  | some en => exact aO e
  | none =>
   by_cases q : es.toList.any (fun x => x.refKey) = true
   ·exact no ((if_pos q).symm.trans e)
   ·exact aO ((if_neg q).symm.trans e)
 | _ => exact no e
set_option tactic.hygienic true in
theorem lN (X : Z.K.In Z.h₀) (hg : Z.h₀.Ns mainGlobals Z.mg) (hb : Z.h₀.Ns builtinsNs Z.mb) {x : Nat} {v : V} (h : jE Z.K Z.nm x v = true) : ∃ u, (Z.mg (Z.nm x) = some u ∨ (Z.mg (Z.nm x) = none ∧ Z.mb (Z.nm x) = some u)) ∧ ∀ c, VR c v u := by
 delta jE at h
 split at h
 ·rename_i u hu; exact ⟨u, .inl (jF X hg hu), iY h⟩
 ·rename_i hu
  split at h
  ·rename_i u NC; exact ⟨u, .inr ⟨jF X hg hu, jF X hb NC⟩, iY h⟩
  ·cases h
 ·cases h
end
end aD
end
section
open PySem PySem.Calls PyProof.Rows PySem.W PySem.SeqAt PySem.Builtin
set_option maxRecDepth 100000
namespace aD
noncomputable def fL (dg mx nu sz : Nat) : List S := [
 .asg (.loc sz) (.ite_ (.cmp (.loc nu) [.ge] [.cst (.int (.lit 0))]) (.loc nu) (.bin .sub (.neg (.cst (.int (.lit 1)))) (.loc nu))),
 .bE (.cmp (.loc sz) [.ge] [.bin .pow (.cst (.int (.lit 10))) (.cst (.int (.lit 18)))]) [.asg (.loc dg) (.bin .add (.bin .mul (.loc dg) (.loc sz)) (.loc sz))] [],
 .asg (.loc mx) (.bin .mod (.bin .add (.bin .add (.bin .mul (.loc mx) (.cst (.int (.lit 48271)))) (.bin .mod (.loc sz) (.cst (.int (.lit 2147483629))))) (.cst (.int (.lit 7919)))) (.cst (.int (.lit 2147483647))))]
noncomputable def gR (p dg mx nu sz : Nat) (cC : Int) : Fn := ⟨[p], [], [], [
 .asg (.tup [dg, mx]) (.tup [.cst (.int (.lit 0)), .cst (.int (.lit cC))]),
 .for_ [nu] (.loc p) (fL dg mx nu sz),
 .ret (some (.lst [.loc dg, .loc mx]))]⟩
section
variable {Γ : Ctx} {B : AS}
theorem Bl {k : Nat} {e e' : E} {x y : Int} (h1 : (bH Γ (k + 1)).e e B = ok (.int (.lit x)) B) (h2 : (bH Γ (k + 1)).e e' B = ok (.int (.lit y)) B) : (bH Γ (k + 2)).c (.cmp e [.ge] [e']) B = ok (decide (y ≤ x)) B := by
 refine (?_ : Res.bind ((bH Γ (k + 1)).e e B) (fun a A => Res.bind ((bH Γ (k + 1)).e e' A) fun b A => ea A .ge a b) = _)
 rw [h1, aG, h2, aG]
 have q : nj B .ge (.int (.lit x)) (.int (.lit y)) = some (decide (y ≤ x)) := by
  refine (?_ : (if x + 1 ≤ y then some true else if y + 1 ≤ x + 1 then some false else none).map not = _)
  by_cases h : y ≤ x
  ·refine ae (if_neg (by omega)) ?_; refine ae (if_pos (by omega)) ?_; refine ae (decide_eq_true h) ?_; rfl
  ·refine ae (if_pos (by omega)) ?_; refine ae (decide_eq_false h) ?_; rfl
 dsimp only [ea]
 refine ae q ?_; rfl
theorem ye {k : Nat} {c a b : E} {t : Bool} (h : (bH Γ (k + 1)).c c B = ok t B) : (bH Γ (k + 2)).e (.ite_ c a b) B = (bH Γ (k + 1)).e (if t then a else b) B := by
 refine (?_ : Res.bind ((bH Γ (k + 1)).c c B) (fun t A => Bool.rec (motive := fun _ => Res V) ((bH Γ (k + 1)).e b A) ((bH Γ (k + 1)).e a A) t) = _)
 rw [h, aG]
 cases t <;> rfl
theorem yf {k : Nat} {c : E} {a b : List S} {t : Bool} (h : (bH Γ (k + 1)).c c B = ok t B) : (bH Γ (k + 2)).s (.bE c a b) B = aX (bH Γ (k + 1)) (if t then a else b) B := by
 refine (?_ : Res.bind ((bH Γ (k + 1)).c c B) (fun t A => aX (bH Γ (k + 1)) (Bool.rec (motive := fun _ => List S) b a t) A) = _)
 rw [h, aG]
 cases t <;> rfl
set_option tactic.hygienic true in
theorem st_loc {k : Nat} {x : Nat} {e : E} {v : V} (h : (bH Γ (k + 1)).e e B = ok v B) : (bH Γ (k + 2)).s (.asg (.loc x) e) B = ok .next (aN x v B) := by
 refine (?_ : Res.bind ((bH Γ (k + 1)).e e B) (fun v A => Res.bind (ok () (aN x v A)) fun J A => ok Fl.next A) = _)
 rw [h, aG, aG]
set_option tactic.hygienic true in
theorem yg {k : Nat} {t : T} {e : E} : (bH Γ (k + 2)).s (.asg t e) B = Res.bind ((bH Γ (k + 1)).e e B) fun v A => Res.bind (asg Γ (bH Γ (k + 1)) t v A) fun J A => ok Fl.next A := rfl
theorem Ag {k : Nat} {e : E} {u : V} {B' : AS} (he : (bH Γ (k + 1)).e e B = ok u B') : (bH Γ (k + 2)).s (.ret (some e)) B = ok (.ret u) B' := by
 refine (?_ : Res.bind ((bH Γ (k + 1)).e e B) (fun v A => ok (Fl.ret v) A) = _)
 rw [he, aG]
theorem cS {x : Nat} {v : V} : af x (aN x v B).locs = some v := by
 refine (?_ : af x (fj x v B.locs) = _)
 rw [bG, if_pos rfl]
theorem cD {x y : Nat} {v : V} (h : x ≠ y) : af x (aN y v B).locs = af x B.locs := by
 refine (?_ : af x (fj y v B.locs) = _)
 rw [bG, if_neg h]
theorem vL (j : Nat) {x : Nat} (h : x ≤ max (j * (2 ^ 20 + 2) + 2 ^ 20) (2 ^ 20) + 1) : x ≤ (j + 1) * (2 ^ 20 + 2) := by
 generalize 2 ^ 20 = y at h ⊢
 rw [Nat.add_mul, Nat.one_mul]
 generalize j * (y + 2) = z at h ⊢
 omega
set_option tactic.hygienic true in
theorem vM (k : Nat) {dg mx nu sz j : Nat} {x d m : Int} (hn : af nu B.locs = some (.int (.lit x))) (hd : af dg B.locs = some (.int (.lit d))) (hm : af mx B.locs = some (.int (.lit m)))
 (n1 : dg ≠ mx) (n2 : dg ≠ sz) (n3 : mx ≠ sz) (hj : j ≤ 62) (bx : Int.intBits x ≤ 2 ^ 20) (bd : Int.intBits d ≤ j * (2 ^ 20 + 2)) (d0 : 0 ≤ d) (m0 : 0 ≤ m) (m1 : m < 2147483647) :
 ∃ d' m' B', aX (bH Γ (k + 9)) (fL dg mx nu sz) B = ok .next B' ∧ (B'.heap = B.heap ∧ B'.n = B.n ∧ B'.hd = B.hd) ∧ B'.vars = B.vars ∧ af dg B'.locs = some (.int (.lit d')) ∧ af mx B'.locs = some (.int (.lit m')) ∧ Int.intBits d' ≤ (j + 1) * (2 ^ 20 + 2) ∧ 0 ≤ d' ∧ 0 ≤ m' ∧ m' < 2147483647 := by
 obtain ⟨z, hz, z0, bz⟩ : ∃ z : Int, (bH Γ (k + 8)).e (.ite_ (.cmp (.loc nu) [.ge] [.cst (.int (.lit 0))]) (.loc nu) (.bin .sub (.neg (.cst (.int (.lit 1)))) (.loc nu))) B = ok (.int (.lit z)) B ∧ 0 ≤ z ∧ Int.intBits z ≤ 2 ^ 20 := by
  have t := Bl (Γ := Γ) (k := k + 5) (b0 (k := k + 5) hn) (eu (k := k + 5) (v := .int (.lit 0)))
  by_cases h : 0 ≤ x
  ·refine ⟨x, ?_, h, bx⟩
   refine ae (ye (k := k + 6) t) ?_; refine ae (decide_eq_true h) ?_; refine ae (if_pos rfl) ?_
   exact b0 (k := k + 6) hn
  ·refine ⟨-1 - x, ?_, by omega, bits_of_natAbs_le (by omega) bx⟩
   refine ae (ye (k := k + 6) t) ?_; refine ae (decide_eq_false h) ?_; refine ae (if_neg (by decide)) ?_
   exact bV (k := k + 5) (u := .int (.lit (-1))) (by rfl) (b0 (k := k + 5) hn) rfl
 have s1 := st_loc (Γ := Γ) (k := k + 7) (x := sz) hz
 generalize FG : aN sz (.int (.lit z)) B = B1 at s1
 have Cv : af sz B1.locs = some (.int (.lit z)) := by refine bK FG ?_; exact cS
 have B5 : af dg B1.locs = some (.int (.lit d)) := by refine bK FG ?_; refine ae (cD n2) ?_; exact hd
 have ER : af mx B1.locs = some (.int (.lit m)) := by refine bK FG ?_; refine ae (cD n3) ?_; exact hm
 have e1 : (B1.heap = B.heap ∧ B1.n = B.n ∧ B1.hd = B.hd) ∧ B1.vars = B.vars := by refine bK FG ?_; exact ⟨⟨rfl, rfl, rfl⟩, rfl⟩
 obtain ⟨d', B2, s2, e2, hd2, ND, Ex, NF, NG⟩ : ∃ d' B2, (bH Γ (k + 9)).s (.bE (.cmp (.loc sz) [.ge] [.bin .pow (.cst (.int (.lit 10))) (.cst (.int (.lit 18)))]) [.asg (.loc dg) (.bin .add (.bin .mul (.loc dg) (.loc sz)) (.loc sz))] []) B1 = ok .next B2 ∧
  ((B2.heap = B1.heap ∧ B2.n = B1.n ∧ B2.hd = B1.hd) ∧ B2.vars = B1.vars) ∧ af dg B2.locs = some (.int (.lit d')) ∧ af mx B2.locs = some (.int (.lit m)) ∧ af sz B2.locs = some (.int (.lit z)) ∧ Int.intBits d' ≤ (j + 1) * (2 ^ 20 + 2) ∧ 0 ≤ d' := by
  have p := bV (Γ := Γ) (B := B1) (k := k + 5) (o := .pow) (e := .cst (.int (.lit 10))) (e' := .cst (.int (.lit 18))) (w := .int (.lit 1000000000000000000)) rfl rfl rfl
  have t := Bl (Γ := Γ) (k := k + 6) (b0 (k := k + 6) Cv) p
  have bm : Int.intBits (d * z) ≤ j * (2 ^ 20 + 2) + 2 ^ 20 := bits_mul bd bz
  by_cases h : 1000000000000000000 ≤ z
  ·have q1 : ee .mul (.int (.lit d)) (.int (.lit z)) B1 = ok (.int (.lit (d * z))) B1 := jB (.inr (by omega))
   have a1 := bV (Γ := Γ) (k := k + 5) (bV (k := k + 4) (b0 (k := k + 4) B5) (b0 (k := k + 4) Cv) q1) (b0 (k := k + 5) Cv) (o := .add) (w := .int (.lit (d * z + z))) rfl
   refine ⟨d * z + z, aN dg (.int (.lit (d * z + z))) B1, ?_, ⟨⟨rfl, rfl, rfl⟩, rfl⟩, cS, by refine ae (cD n1.symm) ?_; exact ER, by refine ae (cD n2.symm) ?_; exact Cv, ?_, Int.add_nonneg (Int.mul_nonneg d0 z0) z0⟩
   ·refine ae (yf (k := k + 7) t) ?_; refine ae (decide_eq_true h) ?_; refine ae (if_pos rfl) ?_; refine ae (cB (st_loc (k := k + 6) a1)) ?_; rfl
   ·exact vL j (bits_add bm bz)
  ·refine ⟨d, B1, ?_, ⟨⟨rfl, rfl, rfl⟩, rfl⟩, B5, ER, Cv, Nat.le_trans bd (Nat.mul_le_mul_right _ (Nat.le_succ j)), d0⟩
   refine ae (yf (k := k + 7) t) ?_; refine ae (decide_eq_false h) ?_; refine ae (if_neg (by decide)) ?_; rfl
 have q1 : ee .mul (.int (.lit m)) (.int (.lit 48271)) B2 = ok (.int (.lit (m * 48271))) B2 := jB (.inl (by decide))
 have q2 : ee .mod (.int (.lit z)) (.int (.lit 2147483629)) B2 = ok (.int (.lit (z.fmod 2147483629))) B2 := fY (by decide)
 have q3 : ∀ y : Int, ee .mod (.int (.lit y)) (.int (.lit 2147483647)) B2 = ok (.int (.lit (y.fmod 2147483647))) B2 := fun y => fY (by decide)
 have a1 := bV (Γ := Γ) (k := k + 4) (o := .add) (w := .int (.lit (m * 48271 + z.fmod 2147483629))) (bV (k := k + 3) (b0 (k := k + 3) ND) (eu (k := k + 3)) q1) (bV (k := k + 3) (b0 (k := k + 3) Ex) (eu (k := k + 3)) q2) rfl
 have a2 := bV (Γ := Γ) (k := k + 6) (bV (k := k + 5) (o := .add) (w := .int (.lit (m * 48271 + z.fmod 2147483629 + 7919))) a1 (eu (k := k + 5) (v := .int (.lit 7919))) rfl) (eu (k := k + 6)) (q3 _)
 have s3 := st_loc (k := k + 7) (x := mx) a2
 refine ⟨d', (m * 48271 + z.fmod 2147483629 + 7919).fmod 2147483647, aN mx (.int (.lit ((m * 48271 + z.fmod 2147483629 + 7919).fmod 2147483647))) B2, ?_, ?_, ?_, ?_, cS, NF, NG, ?_, ?_⟩
 ·refine ae (cB s1) ?_; refine ae (cB s2) ?_; refine ae (cB s3) ?_; rfl
 ·exact ⟨e2.1.1.trans e1.1.1, e2.1.2.1.trans e1.1.2.1, e2.1.2.2.trans e1.1.2.2⟩
 ·exact e2.2.trans e1.2
 ·refine ae (cD n1) ?_; exact hd2
 ·refine ae (Int.fmod_eq_emod_of_nonneg _ (by decide)) ?_; exact Int.emod_nonneg _ (by decide)
 ·refine ae (Int.fmod_eq_emod_of_nonneg _ (by decide)) ?_; exact Int.emod_lt_of_pos _ (by decide)
inductive ES (Γ : Ctx) (k dg mx nu sz i q n : Nat) (B : AS) : Prop
 | mk (d' m' : Int) (B' : AS) (run : loop (bH Γ (k + 9)) [nu] (fL dg mx nu sz) n (.lst i q) B = ok .next B') (same : B'.heap = B.heap ∧ B'.n = B.n ∧ B'.hd = B.hd) (vs : B'.vars = B.vars) (ld : af dg B'.locs = some (.int (.lit d'))) (lm : af mx B'.locs = some (.int (.lit m'))) (d0 : 0 ≤ d') (m0 : 0 ≤ m') (m1 : m' < 2147483647)
theorem vN (k : Nat) {dg mx nu sz i r : Nat} {xs : List Int} (n1 : dg ≠ mx) (n2 : dg ≠ sz) (n3 : mx ≠ sz) (n4 : dg ≠ nu) (n5 : mx ≠ nu) (bx : ∀ x ∈ xs, Int.intBits x ≤ 2 ^ 20) (hl : xs.length ≤ 63) : ∀ (l q n : Nat) (B : AS) (d m : Int), q + l = xs.length → l < n → B.heap.get i = some (.rl r (xs.map fun x => .int (.lit x))) → af dg B.locs = some (.int (.lit d)) → af mx B.locs = some (.int (.lit m)) →
 Int.intBits d ≤ q * (2 ^ 20 + 2) → 0 ≤ d → 0 ≤ m → m < 2147483647 →
 ES Γ k dg mx nu sz i q n B := by
 intro l q n
 induction n generalizing l q with
 | zero => exact fun B d m hq hn => absurd hn (Nat.not_lt_zero _)
 | succ n ih =>
  intro B d m hq hn hh hd hm bd d0 m0 m1
  cases l with
  | zero =>
   refine ⟨d, m, B, ?_, ⟨rfl, rfl, rfl⟩, rfl, hd, hm, d0, m0, m1⟩
   have h : cJ (.lst i q) B = some (.fin, B) := by
    dsimp only [cJ]
    refine ae hh ?_
    dsimp only
    rw [bJ, List.getElem?_eq_none (by rw [List.length_map]; omega)]
   refine (?_ : (cJ (.lst i q) B).bind _ = _)
   refine ae h ?_; rfl
  | succ l =>
   have fi : q < xs.length := by omega
   have h : cJ (.lst i q) B = some (.one (.int (.lit xs[q])) (.lst i (q + 1)), B) := by
    dsimp only [cJ]
    refine ae hh ?_
    dsimp only
    rw [bJ, List.getElem?_map, List.getElem?_eq_getElem fi]; rfl
   obtain ⟨d', m', B', r1, r2, r3, r4, r5, r6, r7, r8, r9⟩ := vM (Γ := Γ) (B := aN nu (.int (.lit xs[q])) B) k (nu := nu) (sz := sz) (j := q) cS (by refine ae (cD n4) ?_; exact hd) (by refine ae (cD n5) ?_; exact hm) n1 n2 n3 (by omega) (bx _ (List.getElem_mem fi)) bd d0 m0 m1
   obtain ⟨d2, m2, B2, t1, t2, t3, t4, t5, t6, t7, t8⟩ := ih l (q + 1) B' d' m' (by omega) (by omega) (by refine ae r2.1 ?_; exact hh) r4 r5 r6 r7 r8 r9
   refine ⟨d2, m2, B2, ?_, ⟨t2.1.trans r2.1, t2.2.1.trans r2.2.1, t2.2.2.trans r2.2.2⟩, t3.trans r3, t4, t5, t6, t7, t8⟩
   refine (?_ : (cJ (.lst i q) B).bind _ = _)
   refine ae h ?_
   refine (?_ : Res.bind (aX _ _ (aN nu _ B)) _ = _)
   rw [r1, aG]
   exact t1
inductive ET (o : Option (bC Fl)) (B : AS) (cC : Int) : Prop
 | mk (d m : Int) (B' : AS) (run : o = some (.one (.ret (.loc (B.n + 1))) B')) (hp : B'.heap = (B.heap.put B.n (.tup [.int (.lit 0), .int (.lit cC)])).put (B.n + 1) (.list [.int (.lit d), .int (.lit m)])) (n : B'.n = B.n + 1 + 1) (hd : B'.hd = none) (vs : B'.vars = B.vars) (d0 : 0 ≤ d) (m0 : 0 ≤ m) (m1 : m < 2147483647)
set_option tactic.hygienic true in
theorem yh (k : Nat) {p dg mx nu sz i r : Nat} {cC : Int} {xs : List Int} (hq : B.hd = none) (hh : B.heap.get i = some (.rl r (xs.map fun x => .int (.lit x)))) (hi : i ≠ B.n) (hp : af p B.locs = some (.loc i)) (n1 : dg ≠ mx) (n2 : dg ≠ sz) (n3 : mx ≠ sz) (n4 : dg ≠ nu) (n5 : mx ≠ nu) (n6 : p ≠ dg) (n7 : p ≠ mx) (s0 : 0 ≤ cC) (s1 : cC < 2147483647)
 (bx : ∀ x ∈ xs, Int.intBits x ≤ 2 ^ 20) (hl : xs.length ≤ 63) : ET (aX (bH Γ (k + 10)) (gR p dg mx nu sz cC).body B) B cC := by
 let B1 : AS := aN mx (.int (.lit cC)) (aN dg (.int (.lit 0)) (B.alloc (.tup [.int (.lit 0), .int (.lit cC)])).2)
 have a1 : (bH Γ (k + 10)).s (.asg (.tup [dg, mx]) (.tup [.cst (.int (.lit 0)), .cst (.int (.lit cC))])) B = ok .next B1 := by
  have q1 : (bH Γ (k + 9)).e (.tup [.cst (.int (.lit 0)), .cst (.int (.lit cC))]) B = ok (.loc B.n) (B.alloc (.tup [.int (.lit 0), .int (.lit cC)])).2 := rfl
  have q2 : asg Γ (bH Γ (k + 9)) (.tup [dg, mx]) (.loc B.n) (B.alloc (.tup [.int (.lit 0), .int (.lit cC)])).2 = ok () B1 := by
   dsimp only [asg]
   dsimp only [jO]
   refine ae (show (B.alloc (.tup [.int (.lit 0), .int (.lit cC)])).2.heap.get B.n = some (.tup [.int (.lit 0), .int (.lit cC)]) from (Tr.ba _ _ _ _).trans (if_pos rfl)) ?_
   refine ae (show (B.alloc (.tup [.int (.lit 0), .int (.lit cC)])).2.hd = none from hq) ?_
   rfl
  rw [yg (k := k + 8), q1, aG, q2, aG]
 obtain ⟨d, m, B2, r1, r2, r3, r4, r5, r6, r7, r8⟩ := vN (Γ := Γ) k (nu := nu) (sz := sz) (i := i) (r := r) (xs := xs) n1 n2 n3 n4 n5 bx hl xs.length 0 300 B1 0 cC (by omega) (by omega) (by refine (?_ : (B.heap.put B.n _).get i = _); rw [Tr.ba, if_neg hi]; exact hh) (by skip; refine ae (cD n1) ?_; exact cS) cS (by decide) (by decide) s0 s1
 have a2 : (bH Γ (k + 10)).s (.for_ [nu] (.loc p) (fL dg mx nu sz)) B1 = ok .next B2 := by
  have q1 : (bH Γ (k + 9)).e (.loc p) B1 = ok (.loc i) B1 := b0 (k := k + 8) (by skip; refine ae (cD n7) ?_; refine ae (cD n6) ?_; exact hp)
  refine (?_ : Res.bind ((bH Γ (k + 9)).e (.loc p) B1) (fun v A => match cV v A with | some (it, A) => if A.hd.isNone = true then ef (loop (bH Γ (k + 9)) [nu] (fL dg mx nu sz) 300 it A) else none | none => none) = _)
  rw [q1, aG]
  have q2 : cV (.loc i) B1 = some (.lst i 0, B1) := by
   dsimp only [cV]
   refine ae (show B1.heap.get i = some (.rl r (xs.map fun x => .int (.lit x))) from (by show (B.heap.put B.n _).get i = _; rw [Tr.ba, if_neg hi]; exact hh)) ?_; rfl
  refine ae q2 ?_
  dsimp only
  refine ae (show B1.hd = none from hq) ?_; refine ae (if_pos (by rfl)) ?_; refine ae r1 ?_; rfl
 have hlen : B2.n = B.n + 1 := r2.2.1
 refine ⟨d, m, (B2.alloc (.list [.int (.lit d), .int (.lit m)])).2, ?_, ?_, ?_, r2.2.2.trans hq, r3, r6, r7, r8⟩
 ·refine (?_ : aX (bH Γ (k + 10)) (_ :: _ :: _ :: []) B = _)
  refine ae (cB a1) ?_; refine ae (cB a2) ?_
  refine jC (Ag (k := k + 8) ?_)
  have e1 := b0 (Γ := Γ) (B := B2) (k := k + 7) r4
  have e2 := b0 (Γ := Γ) (B := B2) (k := k + 7) r5
  refine (?_ : Res.bind (Res.bind ((bH Γ (k + 8)).e (.loc dg) B2) fun v A => Res.bind (Res.bind ((bH Γ (k + 8)).e (.loc mx) A) fun v A => Res.bind (ok [] A) fun vs A => ok (v :: vs) A) fun vs A => ok (v :: vs) A) (fun vs A => we vs A) = _)
  rw [e1, aG, e2, aG, aG, aG, aG]
  refine (?_ : ok (V.loc B2.n) _ = _)
  refine ae hlen ?_; rfl
 ·refine (?_ : B2.heap.put B2.n _ = _)
  refine ae hlen ?_; refine ae r2.1 ?_; rfl
 ·refine (?_ : B2.n + 1 = _)
  refine ae hlen ?_; rfl
end
noncomputable def hide (ps : List Nat) (h : Heap) : Heap := ⟨h.objs.mapIdx fun i o => if i ∈ ps then { o with data := .freed } else o, h.life⟩
theorem k9 {ps : List Nat} {h : Heap} {b : Nat} : (hide ps h).get? b = if b ∈ ps then none else h.get? b := by
 delta Heap.get? hide
 dsimp -iota only
 refine ae (Array.getElem?_mapIdx) ?_
 by_cases q : b ∈ ps
 ·refine ae (if_pos q) ?_
  cases h.objs[b]? with
  | none => rfl
  | some o => simp only [Option.map_some, if_pos q]
 ·refine ae (if_neg q) ?_
  cases h.objs[b]? with
  | none => rfl
  | some o => simp only [Option.map_some, if_neg q]
theorem eU {ps : List Nat} {h : Heap} {b : Nat} {o : Obj} (e : (hide ps h).get? b = some o) : h.get? b = some o ∧ b ∉ ps := by
 rw [k9] at e
 by_cases q : b ∈ ps
 ·rw [if_pos q] at e; cases e
 ·rw [if_neg q] at e; exact ⟨e, q⟩
theorem c9 {ps : List Nat} {h : Heap} {b : Nat} {o : Obj} (e : h.get? b = some o) (q : b ∉ ps) : (hide ps h).get? b = some o := by refine ae k9 ?_; refine ae (if_neg q) ?_; exact e
theorem oz {ps : List Nat} {h : Heap} {b : Nat} (q : b ∈ ps) : (hide ps h).get? b = none := by refine ae k9 ?_; refine ae (if_pos q) ?_; rfl
noncomputable def aL.on (Z : aL) (h : Heap) : aL := { Z with h₀ := h }
section
variable {Z : aL} {h : Heap}
theorem lg {h h' : Heap} (k : ∀ b o, h.get? b = some o → h'.get? b = some o) {a : Addr} {m : Str → Option Value} (x : h.Ns a m) : h'.Ns a m := by
 refine (x).elim fun o aj => (aj).elim fun es ay => (ay).elim fun n aP => (aP).elim fun h1 h2 => ?_
 exact ⟨o, es, n, k _ _ h1, h2⟩
theorem vO {h h' : Heap} (k : ∀ b o, h.get? b = some o → h'.get? b = some o) {m : Str → Option Value} {P : Nat} (x : h.BuiltinsAt m P) : h'.BuiltinsAt m P := by
 refine (x).elim fun bm aj => (aj).elim fun ob ay => (ay).elim fun b1 aP => (aP).elim fun b2 bF => (bF).elim fun b3 cZ => (cZ).elim fun b4 ia => (ia).elim fun b5 b6 => ?_
 exact ⟨bm, ob, b1, b2, b3, b4, k _ _ b5, b6⟩
theorem g8.on {C : Nat} {k : gT} (O : g8 Z C k) : g8 (Z.on h) C k := ⟨O.ga, O.sa, O.gt, O.over, O.BJ, O.hd, O.dp, O.meth, O.uk, O.kp⟩
theorem fp.on {C : Nat} {k : gT} (O : fp Z C k) : fp (Z.on h) C k := ⟨O.sa, O.over, O.hd, O.dp, O.meth, O.BJ, O.kp⟩
theorem aL.Glob.on (G : Z.Glob) (k : ∀ b o, Z.h₀.get? b = some o → h.get? b = some o) (kt : ∀ P ∈ Z.tabs, h.get? P = none) : (Z.on h).Glob :=
 { g := lg k G.g, b := lg k G.b, inj := G.inj, sys := by refine (G.sys).elim fun o e => ?_; exact ⟨o, k _ _ e⟩, k := fun a o e => k _ _ (G.k a o e), lim := G.lim.keeps k, yO := G.yO, oU := G.oU, oV := G.oV, i6 := G.i6, nC := G.nC, oW := G.oW, oX := G.oX, fb := G.fb, look := G.look,
   cls := fun C k h x => (G.cls C k h x).on, oY := fun C k bs h x => (G.oY C k bs h x).on, exc := G.exc, tabs := kt, CW := fun P hP => vO k (G.CW P hP), um := G.um, uq := G.uq }
theorem iO.on {a : Nat} {fn : Fn} (k : ∀ b o, Z.h₀.get? b = some o → h.get? b = some o) (x : iO Z a fn) : iO (Z.on h) a fn := by
 refine (x.ex).elim fun oc aj => (aj).elim fun od ay => (ay).elim fun uT aP => (aP).elim fun fd bF => (bF).elim fun body cZ => (cZ).elim fun m ia => (ia).elim fun k1 pL => (pL).elim fun k3 rV => (rV).elim fun D CO => ?_
 exact ⟨oc, od, uT, fd, body, m, k1, k3, D, fun q => by refine (CO q).elim fun c aj => (aj).elim fun P ay => (ay).elim fun e aP => (aP).elim fun hd hP => ?_; exact ⟨c, P, e, hd.keeps k, hP⟩⟩
structure Known (Z : aL) (tk a b d : Nat) : Prop where
 fn : ∀ x fn, af x Z.Γ.fns = some fn → iO Z x fn
 tq : Z.Γ.take = some tk
 take : af tk Z.Γ.fns = some (eR a b d)
 ab : a ≠ b
 ad : a ≠ d
 bd : b ≠ d
 K3 : fnIn Z.K tk = true
theorem Known.fns (G : Z.Glob) {tk a b d : Nat} (k : Known Z tk a b d) : tJ Z :=
 ⟨k.fn, CD G k.fn (fun x e => by rw [k.tq] at e; exact (aO e).symm) k.take k.ab k.ad k.bd, fun x e => by rw [k.tq] at e; obtain rfl := aO e; exact k.K3⟩
theorem Known.on (kk : ∀ b o, Z.h₀.get? b = some o → h.get? b = some o) {tk a b d : Nat} (k : Known Z tk a b d) : Known (Z.on h) tk a b d := ⟨fun x fn e => (k.fn x fn e).on kk, k.tq, k.take, k.ab, k.ad, k.bd, k.K3⟩
end
structure iy (Γ : Ctx) where
 a : Nat
 p : Nat
 sr : Nat
 gp : Nat
 ap : Nat
 dg : Nat
 mx : Nat
 nu : Nat
 sz : Nat
 cC : Int
 pre : List S
 t : Nat
 it : E
 b1 : List S
 b2 : List S
 post : List S
noncomputable def iy.fn {Γ : Ctx} (w : iy Γ) : Fn := ⟨[w.p], [], [], .asg (.loc w.sr) (.call (.aH w.gp) [.loc w.p]) :: (w.pre ++ .for_ [w.t] w.it (w.b1 ++ w.b2) :: w.post)⟩
noncomputable def iy.start {Γ : Ctx} (w : iy Γ) : AS := { heap := Tr.yC [.src], n := 1, locs := [(w.sr, .loc 0)], cells := [], vars := [] }
structure tZ {Γ : Ctx} (w : iy Γ) (n : Nat) (f : Nat → LS × List Nat) (gQ ju : List (List Nat)) (lp : List (List Nat)) : Prop where
 fn : af w.a Γ.fns = some w.fn
 nt : Γ.take ≠ some w.a
 np : Γ.take ≠ some w.ap
 gp : af w.gp Γ.glob = some (.fn w.ap)
 EU : af w.ap Γ.fns = some (gR w.p w.dg w.mx w.nu w.sz w.cC)
 d1 : w.dg ≠ w.mx
 d2 : w.dg ≠ w.sz
 d3 : w.mx ≠ w.sz
 d4 : w.dg ≠ w.nu
 d5 : w.mx ≠ w.nu
 d6 : w.p ≠ w.dg
 d7 : w.p ≠ w.mx
 d8 : w.sr ≠ w.p
 s0 : 0 ≤ w.cC
 s1 : w.cC < 2147483647
 pre : tT (bH Γ (n + 13)) w.pre w.it (look f gQ) w.start lp = true
 turn : ∀ p ∈ iW f gQ, HC w.t p = true ∧ jk (bH Γ (n + 13)) w.b1 1 (look f ju) p = true
 mid : ∀ p ∈ iW f ju, jk (bH Γ (n + 13)) w.b2 0 (look f gQ) p = true
 post : ∀ p ∈ iW f gQ, qu (bH Γ (n + 13)) w.post p.1.as = true
inductive EV (o : Option (bC Fl)) (B : AS) (cC : Int) (sr : Nat) : Prop
 | mk (d m : Int) (B' : AS) (run : o = ok .next B') (hp : B'.heap = (B.heap.put B.n (.tup [.int (.lit 0), .int (.lit cC)])).put (B.n + 1) (.list [.int (.lit d), .int (.lit m)])) (n : B'.n = B.n + 1 + 1) (hd : B'.hd = none) (vs : B'.vars = B.vars) (cs : B'.cells = B.cells) (ls : B'.locs = fj sr (.loc (B.n + 1)) B.locs) (d0 : 0 ≤ d) (m0 : 0 ≤ m) (m1 : m < 2147483647)
theorem vP {Γ : Ctx} {w : iy Γ} {n : Nat} {f gQ ju lp} (W : tZ w n f gQ ju lp) {B : AS} {i r : Nat} {xs : List Int} (hq : B.hd = none) (hh : B.heap.get i = some (.rl r (xs.map fun x => .int (.lit x)))) (hi : i ≠ B.n) (hp : af w.p B.locs = some (.loc i)) (bx : ∀ x ∈ xs, Int.intBits x ≤ 2 ^ 20) (hl : xs.length ≤ 63) :
 EV ((bH Γ (n + 13)).s (.asg (.loc w.sr) (.call (.aH w.gp) [.loc w.p])) B) B w.cC w.sr := by
 obtain ⟨d, m, B', r1, r2, r3, r4, r5, r6, r7, r8⟩ := yh (Γ := Γ) (B := { B with locs := [(w.p, .loc i)], cells := [] }) (n + 1) (p := w.p) (i := i) hq hh hi (by rw [aK, if_pos rfl]) W.d1 W.d2 W.d3 W.d4 W.d5 W.d6 W.d7 W.s0 W.s1 bx hl
 have r1 : aX (bH Γ (n + 11)) (gR w.p w.dg w.mx w.nu w.sz w.cC).body { B with locs := [(w.p, .loc i)], cells := [] } = some (.one (.ret (.loc (B.n + 1))) B') := r1
 have xV : dO Γ (bH Γ (n + 11)) w.ap [.loc i] B = ok (.loc (B.n + 1)) { B' with locs := B.locs, cells := B.cells } := by
  exact pO W.np W.EU (show fk (gR w.p w.dg w.mx w.nu w.sz w.cC).params (gR w.p w.dg w.mx w.nu w.sz w.cC).params.length (gR w.p w.dg w.mx w.nu w.sz w.cC).dflts [.loc i] = some [(w.p, .loc i)] from rfl) rfl r1
 refine ⟨d, m, aN w.sr (.loc (B.n + 1)) { B' with locs := B.locs, cells := B.cells }, ?_, r2, r3, r4, r5, rfl, rfl, r6, r7, r8⟩
 refine ae (yg (k := n + 11)) ?_
 have q1 : (bH Γ (n + 11)).e (.aH w.gp) B = ok (.fn w.ap) B := by
  refine (?_ : bA (af w.gp Γ.glob) B = _)
  refine ae W.gp ?_; rfl
 have q2 : (bH Γ (n + 12)).e (.call (.aH w.gp) [.loc w.p]) B = ok (.loc (B.n + 1)) { B' with locs := B.locs, cells := B.cells } := by
  refine (?_ : Res.bind ((bH Γ (n + 11)).e (.aH w.gp) B) (fun f A => Res.bind (Res.bind ((bH Γ (n + 11)).e (.loc w.p) A) fun v A => Res.bind (ok [] A) fun vs A => ok (v :: vs) A) fun as A => lS Γ (bH Γ (n + 11)) f as A) = _)
  rw [q1, aG, b0 (k := n + 10) hp, aG, aG, aG]
  exact xV
 rw [q2, aG]
 rfl
section
variable {Z : aL} {n : Nat} {Ar : Around} {s : Shared}
theorem law_code (G : Z.Glob) {tk ta tb td : Nat} (Kn : Known Z tk ta tb td) {w : iy Z.Γ} {f gQ ju lp} (W : tZ w n f gQ ju lp) (hd : Ar.depth < recursionLimit) (hn : ∀ env : Env, env.scope.kind ≠ .module → (∃ b, env.frame = some b) → Room (n + 14) (Ar.deeper env) ⟨[], none, [env]⟩) (hh : ∀ env : Env, (Ar.deeper env).handled = none)
 (hg : s.gens = #[]) (oP : s.os = Z.tl) (Ah : ∀ P ∈ Z.tabs, TabAt s.heap P) {l : Addr} {vs : Array Value} {ep : Nat} {xs : List Int} (hl : s.heap.get? l = some { cls := .type "list", data := .seq vs ep }) (fi : l ∉ Z.tabs) (ky : ∀ b o, Z.h₀.get? b = some o ↔ (hide (l :: Z.tabs) s.heap).get? b = some o)
 (NH : aT (fun (x : Int) u => ∃ t, u = Value.int x t) xs vs.toList) (bx : ∀ x ∈ xs, Int.intBits x ≤ 2 ^ 20) (hlen : xs.length ≤ 63) :
 bj Z.M Ar (.call (.ref w.a) ⟨[.ref l], []⟩) (fun r s' => r = .ok (.ret (.bool true)) ∧ xM (Z.on (hide Z.tabs s.heap)) s') s := by
 let obj : Obj := { cls := .type "list", data := .seq vs ep }
 let c : Cfg := { ρ := { g := 0, i := fun J => 0, bo := fun J => (fun J => 0, obj) }, σ := fun J => (l, l), n := 1, nv := 1 }
 let A : AS := { heap := Tr.yC [.rl 0 (xs.map fun x => .int (.lit x))], n := 1, locs := [], cells := [], vars := [.oct] }
 have HK : ∀ {xs : List Int} {us : List Value}, aT (fun (x : Int) u => ∃ t, u = Value.int x t) xs us → aT (VR c) (xs.map fun x => .int (.lit x)) us := fun h => by
  induction h with
  | nil => exact .nil
  | cons h t ih => exact .cons ⟨trivial, h⟩ ih
 have AX : Z.h₀.get? l = none := by
  cases e : Z.h₀.get? l with
  | none => rfl
  | some o => exact absurd (eU ((ky l o).mp e)).2 (by simp)
 have one : ∀ i o, A.heap.get i = some o → i = 0 ∧ o = .rl 0 (xs.map fun x => .int (.lit x)) := fun i o e => by
  have e : (Tr.yC [ax.rl 0 (xs.map fun x => .int (.lit x))]).get i = some o := e
  rw [fX] at e
  cases i with
  | zero => exact ⟨rfl, (aO e).symm⟩
  | succ i => cases e
 have H : Hp Z c A s := {
  base := fun b o e => (eU ((ky b o).mp e)).1, gens := hg, os := oP, n := rfl, nv := rfl
  vars := fun k d e => by
   cases k with
   | zero => obtain rfl := aO e; exact trivial
   | succ k => cases e
  objs := fun i o e => by
   obtain ⟨rfl, rfl⟩ := one i o e
   exact ⟨Nat.lt_succ_self _, hl, vs, ep, rfl, HK NH⟩
  lt := fun i o e => by refine ae ((one i o e).1) ?_; exact Nat.lt_succ_self _
  lo := fun i J => ⟨AX, AX⟩
  up := fun i J => ⟨⟨_, hl⟩, ⟨_, hl⟩⟩
  apart := fun i j hi hj wG => absurd ((Nat.lt_one_iff.mp hi).trans (Nat.lt_one_iff.mp hj).symm) wG }
 have I := sound G (Kn.fns G) (n + 13)
 have k2 : ∀ b o, Z.h₀.get? b = some o → (hide Z.tabs s.heap).get? b = some o := fun b o e => by
  refine (eU ((ky b o).mp e)).elim fun h1 h2 => ?_
  exact c9 h1 fun q => h2 (.tail _ q)
 have G2 : (Z.on (hide Z.tabs s.heap)).Glob := G.on k2 fun P hP => oz hP
 have I2 : aC (Z.on (hide Z.tabs s.heap)) (n + 14) (bH Z.Γ (n + 13)) := sound G2 ((Kn.on (h := hide Z.tabs s.heap) k2).fns G2) (n + 13)
 have lF : s.heap.get? s.heap.objs.size = none := get_size _
 have K4 : (hide Z.tabs s.heap).get? s.heap.objs.size = none := by
  cases e : (hide Z.tabs s.heap).get? s.heap.objs.size with
  | none => rfl
  | some o => rw [(eU e).1] at lF; cases lF
 refine kA G hd H (hx := none) (frs := []) trivial (fun b hb => nomatch hb) Ah (Kn.fn w.a w.fn W.fn) (as := [.loc 0]) (us := [.ref l]) (.cons ⟨Nat.lt_succ_self _, rfl⟩ .nil) (ab := [(w.p, .loc 0)]) rfl fun {env aV c₁ m sc body} k3 hk hf q2 H1 N1 => ?_
 have ER : bW [(w.p, V.loc 0)] w.fn.cells A = (A, []) := rfl
 have HL : ([(w.p, V.loc 0)].filter fun b => !w.fn.cells.contains b.1) = [(w.p, V.loc 0)] := rfl
 rw [ER, HL] at H1
 rw [ER] at N1
 have hr := hn env hk ⟨_, hf⟩
 -- the text
 refine Classical.byContradiction fun bad => ?_
 obtain ⟨x0, body, rfl, e0, e1⟩ := aQ k3
 obtain ⟨CC, b2, rfl, e2, e3⟩ := gN (l1 := w.pre) e1
 obtain ⟨xl, xR, rfl, e4, e5⟩ := aQ e3
 obtain ⟨m, rfl⟩ : ∃ m', m = m' + 1 := by
  cases m with
  | zero => exact bf e4
  | succ m => exact ⟨m, rfl⟩
 obtain ⟨d, mm, B', EW, p1, p2, p3, p4, p5, p6, b1, b2, b3⟩ := vP W (B := { A with locs := [(w.p, .loc 0)], cells := [] }) (i := 0) (r := 0) rfl rfl Nat.zero_ne_one (by rw [aK, if_pos rfl]) bx hlen
 have HM := xQ hf (hh env) G2 (tL G2) (xp G2) I2 (by omega) hr (L := s.heap.objs.size) (env := env) e2 e4 e5 W.pre W.turn W.mid W.post
 refine bad ?_
 refine aa (au.one (fun l e => I.s e0 hf hr H1 N1 l (EW.trans e)) fun fl c2 s2 z2 z3 z4 => ?_)
 obtain rfl : fl = .next := z4
 have le2 : Le Z s.heap.objs.size c s c2 s2 := q2.trans z2
 let c3 : Cfg := { c2 with σ := fun J => c2.σ 2, n := 1, nv := 0 }
 have NI : c2.n = 3 := z3.n.trans p2
 have l2 : 2 < c2.n := by refine ae NI ?_; decide
 have EX : ∀ i, B'.heap.get i = if i = 2 then some (.list [.int (.lit d), .int (.lit mm)]) else if i = 1 then some (.tup [.int (.lit 0), .int (.lit w.cC)]) else A.heap.get i := fun i => by
  refine ae p1 ?_
  refine (?_ : ((A.heap.put 1 _).put 2 _).get i = _)
  rw [Tr.ba, Tr.ba]
 have H3 : St (Z.on (hide Z.tabs s.heap)) s.heap.objs.size ⟨[], none, [env]⟩ c3 w.start s2 := {
  base := fun b o e => by
   refine (eU e).elim fun e hb => ?_
   by_cases q : b = l
   ·subst q
    refine (z3.objs 0 (.rl 0 (xs.map fun x => .int (.lit x))) ((EX 0).trans (by refine ae (if_neg (by decide)) ?_; refine ae (if_neg (by decide)) ?_; rw [fX]; rfl))).elim fun _ aj => (aj).elim fun h2 _ => ?_
    have AO : (c2.σ 0).1 = b := congrArg Prod.fst (le2.σ 0 (Nat.lt_succ_self _))
    have NJ : c2.ρ.o 0 = obj := congrArg Prod.snd (le2.ρ 0 (Nat.lt_succ_self _)).2.1
    have hl : s.heap.get? b = some obj := hl
    rw [AO, NJ] at h2
    rw [hl] at e
    obtain rfl := aO e
    exact h2
   ·exact le2.old b o ((ky b o).mpr (c9 e fun hm => by
     rcases fg hm with h | h
     ·exact q h
     ·exact hb h)) e
  gens := z3.gens, os := z3.os, n := rfl, nv := rfl
  vars := fun k d e => by cases e
  objs := fun i o e => by
   have e : (Tr.yC [ax.src]).get i = some o := e
   rw [fX] at e
   cases i with
   | succ i => cases e
   | zero =>
    obtain rfl := aO e
    obtain ⟨J8, AQ, g1, g2⟩ := z3.objs 2 (.list [.int (.lit d), .int (.lit mm)]) ((EX 2).trans (if_pos rfl))
    obtain ⟨u1, u2, rfl⟩ := qw g2
    exact ⟨d, mm, u1, u2, AQ, g1, b1, b2, b3⟩
  lt := fun i o e => by
   have e : (Tr.yC [ax.src]).get i = some o := e
   rw [fX] at e
   cases i with
   | succ i => cases e
   | zero => exact Nat.lt_succ_self _
  lo := fun i hi => by
   have := le2.new 2 (by refine (?_ : 1 ≤ 2); decide) l2
   have go : ∀ b, s.heap.get? b = none → (hide Z.tabs s.heap).get? b = none := fun b e => by
    cases q : (hide Z.tabs s.heap).get? b with
    | none => rfl
    | some o => rw [(eU q).1] at e; cases e
   exact ⟨go _ this.1, go _ this.2⟩
  up := fun i hi => z3.up 2 l2
  apart := fun i j hi hj wG => absurd ((Nat.lt_one_iff.mp hi).trans (Nat.lt_one_iff.mp hj).symm) wG
  oO := K4, bw := z3.bw
  off := fun i hi => z3.off 2 l2
  ns := by
   obtain ⟨mp, y1, y2⟩ := z3.ns
   refine ⟨mp, y1, fun y v hv => ?_⟩
   have hv : af y [(w.sr, V.loc 0)] = some v := hv
   rw [aK] at hv
   by_cases hy : w.sr = y
   ·rw [if_pos hy] at hv
    obtain rfl := aO hv
    subst hy
    obtain ⟨u, y3, y4⟩ := y2 w.sr (.loc 2) (by refine ae p6 ?_; rw [bG, if_pos rfl])
    exact ⟨u, y3, Nat.succ_pos _, y4.2⟩
   ·rw [if_neg hy] at hv; cases hv
  cells := rfl
  hd := trivial
  outs := fun b hb => by
   obtain ⟨h1, h2, h3⟩ := z3.outs b hb
   refine ⟨?_, h2, fun i hi => h3 2 l2⟩
   have hb : b ∈ [env].filterMap (·.frame) := hb
   rw [List.filterMap_cons, hf] at hb
   rcases fg hb with rfl | hb
   ·exact K4
   ·cases hb
  tabs := z3.tabs }
 have N3 : aS (Z.on (hide Z.tabs s.heap)) sc c3 s.heap.objs.size ⟨[], none, [env]⟩ env :=
  ⟨N1.kind, N1.names, N1.locals, N1.globals, N1.builtins, N1.top, N1.has, N1.fr, fun q => by refine (N1.code q).elim fun c aj => (aj).elim fun P ay => (ay).elim fun e aP => (aP).elim fun hd hP => ?_; exact ⟨c, P, e, hd.keeps k2, hP⟩, fun y i h1 h2 => nomatch h2⟩
 refine az (HM c3 s2 H3 N3) (fun fl s3 q => ?_) fun J J f => f.elim
 obtain ⟨rfl, q⟩ := q
 exact ⟨rfl, q⟩
end
noncomputable def HN (r : Option CFound) : Bool := HJ r fun g f n t => oi g "classmethod_descriptor.__get__" && (oi f "int.from_bytes" && (oj n && jo t "int"))
theorem CI {r : Option CFound} (h : HN r = true) : r = some (.get (.builtin "classmethod_descriptor.__get__") (.builtin "int.from_bytes") .none (.type "int")) := by
 obtain ⟨g, f, n, t, rfl, q⟩ := x8 h
 refine ae (f6 (aM q)) ?_; refine ae (f6 (aM (ai q))) ?_; refine ae (iX (aM (ai (ai q)))) ?_; refine ae (dJ (ai (ai (ai q)))) ?_; rfl
noncomputable def CJ (h : Heap) (K : Frag) (as : List Nat) (p : Nat × Nat) : Bool := (match h.get? p.2 with
 | some ⟨.none, none, .fields vs, sl⟩ => vs.isEmpty && sl.isEmpty
 | _ => false) && (x7 (K.lookup p.1) (fun o => jo o.cls "code" && ya o.data fun vs => eS (vs.getD 11 .none) p.2) && (!(z9 p.2 as) && (!(Nat.beq p.2 mainGlobals) && (!(Nat.beq p.2 builtinsNs) && !(Nat.beq p.2 cStatics)))))
noncomputable def eV (h : Heap) (as : List Nat) (t : List (List Nat)) (Γ : Ctx) (dK : List (Nat × Nat)) (name : Str) (law : Nat) : Bool :=
 kZ (fragOf h as) (jv t) (dK.map (·.2)) Γ && HN (findCls (fragOf h as) (.type "int") (.type "type") "from_bytes") && sP (nsIn (fragOf h as) mainGlobals name) law && dK.all (CJ h (fragOf h as) as)
structure lh (nm : Nat → Str) : Prop where
 inj : ∀ x y, nm x = nm y → x = y
 yO : nm N.init = "__init__"
 oU : nm N.get = "get"
 oV : nm N.pop = "pop"
 i6 : nm N.bO = "setdefault"
 nC : nm N.append = "append"
 oW : nm N.to_bytes = "to_bytes"
 oX : nm N.from_bytes = "from_bytes"
theorem eW {K : Frag} {nm : Nat → Str} {tabs : List Nat} {Γ : Ctx} (e : kZ K nm tabs Γ = true) : (∀ x fn, af x Γ.fns = some fn → qz K nm tabs x fn = true) ∧ (∀ x k, af x Γ.dq = some k → af x Γ.cf = none → sS K nm x k = true) ∧ (∀ x k bs, af x Γ.dq = some k → af x Γ.cf = some bs → sU K nm x k = true) ∧ (∀ x v, af x Γ.glob = some v → jE K nm x v = true) ∧
 (K.lookup sysModules).isSome = true ∧ (∀ a, Γ.take = some a → fnIn K a = true) ∧ ∀ D C bs qQ, af D Γ.cf = some bs → af C Γ.cf = some qQ → exmOne K (.ref D) (.ref C) = some (bs.contains C) := by
 delta kZ at e
 refine (ao e).elim fun e k6 => ?_
 refine (ao e).elim fun e k5 => ?_
 refine (ao e).elim fun e k4 => ?_
 refine (ao e).elim fun e k3 => ?_
 refine (ao e).elim fun k1 k2 => ?_
 refine ⟨fun x fn h => lP k1 (x, fn) (bB h), fun x k h hx => ?_, fun x k bs h hx => ?_, fun x v h => lP k3 (x, v) (bB h), k4, fun a ha => by rw [ha] at k5; exact k5, fun D C bs qQ h1 h2 => ?_⟩
 ·have := lP k2 (x, k) (bB h)
  have q : EP Γ x = false := by delta EP; refine ae hx ?_; rfl
  rw [q] at this
  exact this
 ·have := lP k2 (x, k) (bB h)
  have q : EP Γ x = true := by delta EP; refine ae hx ?_; rfl
  rw [q] at this
  exact this
 ·exact eI (lP (lP k6 (D, bs) (bB h1)) (C, qQ) (bB h2))
set_option tactic.hygienic true in
theorem gS {h : Heap} : ∀ {as : List Nat} {a : Nat} {o : Obj}, (fragOf h as).lookup a = some o → h.get? a = some o ∧ a ∈ as
 | [], _, _, e => by cases e
 | b :: r, a, o, e => by
  delta fragOf at e
  rw [List.filterMap_cons] at e
  cases hb : h.get? b with
  | none =>
   rw [hb] at e
   have := gS (as := r) e
   exact ⟨this.1, .tail _ this.2⟩
  | some p =>
   rw [hb] at e
   dsimp -iota only [Option.map_some] at e
   rw [List.lookup_cons] at e
   split at e
   ·rename_i q
    obtain rfl := aO e
    have q := eI q
    subst q
    exact ⟨hb, .head _⟩
   ·have := gS (as := r) e
    exact ⟨this.1, .tail _ this.2⟩
structure TabsOk (h : Heap) (as : List Nat) (dK : List (Nat × Nat)) : Prop where
 tab : ∀ P ∈ dK.map (·.2), h.get? P = some (tabObj #[])
 code : ∀ P ∈ dK.map (·.2), isCodeTable h P
 out : ∀ P ∈ dK.map (·.2), P ∉ as ∧ P ≠ mainGlobals ∧ P ≠ builtinsNs ∧ P ≠ cStatics
set_option tactic.hygienic true in
theorem tabsOk {h : Heap} {as : List Nat} {dK : List (Nat × Nat)} (e : dK.all (CJ h (fragOf h as) as) = true) : TabsOk h as dK := by
 have each : ∀ P ∈ dK.map (·.2), ∃ c, CJ h (fragOf h as) as (c, P) = true := fun P hP => by
  obtain ⟨p, hp, rfl⟩ := yB hP
  exact ⟨p.1, lP e p hp⟩
 refine ⟨fun P hP => ?_, fun P hP => ?_, fun P hP => ?_⟩
 ·obtain ⟨c, q⟩ := each P hP
  have q := aM q
  dsimp -iota only at q
  cases hg : h.get? P with
  | none => rw [hg] at q; cases q
  | some o =>
   rw [hg] at q
   obtain ⟨oc, od, d, sl⟩ := o
   cases oc <;> first | (cases q; done) | skip
   cases od <;> first | (cases q; done) | skip
   cases d <;> first | (cases q; done) | skip
   rename_i vs
   refine (ao q).elim fun q1 q2 => ?_
   refine ae (Array.isEmpty_iff.mp q1) ?_; refine ae (Array.isEmpty_iff.mp q2) ?_; rfl
 ·obtain ⟨c, q⟩ := each P hP
  refine (jD (aM (ai q))).elim fun o aj => (aj).elim fun ho q1 => ?_
  refine (qy (ai q1)).elim fun vs aj => (aj).elim fun hd q2 => ?_
  have hv := cR q2
  refine ⟨c, o, vs, fZ h as _ _ ho, dJ (aM q1), hd, ?_⟩
  rw [Array.getD_eq_getD_getElem?] at hv
  cases q : vs[11]? with
  | none => rw [q] at hv; cases hv
  | some u => rw [q] at hv; exact congrArg some hv
 ·obtain ⟨c, q⟩ := each P hP
  have q := ai (ai q)
  exact ⟨Ab (kY (aM q)), Nat.ne_of_beq_eq_false (kY (aM (ai q))), Nat.ne_of_beq_eq_false (kY (aM (ai (ai q)))), Nat.ne_of_beq_eq_false (kY (ai (ai (ai q))))⟩
noncomputable def yA (p : Program) (w : World) (Γ : Ctx) (t : List (List Nat)) (as : List Nat) (dK : List (Nat × Nat)) (h : Heap) (os : OsState) (mg mb : Str → Option Value) : aL :=
 { prog := p, w := w, Γ := Γ, nm := jv t, K := fragOf h as, h₀ := hide (dK.map (·.2)) h, tl := os, mg := mg, mb := mb, tabs := dK.map (·.2), lam := fun b ar x sc => jU ar sc = true ∧ ∃ m, aW (jv t) m sc.names b x = true }
section
variable {p : Program} {w : World} {Γ : Ctx} {t : List (List Nat)} {as : List Nat} {dK : List (Nat × Nat)} {h : Heap} {os : OsState} {mg mb : Str → Option Value} {name : Str} {law : Nat}
theorem cq (e : eV h as t Γ dK name law = true) : kZ (fragOf h as) (jv t) (dK.map (·.2)) Γ = true ∧ HN (findCls (fragOf h as) (.type "int") (.type "type") "from_bytes") = true ∧ sP (nsIn (fragOf h as) mainGlobals name) law = true ∧ TabsOk h as dK := by
 delta eV at e
 refine (ao e).elim fun e e4 => ?_
 refine (ao e).elim fun e e3 => ?_
 refine (ao e).elim fun e e2 => ?_
 exact ⟨e, e2, e3, tabsOk e4⟩
theorem yi (e : TabsOk h as dK) : (fragOf h as).In (hide (dK.map (·.2)) h) := fun a o q => by
 refine (gS q).elim fun q1 q2 => ?_
 exact c9 q1 fun hm => (e.out a hm).1 q2
theorem oA {ps : List Nat} {a : Nat} {m : Str → Option Value} (x : h.Ns a m) (q : a ∉ ps) : (hide ps h).Ns a m := by
 refine (x).elim fun o aj => (aj).elim fun es ay => (ay).elim fun n aP => (aP).elim fun h1 h2 => ?_
 exact ⟨o, es, n, c9 h1 q, h2⟩
theorem qH (e : eV h as t Γ dK name law = true) (hn : lh (jv t)) (hg : h.Ns mainGlobals mg) (hb : h.Ns builtinsNs mb) (hl : h.NoLimit) (A9 : ∃ bm o, mg "__builtins__" = some (.ref bm) ∧ bm ≠ builtinsNs ∧ bm ≠ mainGlobals ∧ h.get? bm = some o ∧ o.cls = .type "module" ∧ o.dict = some builtinsNs ∧ o.data = .plain) : (yA p w Γ t as dK h os mg mb).Glob := by
 refine (cq e).elim fun e1 aj => (aj).elim fun e2 ay => (ay).elim fun _ e4 => ?_
 refine (eW e1).elim fun k1 aj => (aj).elim fun k2 ay => (ay).elim fun NK aP => (aP).elim fun k3 bF => (bF).elim fun k4 cZ => (cZ).elim fun k5 k6 => ?_
 have X := yi e4
 have no : ∀ a, (∃ o, h.get? a = some o ∧ o.cls ≠ .none) → a ∉ dK.map (·.2) := fun a ⟨o, ho, hc⟩ hm => by
  have := e4.tab a hm
  rw [ho] at this; obtain rfl := aO this; exact hc rfl
 have Bc : (hide (dK.map (·.2)) h).Ns mainGlobals mg := oA hg fun hm => (e4.out _ hm).2.1 rfl
 have qR : (hide (dK.map (·.2)) h).Ns builtinsNs mb := oA hb fun hm => (e4.out _ hm).2.2.1 rfl
 refine {
  g := Bc
  b := qR
  inj := hn.inj
  sys := (by refine (Option.isSome_iff_exists.mp k4).elim fun o ho => ?_; exact ⟨o, X _ _ ho⟩)
  k := X
  lim := ?_
  yO := hn.yO
  oU := hn.oU
  oV := hn.oV
  i6 := hn.i6
  nC := hn.nC
  oW := hn.oW
  oX := hn.oX
  fb := CI e2
  cls := fun C k hk hx => ou (Z := yA p w Γ t as dK h os mg mb) (k2 C k hk hx)
  oY := fun C k bs hk hx => oy (Z := yA p w Γ t as dK h os mg mb) (NK C k bs hk hx)
  exc := fun D C bs qQ h1 h2 => k6 D C bs qQ h1 h2
  tabs := fun P hP => oz hP
  CW := ?_
  um := fun h1 h2 => ⟨h1, _, h2⟩
  uq := fun h => h
  look := fun x v hv => lN (Z := yA p w Γ t as dK h os mg mb) X Bc qR (k3 x v hv) }
 ·refine (hl).elim fun mc aj => (aj).elim fun h1 h2 => ?_
  exact ⟨mc, oA h1 fun hm => (e4.out _ hm).2.2.2 rfl, h2⟩
 ·intro P hP
  refine (A9).elim fun bm aj => (aj).elim fun o ay => (ay).elim fun b1 aP => (aP).elim fun b2 bF => (bF).elim fun b3 cZ => (cZ).elim fun b5 ia => (ia).elim fun b6 pL => (pL).elim fun b7 b8 => ?_
  have K5 : bm ∉ dK.map (·.2) := no bm ⟨o, b5, by refine ae b6 ?_; exact fun q => by cases q⟩
  exact ⟨bm, o, b1, b2, b3, fun q => K5 (q ▸ hP), c9 b5 K5, b6, b7, b8⟩
theorem vQ (e : eV h as t Γ dK name law = true) : ∀ x fn, af x Γ.fns = some fn → iO (yA p w Γ t as dK h os mg mb) x fn := fun x fn hx =>
 qG (Z := yA p w Γ t as dK h os mg mb) (yi (cq e).2.2.2) ((eW (cq e).1).1 x fn hx)
theorem sW (e : eV h as t Γ dK name law = true) (hg : h.Ns mainGlobals mg) : mg name = some (.ref law) :=
 jF (fZ h as) hg (oq (cq e).2.2.1)
end
theorem m6 {P : Params} {h : Heap} : ∀ {ns : List Int} {vs : List Value}, WellAll P h vs (ofPys (ns.map .int)) → aT (fun (x : Int) u => ∃ t, u = Value.int x t) ns vs
 | [], [], _ => .nil
 | [], _ :: _, h => by cases h
 | _ :: _, [], h => by cases h
 | n :: ns, v :: vs, h => by
  cases h with
  | cons h1 h2 =>
   refine .cons ?_ (m6 h2)
   cases h1 with
   | int i t => exact ⟨t, rfl⟩
theorem yj {l : OpenLaw} {args : List WData} (hm : l.most = some 63) (hb : l.bound = none) (kU : l.row.toRowW.claim.pre args = true) (lO : WData.layableAll args = true) :
 ∃ ns : List Int, args = [ofPy (.list (ns.map .int))] ∧ ns.length ≤ 63 ∧ ∀ x ∈ ns, Int.intBits x ≤ 2 ^ 20 := by
 have hsh : WShape.hasAll [] args [.list .int] = true := (pre_splitW kU).1
 have m8 : l.pre.holds [] { args := args } = true := (pre_splitW kU).2
 obtain ⟨d, r, rfl, h1, h2⟩ := hasAllW_cons hsh
 obtain rfl := hasAllW_nil h2
 refine (layW_cons lO).elim fun h3 _ => ?_
 obtain ⟨q, rfl, h4, h5⟩ := open_plain (.list .int) rfl h1 h3
 obtain ⟨ns, rfl⟩ := has_list_int h4
 refine ⟨ns, rfl, ?_, fun x hx => ?_⟩
 ·delta OpenLaw.pre at m8
  rw [hm, hb] at m8
  dsimp only at m8
  apply Nat.le_of_not_lt
  intro Ot
  have e2 : WTm.value [] (.len (.arg 0)) { args := [ofPy (.list (ns.map .int))] } = some (.int ns.length) := by
   simp [WTm.value, ofPy, ofPys_length]
  have e1 : WTm.value [] (.lt (.lit (.int 63)) (.len (.arg 0))) { args := [ofPy (.list (ns.map .int))] } = some (.bool (decide ((63 : Int) < ns.length))) := w_lt rfl e2
  rw [decide_eq_true (by omega)] at e1
  have e3 : WTm.value [] (.not (.lt (.lit (.int 63)) (.len (.arg 0)))) { args := [ofPy (.list (ns.map .int))] } = some (.bool false) := w_not e1
  have e4 : ∀ b, WTm.value [] (.and (.not (.lt (.lit (.int 63)) (.len (.arg 0)))) b) { args := [ofPy (.list (ns.map .int))] } = some (.bool false) := fun b => by
   rw [WTm.value, e3]
  delta WTm.holds at m8
  have hc := e4 (.lit (.bool true))
  rw [show (((63 : Nat) : Int)) = 63 from rfl, hc] at m8
  cases m8
 ·have : PyData.layable0 (.list (ns.map .int)) = true := by
   have := h5
   simp [PyData.layableAll0] at this
   exact this
  exact PyData.bits_item_of_ints this hx
theorem yk {l : OpenLaw} {cl : Str → Option Addr} {HO : ExcName → Option Value} {args : List WData} {aV s' : Shared} (hold : OldK aV.heap s'.heap) (oP : s'.os = aV.os) (hg : s'.gens = #[]) :
 GoodWG l.row.toRowW.claim cl HO args aV (.ok (.ret (.bool true))) s' :=
 ⟨.inl ⟨.bool true, .bool true, [], rfl, fun J => rfl, .bool true, postW_of rfl (X := true) (by refine (?_ : some (WData.bool (same (.bool true) (.bool true))) = _); rw [same_self]) rfl, fun J => ⟨.nil, fun J h => nomatch h⟩⟩, hold, oP, .of_eq hg⟩
end aD
end
section
open PySem PySem.Calls PyProof.Rows PySem.W PySem.SeqAt PySem.Builtin
open PySem.Sem (wp)
set_option maxRecDepth 100000
namespace aD
theorem oB : Clean (⟨.builtin "claim.caller" {}, none, none, [], none⟩ : PySem.Ctx) := ⟨by decide +kernel, fun J h => nomatch h⟩
theorem qJ {prog : Program} {w : World} {t : Sem Fin} {s : Shared} {R : Result → Shared → Prop} (HP : s.asleep)
 (h : bt (model prog w) callerA t (fun fin s' => ∃ f, fin = .done f ∧ R (.ok f) s' ∧ leftWithCleanup s'.gens = false) (fun J J => False) s) :
 ∃ n r s' ew, runN (denote table) prog w n s ⟨t, .builtin "claim.caller" {}, default, []⟩ = .halted (outcomeOf r) s' ∧
  schedN (denote table) prog w n (.single s ⟨t, .builtin "claim.caller" {}, default, []⟩) = .halted (outcomeOf r) s' ∧ s'.forget = ew.forget ∧ R r ew := by
 have hw : wp (model prog w) ⟨.builtin "claim.caller" {}, none, none, [], none⟩ t (Sem.finPost (model prog w) ⟨.builtin "claim.caller" {}, none, none, [], none⟩ fun r s' => R r s' ∧ leftWithCleanup s'.gens = false) (fun e J s' => R (.error e) s' ∧ leftWithCleanup s'.gens = false) default s :=
  Sem.wp_mono _ _ t (fun fin p' s' q => by obtain ⟨f, rfl, q⟩ := q; exact q) (fun J J J f => f.elim) default s (h _ default caller_in oB)
 refine (wp_halts_full (M := model prog w) (R := R) HP hw).elim fun n aj => (aj).elim fun r ay => (ay).elim fun aV aP => (aP).elim fun gd bF => (bF).elim fun a cZ => (cZ).elim fun b ia => (ia).elim fun c d => ?_
 exact ⟨n, r, gd, aV, b, a, c, d⟩
def yl (aV : Shared) (v : Value) (s' : Shared) : Prop := v = .bool true ∧ OldK aV.heap s'.heap ∧ s'.os = aV.os ∧ s'.gens = #[]
theorem vR {l : OpenLaw} {w : World} {s : Shared} {free : Addr → Prop} {gens : Prop} {kept : Heap → Prop} (hz : s.asleep) (m9 : s.gens = #[])
 (EY : ∀ args, l.row.toRowW.claim.pre args = true → WData.layableAll args = true → ∀ ord : List DictEntry → List DictEntry, (∀ l, (ord l).Perm l) →
  ∃ vs aV, layAllW [] (classAt s.heap) w.params ord args s = some (vs, aV) ∧
   bt (model l.prog w) callerA (callStub l.name vs).cur (fun fin s' => ∃ f, fin = .done f ∧ l.row.toRowW.claim.Ends s args vs aV (.ok f) s' ∧ s'.os = s.os ∧ AllBare s'.gens ∧ kept s'.heap) (fun J J => False) aV) :
 l.row.toRowW.claim.CallFrom (callStub l.name) w free gens kept s := by
 intro args kU lO ord Ai
 refine Classical.byContradiction fun bad => ?_
 refine (EY args kU lO ord Ai).elim fun vs aj => (aj).elim fun aV ay => (ay).elim fun jq tQ => ?_
 have EZ := layAllW_rest _ _ _ jq
 obtain ⟨k, r, s', ew, X⟩ := qJ (R := fun r s' => l.row.toRowW.claim.Ends s args vs aV r s' ∧ s'.os = s.os ∧ kept s'.heap) (Shared.asleep_of_life EZ.2.2.2 hz)
  (az tQ (fun fin s' q => by refine (q).elim fun f aj => (aj).elim fun e h => ?_; exact ⟨f, e, ⟨h.1, h.2.1, h.2.2.2⟩, leftWithCleanup_false_of_bare h.2.2.1⟩) fun J J f => f)
 have F := Shared.forget_eq X.2.2.1
 have E0 : s'.heap.life = s.heap.life := (runN_life _ _ _ X.1).trans EZ.2.2.2
 refine bad ⟨vs, aV, jq, k, _, s', X.2.1, ?_, (fun J i x hx => by rw [m9] at hx; simp at hx), by refine ae F.1 ?_; exact X.2.2.2.2.2, by refine ae E0 ?_; rfl, Shared.rest_eq (F.2.2.2.1.trans X.2.2.2.2.1)⟩
 rcases X.2.2.2.1.congr F.1 with ⟨v, h⟩ | ⟨e, ob, cls, h⟩
 ·exact .inl ⟨v, by refine ae h.1 ?_; rfl, h.2.1, h.2.2.1, h.2.2.2.1, fun b o y J => h.2.2.2.2.1 b o y, h.2.2.2.2.2⟩
 ·exact .inr ⟨e, ob, cls, by refine ae h.1 ?_; rfl, h.2.1, h.2.2.1, h.2.2.2.1, h.2.2.2.2.1, fun b o y J => h.2.2.2.2.2 b o y⟩
theorem ym {l : OpenLaw} {q : Program} {loose : List Str} {Xt : Shared → Bool} {α : Type} {Yf : Shared → α} {Ya : World → α} {d : DefRec} {kwd : List (Str × Expr)} {N : Nat} (left : LeftO l.prog q loose Xt Yf Ya N)
 (HQ : defOf q l.name = some (d, kwd)) (hp : l.prog.theDef l.name = some (d.params, d.body, d.scope)) (hk : kwWritten? d.params.kwonlyargs d.params.kw_defaults = some kwd) (said : l.row.wellSaid = true)
 (ok : (chainsOk q && opensWell l.prog && (frees l.row.toRowW && l.row.toRowW.within.isEmpty)) = true) (hb : l.prog.bare) (hw : l.row.toRowW.promised)
 (call : ∀ (w : World) (aE aV : Shared) (mg mb : Str → Option Value), aE.heap.Ns mainGlobals mg → aE.heap.Ns builtinsNs mb → aE.heap.NoLimit → (∃ bm ob, mg "__builtins__" = some (.ref bm) ∧ bm ≠ builtinsNs ∧ aE.heap.get? bm = some ob ∧ ob.cls = .type "module" ∧ ob.dict = some builtinsNs ∧ ob.data = .plain) → Yf aE = Ya w → ∀ (args : List WData) (vs : List Value) (as : List Addr), l.row.toRowW.claim.pre args = true → WData.layableAll args = true →
  Laid [] w aE aV args vs as → ∃ f, mg l.name = some f ∧ bt (model l.prog w) callerA (PySem.call f vs) (yl aV) (fun J J => False) aV) : l.row.Holds := by
 refine (Bool.and_eq_true_iff.mp ok).elim fun ok k5 => ?_
 refine (Bool.and_eq_true_iff.mp ok).elim fun K6 o1 => ?_
 refine (Bool.and_eq_true_iff.mp k5).elim fun k5 k6 => ?_
 refine (frees_parts k5).elim fun E1 aj => (aj).elim fun hu ay => (ay).elim fun ha aP => (aP).elim fun Ft hm => ?_
 refine ⟨said, hw, ⟨hb, o1, rfl⟩, hw.witness, fun w => ⟨(left.behind (XP := fun J J => True) (fun J J => trivial) K6 w).1, fun s' js => ?_⟩⟩
 refine ((left.behind (XP := fun J J => True) (fun J J => trivial) K6 w).2 s' js).elim fun aE aj => (aj).elim fun hf ay => (ay).elim fun NL aP => (aP).elim fun s bF => (bF).elim fun hT cZ => (cZ).elim fun hz ia => (ia).elim fun m9 pL => (pL).elim fun hg rV => (rV).elim fun G y => ?_
 have m9 : s.gens = #[] := Array.eq_empty_of_size_eq_zero (eI m9)
 have RF : RecFacts [] s.heap := recFacts_nil rfl
 refine ⟨aE, hf, NL, s, hT, fun n hn => ?_, RF.1, RF.2.1, ?_⟩
 ·obtain rfl : n = l.name := by
   have hn : n ∈ (if l.row.pinned then [l.name] else []) := hn
   split at hn <;> simp_all
  exact pinned_of_view hg G HQ hp hk
 ·refine vR hz m9 fun args kU lO ord Ai => ?_
  obtain ⟨⟨vs, aV⟩, jq⟩ := Option.isSome_iff_exists.mp (layAllW_isSome (P := w.params) (ord := ord) G.has args l.row.toRowW.args s (pre_splitW kU).1)
  have keeps := layAllW_keeps _ _ _ jq
  have EZ := layAllW_rest _ _ _ jq
  refine (reads_layAllW Ai _ _ _ jq lO aV.heap (fun J J e => e)).elim fun as aj => (aj).elim fun NM ay => (ay).elim fun NN hold => ?_
  have L : Laid [] w s aV args vs as := ⟨⟨ord, Ai, jq⟩, NM, NN, hold, keeps, EZ.1.trans m9, EZ.2.2.1⟩
  refine (call w s aV _ _ G.T.g G.T.b G.T.nolimit G.T.bmain y args vs as kU lO L).elim fun f aj => (aj).elim fun hf h => ?_
  have hi := ident_freeW hu ha Ft
  have NO : l.row.toRowW.claim.within = [] := sY k6
  refine ⟨vs, aV, jq, ?_⟩
  refine aa (.of (wpAny_nsGet (lg keeps G.T.g) ?_))
  refine ae hf ?_
  refine aa (az h (fun v gd z => ?_) fun J J f => f)
  obtain ⟨rfl, z1, z2, z3⟩ := z
  have g : GoodWG l.row.toRowW.claim (classAt s.heap) (ExcName.means s.heap) args aV (.ok (.ret (.bool true))) gd := yk z1 z2 z3
  have z := g.laid (c := l.row.toRowW.claim) E1 NO hi L
  exact aq ⟨_, rfl, z.1, z.2.1, z.2.2, fun q => ⟨namesKept_of hT hg l.row.keeps keeps g.2.1.old, fun x hx => nomatch hx⟩⟩
end aD
end
section
open PySem PySem.Calls PyProof.Rows PySem.W PySem.SeqAt PySem.Builtin
set_option maxRecDepth 100000
namespace aD
structure yn (Γ : Ctx) (tk a b d : Nat) : Prop where
 tq : Γ.take = some tk
 take : af tk Γ.fns = some (eR a b d)
 ab : a ≠ b
 ad : a ≠ d
 bd : b ≠ d
theorem oD {n : Nat} (h : n ≤ 200) (env : Env) (h1 : env.scope.kind ≠ .module) (h2 : ∃ b, env.frame = some b) : Room n (callerA.deeper env) ⟨[], none, [env]⟩ := by
 refine ⟨?_, ?_, rfl, rfl, fun e he => ?_⟩
 ·refine (?_ : 1 + claimMargin + 1 + 2 * n < recursionLimit)
  have h1 : claimMargin = 300 := rfl
  have h2 : recursionLimit = 1000 := rfl
  omega
 ·refine (?_ : 4 + 3 + 8 * n + 64 < cLine)
  have h2 : cLine = 9900 := rfl
  omega
 ·cases msg he
  exact ⟨h1, h2⟩
theorem vS {P : Params} {h : Heap} {v : Value} {xs : List WData} (x : Well P h v (.list xs)) : ∃ a us, v = .ref a ∧ h.get? a = some { cls := .type "list", data := .seq us.toArray } ∧ WellAll P h us xs := by
 cases x with
 | list ho HR => exact ⟨_, _, rfl, ho, HR⟩
theorem qK {P : Params} {h : Heap} {vs : List Value} {x : WData} (e : WellAll P h vs [x]) : ∃ v, vs = [v] ∧ Well P h v x := by
 cases e with
 | cons h1 h2 => cases h2; exact ⟨_, rfl, h1⟩
theorem sX {R : WRecords} {cl : Str → Option Addr} {h : Heap} {a : Addr} {xs : List WData} {as : List Addr} (r : ReadsW R cl h (.ref a) (.list xs) as) : a ∈ as := by
 cases r with
 | list _ _ _ _ => exact .head _
theorem oE {R : WRecords} {cl : Str → Option Addr} {h : Heap} {v : Value} {x : WData} {as : List Addr} (r : ReadsAllW R cl h [v] [x] as) : ∃ bs cs, as = bs ++ cs ∧ ReadsW R cl h v x bs := by
 cases r with
 | cons r1 r2 => exact ⟨_, _, rfl, r1⟩
theorem yo {wd : World} {aE aV : Shared} {ns : List Int} {vs : List Value} {bs : List Addr} (L : Laid [] wd aE aV [ofPy (.list (ns.map .int))] vs bs) : ∃ a us, vs = [.ref a] ∧ aV.heap.get? a = some { cls := .type "list", data := .seq us.toArray } ∧ WellAll wd.params aV.heap us (ofPys (ns.map .int)) ∧ aE.heap.get? a = none := by
 obtain ⟨v, rfl, w⟩ := qK L.well
 obtain ⟨a, us, rfl, h1, h2⟩ := vS (xs := ofPys (ns.map .int)) w
 refine (oE L.reads).elim fun b aj => (aj).elim fun d ay => (ay).elim fun e r => ?_
 have hm : a ∈ bs := by refine ae e ?_; exact List.mem_append_left _ (sX (xs := ofPys (ns.map .int)) r)
 exact ⟨a, us, rfl, h1, h2, Heap.get?_none_of_le (L.within.2.2 a hm).1⟩
theorem Aj {l : OpenLaw} (hm : l.most = some 63) (hb : l.bound = none) {Γ : Ctx} {t : List (List Nat)} {as : List Nat} {dK : List (Nat × Nat)} {n : Nat} {f gQ ju lp} (w : iy Γ) (W : tZ w n f gQ ju lp) (hn : lh (jv t)) {tk ta tb td : Nat} (T : yn Γ tk ta tb td) (HS : n + 14 ≤ 200) :
 ∀ (wd : World) (aE aV : Shared) (mg mb : Str → Option Value), aE.heap.Ns mainGlobals mg → aE.heap.Ns builtinsNs mb → aE.heap.NoLimit → (∃ bm ob, mg "__builtins__" = some (.ref bm) ∧ bm ≠ builtinsNs ∧ aE.heap.get? bm = some ob ∧ ob.cls = .type "module" ∧ ob.dict = some builtinsNs ∧ ob.data = .plain) →
  eV aE.heap as t Γ dK l.name w.a = true → ∀ (args : List WData) (vs : List Value) (bs : List Addr), l.row.toRowW.claim.pre args = true → WData.layableAll args = true →
  Laid [] wd aE aV args vs bs → ∃ f, mg l.name = some f ∧ bt (model l.prog wd) callerA (PySem.call f vs) (yl aV) (fun J J => False) aV := fun wd aE aV mg mb hg NP hl A9 e args vs bs kU lO L => by
 refine ⟨_, sW e hg, ?_⟩
 obtain ⟨ns, rfl, NQ, E2⟩ := yj hm hb kU lO
 have HT : ∃ bm o, mg "__builtins__" = some (.ref bm) ∧ bm ≠ builtinsNs ∧ bm ≠ mainGlobals ∧ aE.heap.get? bm = some o ∧ o.cls = .type "module" ∧ o.dict = some builtinsNs ∧ o.data = .plain := by
  refine (A9).elim fun bm aj => (aj).elim fun ob ay => (ay).elim fun b1 aP => (aP).elim fun b2 bF => (bF).elim fun b3 cZ => (cZ).elim fun b4 ia => (ia).elim fun b5 b6 => ?_
  refine ⟨bm, ob, b1, b2, fun q => ?_, b3, b4, b5, b6⟩
  refine (Ns.data hg ob (q ▸ b3)).elim fun es aj => (aj).elim fun ep hd => ?_
  rw [b6] at hd; cases hd
 have G0 : (yA l.prog wd Γ t as dK aE.heap aE.os mg mb).Glob := qH e hn hg NP hl HT
 have T4 := (cq e).2.2.2
 have NR : Known (yA l.prog wd Γ t as dK aE.heap aE.os mg mb) tk ta tb td := ⟨vQ e, T.tq, T.take, T.ab, T.ad, T.bd, (eW (cq e).1).2.2.2.2.2.1 tk T.tq⟩
 obtain ⟨a, us, rfl, ho, HR, ha⟩ := yo L
 have zo : a ∉ dK.map (·.2) := fun hm => by
  have := T4.tab a hm
  rw [ha] at this; cases this
 have kk : ∀ b o, (hide (dK.map (·.2)) aE.heap).get? b = some o → (hide (a :: dK.map (·.2)) aV.heap).get? b = some o := fun b o q => by
  refine (eU q).elim fun q1 q2 => ?_
  refine c9 (L.keeps b o q1) fun hm => ?_
  rcases fg hm with r | r
  ·rw [r, ha] at q1; cases q1
  ·exact q2 r
 have G : ((yA l.prog wd Γ t as dK aE.heap aE.os mg mb).on (hide (a :: dK.map (·.2)) aV.heap)).Glob := G0.on kk fun P hP => oz (.tail _ hP)
 have Kn := NR.on (h := hide (a :: dK.map (·.2)) aV.heap) kk
 have Ah : ∀ P ∈ dK.map (·.2), aV.heap.get? P = some (tabObj #[]) := fun P hP => L.keeps _ _ (T4.tab P hP)
 refine cy (bg (law_code (Z := (yA l.prog wd Γ t as dK aE.heap aE.os mg mb).on (hide (a :: dK.map (·.2)) aV.heap)) G Kn W (by decide) (oD HS) (fun J => rfl) L.gens L.os (fun P hP => ⟨_, Ah P hP, #[], rfl, trivial, fun pos v q => by cases q⟩) ho zo (fun J J => Iff.rfl) (m6 HR) E2 NQ) fun r s' q => ?_)
 obtain ⟨rfl, q⟩ := q
 refine ⟨rfl, ⟨fun b o e => ?_, fun b o e => ?_⟩, q.os.trans L.os.symm, q.gens⟩
 ·by_cases hb : b ∈ dK.map (·.2)
  ·have h1 := Ah b hb
   rw [e] at h1
   obtain rfl := aO h1
   obtain ⟨o', h2, ps, rfl, _, _⟩ := q.tabs b hb
   refine (T4.code b hb).elim fun c aj => (aj).elim fun oc ay => (ay).elim fun vs aP => (aP).elim fun k1 bF => (bF).elim fun k2 cZ => (cZ).elim fun k3 k4 => ?_
   exact .inr (.inl ⟨⟨c, oc, vs, L.keeps _ _ k1, k2, k3, k4⟩, rfl, #[], ps, rfl, by refine ae h2 ?_; simp⟩)
  ·exact .inl (q.base b o (c9 e hb))
 ·by_cases hb : b ∈ dK.map (·.2)
  ·refine (q.tabs b hb).elim fun o' aj => (aj).elim fun h2 _ => ?_
   exact ⟨o', h2⟩
  ·exact ⟨o, q.base b o (c9 e hb)⟩
end aD
end
section
open PySem PySem.W
set_option maxRecDepth 100000
set_option maxHeartbeats 0
namespace aD
noncomputable def E3 (b : Nat) : Nat → Nat → List Nat := Nat.rec (fun J => []) (fun J g n => cond (Nat.ble n (nat_lit 1)) [] (Nat.mod n b :: g (Nat.div n b)))
noncomputable def FH {α : Type} (d : α) (l : List α) (n : Nat) : α := List.rec (motive := fun J => Nat → α) (fun J => d) (fun a J ih n => Nat.rec (motive := fun J => α) a (fun m J => ih m) n) l n
noncomputable def CK {α : Type} (l : List α) : Nat := List.rec (motive := fun J => Nat) (nat_lit 0) (fun J J n => Nat.succ n) l
noncomputable def E4 (l : Nat) (T : List (List ax)) (n : Nat) : List ax := Nat.rec (motive := fun J => List (List ax) → Nat → List ax) (fun J J => [])
 (fun J ih T n => List.rec (motive := fun J => List ax) [] (fun t r J => FH .src t (Nat.mod n (CK t)) :: ih r (Nat.div n (CK t))) T) l T n
noncomputable def E5 (l : Nat) (T : List (List ax)) (n : Nat) : Nat := Nat.rec (motive := fun J => List (List ax) → Nat → Nat) (fun J n => n)
 (fun J ih T n => List.rec (motive := fun J => Nat) n (fun t r J => ih r (Nat.div n (CK t))) T) l T n
noncomputable def qI (n : Nat) : V := .int (.lit (.ofNat n))
noncomputable def qV (n : Nat) : V := .int (.va n (.ofNat 0))
noncomputable def qA : V := .str [100,98]
noncomputable def qB : V := .str [100,101,108,101,116,101]
noncomputable def qC : V := .str [100,98,45,106,111,117,114,110,97,108]
noncomputable def qL : Seg := .lit [112,97,103,101,98,97,115,101,0,64]
noncomputable def za : ax := .a0
noncomputable def zl : ax := .list [(.str [105,100,108,101]),.bb,(.bool false)]
noncomputable def zD : ax := .aw [((.ofNat 1),(.bytes [qL,.be 0 (.ofNat 0) 4 0 4,.lit [0,0,0,1,0,0,0,0,0,0,0,0,0,0,0,0,0,0],.rep 2 32]))]
noncomputable def K7 : ax := .inst 481 [(116,(.loc 8)),(54,.bb),(117,(.loc 24)),(118,(.loc 25))]
noncomputable def zc : ax := .aw []
noncomputable def zb : ax := .list []
noncomputable def zN : ax := .bT [qL,.be 0 (.ofNat 0) 4 0 4,.lit [0,0,0,1,0,0,0,0,0,0,0,0,0,0,0,0,0,0],.rep 2 32]
noncomputable def K8 : ax := .aB []
noncomputable def zs : ax := .aw [((.ofNat 1),(.bytes [qL,.be 0 (.ofNat 0) 4 0 4,.lit [0,0,0,2,0,0,0,0,0,0,0,0,0,0,0,0,0,0],.rep 2 32])),((.ofNat 2),(.bytes [.rep 3 64]))]
noncomputable def zz : ax := .bT [qL,.be 0 (.ofNat 0) 4 0 4,.lit [0,0,0,2,0,0,0,0,0,0,0,0,0,0,0,0,0,0],.rep 2 32,.rep 3 64]
noncomputable def zh : ax := .aw [((.ofNat 1),(.bytes [qL,.be 0 (.ofNat 0) 4 0 4,.lit [0,0,0,3,0,0,0,0,0,0,0,0,0,0,0,0,0,0],.rep 2 32])),((.ofNat 2),(.bytes [.rep 3 64])),((.ofNat 3),(.bytes [.rep 4 64]))]
noncomputable def zr : ax := .bT [qL,.be 0 (.ofNat 0) 4 0 4,.lit [0,0,0,3,0,0,0,0,0,0,0,0,0,0,0,0,0,0],.rep 2 32,.rep 3 64,.rep 4 64]
noncomputable def zk : ax := .list [(.str [114,101,97,100,115]),(.loc 3),(.bool false)]
noncomputable def K9 : ax := .aB [((.ofNat 1),(qI 1))]
noncomputable def zQ : ax := .list [(.str [119,114,105,116,101,115]),(.loc 3),(.bool false)]
noncomputable def zF : ax := .aB [((.ofNat 1),(qI 2))]
noncomputable def La : ax := .aB [((.ofNat 2),(qI 1))]
noncomputable def zG : ax := .aB [((.ofNat 2),(qI 2))]
noncomputable def z5 : ax := .aB [((.ofNat 1),(qI 1)),((.ofNat 2),(qI 2))]
noncomputable def Lb : ax := .list [(.str [119,114,105,116,101,115]),(.loc 23),(.bool true)]
noncomputable def z7 : ax := .inst 246 [(52,(.loc 1)),(53,qC),(23,(qI 64)),(49,(qV 4)),(54,(qI 1)),(55,(qV 5))]
noncomputable def zJ : ax := .aw [((.ofNat 1),(.bool true))]
noncomputable def zv : ax := .jl 3
noncomputable def z8 : ax := .bT [.d9 7 0 96]
noncomputable def Lc : ax := .aw [((.ofNat 1),(.bytes [qL,.be 0 (.ofNat 0) 4 0 4,.lit [0,0,0,1,0,0,0,0,0,0,0,0,0,0,0,0,0,0],.rep 6 32]))]
noncomputable def z0 : ax := .aB [((.ofNat 1),(qI 2)),((.ofNat 2),(qI 1))]
noncomputable def z6 : ax := .aB [((.ofNat 2),(qI 1)),((.ofNat 1),(qI 2))]
noncomputable def z1 : ax := .aB [((.ofNat 2),(qI 2)),((.ofNat 1),(qI 1))]
noncomputable def zm : ax := .list [(.str [119,114,105,116,101,115]),(.loc 24),(.bool true)]
noncomputable def Ld : ax := .inst 481 [(116,(.loc 9)),(54,(qI 1)),(117,(.loc 32)),(118,(.loc 33))]
noncomputable def Lf : ax := .inst 246 [(52,(.loc 1)),(53,qC),(23,(qI 64)),(49,(qV 3)),(54,(qI 1)),(55,(qV 4))]
noncomputable def Lg : ax := .aw [((.ofNat 1),(.bytes [qL,.be 0 (.ofNat 0) 4 0 4,.lit [0,0,0,1,0,0,0,0,0,0,0,0,0,0,0,0,0,0],.rep 5 32]))]
noncomputable def zR : ax := .inst 246 [(52,(.loc 1)),(53,qC),(23,(qI 64)),(49,(qV 5)),(54,(qI 1)),(55,(qV 6))]
noncomputable def zS : ax := .bT [.d9 8 0 96]
noncomputable def Lh : ax := .aw [((.ofNat 1),(.bytes [qL,.be 0 (.ofNat 0) 4 0 4,.lit [0,0,0,2,0,0,0,0,0,0,0,0,0,0,0,0,0,0],.rep 7 32]))]
noncomputable def HU : ax := .aw [((.ofNat 2),(.bool true))]
noncomputable def FI : ax := .aw [((.ofNat 2),(.bytes [.rep 7 64]))]
noncomputable def zT : ax := .inst 481 [(116,(.loc 9)),(54,(qI 2)),(117,(.loc 32)),(118,(.loc 33))]
noncomputable def Li : ax := .aw [((.ofNat 1),(.bytes [qL,.be 0 (.ofNat 0) 4 0 4,.lit [0,0,0,2,0,0,0,0,0,0,0,0,0,0,0,0,0,0],.rep 6 32]))]
noncomputable def Lj : ax := .aw [((.ofNat 2),(.bytes [.rep 6 64]))]
noncomputable def Ll : ax := .inst 246 [(52,(.loc 1)),(53,qC),(23,(qI 64)),(49,(qV 6)),(54,(qI 1)),(55,(qV 7))]
noncomputable def Lm : ax := .aw [((.ofNat 1),(.bytes [qL,.be 0 (.ofNat 0) 4 0 4,.lit [0,0,0,3,0,0,0,0,0,0,0,0,0,0,0,0,0,0],.rep 8 32]))]
noncomputable def Ln : ax := .aw [((.ofNat 2),(.bytes [.rep 8 64]))]
noncomputable def HV : ax := .aw [((.ofNat 3),(.bool true))]
noncomputable def Lp : ax := .aw [((.ofNat 3),(.bytes [.rep 8 64]))]
noncomputable def zw : ax := .inst 481 [(116,(.loc 9)),(54,(qI 3)),(117,(.loc 32)),(118,(.loc 33))]
noncomputable def Lq : ax := .aw [((.ofNat 1),(.bytes [qL,.be 0 (.ofNat 0) 4 0 4,.lit [0,0,0,3,0,0,0,0,0,0,0,0,0,0,0,0,0,0],.rep 7 32]))]
noncomputable def Lr : ax := .aw [((.ofNat 3),(.bytes [.rep 7 64]))]
noncomputable def zH : ax := .inst 246 [(52,(.loc 1)),(53,qC),(23,(qI 64)),(49,(qV 5)),(54,(qI 2)),(55,(qV 6))]
noncomputable def zO : ax := .aw [((.ofNat 1),(.bool true)),((.ofNat 2),(.bool true))]
noncomputable def zA : ax := .jl 4
noncomputable def zP : ax := .bT [.d9 9 0 168]
noncomputable def Ls : ax := .aw [((.ofNat 1),(.bytes [qL,.be 0 (.ofNat 0) 4 0 4,.lit [0,0,0,2,0,0,0,0,0,0,0,0,0,0,0,0,0,0],.rep 7 32])),((.ofNat 2),(.bytes [.rep 8 64]))]
noncomputable def Lu : ax := .inst 246 [(52,(.loc 1)),(53,qC),(23,(qI 64)),(49,(qV 4)),(54,(qI 2)),(55,(qV 5))]
noncomputable def Lv : ax := .aw [((.ofNat 1),(.bytes [qL,.be 0 (.ofNat 0) 4 0 4,.lit [0,0,0,2,0,0,0,0,0,0,0,0,0,0,0,0,0,0],.rep 6 32])),((.ofNat 2),(.bytes [.rep 7 64]))]
noncomputable def Lw : ax := .inst 246 [(52,(.loc 1)),(53,qC),(23,(qI 64)),(49,(qV 6)),(54,(qI 2)),(55,(qV 7))]
noncomputable def Lx : ax := .aw [((.ofNat 1),(.bytes [qL,.be 0 (.ofNat 0) 4 0 4,.lit [0,0,0,3,0,0,0,0,0,0,0,0,0,0,0,0,0,0],.rep 8 32])),((.ofNat 2),(.bytes [.rep 9 64]))]
noncomputable def HW : ax := .aw [((.ofNat 1),(.bool true)),((.ofNat 3),(.bool true))]
noncomputable def Ly : ax := .aw [((.ofNat 1),(.bytes [qL,.be 0 (.ofNat 0) 4 0 4,.lit [0,0,0,3,0,0,0,0,0,0,0,0,0,0,0,0,0,0],.rep 8 32])),((.ofNat 3),(.bytes [.rep 9 64]))]
noncomputable def HX : ax := .aw [((.ofNat 2),(.bool true)),((.ofNat 3),(.bool true))]
noncomputable def Lz : ax := .aw [((.ofNat 2),(.bytes [.rep 8 64])),((.ofNat 3),(.bytes [.rep 9 64]))]
noncomputable def LA : ax := .aw [((.ofNat 1),(.bytes [qL,.be 0 (.ofNat 0) 4 0 4,.lit [0,0,0,3,0,0,0,0,0,0,0,0,0,0,0,0,0,0],.rep 7 32])),((.ofNat 2),(.bytes [.rep 8 64]))]
noncomputable def LB : ax := .aw [((.ofNat 1),(.bytes [qL,.be 0 (.ofNat 0) 4 0 4,.lit [0,0,0,3,0,0,0,0,0,0,0,0,0,0,0,0,0,0],.rep 7 32])),((.ofNat 3),(.bytes [.rep 8 64]))]
noncomputable def LC : ax := .aw [((.ofNat 2),(.bytes [.rep 7 64])),((.ofNat 3),(.bytes [.rep 8 64]))]
noncomputable def LD : ax := .aw [((.ofNat 1),(.bytes [qL,.d9 7 0 4,.lit [0,0,0,1,0,0,0,0,0,0,0,0,0,0,0,0,0,0],.rep 5 32]))]
noncomputable def LF : ax := .aw [((.ofNat 1),(.bytes [qL,.d9 8 0 4,.lit [0,0,0,2,0,0,0,0,0,0,0,0,0,0,0,0,0,0],.rep 6 32]))]
noncomputable def LG : ax := .aw [((.ofNat 1),(.bytes [qL,.d9 8 0 4,.lit [0,0,0,2,0,0,0,0,0,0,0,0,0,0,0,0,0,0],.rep 2 32])),((.ofNat 2),(.bytes [.rep 6 64]))]
noncomputable def LH : ax := .aw [((.ofNat 1),(.bytes [qL,.d9 9 0 4,.lit [0,0,0,3,0,0,0,0,0,0,0,0,0,0,0,0,0,0],.rep 7 32]))]
noncomputable def LI : ax := .aw [((.ofNat 1),(.bytes [qL,.d9 9 0 4,.lit [0,0,0,3,0,0,0,0,0,0,0,0,0,0,0,0,0,0],.rep 2 32])),((.ofNat 2),(.bytes [.rep 7 64]))]
noncomputable def LJ : ax := .aw [((.ofNat 1),(.bytes [qL,.d9 9 0 4,.lit [0,0,0,3,0,0,0,0,0,0,0,0,0,0,0,0,0,0],.rep 2 32])),((.ofNat 3),(.bytes [.rep 7 64]))]
noncomputable def LK : ax := .inst 246 [(52,(.loc 1)),(53,qC),(23,(qI 64)),(49,(qV 6)),(54,(qI 3)),(55,(qV 7))]
noncomputable def HY : ax := .aw [((.ofNat 1),(.bool true)),((.ofNat 2),(.bool true)),((.ofNat 3),(.bool true))]
noncomputable def LL : ax := .jl 5
noncomputable def LM : ax := .aw [((.ofNat 1),(.bytes [qL,.be 0 (.ofNat 0) 4 0 4,.lit [0,0,0,3,0,0,0,0,0,0,0,0,0,0,0,0,0,0],.rep 8 32])),((.ofNat 2),(.bytes [.rep 9 64])),((.ofNat 3),(.bytes [.rep 10 64]))]
noncomputable def LN : ax := .inst 246 [(52,(.loc 1)),(53,qC),(23,(qI 64)),(49,(qV 5)),(54,(qI 3)),(55,(qV 6))]
noncomputable def LO : ax := .aw [((.ofNat 1),(.bytes [qL,.be 0 (.ofNat 0) 4 0 4,.lit [0,0,0,3,0,0,0,0,0,0,0,0,0,0,0,0,0,0],.rep 7 32])),((.ofNat 2),(.bytes [.rep 8 64])),((.ofNat 3),(.bytes [.rep 9 64]))]
noncomputable def LP : ax := .aw [((.ofNat 1),(.bytes [qL,.d9 9 0 4,.lit [0,0,0,2,0,0,0,0,0,0,0,0,0,0,0,0,0,0],.rep 6 32])),((.ofNat 2),(.bytes [.rep 7 64]))]
noncomputable def LQ : ax := .aw [((.ofNat 1),(.bytes [qL,.d9 10 0 4,.lit [0,0,0,3,0,0,0,0,0,0,0,0,0,0,0,0,0,0],.rep 7 32])),((.ofNat 2),(.bytes [.rep 8 64]))]
noncomputable def LR : ax := .aw [((.ofNat 1),(.bytes [qL,.d9 10 0 4,.lit [0,0,0,3,0,0,0,0,0,0,0,0,0,0,0,0,0,0],.rep 7 32])),((.ofNat 3),(.bytes [.rep 8 64]))]
noncomputable def LU : ax := .aw [((.ofNat 1),(.bytes [qL,.d9 10 0 4,.lit [0,0,0,3,0,0,0,0,0,0,0,0,0,0,0,0,0,0],.rep 2 32])),((.ofNat 2),(.bytes [.rep 7 64])),((.ofNat 3),(.bytes [.rep 8 64]))]
noncomputable def LV : ax := .aw [((.ofNat 1),(.bytes [qL,.d9 11 0 4,.lit [0,0,0,3,0,0,0,0,0,0,0,0,0,0,0,0,0,0],.rep 7 32])),((.ofNat 2),(.bytes [.rep 8 64])),((.ofNat 3),(.bytes [.rep 9 64]))]
noncomputable def v0 : List VD := [.gh 1,.any,.int (.ofNat 0) (.ofNat 256),.lt 0]
noncomputable def v1 : List VD := [.gh 1,.any,.int (.ofNat 0) (.ofNat 256),.int (.ofNat 0) (.ofNat 256),.lt 0]
noncomputable def v2 : List VD := [.gh 1,.any,.int (.ofNat 0) (.ofNat 256),.int (.ofNat 0) (.ofNat 256),.int (.ofNat 0) (.ofNat 256),.lt 0]
noncomputable def v3 : List VD := [.gh 1,.any,.int (.ofNat 0) (.ofNat 256)]
noncomputable def v4 : List VD := [.gh 1,.any,.int (.ofNat 0) (.ofNat 256),.int (.ofNat 0) (.ofNat 256)]
noncomputable def v5 : List VD := [.gh 1,.any,.int (.ofNat 0) (.ofNat 256),.int (.ofNat 0) (.ofNat 256),.int (.ofNat 0) (.ofNat 256)]
noncomputable def v6 : List VD := [.gh 1,.any,.int (.ofNat 0) (.ofNat 256),.lt 0,.int (.ofNat 0) (.ofNat 4294967296),.int (.ofNat 0) (.ofNat 4294967296),.int (.ofNat 0) (.ofNat 256),.oct]
noncomputable def v7 : List VD := [.gh 1,.any,.int (.ofNat 0) (.ofNat 256),.int (.ofNat 0) (.ofNat 4294967296),.int (.ofNat 0) (.ofNat 4294967296),.int (.ofNat 0) (.ofNat 256),.oct]
noncomputable def v8 : List VD := [.gh 1,.any,.int (.ofNat 0) (.ofNat 256),.int (.ofNat 0) (.ofNat 256),.lt 0,.int (.ofNat 0) (.ofNat 4294967296),.int (.ofNat 0) (.ofNat 4294967296),.int (.ofNat 0) (.ofNat 256),.oct]
noncomputable def v9 : List VD := [.gh 1,.any,.int (.ofNat 0) (.ofNat 256),.int (.ofNat 0) (.ofNat 256),.int (.ofNat 0) (.ofNat 4294967296),.int (.ofNat 0) (.ofNat 4294967296),.int (.ofNat 0) (.ofNat 256),.oct]
noncomputable def v10 : List VD := [.gh 1,.any,.int (.ofNat 0) (.ofNat 256),.int (.ofNat 0) (.ofNat 256),.int (.ofNat 0) (.ofNat 256),.lt 0,.int (.ofNat 0) (.ofNat 4294967296),.int (.ofNat 0) (.ofNat 4294967296),.int (.ofNat 0) (.ofNat 256),.oct]
noncomputable def v11 : List VD := [.gh 1,.any,.int (.ofNat 0) (.ofNat 256),.int (.ofNat 0) (.ofNat 256),.int (.ofNat 0) (.ofNat 256),.int (.ofNat 0) (.ofNat 4294967296),.int (.ofNat 0) (.ofNat 4294967296),.int (.ofNat 0) (.ofNat 256),.oct]
noncomputable def NS : List VD := [.gh 1,.any,.int (.ofNat 0) (.ofNat 256),.int (.ofNat 0) (.ofNat 256),.lt 0,.int (.ofNat 0) (.ofNat 4294967296),.int (.ofNat 0) (.ofNat 4294967296),.int (.ofNat 0) (.ofNat 256),.int (.ofNat 0) (.ofNat 256),.oct]
noncomputable def NT : List VD := [.gh 1,.any,.int (.ofNat 0) (.ofNat 256),.int (.ofNat 0) (.ofNat 256),.int (.ofNat 0) (.ofNat 4294967296),.int (.ofNat 0) (.ofNat 4294967296),.int (.ofNat 0) (.ofNat 256),.int (.ofNat 0) (.ofNat 256),.oct]
noncomputable def NU : List VD := [.gh 1,.any,.int (.ofNat 0) (.ofNat 256),.int (.ofNat 0) (.ofNat 256),.int (.ofNat 0) (.ofNat 256),.lt 0,.int (.ofNat 0) (.ofNat 4294967296),.int (.ofNat 0) (.ofNat 4294967296),.int (.ofNat 0) (.ofNat 256),.int (.ofNat 0) (.ofNat 256),.oct]
noncomputable def NV : List VD := [.gh 1,.any,.int (.ofNat 0) (.ofNat 256),.int (.ofNat 0) (.ofNat 256),.int (.ofNat 0) (.ofNat 256),.int (.ofNat 0) (.ofNat 4294967296),.int (.ofNat 0) (.ofNat 4294967296),.int (.ofNat 0) (.ofNat 256),.int (.ofNat 0) (.ofNat 256),.oct]
noncomputable def NW : List VD := [.gh 1,.any,.int (.ofNat 0) (.ofNat 256),.int (.ofNat 0) (.ofNat 4294967296),.int (.ofNat 0) (.ofNat 4294967296),.int (.ofNat 0) (.ofNat 256),.oct,.oct]
noncomputable def NX : List VD := [.gh 1,.any,.int (.ofNat 0) (.ofNat 256),.int (.ofNat 0) (.ofNat 256),.int (.ofNat 0) (.ofNat 4294967296),.int (.ofNat 0) (.ofNat 4294967296),.int (.ofNat 0) (.ofNat 256),.oct,.oct]
noncomputable def NY : List VD := [.gh 1,.any,.int (.ofNat 0) (.ofNat 256),.int (.ofNat 0) (.ofNat 256),.int (.ofNat 0) (.ofNat 256),.int (.ofNat 0) (.ofNat 4294967296),.int (.ofNat 0) (.ofNat 4294967296),.int (.ofNat 0) (.ofNat 256),.oct,.oct]
noncomputable def NZ : List VD := [.gh 1,.any,.int (.ofNat 0) (.ofNat 256),.int (.ofNat 0) (.ofNat 256),.int (.ofNat 0) (.ofNat 256),.lt 0,.int (.ofNat 0) (.ofNat 4294967296),.int (.ofNat 0) (.ofNat 4294967296),.int (.ofNat 0) (.ofNat 256),.int (.ofNat 0) (.ofNat 256),.int (.ofNat 0) (.ofNat 256),.oct]
noncomputable def v20 : List VD := [.gh 1,.any,.int (.ofNat 0) (.ofNat 256),.int (.ofNat 0) (.ofNat 256),.int (.ofNat 0) (.ofNat 256),.int (.ofNat 0) (.ofNat 4294967296),.int (.ofNat 0) (.ofNat 4294967296),.int (.ofNat 0) (.ofNat 256),.int (.ofNat 0) (.ofNat 256),.int (.ofNat 0) (.ofNat 256),.oct]
noncomputable def N0 : List VD := [.gh 1,.any,.int (.ofNat 0) (.ofNat 256),.int (.ofNat 0) (.ofNat 256),.int (.ofNat 0) (.ofNat 4294967296),.int (.ofNat 0) (.ofNat 4294967296),.int (.ofNat 0) (.ofNat 256),.int (.ofNat 0) (.ofNat 256),.oct,.oct]
noncomputable def N6 : List VD := [.gh 1,.any,.int (.ofNat 0) (.ofNat 256),.int (.ofNat 0) (.ofNat 256),.int (.ofNat 0) (.ofNat 256),.int (.ofNat 0) (.ofNat 4294967296),.int (.ofNat 0) (.ofNat 4294967296),.int (.ofNat 0) (.ofNat 256),.int (.ofNat 0) (.ofNat 256),.oct,.oct]
noncomputable def N7 : List VD := [.gh 1,.any,.int (.ofNat 0) (.ofNat 256),.int (.ofNat 0) (.ofNat 256),.int (.ofNat 0) (.ofNat 256),.int (.ofNat 0) (.ofNat 4294967296),.int (.ofNat 0) (.ofNat 4294967296),.int (.ofNat 0) (.ofNat 256),.int (.ofNat 0) (.ofNat 256),.int (.ofNat 0) (.ofNat 256),.oct,.oct]
noncomputable def LW : List (List ax) := [[.src],
[.inst 910 [(193,(qI 8)),(196,.none),(197,(.loc 5)),(163,(qV 1)),(198,.none),(199,(.loc 6)),(134,(.loc 7))]],
[.list [(.loc 8),(.loc 9)]],
[.list [(qV 2),(qV 3),(qV 4)],.list [(qV 2),(qV 3)],.list [(qV 2)]],
[.list [(.loc 10),(.loc 11)]],
[.aR [([100,98],(.loc 12)),([100,98,45,106,111,117,114,110,97,108],(.loc 13))],.aR [([100,98],(.loc 12))]],
[za],
[.inst 381 [(79,(.loc 14)),(80,(.loc 15)),(81,(.loc 16))],.inst 381 [(79,(.loc 13)),(80,(.loc 14)),(81,(.loc 15))]],
[.inst 769 [(52,(.loc 1)),(53,qA),(82,(qI 1)),(23,(qI 64)),(133,.none),(58,(.loc 12)),(134,(.loc 7)),(135,qB),(136,(.bool true)),(137,(.bool true)),(138,(qV 0)),(139,(.loc 17)),(140,(.loc 18)),(72,(.loc 19)),(142,(.loc 20)),(143,(.bool false)),(144,(qI 3)),(145,(qI 0))],.inst 769 [(52,(.loc 1)),(53,qA),(82,(qI 1)),(23,(qI 64)),(133,.none),(58,(.loc 12)),(134,(.loc 7)),(135,qB),(136,(.bool true)),(137,(.bool false)),(138,(qV 0)),(139,(.loc 17)),(140,(.loc 18)),(72,.none),(142,(.loc 19)),(143,(.bool false)),(144,.bb),(145,(qI 0))],.inst 769 [(52,(.loc 1)),(53,qA),(82,(qI 1)),(23,(qI 64)),(133,.none),(58,(.loc 12)),(134,(.loc 7)),(135,qB),(136,(.bool true)),(137,(.bool false)),(138,(qV 0)),(139,(.loc 16)),(140,(.loc 17)),(72,.none),(142,(.loc 18)),(143,(.bool false)),(144,.bb),(145,(qI 0))],.inst 769 [(52,(.loc 1)),(53,qA),(82,(qI 1)),(23,(qI 64)),(133,.none),(58,(.loc 12)),(134,(.loc 7)),(135,qB),(136,(.bool false)),(137,(.bool false)),(138,(qV 0)),(139,(.loc 17)),(140,(.loc 18)),(72,.none),(142,(.loc 19)),(143,(.bool false)),(144,.bb),(145,(qI 0))],.inst 769 [(52,(.loc 1)),(53,qA),(82,(qI 1)),(23,(qI 64)),(133,.none),(58,(.loc 12)),(134,(.loc 7)),(135,qB),(136,(.bool false)),(137,(.bool false)),(138,(qV 0)),(139,(.loc 16)),(140,(.loc 17)),(72,.none),(142,(.loc 18)),(143,(.bool false)),(144,.bb),(145,(qI 0))],.inst 769 [(52,(.loc 1)),(53,qA),(82,(qI 1)),(23,(qI 64)),(133,.none),(58,(.loc 12)),(134,(.loc 7)),(135,qB),(136,(.bool true)),(137,(.bool true)),(138,(qV 0)),(139,(.loc 17)),(140,(.loc 18)),(72,(.loc 19)),(142,(.loc 20)),(143,(.bool false)),(144,(qI 2)),(145,(qI 0))],.inst 769 [(52,(.loc 1)),(53,qA),(82,(qI 1)),(23,(qI 64)),(133,.none),(58,(.loc 12)),(134,(.loc 7)),(135,qB),(136,(.bool true)),(137,(.bool true)),(138,(qV 0)),(139,(.loc 17)),(140,(.loc 18)),(72,(.loc 19)),(142,(.loc 20)),(143,(.bool false)),(144,(qI 1)),(145,(qI 0))],.inst 769 [(52,(.loc 1)),(53,qA),(82,(qI 1)),(23,(qI 64)),(133,.none),(58,(.loc 12)),(134,(.loc 7)),(135,qB),(136,(.bool false)),(137,(.bool false)),(138,(qV 5)),(139,.bb),(140,(.loc 17)),(72,.none),(142,(.loc 18)),(143,(.bool false)),(144,.bb),(145,(qI 0))],.inst 769 [(52,(.loc 1)),(53,qA),(82,(qI 1)),(23,(qI 64)),(133,.none),(58,(.loc 12)),(134,(.loc 7)),(135,qB),(136,(.bool true)),(137,(.bool true)),(138,(qV 0)),(139,(.loc 16)),(140,(.loc 17)),(72,.none),(142,(.loc 18)),(143,(.bool false)),(144,(qI 1)),(145,(qI 0))],.inst 769 [(52,(.loc 1)),(53,qA),(82,(qI 1)),(23,(qI 64)),(133,.none),(58,(.loc 12)),(134,(.loc 7)),(135,qB),(136,(.bool true)),(137,(.bool true)),(138,(qV 0)),(139,(.loc 16)),(140,(.loc 17)),(72,.none),(142,(.loc 18)),(143,(.bool false)),(144,(qI 2)),(145,(qI 0))],.inst 769 [(52,(.loc 1)),(53,qA),(82,(qI 1)),(23,(qI 64)),(133,.none),(58,(.loc 12)),(134,(.loc 7)),(135,qB),(136,(.bool true)),(137,(.bool true)),(138,(qV 0)),(139,(.loc 16)),(140,(.loc 17)),(72,.none),(142,(.loc 18)),(143,(.bool false)),(144,(qI 3)),(145,(qI 0))],.inst 769 [(52,(.loc 1)),(53,qA),(82,(qI 1)),(23,(qI 64)),(133,.none),(58,(.loc 12)),(134,(.loc 7)),(135,qB),(136,(.bool false)),(137,(.bool false)),(138,(qV 3)),(139,.bb),(140,(.loc 16)),(72,.none),(142,(.loc 17)),(143,(.bool false)),(144,.bb),(145,(qI 0))],.inst 769 [(52,(.loc 1)),(53,qA),(82,(qI 1)),(23,(qI 64)),(133,.none),(58,(.loc 12)),(134,(.loc 7)),(135,qB),(136,(.bool false)),(137,(.bool false)),(138,(qV 4)),(139,.bb),(140,(.loc 16)),(72,.none),(142,(.loc 17)),(143,(.bool false)),(144,.bb),(145,(qI 0))],.inst 769 [(52,(.loc 1)),(53,qA),(82,(qI 1)),(23,(qI 64)),(133,.none),(58,(.loc 12)),(134,(.loc 7)),(135,qB),(136,(.bool false)),(137,(.bool false)),(138,(qV 5)),(139,.bb),(140,(.loc 16)),(72,.none),(142,(.loc 17)),(143,(.bool false)),(144,.bb),(145,(qI 0))],.inst 769 [(52,(.loc 1)),(53,qA),(82,(qI 1)),(23,(qI 64)),(133,.none),(58,(.loc 12)),(134,(.loc 7)),(135,qB),(136,(.bool false)),(137,(.bool false)),(138,(qV 4)),(139,.bb),(140,(.loc 17)),(72,.none),(142,(.loc 18)),(143,(.bool false)),(144,.bb),(145,(qI 0))],.inst 769 [(52,(.loc 1)),(53,qA),(82,(qI 1)),(23,(qI 64)),(133,.none),(58,(.loc 12)),(134,(.loc 7)),(135,qB),(136,(.bool false)),(137,(.bool false)),(138,(qV 3)),(139,.bb),(140,(.loc 17)),(72,.none),(142,(.loc 18)),(143,(.bool false)),(144,.bb),(145,(qI 0))]],
[.inst 769 [(52,(.loc 1)),(53,qA),(82,(qI 2)),(23,(qI 64)),(133,.none),(58,(.loc 12)),(134,(.loc 7)),(135,qB),(136,(.bool true)),(137,(.bool true)),(138,(qV 0)),(139,(.loc 20)),(140,(.loc 21)),(72,(.loc 22)),(142,(.loc 23)),(143,(.bool false)),(144,(qI 3)),(145,(qI 0))],.inst 769 [(52,(.loc 1)),(53,qA),(82,(qI 2)),(23,(qI 64)),(133,.none),(58,(.loc 12)),(134,(.loc 7)),(135,qB),(136,(.bool true)),(137,(.bool false)),(138,(qV 0)),(139,(.loc 21)),(140,(.loc 22)),(72,.none),(142,(.loc 23)),(143,(.bool false)),(144,.bb),(145,(qI 0))],.inst 769 [(52,(.loc 1)),(53,qA),(82,(qI 2)),(23,(qI 64)),(133,.none),(58,(.loc 12)),(134,(.loc 7)),(135,qB),(136,(.bool false)),(137,(.bool false)),(138,(qV 0)),(139,(.loc 21)),(140,(.loc 22)),(72,.none),(142,(.loc 23)),(143,(.bool false)),(144,.bb),(145,(qI 0))],.inst 769 [(52,(.loc 1)),(53,qA),(82,(qI 2)),(23,(qI 64)),(133,.none),(58,(.loc 12)),(134,(.loc 7)),(135,qB),(136,(.bool true)),(137,(.bool false)),(138,(qV 0)),(139,(.loc 19)),(140,(.loc 20)),(72,.none),(142,(.loc 21)),(143,(.bool false)),(144,.bb),(145,(qI 0))],.inst 769 [(52,(.loc 1)),(53,qA),(82,(qI 2)),(23,(qI 64)),(133,.none),(58,(.loc 12)),(134,(.loc 7)),(135,qB),(136,(.bool false)),(137,(.bool false)),(138,(qV 0)),(139,(.loc 19)),(140,(.loc 20)),(72,.none),(142,(.loc 21)),(143,(.bool false)),(144,.bb),(145,(qI 0))],.inst 769 [(52,(.loc 1)),(53,qA),(82,(qI 2)),(23,(qI 64)),(133,.none),(58,(.loc 12)),(134,(.loc 7)),(135,qB),(136,(.bool true)),(137,(.bool true)),(138,(qV 0)),(139,(.loc 20)),(140,(.loc 21)),(72,(.loc 22)),(142,(.loc 23)),(143,(.bool false)),(144,(qI 2)),(145,(qI 0))],.inst 769 [(52,(.loc 1)),(53,qA),(82,(qI 2)),(23,(qI 64)),(133,.none),(58,(.loc 12)),(134,(.loc 7)),(135,qB),(136,(.bool true)),(137,(.bool true)),(138,(qV 0)),(139,(.loc 20)),(140,(.loc 21)),(72,(.loc 22)),(142,(.loc 23)),(143,(.bool false)),(144,(qI 1)),(145,(qI 0))],.inst 769 [(52,(.loc 1)),(53,qA),(82,(qI 2)),(23,(qI 64)),(133,.none),(58,(.loc 12)),(134,(.loc 7)),(135,qB),(136,(.bool false)),(137,(.bool false)),(138,(qV 5)),(139,.bb),(140,(.loc 21)),(72,.none),(142,(.loc 22)),(143,(.bool false)),(144,.bb),(145,(qI 0))],.inst 769 [(52,(.loc 1)),(53,qA),(82,(qI 2)),(23,(qI 64)),(133,.none),(58,(.loc 12)),(134,(.loc 7)),(135,qB),(136,(.bool true)),(137,(.bool true)),(138,(qV 0)),(139,(.loc 19)),(140,(.loc 20)),(72,(.loc 21)),(142,(.loc 22)),(143,(.bool false)),(144,(qI 3)),(145,(qI 0))],.inst 769 [(52,(.loc 1)),(53,qA),(82,(qI 2)),(23,(qI 64)),(133,.none),(58,(.loc 12)),(134,(.loc 7)),(135,qB),(136,(.bool true)),(137,(.bool true)),(138,(qV 0)),(139,(.loc 19)),(140,(.loc 20)),(72,.none),(142,(.loc 21)),(143,(.bool false)),(144,(qI 1)),(145,(qI 0))],.inst 769 [(52,(.loc 1)),(53,qA),(82,(qI 2)),(23,(qI 64)),(133,.none),(58,(.loc 12)),(134,(.loc 7)),(135,qB),(136,(.bool true)),(137,(.bool true)),(138,(qV 0)),(139,(.loc 19)),(140,(.loc 20)),(72,.none),(142,(.loc 21)),(143,(.bool false)),(144,(qI 2)),(145,(qI 0))],.inst 769 [(52,(.loc 1)),(53,qA),(82,(qI 2)),(23,(qI 64)),(133,.none),(58,(.loc 12)),(134,(.loc 7)),(135,qB),(136,(.bool true)),(137,(.bool true)),(138,(qV 0)),(139,(.loc 19)),(140,(.loc 20)),(72,.none),(142,(.loc 21)),(143,(.bool false)),(144,(qI 3)),(145,(qI 0))],.inst 769 [(52,(.loc 1)),(53,qA),(82,(qI 2)),(23,(qI 64)),(133,.none),(58,(.loc 12)),(134,(.loc 7)),(135,qB),(136,(.bool true)),(137,(.bool false)),(138,(qV 0)),(139,(.loc 18)),(140,(.loc 19)),(72,.none),(142,(.loc 20)),(143,(.bool false)),(144,.bb),(145,(qI 0))],.inst 769 [(52,(.loc 1)),(53,qA),(82,(qI 2)),(23,(qI 64)),(133,.none),(58,(.loc 12)),(134,(.loc 7)),(135,qB),(136,(.bool false)),(137,(.bool false)),(138,(qV 3)),(139,.bb),(140,(.loc 19)),(72,.none),(142,(.loc 20)),(143,(.bool false)),(144,.bb),(145,(qI 0))],.inst 769 [(52,(.loc 1)),(53,qA),(82,(qI 2)),(23,(qI 64)),(133,.none),(58,(.loc 12)),(134,(.loc 7)),(135,qB),(136,(.bool false)),(137,(.bool false)),(138,(qV 4)),(139,.bb),(140,(.loc 19)),(72,.none),(142,(.loc 20)),(143,(.bool false)),(144,.bb),(145,(qI 0))],.inst 769 [(52,(.loc 1)),(53,qA),(82,(qI 2)),(23,(qI 64)),(133,.none),(58,(.loc 12)),(134,(.loc 7)),(135,qB),(136,(.bool false)),(137,(.bool false)),(138,(qV 5)),(139,.bb),(140,(.loc 19)),(72,.none),(142,(.loc 20)),(143,(.bool false)),(144,.bb),(145,(qI 0))],.inst 769 [(52,(.loc 1)),(53,qA),(82,(qI 2)),(23,(qI 64)),(133,.none),(58,(.loc 12)),(134,(.loc 7)),(135,qB),(136,(.bool false)),(137,(.bool false)),(138,(qV 4)),(139,.bb),(140,(.loc 21)),(72,.none),(142,(.loc 22)),(143,(.bool false)),(144,.bb),(145,(qI 0))],.inst 769 [(52,(.loc 1)),(53,qA),(82,(qI 2)),(23,(qI 64)),(133,.none),(58,(.loc 12)),(134,(.loc 7)),(135,qB),(136,(.bool false)),(137,(.bool false)),(138,(qV 0)),(139,(.loc 18)),(140,(.loc 19)),(72,.none),(142,(.loc 20)),(143,(.bool false)),(144,.bb),(145,(qI 0))],.inst 769 [(52,(.loc 1)),(53,qA),(82,(qI 2)),(23,(qI 64)),(133,.none),(58,(.loc 12)),(134,(.loc 7)),(135,qB),(136,(.bool true)),(137,(.bool true)),(138,(qV 0)),(139,(.loc 19)),(140,(.loc 20)),(72,(.loc 21)),(142,(.loc 22)),(143,(.bool false)),(144,(qI 2)),(145,(qI 0))],.inst 769 [(52,(.loc 1)),(53,qA),(82,(qI 2)),(23,(qI 64)),(133,.none),(58,(.loc 12)),(134,(.loc 7)),(135,qB),(136,(.bool false)),(137,(.bool false)),(138,(qV 3)),(139,.bb),(140,(.loc 21)),(72,.none),(142,(.loc 22)),(143,(.bool false)),(144,.bb),(145,(qI 0))],.inst 769 [(52,(.loc 1)),(53,qA),(82,(qI 2)),(23,(qI 64)),(133,.none),(58,(.loc 12)),(134,(.loc 7)),(135,qB),(136,(.bool true)),(137,(.bool true)),(138,(qV 0)),(139,(.loc 18)),(140,(.loc 19)),(72,.none),(142,(.loc 20)),(143,(.bool false)),(144,(qI 1)),(145,(qI 0))],.inst 769 [(52,(.loc 1)),(53,qA),(82,(qI 2)),(23,(qI 64)),(133,.none),(58,(.loc 12)),(134,(.loc 7)),(135,qB),(136,(.bool true)),(137,(.bool true)),(138,(qV 0)),(139,(.loc 18)),(140,(.loc 19)),(72,.none),(142,(.loc 20)),(143,(.bool false)),(144,(qI 2)),(145,(qI 0))],.inst 769 [(52,(.loc 1)),(53,qA),(82,(qI 2)),(23,(qI 64)),(133,.none),(58,(.loc 12)),(134,(.loc 7)),(135,qB),(136,(.bool true)),(137,(.bool true)),(138,(qV 0)),(139,(.loc 18)),(140,(.loc 19)),(72,.none),(142,(.loc 20)),(143,(.bool false)),(144,(qI 3)),(145,(qI 0))],.inst 769 [(52,(.loc 1)),(53,qA),(82,(qI 2)),(23,(qI 64)),(133,.none),(58,(.loc 12)),(134,(.loc 7)),(135,qB),(136,(.bool true)),(137,(.bool true)),(138,(qV 0)),(139,(.loc 19)),(140,(.loc 20)),(72,(.loc 21)),(142,(.loc 22)),(143,(.bool false)),(144,(qI 1)),(145,(qI 0))]],
[zk,zl,zm,zQ,Lb],
[zk,zl,zm,zQ,Lb],
[.inst 839 [(52,(.loc 1)),(53,qA),(185,.bb),(186,(.loc 25)),(187,(.loc 26))],.inst 839 [(52,(.loc 1)),(53,qA),(185,.bb),(186,(.loc 22)),(187,(.loc 23))],.inst 839 [(52,(.loc 1)),(53,qA),(185,.bb),(186,(.loc 24)),(187,(.loc 25))],.inst 839 [(52,(.loc 1)),(53,qA),(185,.bb),(186,(.loc 21)),(187,(.loc 22))]],
[.inst 839 [(52,(.loc 1)),(53,qC),(185,.bb),(186,(.loc 27)),(187,(.loc 28))],.aR [([100,98],(.loc 24))],.inst 839 [(52,(.loc 1)),(53,qC),(185,.bb),(186,(.loc 26)),(187,(.loc 27))],.aR [([100,98],(.loc 23))]],
[.aR [([100,98],(.loc 29))],za,.aR [([100,98],(.loc 28))]],
[za],
[za,zc,zD,zs,zh,K7],
[zh,zs,zc,.inst 481 [(116,(.loc 8)),(54,.bb),(117,(.loc 25)),(118,(.loc 26))],.inst 481 [(116,(.loc 8)),(54,(qI 1)),(117,(.loc 25)),(118,(.loc 26))],.inst 481 [(116,(.loc 8)),(54,(qI 2)),(117,(.loc 25)),(118,(.loc 26))],.inst 481 [(116,(.loc 8)),(54,(qI 3)),(117,(.loc 25)),(118,(.loc 26))],zD,.inst 481 [(116,(.loc 8)),(54,.bb),(117,(.loc 29)),(118,(.loc 30))],K7,.inst 481 [(116,(.loc 8)),(54,(qI 1)),(117,(.loc 24)),(118,(.loc 25))],.inst 481 [(116,(.loc 8)),(54,(qI 2)),(117,(.loc 24)),(118,(.loc 25))],.inst 481 [(116,(.loc 8)),(54,(qI 3)),(117,(.loc 24)),(118,(.loc 25))]],
[zc,.inst 481 [(116,(.loc 8)),(54,(qI 3)),(117,(.loc 30)),(118,(.loc 31))],.inst 481 [(116,(.loc 8)),(54,(qI 2)),(117,(.loc 30)),(118,(.loc 31))],.inst 481 [(116,(.loc 8)),(54,.bb),(117,(.loc 30)),(118,(.loc 31))],.inst 481 [(116,(.loc 8)),(54,(qI 1)),(117,(.loc 30)),(118,(.loc 31))],.inst 481 [(116,(.loc 8)),(54,(qI 3)),(117,(.loc 29)),(118,(.loc 30))],.inst 481 [(116,(.loc 8)),(54,(qI 2)),(117,(.loc 29)),(118,(.loc 30))],zD,zs,zh,.inst 481 [(116,(.loc 8)),(54,(qI 1)),(117,(.loc 29)),(118,(.loc 30))]],
[zc,zH,zh,zs,zR,zD,.inst 481 [(116,(.loc 9)),(54,.bb),(117,(.loc 26)),(118,(.loc 27))],z7,Lu,LN,Lf,Ll,Lw,.inst 481 [(116,(.loc 9)),(54,(qI 1)),(117,(.loc 26)),(118,(.loc 27))],.inst 481 [(116,(.loc 9)),(54,(qI 2)),(117,(.loc 26)),(118,(.loc 27))],.inst 481 [(116,(.loc 9)),(54,(qI 3)),(117,(.loc 26)),(118,(.loc 27))],LK],
[zh,zJ,.inst 481 [(116,(.loc 9)),(54,.bb),(117,(.loc 27)),(118,(.loc 28))],zO,zs,zc,.inst 481 [(116,(.loc 9)),(54,(qI 1)),(117,(.loc 27)),(118,(.loc 28))],.inst 481 [(116,(.loc 9)),(54,(qI 2)),(117,(.loc 27)),(118,(.loc 28))],.inst 481 [(116,(.loc 9)),(54,(qI 3)),(117,(.loc 27)),(118,(.loc 28))],HW,HY,HU,zD,.inst 481 [(116,(.loc 9)),(54,(qI 3)),(117,(.loc 31)),(118,(.loc 32))],HV,HX,.inst 481 [(116,(.loc 9)),(54,(qI 2)),(117,(.loc 31)),(118,(.loc 32))],.inst 481 [(116,(.loc 9)),(54,(qI 1)),(117,(.loc 31)),(118,(.loc 32))]],
[zc,zw,zh,zT,zb,zs,.inst 481 [(116,(.loc 9)),(54,.bb),(117,(.loc 31)),(118,(.loc 32))],Ld,zD,Ll,Lw,zR,z7,zH,LK],
[zb,.inst 481 [(116,(.loc 9)),(54,.bb),(117,(.loc 32)),(118,(.loc 33))],zw,zH,zR,zT,z7,zc,Lu,LN,Lf,zN,zz,zr,Ld,zJ,HU,zO,HV,HW,HX,HY],
[zc,zN,zz,zr,zJ,zO,HW,HY,HU,K8,K9,HV,La,HX,zF,zG,.list [(qV 6)],.list [(qV 7),(qV 3)],.list [(qV 2),(qV 7)],.list [(qV 8),(qV 3),(qV 4)],.list [(qV 2),(qV 8),(qV 4)],.list [(qV 2),(qV 3),(qV 8)],.list [(qV 7),(qV 8)],.list [(qV 8),(qV 9),(qV 4)],.list [(qV 8),(qV 3),(qV 9)],.list [(qV 2),(qV 8),(qV 9)],.list [(qV 8),(qV 9),(qV 10)]],
[zb,zc,.list [(qV 5)],.list [(qV 6),(qV 3)],.list [(qV 2),(qV 6)],.list [(qV 7),(qV 3),(qV 4)],.list [(qV 2),(qV 7),(qV 4)],.list [(qV 2),(qV 3),(qV 7)],.list [(qV 6),(qV 7)],.list [(qV 7),(qV 8),(qV 4)],.list [(qV 7),(qV 3),(qV 8)],.list [(qV 2),(qV 7),(qV 8)],.list [(qV 7),(qV 8),(qV 9)],La,K8,K9,zG,zF,.aB [((.ofNat 1),(qI 1)),((.ofNat 2),(qI 1))],.aB [((.ofNat 2),(qI 1)),((.ofNat 1),(qI 1))],z5,z0,z6,z1],
[zb,zc,zr,zz,zN],
[zr,zb,zz,zc,zN,zv,zA,LL],
[zc,zv,zA,zb,LL,.bT [.d9 9 0 96],.bT [.d9 10 0 168],zS,z8,zP,.bT [.d9 11 0 240]],
[zb,zP,zS,.bT [.d9 8 0 168],z8,.bT [.d9 6 0 96],.bT [.d9 10 0 240],zF,zG,.bT [.d9 7 0 168],.bT [.d9 9 0 240]],
[zG,zF,z0,z1,z5,z6,zc,Lc,Lh,FI,Lm,Ln,Lp,Ls,Lx,Ly,Lz,LM],
[zc,zb,Lg,Li,Lj,Lq,FI,Lr,Lv,LA,LB,LC,LO,LD,LF,LG,LH,LI,LJ,LP,LQ,LR,LU,LV],
[zb,zc,Lc,Lh,FI,Lm,Ln,Lp,Ls,Lx,Ly,Lz,LM],
[zc,zb,Lg,Li,Lj,Lq,FI,Lr,Lv,LA,LB,LC,LO,LD,LF,LG,LH,LI,LJ,LP,LQ,LR,LU,LV],
[zb]]
noncomputable def N8 : List (Nat × V) := [(211,(.loc 0)),(52,(.loc 1)),(229,(.loc 2)),(221,(.loc 3)),(232,(.loc 4))]
noncomputable def mS (n : Nat) : LS × List Nat := (⟨E4 (FH 0 [nat_lit 28,nat_lit 29,nat_lit 33,nat_lit 34] (Nat.mod n (nat_lit 4))) LW (Nat.div n (nat_lit 96)), N8, [], FH [] [v0,v1,v2,v3,v4,v5,v6,v7,v8,v9,v10,v11,NS,NT,NU,NV,NW,NX,NY,NZ,v20,N0,N6,N7] (Nat.mod (Nat.div n (nat_lit 4)) (nat_lit 24))⟩, E3 (nat_lit 512) (nat_lit 40) (E5 (FH 0 [nat_lit 28,nat_lit 29,nat_lit 33,nat_lit 34] (Nat.mod n (nat_lit 4))) LW (Nat.div n (nat_lit 96))))
noncomputable def P0 : List (List Nat) := [[0xb26aa88102ab009b9b42653828037e20,0xb427d3b24eb44838788601df5dd7c5c4,0xb5e4fee39abd8fd555c99e8693ac0d68,0x163760cec1431aca570f9fc0b36bdf4b520,0x2c8525298f6a34e40e4489d63693356891020,0x1005164483f740745a02751ba4367fe76e2d,0x1ffa4df58e6cc38a8769a66fcf1946ea6e5e2d,0x166f32b9315dfd0a7a9d73fa7deb1a0fcc4,0x59e9a83f02a5cd5d8b28831b736195b4a355c44,0x107034a92d7648e4914846fcc0eed6836dd1,0x41a08c09468158da274381ec41b035ff410aa5d1,0x16a70fc4b31f4d9d889b4834486a54d4468,0xb592655e5a2cf003e9a86565e6c76de633de1a868,0x10eaa089ef2c0964d0737fe6ae2408c76d75,0x871327184c97ce1b7361dfc1177a9a2334734eed75,0x224fa551b353bd760bdbb803e706830e98a52d],
[0x447e0fa2fb33913b73d5299e597ce75175bf952d,0x81d8906703d12f04a8fdd6517125f13fd67db779b3da,0x45569fe1d7305991e68044b3908d51edd8cd002d,0x1fbdb862683b393620180fbeca5397b087082d,0x224e7af63400d048d4909cb2b6eeda01f8a52d,0x45544b13ef802d878a7fa29734e8f604cc2d002d,0x8028d0a0948ec553d6903996c42c9762d,0x4035fed5f482f826d1bb915de3918b5037df952d,0x84450ca8a909e80709c9a275c2c26d78cc62e7cbfe5f,0x2353ca8f4ef3196e9336d88e955b585b0ca4d1,0x8d0c3a0dc1c987cfbd981e84bee42b3c26c233dcd1,0x10a1727194b690cc633ea247ebb1ea5dbd63d1a18b0d702,0x10a954979d2467ffa28a35d0c4fadb74efe37211660d702,0x8fef4965283ddf0195cebfbcb6c068f20325410451,0x4127ea577681e1a8c8eca7c8a970882a16230c51,0x2352893f957eb74544c7e284980b93166ca4d1],
[0x8fea43f8704c463f6a3ea32a60e8ef293de0a10451,0x8381c3c5e0a59a2d1805545460b3d75d1,0x83c622462d4059c01ae2325da3b572a8094c53dcd1,0x10f6a55578688a3648d5f6feba221e494a56133f8dbb607,0x10fe7f9d4ac84a3e8e38d3a8848ca894c73aeaea4bbb607,0x24d25badac427bb758e193f1e6f0e2f328a475,0x1260a9a252789b3df76dc18e42f7a477cd1b15a502475,0x222f4dbd8778e06af655c1ce3929f87fd956c6e4027b6382a,0x223f19e7cd4af438621ae8f673448b1d3a7cd00472566382a,0x224ede33de26a29edefb2c31f99c682c6aa3c2902b7fe382a,0x12eb033be23390332348360e44577c74ae59dbd5d0875,0x862333b4faeb29e3f8dab735a281b0ddaf4bbf1075,0x24d0d5814469ba99c5070dbd81f8c90688a475,0x12ea401ff3fee45fa3b347afc855d144a30a3d0bd0875,0x875522cbee8cf52e6db92e4a51f597575,0x10f37112625f620749fd1b2c56cceee5c953f3c702475],
[0x22e8bb6e691885125bdda891b3bc118a3890ecc0fc5224daf,0x22f86ffe0e12a88bdf5c19897728cab8840dd198a71024daf,0x2308248db2bf8b850b84e55a5810be9acf808010744c24daf,0x1127da47d18bf43a37cdaad51b32cbfaad2d,0x11ab5d8c2cbbebb6794dfd1316cae542b15656a2bbd355f,0x13f91c3871df1f6d52e265c185597744b53dc6f736de3df,0x8ddece62d3878860f2c0c3d6967b9a33ab09ac9febdf,0x22ab8d08509213134c25ff39e202f6d2cf082d,0x115c9eb9fd81a9da2f7b386ad3e269b2ad2d,0x13f92fe3fb31ff432b84df8eb95787cf9b5960fab6de3df,0x11facffa9d946d2cc8bb69f703900af600a8418c3bd355f,0x1c8e60a9e9ff8720d755aa70763a3a595a0,0x11a9ece69c7ff9f3079940d7a70d5246acd1,0x24621ee33a1a5da14dd198dcae5f52f5576acefcff4dced07,0x2471d376cded7d553349ff8d247de6d7a2e7b3d4aa0bced07,0x1242a6f53034325f2575011bb2be7ce64225ee667a8d712],
[0x28de72160fcff9c66bb47e7da72cc0de4d854be1e12b5df07,0x125157e0037df3e5fefe48e3b15be6d20ba307b0807e707,0x28fde31390ae8fb39b6332489b73f16fe314754bceba5df07,0x1261144ddf633ce59992e60bf1f5afef3a4e77de0f7e707,0x47f86b3e9becd70ff25b13fd3c6c9540611b0c51,0x1204d0a0b47ad8a5190fe8db94300f4eacd1,0x28dea14b5963ac94fe1af042909470e9c19cdd0224ab5df07,0x28fe1248da424281eed7ecada44747f9a9e512ec123a5df07,0x255f95a2779be05282a9b80329e3c2bd4cb6e20d68cdced07,0x256f4a360b6ffad1bdf47c0b54718e9f9833c6e5138bced07,0x12c5f3e2fb060120df9caf5e0d4dc7b048cbba1b63bb617,0x1d782d8e0c111a875a221f0f9dc597599c4,0x12693575c294b0273e551827e66d243aac75,0x4bd66e163017eccc1aa4dc7611d0ed3bc0c865f6fe61d2b84af,0x4bf5d74536762e410e202a8ce438c8afa313e2dbd60c90b84af,0x4c15406c5e2058d6305a6d4ca1e3247b855f558a4dd9ccb84af],
[0x261e693480cb20529e1ebc6042906b8d890bafd0ebd2e383a,0x262e2d8091a6ceb91b3db2713d7f9e89d500a3aeaa23e383a,0x552e3bad15b6cc7bdf2bba4356a618314a54c64ec55e3adc82f,0x264b8f5638490b0d78f90e8b73b22eafe068c19e39fffd02f,0x265d7a64c439d9ecaa77f4c8debe699cfa817d18e874e383a,0x55cb5905f545e2304e3b605ef3bc305660f22a52af4bc9dc82f,0x267ac49fcbf8e60c5530f980f2c304100252bd14a78efd02f,0x560a3b00f7030e0aad98894206d9a2afa316a1658482a75c82f,0x269a3d7b83c3780b89fc27914ca9455415fb45701e6c7d02f,0x975a5e3d4f62505c513e33b2512d993b88a30f1075,0x12f1c46e4ca055ec715e1b0ad9225ceaac75,0x552ea9d416ba18603fe60657c10c5357ae345a556be1badc82f,0x55cbc72cf6492e13354b5fa6f0b934a6bf5814a455cf49dc82f,0x560aa927f80659ed16c4db176d395ca6b9d2d6b72b06275c82f,0x4eae5697cf80cf253bbc498db509aa9d460aae40ba8b52b84af,0x4ecdbfc6d5df09be9fded71721827b8928562b25923610b84af],
[0x4eed28edfd7b7d351097ff0b0117c7550aa19dd40a034cb84af,0x27925613631577d0e95e82e0f75dd1737726e0ad73c924dbf,0x27a20aa307c936596e47dc17c7504d55c2852265860124dbf,0x1f35376cc41420ae5262113a9d407459de8,0x27c173c251bbaee5116464c5d6c5ae2b4b201fe3094524dbf,0x13e89c0732477583e7cc7d2aa4341c5153346c6abbd3583,0x161fe32c9dd16eac7721ef953ea1972f1774a91e36de403,0x9fd1b7569246f5c119902d59f46115afd59d231febdf,0x9bd4ff3cac206418aa25e721be081762d,0x161ff2e90bad55300fdcc1958ce14253171abce1b6de403,0x1418a556592d5c24c7619e9d8bdcd5d8a4b03e543bd3583,0x390c7a87e50e5380740f95a7fee78246d15a0,0xe47ef8ffb9bd4504649c0b8171d0bda0,0x286eacf3560dc8a958b3a500e27ab0e496eb052a1b23ced17,0x287e607b675a9be8e935b7294b013dd8f80febed474dced27,0x288e150efb2cc0d178dbc0820cb09a9d73be5f5e454bced27],
[0x2cdd421cae595da0b3e00c4b916f2499faad92b5ea38ddf17,0x1458a2095c0c5cd96d776354798db49b00d4e8398dfe717,0x2cecfe8a8a3fa1d95157c43fe0b8cfaa1cf2c19e882b5df27,0x14703c2e8af4971691fe6163cbbaeb24cd77d38b217e707,0x2cfcc2d69d13d8c6e7d5b7f014c4f78349b7a11d3f60ddf27,0x147ff89a7047eb77226e2821697a89bd4316c3b8b07e707,0x9fe424efd429a4c5f23531268c84575d1,0x2cdd79302edb03130940c6dc38f630063fab995c6db8ddf17,0x2ced359e0ac1474c638d46cc5af68d260ba5c8450bab5df27,0x2cfcf20be6a78b953b4a723d8ec0d6989612193d82e0ddf27,0x295c6f0764dd9ad5a915b2bea1bdd9918137a2b444a3ced17,0x296c22aaffdced794991bc851f546685e25c897770cdced27,0x297bd73e93b5edf131f85343d00e4b4a5e0afce86ecbced27,0x75bf4aa63baac27aa981c1f820200b1e23d61c4,0xebccaec13b7b9e6a484784d0cbf8c1c4,0x5371e58a0b75ef57828addc46bbcd473901f925cbf1949b84bf],
[0x53914eb133240519fc0e95e2fb24103f726af09e772b81b84bf,0x53b0b5e8acbcaaba3c4b66ee06baebf49b7a0cb35be9d2b84cb,0x53d020ff8372ebcd3618f793af1afc0db7f38b9bf4aec5b84bf,0x53ef8836fd0b916d7655c89ebab1d7c3117a7af0106a27b84cb,0x540ef15e24b9a72fefd980bd4a19138ef3c5d931c87c5fb84cb,0x2a1d297eb71f79052930940346e60dd22d4ed3eae0c46384e,0x5c6f35c94d9210a1515ab395d6b4fe716f801c98ef32a85c83f,0x2a3aaacd319b4af5204464a05556964172726c5ace6d7d03f,0x5cae17c44f4f3c7bb0b898916a3036cc78f7fdad166ead5c83f,0x2a5a23a8e965dcf455eb049bc74e8443676bf6084a727d03f,0x5ccd90a0071bc4eee334c86ee557b9052f3de9d975853adc84b,0x2a991468fd65637c5a8b96dc1c4a10795fc5f42bf7d9fd02f,0x5d0ca1d0526ca0c2be7b9f2992a282fd5e14a53a56aab25c83f,0x2ab88e3c10c592f20da28dab368a45aa1cf9f8cec6777d03f,0x5d2c1aac0a392936ecbe2f017c12f2a07c6ea2612b2b865c84b,0x2ae7c27e94502b8221c110c2af7ef1a2186d832ee568fd02f],
[0x5d4ba3442fe1971219bad27a64909c402a0d50ead8a78b5c84b,0x2b073b565ef6d443435cb6be5059e087b71c0b8a5c467d02f,0xa7c4bffa0110715dcc44d975a58097575,0x5c70025ae1bcbc3a3621b19ca1e76f6b2f331760bb36285c83f,0x5caee455e379e814179ca53e1f23236eb854ad74e2722d5c83f,0x5cce5d319b46708941a5951076dc807bddd299a14188badc84b,0x5d0d3f2c9d039c7f2abd2f9ddbe03021cca6a1a18fee325c83f,0x5d2cb80854d024f4d2a94f6d6abe03e43e6a9ec8646f065c84b,0x5d4c30e40c9cad868224626852b40392be1a1bdc8bab0b5c84b,0x5725adaf9cf2cde9f232f8fb3d1b5ac6d2aed6dd2702c9b84bf,0x574516d6c4ae9acb1d37cbe5aa97a692b4fa351edf1501b84bf,0x57647e4551ac3f337d688c2ce04e8247de095133c3d352b84cb,0x5783e91d36c891f47fb4789d847d9ce8fa82d01c5c9845b84bf,0x57a35093a1f93630522ca4367714789e5409bf707853a7b84cb,0x57c2b9bac9b6f8a828d631d04d6f346a36551db23065dfb84cb,0x2bed69ea23f43f3dec1e69c950e139c8e61f8e26a2c124dd3],
[0xf966e3bced3f9393bc75942002568c69ec80dade8,0xf9b607c65175bf84636c54c3a620c5e8,0xb0afb2e73a18da88dc21d51a6c0b0510cc2f67cbfe83,0xb107cf8ec99e724ee954b39290094d6beb5b931fec03,0x2b2a2ccb497197c08eeeb1916a18798aca5e2d,0xb1c4c01d345517299aaed65d4d062cdd3dbd3383fc5a,0x2c9aa31b28465912ef8b598555c96be9e48f97a0a323ced37,0x1654dc6e5b9b10c632d2eb94c84a1b1f044ffd478dbb627,0x165cb6b62dfe3e9624960ef18a3acb9ab2c36e458bbb627,0x2ff08d751031de16895291f30ac029cb31017df8d138ddf37,0x166fa81efefe66eb27031374cef65386dc342dd42efe717,0x16778655ecf10b6af9543cc2cd3b021991631672217e727,0x167f648ed175a489cfd843211b3c9fb498118ee956fe727,0x2ff0acedebe9ab9b5f455db6440969125501240c94b8ddf37,0x2d1a7541b4450d52819489074453a2d981dffe7f0ca3ced37,0x5800680ad4991ed63ecb2143634b3531c1c2a5d1],
[0x16a6c30770e97479ce73f47a29d7b29cdb1c070065a8f82,0x16ae9d4f434e1a7ac0f2a3de40e97a18fea4d725caa8f82,0x5b0d5c87e141fe0645a932e08677be9a860cd678e40841b84d3,0x5b2cc43d3e0aa0ddaa59a7c351d66e1f91b839a3966149b84db,0x5b4c2d6465d8100ade290ad86f24a9eb740397e54e7381b84db,0x2db4de2fd45f418ec3f9ae5a672df38f439c004a445224dcb,0x5b8affb2b627066acd9072f57f189898094c875bb9e98bb84db,0x2dd4474f1e50cb105a77777cfd62c2d1440a3cfec4a724dcb,0x2de3fbdec31e023f96be4b9c20a0eeb38f687eb6d6df24dcb,0x617abbf5e4a5f46165e85e6f93a29ff457b1a8aa0fbacfdc853,0x2e0a4d687322f8dd83376f84b01ece93b9fd6887d694fd053,0x619a34d19c727cde6e244e155da36896e5b3733892d9a85c85b,0x2e3981c2858508e20f96b3e8f6284323d54f53494c477d03f,0x61b9bd69c21aeab99b2325d7c73a643be94c5fc24055ad5c85b,0x2e58fa9a502bb1a33366a365b055375f6e3bdcf6c84c7d03f,0x2e68b7082c10faa2d6ee43e815ba1afd9a280955ded9fd04b],
[0x61d955be559f3dde45a8ef423fdcf1e40dd4c6779ffe19dc85b,0x2e882febbe235f1e3813e75b07acd4c004139e2a84517d03f,0x2e97ec599a08a81ddb5cb59ed93071fe4410c4ff05257d04b,0x2ea7a8cb6311da5b89bd99f17a1acd6fedcbd926412a7d04b,0x617b59522f3cf01cd663501730037e67fe43a51148fe4fdc853,0x619ad22de709789c540f2faf0dba9894174b6f9fcc1d285c85b,0x61ba4b099ed6012e038cb5a64c3e819dda10f8b3f3592d5c85b,0x61d9c3e556a289bfb30ea21b9cdeafad865e2065468199dc85b,0x5de5446c2479db96ad8dfd67dc058bfc0b4f1ec2a031c1b84d3,0x5e04ac87c9d97c2adfdee5713ec43b8116fa81ed528ac9b84db,0x5e2415aef1c063fecb0bc36eaf5e274cf945e02f0a9d01b84db,0x5e437ed619e7d5e0371038bb05cb0b527383d02fefd30bb84db,0xb7e3179892c37ddc5803b21abb08000b06bc62ed75,0x2f54d81671620c5ded799e619cc743e3849ea6c8819d79faa,0x2f648ca6165c43ecb95767d2edda841c3ed6989ee70279faa,0x2f744135bb315176a43126afb858eb23bafa9844dc4a79faa],
[0xbe8df596b932cfdfee2824205f4f3d54cfc33293fe5f,0x183512d8986322a98468e688eaff80436e2d,0x17ed33051cd36839d61596cc7dcce0572f6104e363bb637,0x17f90ef8e181d1d247d74ff78110140d38c70cbb2efe737,0x1800f80eee4cb20c2ef508607ed9833da921e58b6b3b607,0x1808d256c0baa698d0c22e85eeb4a2c73a6fc376293b607,0x18447382e8d2d15e188fb462ca6c5f3b6dd1,0x18278ac6baad50ba770fbb40b8f707c50d1061d3dfa8f92,0x60d1a94674cc6b4cdf986848fb6b067dddf98667575041b84df,0x30779b6fd41d2a49b0eb676e98aec80800894958fbc924ddb,0x30874fff78fdf95ba1a18667d49d53ea4be78b110e0124ddb,0x3097048f1df73b04d187cfc03ecd5a6089d78bf6440b24ddb,0x6430599045679a8fa1ee7ce7a309dd6238140990bca1cfdc85f,0x30beafa556e8096df5d99916ae0fe67235e5ab73146efd053,0x30ce6c1332cd526d970c6c469698ef604fb039f633477d05b,0x30de2884fbd684ab478240af9689a53165c24e1d6f4c7d05b],
[0x30ede4fab203a0270ef2474868c593fbec1243f097b8fd05b,0x6430a83e6ab31bde1450528d2533c6fbe27508ac56a54fdc85f,0x62113a93f6b26c0038289b645dd5334303acd5b94239c1b84df,0x311d37f08c38aa4d541dd29ea9e8130b03bc7c42140d24daf,0x312cec803131ef644bb07c3dcee9e4ffcb6233263ecb24daf,0x313ca10fd6199a059527289cfdd01ccb54e94aa44c0724daf,0x187a30b86c105c8d6ce748fdaeb7f1db6d75,0x317a87b9ff63ef1c9e2e7e9fbdf5635af0c266a2b62879fba,0x318a3c49a44d8f549349e5ae559362626ce66648ab7079fba,0x31a9a568ee4022d10e1e875b728f1692810e861290d579fba,0xc1a228887ef088e1e8a1183806b25762d,0x18ec8c7998d98209f9741c497800a4cb13ff2527413b617,0xc21e03419e76ca7e83b368baa13f575d1,0x32003d76f05d2f9b57bf3354737570664b84b148aac124ddf,0x3218e164c36a883f2fbc85bd3979ec61d45163a2fb6efd05f,0x3228357a80bcf5360357a4bf9bb5bd8ca7ecd0634b8424dbf],
[0x3237ea0a25ae6bc8a705f68bd6f42558315f7b219dbc24dbf,0x32479e99caa7b5c59745bbfdaaa1db927cfb0318e10024dbf,0xc3cd97bae12b170fb0bc38d44486d7575,0x3275d0b44ee9113c651c718323ae94e97bbe43cd513e79fce,0x32a5d9f7a87f8645e6ce9e50c1fb4a4e3b10e723fa7c24dd3]]
noncomputable def P1 : List (List Nat) := [[0x596f0c967684665f4b520,0x599b7acee1f42fe891020,0x58e9c25d8a53828037e20,0x3db01a5079837dc59f6e2d,0x3dcea62ee11e0890265e2d,0x5a20c4d5351b921a0fcc4,0x5a4d330da08b5ba355c44,0x5916306d9319a7dd7c5c4,0x3e2a48fbee456c238b6dd1,0x3e48d4da55dff6ee12a5d1,0x5ad27d13f3b2bdd4d4468,0x5afeeb4c5f22875e1a868,0x59429e7d9bdfcd3ac0d68,0x3ea477a763075a81776d75,0x3ec30385caa1e54bfeed75,0x3ee18f51afa0998c50a52d],
[0x3f001b1edb795e8b77952d,0x81d348047d1f33567db779b3da,0x596f0c96768464650b520,0x3f3d32857fe5972685002d,0x3f5bbdeb45178e4887082d,0x3f7a49b8710e9099f8a52d,0x3f98d596d8a91b642d002d,0x3db01a5079858fffe76e2d,0x3dcea62ee1201aca6e5e2d,0x3fb760b7aed3fa9ac9762d,0x3fd5ecfd7d1553ffdf952d,0x838d6f43c4ce2c48dae7cbfe5f,0x401303fd5e61e11814a4d1,0x40318fca8a3aa6173bdcd1,0x84477e948d599be3ee18b0d702,0x848650f1ace63a75f51660d702],
[0x5a20c4d5351b8e258fcc4,0x408d32dbe2fc181a490451,0x40abbe41a8270476230c51,0x40ca4a0ed4243d766ca4d1,0x40e8d5ed3bbec840a10451,0x3e2a48fbee46aa46836dd1,0x3e48d4da55e135110aa5d1,0x4107610e11e29bf33d75d1,0x4125ed53e02b00dc53dcd1,0x8643160939585f28fbf8dbb607,0x8684865fbe217cae76a4bbb607,0x41818ffe75cd9b73d8a475,0x41a01bcba1a66073002475,0x873959c01061d2abe827b6382a,0x87782c1d2fee713def2566382a,0x87b6fe7a4f7b0f9eaab7fe382a],
[0x5ad27d13f3b2b7e614468,0x421a4a87aebd0bde0d0875,0x4238d5ed73e0ed73bf1075,0x425761ba9fe4c72e88a475,0x4275ed99077f51f8bd0875,0x3ea477a763082e98c76d75,0x3ec30385caa2b9634eed75,0x429478b9dd9c1a27597575,0x42b304ffabeb8a94702475,0x8978ff60ffa97f5c6bc5224daf,0x89ba6fb784729ce1e671024daf,0x89fbe00e093b17016344c24daf,0x3ee18f51afa2abc698a52d,0x3f3d32857fe7a960cd002d,0x3f001b1edb7b70c5bf952d,0x432d331f583d41ebfaad2d],
[0x8a6c6e96201cb568ba2bbd355f,0x8aa608b35eff6070e7fcede3df,0x8ae4dad36735921e59ac9febdf,0x8aa608b35eff6466f7736de3df,0x3ee18f51afa2aba6f4a52d,0x43a761eca115b322cf082d,0x43c5ed74dde54eb9b2ad2d,0x43c5ed74dde54e9a0ead2d,0x8ba1520951849ba833ab6de3df,0x3f7a49b8710e907a54a52d,0x8be55bef0bb9a875d8c3bd355f,0x3f7a49b8710c7e5fb0a52d,0x63272012d008a93a595a0,0x401303fd5e631f3b0ca4d1,0x408d32dbe2fd563d410451,0x40318fca8a3be43a33dcd1],
[0x44401c2052a1713246acd1,0x8ca470de6ce45b27fff4dced07,0x8ce5e134f1ad78ad7aa0bced07,0x8d1d0ffa9cb46f071667a8d712,0x8d591386b4b610c2f468a5df07,0x8d97e5a6bcec8548ab0807e707,0x8dd6ba29ae8a87e9f74195df07,0x8e158c49b6c0fc6fade0f7e707,0x8d591386b4b6133cbe12b5df07,0x8dd6ba29ae8a8a63c0eba5df07,0x401303fd5e631efbc4a4d1,0x453479986ccec8091b0c51,0x45530520a99f37b74eacd1,0x45530520a99f377806acd1,0x8ed20159cefdd79ec24ab5df07,0x8f10d5be34f108356123a5df07],
[0x40ca4a0ed4243d3724a4d1,0x8f5779703be7af07128cdced07,0x8f98e9c6c0b0cc8c8d38bced07,0x40ca4a0ed422ff5374a4d1,0x8fe23406eee45dc141b63bb617,0x65ee010c65eaec17599c4,0x41818ffe75ce6f8b28a475,0x421a4a87aebddff55d0875,0x41a01bcba1a7348a502475,0x4628d6cc3b5a9c5c3aac75,0x9096d0f1eed94f0c921d2b84af,0x90d8414873a26c920cc90b84af,0x9119b19ef86ae6b1899ccb84af,0x9149064036d79841babd2e383a,0x9187d89d566436b796a23e383a,0x91c3e03320c6cc38c2060dc82f],
[0x9202b25328fd57068f9fffd02f,0x92444f779db3624e3a874e383a,0x92805914ae7c89f028defdc82f,0x92bf2b34b6b314bdf678efd02f,0x92fdffb7a85100e5e04cd5c82f,0x933cd1d7b0878bb3ade6c7d02f,0x91c3e03320c6cd3645e3adc82f,0x92805914ae7c8aedacbc9dc82f,0x92fdffb7a85101e3642a75c82f,0x41818ffe75ce6f2c3ca475,0x47b5ee99db32123b0f1075,0x47d47a221802ebf4eaac75,0x47d47a221802eb95feac75,0x93f944c1f6b26549761badc82f,0x943819265ca595e014f49dc82f,0x9476ed8ac298c645686275c82f],
[0x425761ba9fe4c6cf9ca475,0x94c2c6fb35244a4dfcb52b84af,0x95043751b9ed67d377610b84af,0x9545a7a83eb5e1f2f434cb84af,0x425761ba9fe3f31738a475,0x9589b5b88b1cdff3633c924dbf,0x95cb260f0fe41346e460124dbf,0x6a1852828b4fcaf459de8,0x964b68a42890618ebc94524dbf,0x968f7797c757ccb8b6abbd3583,0x96ac5e4db3255ff481e36de403,0x96eb18cdb55417b78d231febdf,0x432d331f583d41cc56ad2d,0x49801d65721e4bb081762d,0x9768d56511c950a55a1b6de403,0x97c992b21f1379357143bd3583],
[0x3f98d596d8a91b4489002d,0x6b7bc31cd037e9c6d15a0,0x6ba830ef1bbaa71d0bda0,0x9878f30f555bd4d3c9b23ced17,0x98c779e0141f7277fc74dced27,0x9908ea44bbeba8e70c54bced27,0x992089fd030bfa29f4f97ddf17,0x995f5c1d0b426eafab98dfe717,0x992089fd030bfca3bea38ddf17,0x999e3b5f9cbd555aac82b5df27,0x99dcf5df9eec4ff5fcb217e707,0x9a1be210b996c08a97f60ddf27,0x9a5a9c8298c0c71cff8b07e707,0x44401c2052a170f2feacd1,0x4b2bc0bbf22d6d584575d1,0x9ad84a0eb135079626db8ddf17],
[0x9b172932b70519bcb0bab5df27,0x9b55fda53ffd3e5c382e0ddf27,0x9ba9a01e4c21b5d3a44a3ced17,0x9bf826ef0ae55377d70cdced27,0x9c399753b2b189e6e6ecbced27,0x40e8d5ed3bbec801590451,0x6e9b803589fad3a3d61c4,0x6ec7ee07d576f03f8c1c4,0x9ce659880e2df633ed949b84bf,0x9d27c9de92f529876eb81b84bf,0x9d7650af51b83a0dba9d2b84cb,0x9da80c73aba177cf46ec5b84bf,0x9df6934771e1bc4902a27b84cb,0x9e38039df6a8ef9c83c5fb84cb,0x9e4a8d91821198f6aa0c46384e,0x9e869d7dec8fe61fdb4ce5c83f],
[0x9ec56f9df4c670eda8e6d7d03f,0x9f044420e6645d2ab30d35c83f,0x9f431640ee9ae7f880a727d03f,0x9e869d7dec8fe71d5f2a85c83f,0x9f044420e6645e2836ead5c83f,0x9f81f5838015b6b68c53adc84b,0x9fc0b0038244c799f37d9fd02f,0x9fff8f4107fb615652cd85c83f,0xa03e61611031ec24206777d03f,0x9fff8f4107fb6253d6ab25c83f,0xa07d40a6a92dca8982b865c84b,0xa0bbfb23a3dbcbe1be568fd02f,0xa0fae749a30241945a78b5c84b,0xa139a1c69db042d775c467d02f,0x4628d6cc3b5a9bfd4eac75,0x4e8307684ee5b2b0097575],
[0xa1b74b07120099721f6285c83f,0xa1f61f6b77f3c9ec9322d5c83f,0xa234fe8f7dc3dbea848badc84b,0xa273c60e71c840f76ae325c83f,0xa2b2a5357f19629cb2f065c84b,0xa2f17999e50c931726b0b5c84b,0xa347b3c487646c88dc2c9b84bf,0xa389241b0c2b9fdc5d501b84bf,0xa3d7aaebcaeeb062a9352b84cb,0xa40966b024d7ee2435845b84bf,0xa457ed83eb18329df13a7b84cb,0xa4995dda6fdf65f1725dfb84cb,0xa4c87b3692025145b22c124dd3,0x4275ed99077f5199d10875,0x74ae8c56f4b34900dade8,0x74dafa294028c4e20c5e8],
[0xa5879006d55acbcb9b67cbfe83,0xa5a4771864281b7963931fec03,0x3fd5ecfd7d1553e03b952d,0x50a8d98a2db988daca5e2d,0xa62507a1e6a2d23de53383fc5a,0x63272012d004717dd95a0,0x43a761eca115b3032b082d,0xa6928e059ba120a6e6323ced37,0xa6c44954d29d57496478dbb627,0xa705b9b97a698db87458bbb627,0xa71d718bf63c2cb469138ddf37,0xa75c2c0bf86b274fb942efe717,0xa79b0b2ffe3b3976432217e727,0xa7d9dfa287335e15ca956fe727,0xa818bae1e8c163f5a54b8ddf37,0xa8891fdbaf00a0d4ccca3ced37],
[0x4125ed53e02b009d0bdcd1,0x51f8d9e090cf34d9c2a5d1,0xa8d843ddaf241c5228065a8f82,0xa91749a7f3165d86c65caa8f82,0x65ee010c65e61a1b599c4,0x453479986ccec7c9d30c51,0xa9721655ba655f51f0841b84d3,0xa9c5d945710ce13516149b84db,0xaa07499bf5d4148897381b84db,0xaa3904eb2ccfbe0d3845224dcb,0xaa878c4a8da5aa5f4e98bb84db,0xaab947834cf94048804a724dcb,0xaafab7d9d1c0739c016df24dcb,0xab0a86753c4bbd3e5fcf5dc853,0xab4958954482480c2d694fd053,0xab0a86753c4bbe3be3acfdc853],
[0xab883c12903afcec799a85c85b,0xabc6f692926a0dcfe0c477d03f,0xac05e2b58a0f73f7515ad5c85b,0xac449d358c3e84dab884c7d03f,0xac837c59920e96d8a9ed9fd04b,0xacc25bb096ee20d54be19dc85b,0xad01161719f44275f44517d03f,0xad3ff53e2745641b3c5257d04b,0xad7ec9a28d389495b012a7d04b,0xadbd8f8139f9e36fdbe4fdc853,0xadfc72dffa07db900dd285c85b,0xae3b47445ffb0c0a8192d5c85b,0xae7a1bc245172bc7b4199dc85b,0xaed82797e416bb654f1c1b84d3,0xaf2bea879abe3d4874ac9b84db,0xaf6d5ade1f85709bf5d01b84db],
[0xafaecb4e2375bfe24930bb84db,0x42b304ffabeb8a35842475,0x556eac37a1e3543462ed75,0xaff67c0b4ced38922819d79faa,0xb03581d590df79c6c670279faa,0xb074879fd4d1c268c1c4a79faa,0x6a1852828b4a5eb8d9de8,0x47b5ee99db3211dc231075,0xb0b48c3e0eb8e410b73293fe5f,0x560766582d6f4ec0436e2d,0x560766582d6d3c85fb6e2d,0x8be55bef0bb9a875d50e85355f,0xb15eb04cd7ae70233a363bb637,0xb16befb1ad86ee5a23b2efe737,0xb1b2734d781a28fe20b6b3b607,0xb1f3e3a3fce346839b6293b607],
[0x56a020ae5685a24f3b6dd1,0x56a020ae5684642c436dd1,0x8f5779703be7af07134ab4ed07,0xb26b4d21301edc5c213dfa8f92,0x8f98e9c6c0b0cc8c8df694ed07,0xb2e216a706f26e6da1041b84df,0xb3190e1535d2894f1bbc924ddb,0xb35a7e6bba99bca29ce0124ddb,0xb39beedbbe8a0be8f040b24ddb,0xb3a15ca37a1fdde3f61cfdc85f,0xb3e017237c4eeec75d46efd053,0xb41efa823c5ce6e78f3477d05b,0xb45dcee6a250176202f4c7d05b,0xb49ca364876c371f357b8fd05b,0xb4db783800865bb59654fdc85f,0xb5564cfa42147bbc4f9c1b84df],
[0xb5660122662dd6525940d24daf,0xb5a77178eaf6f3d7d3ecb24daf,0xb5e8e1cf6fbf6df750c0724daf,0x5888db5a3f45d761db6d75,0x5888db5a3f45034a8b6d75,0x94c2c6fb35244a4dfe30db84af,0xb658a4955ac658ebb362879fba,0xb697aa5f9eb8a18daeb7079fba,0x95043751b9ed67d378dcbb84af,0xb6d6b029e2aae2c24d0d579fba,0x9545a7a83eb5e1f2f5b07b84af,0x59030a150567849b25762d,0xb7646d61ef91be90267413b617,0x5940216b1177212bf575d1,0x9ba9a01e4c21b5d3a50814ed17,0xb809554ef9c266f102ac124ddf],
[0xb80c24eb544c184867b6efd05f,0xb862546e9212040adcb8424dbf,0xb8a3c4c516d9375e5ddbc24dbf,0xb8e5351b9ba43f15d210024dbf,0x59f7676beedc0d686d7575,0xa347b3c487646c88dda84b84bf,0xb94b1a28641cfe711913e79fce,0xa389241b0c2b9fdc5ecbcb84bf,0xa40966b024d7ee2437000b84bf,0xb9a449fdabcebf36e7a7c24dd3,0xaed82797e416bb655097cb84d3]]
end aD
end
section
namespace aD
set_option maxRecDepth 100000
noncomputable def ci (n : Nat) : E := .cst (.int (.lit (.ofNat n)))
noncomputable def N9 : Fn := ⟨[9,10],[],[],[.asg (.av (.loc 9) 10) (.loc 10)]⟩
noncomputable def HZ : Fn := ⟨[16,17],[],[],[.ret (.some (.meth (.bin .mod (.loc 16) (.bin .pow (ci 256) (.loc 17))) 5 [.loc 17,.cst (.str [98,105,103])]))]⟩
noncomputable def H8 : Fn := ⟨[19,20,17],[],[],[.ret (.some (.meth (.aH 18) 6 [.iA (.loc 19) (.some (.loc 20)) (.some (.bin .add (.loc 20) (.loc 17))),.cst (.str [98,105,103])]))]⟩
noncomputable def H9 : Fn := ⟨[17],[],[],[.ret (.some (.cmp (.aH 21) [.le,.le] [.loc 17,.aH 22]))]⟩
noncomputable def Ia : Fn := ⟨[9,23,24,25,26,27,28,29,30],[.int (.lit (.ofNat 0)),.int (.lit (.ofNat 0)),.int (.lit (.ofNat 0)),.int (.lit (.ofNat 0)),.int (.lit (.ofNat 0)),.int (.lit (.ofNat 0)),.int (.lit (.ofNat 0))],[],[.asg (.av (.loc 9) 23) (.loc 23),.asg (.av (.loc 9) 24) (.loc 24),.asg (.av (.loc 9) 25) (.loc 25),.asg (.av (.loc 9) 26) (.loc 26),.asg (.av (.loc 9) 27) (.loc 27),.asg (.av (.loc 9) 28) (.loc 28),.asg (.av (.loc 9) 29) (.loc 29),.asg (.av (.loc 9) 30) (.loc 30)]⟩
noncomputable def Ib : Fn := ⟨[9],[],[],[.asg (.loc 31) (.bin .add (.aH 32) (.call (.aH 33) [.av (.loc 9) 23,ci 2])),.for_ [16] (.tup [.av (.loc 9) 24,.av (.loc 9) 25,.av (.loc 9) 26,.av (.loc 9) 27,.av (.loc 9) 28]) [.aug 31 .add (.call (.aH 33) [.loc 16,ci 4])],.ret (.some (.bin .add (.bin .add (.loc 31) (.call (.aH 33) [.av (.loc 9) 29,ci 1])) (.call (.aH 33) [.av (.loc 9) 30,ci 1])))]⟩
noncomputable def Ic : Fn := ⟨[19],[],[19],[.bE (.or_ [.cmp (.call (.aH 34) [.dc 19]) [.lt] [.aH 35],.cmp (.call (.aH 36) [.iA (.dc 19) .none (.some (ci 8))]) [.ne] [.aH 32]]) [.iB (.some (.call (.aH 37) [.cst (.str [102,105,108,101,32,105,115,32,110,111,116,32,97,32,100,97,116,97,98,97,115,101])]))] [],.asg (.loc 38) (.eJ (.call (.aH 40) [.dc 19,.bin .add (ci 10) (.bin .mul (ci 4) (.loc 39)),ci 4]) [39] (.call (.aH 41) [ci 5])),.asg (.loc 42) (.call (.aH 43) [.call (.aH 40) [.dc 19,ci 8,ci 2],.sub (.loc 38) (ci 0),.sub (.loc 38) (ci 1),.sub (.loc 38) (ci 2),.sub (.loc 38) (ci 3),.sub (.loc 38) (ci 4),.sub (.dc 19) (ci 30),.sub (.dc 19) (ci 31)]),.bE (.or_ [.not_ (.call (.aH 44) [.av (.loc 42) 23]),.cmp (.av (.loc 42) 29) [.gt] [ci 1]]) [.iB (.some (.call (.aH 37) [.cst (.str [116,104,101,32,104,101,97,100,32,111,102,32,116,104,101,32,100,97,116,97,98,97,115,101,32,105,115,32,119,114,111,110,103])]))] [],.ret (.some (.loc 42))]⟩
noncomputable def Ie : Fn := ⟨[49,50,19],[],[],[.asg (.loc 48) (.bin .add (.loc 49) (.loc 50)),.for_ [39] (.call (.aH 41) [.bin .sub (.call (.aH 34) [.loc 19]) (ci 1),.neg (ci 1),.neg (ci 8)]) [.aug 48 .add (.bin .mul (.sub (.loc 19) (.loc 39)) (.bin .add (.loc 39) (ci 1)))],.ret (.some (.bin .mod (.loc 48) (.aH 51)))]⟩
noncomputable def Ig : Fn := ⟨[9,52,53,23],[],[],[.asg (.av (.loc 9) 52) (.loc 52),.asg (.av (.loc 9) 53) (.bin .add (.loc 53) (.cst (.str [45,106,111,117,114,110,97,108]))),.asg (.av (.loc 9) 23) (.loc 23),.asg (.av (.loc 9) 49) (ci 0),.asg (.av (.loc 9) 54) (ci 0),.asg (.av (.loc 9) 55) (.aH 56)]⟩
noncomputable def Ih : Fn := ⟨[9],[],[],[.ret (.some (.meth (.av (.loc 9) 52) 57 [.av (.loc 9) 53]))]⟩
noncomputable def Ii : Fn := ⟨[9],[],[],[.ret (.some (.bin .add (.av (.loc 9) 23) (ci 8)))]⟩
noncomputable def Ij : Fn := ⟨[9,25,49],[],[],[.asg (.av (.loc 9) 49) (.bin .mod (.loc 49) (.aH 51)),.asg (.av (.loc 9) 54) (ci 0),.asg (.av (.loc 9) 55) (.aH 56),.asg (.loc 58) (.meth (.loc 9) 58 []),.bE (.cmp (.meth (.loc 58) 17 []) [.gt] [ci 0]) [.exp (.meth (.loc 58) 59 [ci 0])] [],.asg (.loc 60) (.bin .add (.bin .add (.aH 61) (.call (.aH 33) [.aH 56,ci 4])) (.call (.aH 33) [.av (.loc 9) 49,ci 4])),.exp (.meth (.loc 58) 62 [ci 0,.bin .add (.bin .add (.loc 60) (.call (.aH 33) [.loc 25,ci 4])) (.call (.aH 33) [.av (.loc 9) 23,ci 4])])]⟩
noncomputable def Ik : Fn := ⟨[9,50,19],[],[],[.asg (.loc 20) (.bin .add (.aH 63) (.bin .mul (.av (.loc 9) 54) (.meth (.loc 9) 64 []))),.asg (.loc 65) (.bin .add (.bin .add (.call (.aH 33) [.loc 50,ci 4]) (.call (.aH 36) [.loc 19])) (.call (.aH 33) [.call (.aH 66) [.av (.loc 9) 49,.loc 50,.loc 19],ci 4])),.exp (.meth (.meth (.loc 9) 58 []) 62 [.loc 20,.loc 65]),.nh (.loc 9) 54 .add (ci 1)]⟩
noncomputable def Il : Fn := ⟨[9],[],[],[.bE (.cmp (.av (.loc 9) 55) [.eq] [.av (.loc 9) 54]) [.ret .none] [],.asg (.loc 58) (.meth (.loc 9) 58 []),.exp (.meth (.loc 58) 67 []),.exp (.meth (.loc 58) 62 [.aH 68,.call (.aH 33) [.av (.loc 9) 54,ci 4]]),.exp (.meth (.loc 58) 67 []),.asg (.av (.loc 9) 55) (.av (.loc 9) 54)]⟩
noncomputable def Im : Fn := ⟨[9],[],[],[.exp (.meth (.av (.loc 9) 52) 73 [.av (.loc 9) 53])]⟩
noncomputable def Io : Fn := ⟨[9],[],[],[.asg (.av (.loc 9) 79) .emp,.asg (.av (.loc 9) 80) .emp,.asg (.av (.loc 9) 81) .emp]⟩
noncomputable def Ip : Fn := ⟨[9,82,53],[],[],[.ret (.some (.meth (.meth (.av (.loc 9) 79) 0 [.loc 53,.emp]) 0 [.loc 82,.aH 83]))]⟩
noncomputable def Iq : Fn := ⟨[9,82,53],[],[],[.asg (.loc 84) (.aH 83),.asg (.loc 85) (.meth (.av (.loc 9) 79) 0 [.loc 53,.emp]),.for_ [86] (.loc 85) [.bE (.and_ [.cmp (.loc 86) [.ne] [.loc 82],.cmp (.sub (.loc 85) (.loc 86)) [.gt] [.loc 84]]) [.asg (.loc 84) (.sub (.loc 85) (.loc 86))] []],.ret (.some (.loc 84))]⟩
noncomputable def Ir : Fn := ⟨[9,82,53],[],[],[.ret (.some (.cmp (.meth (.loc 9) 87 [.loc 82,.loc 53]) [.ge] [.aH 88]))]⟩
noncomputable def Iu : Fn := ⟨[9,82,53],[],[],[.ret (.some (.cmp (.meth (.loc 9) 87 [.loc 82,.loc 53]) [.ge] [.aH 89]))]⟩
noncomputable def Iv : Fn := ⟨[9,82,53,90],[],[],[.asg (.loc 85) (.meth (.av (.loc 9) 79) 2 [.loc 53,.emp]),.bE (.cmp (.loc 90) [.eq] [.aH 83]) [.exp (.meth (.loc 85) 1 [.loc 82,.cst .none])] [.asg (.sub (.loc 85) (.loc 82)) (.loc 90)]]⟩
noncomputable def Iw : Fn := ⟨[9,82,53,90],[],[],[.asg (.loc 91) (.meth (.loc 9) 92 [.loc 82,.loc 53]),.bE (.cmp (.loc 90) [.le] [.loc 91]) [.ret .none] [],.bE (.cmp (.loc 91) [.eq] [.aH 83]) [.exp (.meth (.loc 9) 93 [.loc 82,.loc 53])] [],.bE (.and_ [.cmp (.loc 90) [.ge] [.aH 89],.cmp (.meth (.loc 9) 92 [.loc 82,.loc 53]) [.lt] [.aH 89]]) [.exp (.meth (.loc 9) 94 [.loc 82,.loc 53])] [],.bE (.cmp (.loc 90) [.ge] [.aH 95]) [.exp (.meth (.loc 9) 96 [.loc 82,.loc 53,.loc 90])] []]⟩
noncomputable def Iy : Fn := ⟨[9,82,53],[],[],[.bE (.cmp (.meth (.loc 9) 87 [.loc 82,.loc 53]) [.ge] [.aH 95]) [.iB (.some (.call (.aH 97) [.cst (.str [100,97,116,97,98,97,115,101,32,105,115,32,108,111,99,107,101,100])]))] [],.exp (.meth (.loc 9) 98 [.loc 82,.loc 53,.aH 88])]⟩
noncomputable def Iz : Fn := ⟨[9,82,53],[],[],[.bE (.cmp (.meth (.loc 9) 87 [.loc 82,.loc 53]) [.ge] [.aH 89]) [.iB (.some (.call (.aH 97) [.cst (.str [100,97,116,97,98,97,115,101,32,105,115,32,108,111,99,107,101,100])]))] [],.exp (.meth (.loc 9) 98 [.loc 82,.loc 53,.aH 89])]⟩
noncomputable def IA : Fn := ⟨[9,82,53,90],[],[],[.exp (.meth (.loc 9) 98 [.loc 82,.loc 53,.aH 95]),.bE (.cmp (.loc 90) [.eq] [.aH 99]) [.bE (.meth (.loc 9) 100 [.loc 82,.loc 53]) [.iB (.some (.call (.aH 97) [.cst (.str [100,97,116,97,98,97,115,101,32,105,115,32,108,111,99,107,101,100])]))] [],.exp (.meth (.loc 9) 98 [.loc 82,.loc 53,.aH 99])] []]⟩
noncomputable def IB : Fn := ⟨[9,82,53,90],[.int (.lit (.ofNat 0))],[],[.bE (.cmp (.loc 90) [.lt] [.meth (.loc 9) 92 [.loc 82,.loc 53]]) [.exp (.meth (.loc 9) 98 [.loc 82,.loc 53,.loc 90])] []]⟩
noncomputable def IC : Fn := ⟨[9,116,54],[.int (.lit (.ofNat 0))],[],[.asg (.av (.loc 9) 116) (.loc 116),.asg (.av (.loc 9) 54) (.loc 54),.asg (.av (.loc 9) 117) .emp,.asg (.av (.loc 9) 118) (.lst [])]⟩
noncomputable def ID : Fn := ⟨[9,54],[],[],[.asg (.av (.loc 9) 54) (.loc 54),.asg (.av (.loc 9) 117) .emp,.for_ [119] (.av (.loc 9) 118) [.asg (.av (.loc 119) 54) (.loc 54),.asg (.av (.loc 119) 117) .emp]]⟩
noncomputable def IE : Fn := ⟨[9],[],[],[.asg (.av (.loc 9) 117) .emp,.asg (.av (.loc 9) 118) (.lst [])]⟩
noncomputable def IF : Fn := ⟨[9,50],[],[],[.asg (.loc 31) (.meth (.av (.loc 9) 117) 0 [.loc 50]),.ret (.some (.ite_ (.cmp (.loc 31) [.is_] [.cst .none]) (.meth (.av (.loc 9) 116) 120 [.loc 50]) (.loc 31)))]⟩
noncomputable def IG : Fn := ⟨[9,50],[],[],[.for_ [119] (.av (.loc 9) 118) [.bE (.and_ [.cmp (.loc 50) [.le] [.av (.loc 119) 54],.cmp (.loc 50) [.jH] [.av (.loc 119) 117]]) [.asg (.sub (.av (.loc 119) 117) (.loc 50)) (.meth (.loc 9) 69 [.loc 50])] []]]⟩
noncomputable def II : Fn := ⟨[9,50,19],[],[],[.exp (.meth (.loc 9) 121 [.loc 50]),.asg (.sub (.av (.loc 9) 117) (.loc 50)) (.call (.aH 36) [.loc 19])]⟩
noncomputable def IJ : Fn := ⟨[9,23],[],[],[.nh (.loc 9) 54 .add (ci 1),.asg (.sub (.av (.loc 9) 117) (.av (.loc 9) 54)) (.call (.aH 36) [.loc 23]),.ret (.some (.av (.loc 9) 54))]⟩
noncomputable def IK : Fn := ⟨[9,122],[],[],[.bE (.or_ [.cmp (.loc 122) [.lt] [ci 0],.cmp (.loc 122) [.ge] [.call (.aH 34) [.av (.loc 9) 118]]]) [.iB (.some (.call (.aH 123) [.cst (.str [110,111,32,115,117,99,104,32,115,97,118,101,112,111,105,110,116])]))] []]⟩
noncomputable def IL : Fn := ⟨[9,122],[],[],[.exp (.meth (.loc 9) 124 [.loc 122]),.bad]⟩
noncomputable def IM : Fn := ⟨[9,122,125],[.bool true],[],[.exp (.meth (.loc 9) 124 [.loc 122]),.bad,.bad,.bad,.bad,.bad,.bad,.bad]⟩
noncomputable def IP : Fn := ⟨[9,52,53,82,23,133],[.int (.lit (.ofNat 128)),.none],[],[.bE (.not_ (.call (.aH 44) [.loc 23])) [.iB (.some (.call (.aH 123) [.cst (.str [110,111,32,115,117,99,104,32,112,97,103,101,32,115,105,122,101])]))] [],.asg (.av (.loc 9) 52) (.loc 52),.asg (.av (.loc 9) 53) (.loc 53),.asg (.av (.loc 9) 82) (.loc 82),.asg (.av (.loc 9) 23) (.loc 23),.asg (.av (.loc 9) 133) (.loc 133),.asg (.av (.loc 9) 58) (.meth (.loc 52) 57 [.loc 53]),.asg (.av (.loc 9) 134) (.av (.loc 52) 134),.asg (.av (.loc 9) 135) (.cst (.str [100,101,108,101,116,101])),.asg (.av (.loc 9) 136) (.cst (.bool false)),.asg (.av (.loc 9) 137) (.cst (.bool false)),.asg (.av (.loc 9) 138) (ci 0),.asg (.av (.loc 9) 139) .emp,.asg (.av (.loc 9) 140) (.call (.aH 141) [.loc 9]),.asg (.av (.loc 9) 72) (.cst .none),.asg (.av (.loc 9) 142) .emp,.asg (.av (.loc 9) 143) (.cst (.bool false)),.asg (.av (.loc 9) 144) (ci 0),.asg (.av (.loc 9) 145) (ci 0)]⟩
noncomputable def IQ : Fn := ⟨[9],[],[],[.ret (.some (.av (.loc 9) 136))]⟩
noncomputable def IS : Fn := ⟨[9],[],[],[.ret (.some (.av (.loc 9) 137))]⟩
noncomputable def IT : Fn := ⟨[9],[],[],[.bE (.av (.loc 9) 136) [.ret .none] [],.exp (.meth (.av (.loc 9) 134) 108 [.av (.loc 9) 82,.av (.loc 9) 53,.aH 88]),.try_ [.exp (.meth (.loc 9) 148 []),.exp (.meth (.loc 9) 149 [])] [((.aH 146),[.exp (.meth (.loc 9) 147 []),.iB .none])],.asg (.av (.loc 9) 136) (.cst (.bool true))]⟩
noncomputable def IU : Fn := ⟨[9],[],[],[.asg (.loc 72) (.call (.aH 150) [.av (.loc 9) 52,.av (.loc 9) 53,.av (.loc 9) 23]),.bE (.or_ [.not_ (.meth (.av (.loc 9) 52) 70 [.av (.loc 72) 53]),.meth (.av (.loc 9) 134) 107 [.av (.loc 9) 82,.av (.loc 9) 53]]) [.ret .none] [],.bE (.meth (.loc 72) 76 []) [.exp (.meth (.av (.loc 9) 134) 108 [.av (.loc 9) 82,.av (.loc 9) 53,.aH 99]),.exp (.meth (.loc 72) 77 [.av (.loc 9) 58]),.exp (.meth (.loc 72) 78 []),.asg (.av (.loc 9) 139) .emp,.asg (.av (.loc 9) 138) (.neg (ci 1))] [.exp (.meth (.av (.loc 9) 134) 108 [.av (.loc 9) 82,.av (.loc 9) 53,.aH 89]),.exp (.meth (.loc 72) 78 [])],.exp (.meth (.av (.loc 9) 134) 109 [.av (.loc 9) 82,.av (.loc 9) 53,.aH 88])]⟩
noncomputable def IV : Fn := ⟨[9],[],[],[.bE (.cmp (.meth (.av (.loc 9) 58) 17 []) [.eq] [ci 0]) [.asg (.av (.loc 9) 135) (.cst (.str [100,101,108,101,116,101])),.asg (.av (.av (.loc 9) 140) 54) (ci 0),.exp (.meth (.loc 9) 151 [ci 0]),.ret .none] [],.asg (.loc 42) (.meth (.aH 43) 46 [.meth (.av (.loc 9) 58) 69 [ci 0,.aH 35]]),.bE (.cmp (.av (.loc 42) 23) [.ne] [.av (.loc 9) 23]) [.asg (.av (.loc 9) 23) (.av (.loc 42) 23),.asg (.av (.loc 9) 139) .emp] [],.asg (.av (.loc 9) 145) (.av (.loc 42) 29),.asg (.av (.av (.loc 9) 140) 54) (.av (.loc 42) 25),.bE (.cmp (.av (.loc 42) 29) [.eq] [ci 1]) [.exp (.meth (.loc 9) 152 []),.ret .none] [],.asg (.av (.loc 9) 135) (.cst (.str [100,101,108,101,116,101])),.bE (.or_ [.cmp (.av (.loc 42) 25) [.lt] [ci 1],.cmp (.meth (.av (.loc 9) 58) 17 []) [.lt] [.bin .mul (.av (.loc 42) 25) (.av (.loc 9) 23)]]) [.iB (.some (.call (.aH 37) [.cst (.str [116,104,101,32,100,97,116,97,98,97,115,101,32,105,115,32,116,111,111,32,115,104,111,114,116])]))] [],.exp (.meth (.loc 9) 151 [.av (.loc 42) 24])]⟩
noncomputable def IW : Fn := ⟨[9,138],[],[],[.bE (.cmp (.loc 138) [.ne] [.av (.loc 9) 138]) [.asg (.av (.loc 9) 139) .emp] [],.asg (.av (.loc 9) 138) (.loc 138)]⟩
noncomputable def IX : Fn := ⟨[9],[],[],[.bE (.av (.loc 9) 137) [.iB (.some (.call (.aH 123) [.cst (.str [97,32,119,114,105,116,101,32,116,114,97,110,115,97,99,116,105,111,110,32,105,115,32,111,112,101,110])]))] [],.bE (.av (.loc 9) 136) [.asg (.av (.loc 9) 136) (.cst (.bool false)),.exp (.meth (.loc 9) 147 [])] []]⟩
noncomputable def IY : Fn := ⟨[9],[],[],[.exp (.meth (.av (.loc 9) 134) 109 [.av (.loc 9) 82,.av (.loc 9) 53,.aH 83])]⟩
noncomputable def IZ : Fn := ⟨[9,50],[],[],[.ret (.some (.meth (.av (.loc 9) 58) 69 [.bin .mul (.bin .sub (.loc 50) (ci 1)) (.av (.loc 9) 23),.av (.loc 9) 23]))]⟩
noncomputable def I0 : Fn := ⟨[9,50],[],[],[.asg (.loc 31) (.meth (.av (.loc 9) 139) 0 [.loc 50]),.bE (.cmp (.loc 31) [.is_] [.cst .none]) [.asg (.loc 31) (.meth (.loc 9) 153 [.loc 50]),.bE (.cmp (.call (.aH 34) [.loc 31]) [.ne] [.av (.loc 9) 23]) [.iB (.some (.call (.aH 37) [.cst (.str [97,32,112,97,103,101,32,105,115,32,109,105,115,115,105,110,103])]))] [],.asg (.sub (.av (.loc 9) 139) (.loc 50)) (.loc 31)] [],.ret (.some (.loc 31))]⟩
noncomputable def I1 : Fn := ⟨[9,50],[],[],[.bE (.not_ (.av (.loc 9) 136)) [.iB (.some (.call (.aH 123) [.cst (.str [110,111,32,116,114,97,110,115,97,99,116,105,111,110,32,105,115,32,111,112,101,110])]))] [],.bE (.or_ [.cmp (.loc 50) [.lt] [ci 1],.cmp (.loc 50) [.gt] [.av (.av (.loc 9) 140) 54]]) [.iB (.some (.call (.aH 37) [.bin .add (.cst (.str [116,104,101,114,101,32,105,115,32,110,111,32,112,97,103,101,32])) (.call (.aH 154) [.loc 50])]))] [],.ret (.some (.meth (.av (.loc 9) 140) 69 [.loc 50]))]⟩
noncomputable def I3 : Fn := ⟨[9],[],[],[.bE (.not_ (.av (.loc 9) 136)) [.iB (.some (.call (.aH 123) [.cst (.str [110,111,32,116,114,97,110,115,97,99,116,105,111,110,32,105,115,32,111,112,101,110])]))] [],.ret (.some (.av (.av (.loc 9) 140) 54))]⟩
noncomputable def I4 : Fn := ⟨[9],[],[],[.asg (.loc 42) (.cst .none),.bE (.cmp (.meth (.loc 9) 25 []) [.gt] [ci 0]) [.asg (.loc 19) (.meth (.loc 9) 155 [ci 1]),.bE (.cmp (.iA (.loc 19) .none (.some (ci 8))) [.eq] [.aH 32]) [.asg (.loc 42) (.meth (.aH 43) 46 [.loc 19])] []] [],.bE (.cmp (.loc 42) [.is_] [.cst .none]) [.asg (.loc 42) (.call (.aH 43) [.av (.loc 9) 23])] [],.asg (.av (.loc 42) 25) (.av (.av (.loc 9) 140) 54),.asg (.av (.loc 42) 29) (.av (.loc 9) 145),.ret (.some (.loc 42))]⟩
noncomputable def I5 : Fn := ⟨[9],[],[],[.bE (.av (.loc 9) 137) [.ret .none] [],.asg (.loc 156) (.av (.loc 9) 136),.exp (.meth (.loc 9) 157 []),.try_ [.exp (.meth (.loc 9) 159 [])] [((.aH 97),[.bE (.not_ (.loc 156)) [.exp (.meth (.loc 9) 158 [])] [],.iB .none])],.asg (.av (.loc 9) 137) (.cst (.bool true)),.asg (.av (.loc 9) 72) (.cst .none),.asg (.av (.loc 9) 142) .emp,.asg (.av (.loc 9) 143) (.cst (.bool false)),.asg (.av (.loc 9) 144) (.av (.av (.loc 9) 140) 54),.exp (.meth (.av (.loc 9) 140) 74 [.av (.loc 9) 144])]⟩
noncomputable def I6 : Fn := ⟨[9],[],[],[.exp (.meth (.av (.loc 9) 134) 108 [.av (.loc 9) 82,.av (.loc 9) 53,.aH 89])]⟩
noncomputable def I7 : Fn := ⟨[9],[],[],[.exp (.meth (.loc 9) 160 []),.exp (.meth (.loc 9) 161 [])]⟩
noncomputable def I8 : Fn := ⟨[9],[],[],[.asg (.loc 162) (.meth (.av (.loc 9) 134) 92 [.av (.loc 9) 82,.av (.loc 9) 53]),.try_ [.exp (.meth (.av (.loc 9) 134) 108 [.av (.loc 9) 82,.av (.loc 9) 53,.aH 99])] [((.aH 97),[.exp (.meth (.av (.loc 9) 134) 109 [.av (.loc 9) 82,.av (.loc 9) 53,.loc 162]),.iB .none])]]⟩
noncomputable def I9 : Fn := ⟨[9],[],[],[.bE (.not_ (.av (.loc 9) 137)) [.iB (.some (.call (.aH 123) [.cst (.str [110,111,32,119,114,105,116,101,32,116,114,97,110,115,97,99,116,105,111,110,32,105,115,32,111,112,101,110])]))] []]⟩
noncomputable def Ja : Fn := ⟨[9],[],[],[.bE (.cmp (.av (.loc 9) 72) [.is_] [.cst .none]) [.asg (.loc 72) (.call (.aH 150) [.av (.loc 9) 52,.av (.loc 9) 53,.av (.loc 9) 23]),.exp (.meth (.loc 72) 74 [.av (.loc 9) 144,.bin .add (.bin .mul (.bin .add (.av (.loc 9) 138) (ci 1)) (ci 40503)) (.av (.av (.loc 9) 52) 163)]),.asg (.av (.loc 9) 72) (.loc 72)] []]⟩
noncomputable def Jb : Fn := ⟨[9,50],[],[],[.bE (.or_ [.cmp (.loc 50) [.gt] [.av (.loc 9) 144],.cmp (.loc 50) [.in_] [.av (.loc 9) 142]]) [.ret .none] [],.asg (.loc 19) (.meth (.loc 9) 120 [.loc 50]),.exp (.meth (.loc 9) 164 []),.exp (.meth (.av (.loc 9) 72) 75 [.loc 50,.loc 19]),.asg (.sub (.av (.loc 9) 142) (.loc 50)) (.cst (.bool true))]⟩
noncomputable def Jc : Fn := ⟨[9,50,19],[],[],[.exp (.meth (.loc 9) 165 [.loc 50]),.exp (.meth (.av (.loc 9) 140) 128 [.loc 50,.loc 19]),.bE (.and_ [.cmp (.av (.loc 9) 133) [.lQ] [.cst .none],.cmp (.call (.aH 34) [.av (.av (.loc 9) 140) 117]) [.gt] [.av (.loc 9) 133]]) [.exp (.meth (.loc 9) 166 [])] []]⟩
noncomputable def Jd : Fn := ⟨[9,50,19],[],[],[.exp (.meth (.loc 9) 160 []),.bE (.cmp (.call (.aH 34) [.loc 19]) [.ne] [.av (.loc 9) 23]) [.iB (.some (.call (.aH 123) [.cst (.str [97,32,112,97,103,101,32,111,102,32,97,110,111,116,104,101,114,32,115,105,122,101])]))] [],.asg (.loc 162) (.meth (.loc 9) 155 [.loc 50]),.bE (.and_ [.cmp (.loc 50) [.eq] [ci 1],.cmp (.iA (.loc 162) .none (.some (ci 8))) [.eq] [.aH 32]]) [.asg (.loc 19) (.bin .add (.iA (.loc 162) .none (.some (.aH 35))) (.call (.aH 36) [.iA (.loc 19) (.some (.aH 35)) .none]))] [],.exp (.meth (.loc 9) 167 [.loc 50,.loc 19])]⟩
noncomputable def Je : Fn := ⟨[9,42],[],[],[.exp (.meth (.loc 9) 160 []),.bE (.cmp (.av (.av (.loc 9) 140) 54) [.eq] [ci 0]) [.exp (.meth (.loc 9) 4 [])] [],.asg (.av (.loc 42) 23) (.av (.loc 9) 23),.asg (.av (.loc 42) 25) (.av (.av (.loc 9) 140) 54),.asg (.av (.loc 42) 24) (.call (.aH 168) [ci 0,.av (.loc 9) 138]),.asg (.av (.loc 42) 29) (.av (.loc 9) 145),.exp (.meth (.loc 9) 167 [ci 1,.bin .add (.meth (.loc 42) 45 []) (.iA (.meth (.loc 9) 155 [ci 1]) (.some (.aH 35)) .none)])]⟩
noncomputable def Jf : Fn := ⟨[9],[],[],[.exp (.meth (.loc 9) 160 []),.exp (.meth (.av (.loc 9) 139) 1 [.bin .add (.av (.av (.loc 9) 140) 54) (ci 1),.cst .none]),.ret (.some (.meth (.av (.loc 9) 140) 4 [.av (.loc 9) 23]))]⟩
noncomputable def Jg : Fn := ⟨[9,54],[],[],[.exp (.meth (.loc 9) 160 []),.bE (.or_ [.cmp (.loc 54) [.lt] [ci 1],.cmp (.loc 54) [.gt] [.av (.av (.loc 9) 140) 54]]) [.iB (.some (.call (.aH 123) [.cst (.str [110,111,32,115,117,99,104,32,112,97,103,101,32,99,111,117,110,116])]))] [],.asg (.loc 169) (.av (.av (.loc 9) 140) 54),.for_ [50] (.call (.aH 41) [.bin .add (.loc 54) (ci 1),.bin .add (.loc 169) (ci 1)]) [.exp (.meth (.loc 9) 165 [.loc 50])],.exp (.meth (.av (.loc 9) 140) 129 [.loc 54]),.for_ [50] (.call (.aH 41) [.bin .add (.loc 54) (ci 1),.bin .add (.loc 169) (ci 1)]) [.exp (.meth (.av (.loc 9) 139) 1 [.loc 50,.cst .none])]]⟩
noncomputable def Jh : Fn := ⟨[9],[],[],[.asg (.av (.loc 9) 143) (.cst (.bool true)),.asg (.loc 117) (.av (.av (.loc 9) 140) 117),.for_ [50] (.call (.aH 126) [.loc 117]) [.asg (.loc 19) (.sub (.loc 117) (.loc 50)),.exp (.meth (.av (.loc 9) 58) 62 [.bin .mul (.bin .sub (.loc 50) (ci 1)) (.av (.loc 9) 23),.loc 19]),.asg (.sub (.av (.loc 9) 139) (.loc 50)) (.loc 19),.del (.loc 117) (.loc 50)]]⟩
noncomputable def Ji : Fn := ⟨[9],[],[],[.ret (.some (.or_ [.av (.loc 9) 143,.cmp (.av (.av (.loc 9) 140) 117) [.ne] [.emp],.cmp (.av (.av (.loc 9) 140) 54) [.ne] [.av (.loc 9) 144]]))]⟩
noncomputable def Jj : Fn := ⟨[9],[],[],[.exp (.meth (.loc 9) 160 []),.bE (.meth (.loc 9) 171 []) [.asg (.loc 42) (.meth (.loc 9) 172 []),.asg (.av (.loc 42) 24) (.bin .mod (.bin .add (.call (.aH 168) [ci 0,.av (.loc 9) 138]) (ci 1)) (.aH 51)),.exp (.meth (.loc 9) 167 [ci 1,.bin .add (.meth (.loc 42) 45 []) (.iA (.meth (.loc 9) 155 [ci 1]) (.some (.aH 35)) .none)]),.exp (.meth (.loc 9) 173 []),.asg (.av (.loc 9) 138) (.av (.loc 42) 24)] [],.exp (.meth (.loc 9) 174 [.cst (.bool true)])]⟩
noncomputable def Jk : Fn := ⟨[9],[],[],[.exp (.meth (.loc 9) 164 []),.exp (.meth (.av (.loc 9) 72) 67 []),.exp (.meth (.loc 9) 161 []),.exp (.meth (.loc 9) 170 []),.bE (.cmp (.meth (.av (.loc 9) 58) 17 []) [.gt] [.bin .mul (.av (.av (.loc 9) 140) 54) (.av (.loc 9) 23)]) [.exp (.meth (.av (.loc 9) 58) 59 [.bin .mul (.av (.av (.loc 9) 140) 54) (.av (.loc 9) 23)])] [],.exp (.meth (.av (.loc 9) 58) 67 []),.exp (.meth (.av (.loc 9) 72) 78 []),.asg (.av (.loc 9) 72) (.cst .none)]⟩
noncomputable def Jl : Fn := ⟨[9,175],[],[],[.bE (.cmp (.av (.loc 9) 72) [.lQ] [.cst .none]) [.exp (.meth (.av (.loc 9) 72) 78 [])] [],.asg (.av (.loc 9) 72) (.cst .none),.asg (.av (.loc 9) 142) .emp,.asg (.av (.loc 9) 143) (.cst (.bool false)),.exp (.meth (.av (.loc 9) 140) 127 []),.asg (.av (.loc 9) 137) (.cst (.bool false)),.bE (.not_ (.loc 175)) [.asg (.av (.loc 9) 139) .emp,.asg (.av (.av (.loc 9) 140) 54) (.av (.loc 9) 144)] [],.exp (.meth (.loc 9) 176 [])]⟩
noncomputable def Jm : Fn := ⟨[9],[],[],[.exp (.meth (.av (.loc 9) 134) 109 [.av (.loc 9) 82,.av (.loc 9) 53,.aH 88])]⟩
noncomputable def Jn : Fn := ⟨[9],[],[],[.bE (.not_ (.av (.loc 9) 137)) [.exp (.meth (.av (.loc 9) 140) 127 []),.ret .none] [],.bE (.av (.loc 9) 143) [.exp (.meth (.av (.loc 9) 72) 77 [.av (.loc 9) 58])] [],.exp (.meth (.loc 9) 174 [.cst (.bool false)])]⟩
noncomputable def Jo : Fn := ⟨[9,122],[],[],[.exp (.meth (.av (.loc 9) 140) 131 [.loc 122])]⟩
noncomputable def Jp : Fn := ⟨[9,122],[],[],[.exp (.meth (.av (.loc 9) 140) 132 [.loc 122,.av (.loc 9) 137])]⟩
noncomputable def Jq : Fn := ⟨[9,52,53],[],[],[.asg (.av (.loc 9) 52) (.loc 52),.asg (.av (.loc 9) 53) (.loc 53),.asg (.av (.loc 9) 185) (.cst (.bytes [])),.asg (.av (.loc 9) 186) (.lst []),.asg (.av (.loc 9) 187) (.call (.aH 188) [])]⟩
noncomputable def Jr : Fn := ⟨[9],[],[],[.ret (.some (.call (.aH 34) [.av (.loc 9) 187]))]⟩
noncomputable def Js : Fn := ⟨[9,20,17],[],[],[.ret (.some (.call (.aH 36) [.iA (.av (.loc 9) 187) (.some (.loc 20)) (.some (.bin .add (.loc 20) (.loc 17)))]))]⟩
noncomputable def Jt : Fn := ⟨[9,20,19],[],[],[.exp (.meth (.av (.loc 9) 52) 189 [.loc 9,.bin .add (.loc 20) (.call (.aH 34) [.loc 19])]),.exp (.meth (.av (.loc 9) 52) 190 []),.exp (.meth (.av (.loc 9) 186) 3 [.tup [.cst (.str [119,114,105,116,101]),.loc 20,.call (.aH 36) [.loc 19]]]),.exp (.call (.aH 191) [.av (.loc 9) 187,.loc 20,.loc 19])]⟩
noncomputable def Ju : Fn := ⟨[9],[],[],[.exp (.meth (.av (.loc 9) 52) 190 []),.asg (.av (.loc 9) 185) (.call (.aH 36) [.av (.loc 9) 187]),.asg (.av (.loc 9) 186) (.lst [])]⟩
noncomputable def Jv : Fn := ⟨[9,193,196],[.int (.lit (.ofNat 8)),.none],[],[.asg (.av (.loc 9) 193) (.loc 193),.asg (.av (.loc 9) 196) (.loc 196),.asg (.av (.loc 9) 197) .emp,.asg (.av (.loc 9) 163) (ci 0),.asg (.av (.loc 9) 198) (.cst .none),.asg (.av (.loc 9) 199) .emp,.asg (.av (.loc 9) 134) (.call (.aH 200) [])]⟩
noncomputable def Jw : Fn := ⟨[9],[],[],[.bE (.and_ [.cmp (.av (.loc 9) 198) [.lQ] [.cst .none],.cmp (.bin .add (.av (.loc 9) 163) (ci 1)) [.ge] [.av (.loc 9) 198]]) [.iB (.some (.call (.aH 201) [.cst (.str [99,114,97,115,104])]))] [],.nh (.loc 9) 163 .add (ci 1)]⟩
noncomputable def Jx : Fn := ⟨[9,58,17],[],[],[.bE (.or_ [.cmp (.av (.loc 9) 196) [.is_] [.cst .none],.cmp (.loc 17) [.le] [.meth (.loc 58) 17 []]]) [.ret .none] [],.asg (.loc 48) (ci 0),.for_ [86] (.meth (.av (.loc 9) 197) 7 []) [.aug 48 .add (.meth (.loc 86) 17 [])],.bE (.cmp (.bin .add (.bin .sub (.loc 48) (.meth (.loc 58) 17 [])) (.loc 17)) [.gt] [.av (.loc 9) 196]) [.iB (.some (.call (.aH 202) [.cst (.str [100,105,115,107,32,102,117,108,108])]))] []]⟩
noncomputable def Jy : Fn := ⟨[9,53],[],[],[.ret (.some (.cmp (.loc 53) [.in_] [.av (.loc 9) 197]))]⟩
noncomputable def Jz : Fn := ⟨[9,53],[],[],[.bE (.cmp (.loc 53) [.jH] [.av (.loc 9) 197]) [.asg (.sub (.av (.loc 9) 197) (.loc 53)) (.call (.aH 203) [.loc 9,.loc 53])] [],.ret (.some (.sub (.av (.loc 9) 197) (.loc 53)))]⟩
noncomputable def JA : Fn := ⟨[9,53],[],[],[.bE (.cmp (.loc 53) [.jH] [.av (.loc 9) 197]) [.ret .none] [],.exp (.meth (.loc 9) 190 []),.del (.av (.loc 9) 197) (.loc 53)]⟩
noncomputable def JB : Fn := ⟨[207,20,19],[],[],[.bE (.cmp (.loc 20) [.gt] [.call (.aH 34) [.loc 207]]) [.exp (.meth (.loc 207) 4 [.call (.aH 36) [.bin .sub (.loc 20) (.call (.aH 34) [.loc 207])]])] [],.asg (.iA (.loc 207) (.some (.loc 20)) (.some (.bin .add (.loc 20) (.call (.aH 34) [.loc 19])))) (.loc 19)]⟩
noncomputable def JC : Fn := ⟨[210],[],[],[.asg (.tup [208,209]) (.tup [ci 0,ci 41]),.for_ [16] (.loc 210) [.asg (.loc 17) (.ite_ (.cmp (.loc 16) [.ge] [ci 0]) (.loc 16) (.bin .sub (.neg (ci 1)) (.loc 16))),.bE (.cmp (.loc 17) [.ge] [.bin .pow (ci 10) (ci 18)]) [.asg (.loc 208) (.bin .add (.bin .mul (.loc 208) (.loc 17)) (.loc 17))] [],.asg (.loc 209) (.bin .mod (.bin .add (.bin .add (.bin .mul (.loc 209) (ci 48271)) (.bin .mod (.loc 17) (ci 2147483629))) (ci 7919)) (ci 2147483647))],.ret (.some (.lst [.loc 208,.loc 209]))]⟩
noncomputable def JD : Fn := ⟨[211,213],[],[],[.bE (.cmp (.sub (.loc 211) (ci 0)) [.gt] [ci 0]) [.asg (.loc 212) (.bin .mod (.sub (.loc 211) (ci 0)) (.loc 213)),.asg (.sub (.loc 211) (ci 0)) (.bin .div (.sub (.loc 211) (ci 0)) (.loc 213)),.ret (.some (.loc 212))] [],.asg (.sub (.loc 211) (ci 1)) (.bin .mod (.bin .add (.bin .mul (.sub (.loc 211) (ci 1)) (ci 39373)) (ci 7)) (ci 2147483647)),.ret (.some (.bin .mod (.bin .div (.bin .mod (.bin .mul (.sub (.loc 211) (ci 1)) (.sub (.loc 211) (ci 1))) (ci 2147483629)) (ci 32)) (.loc 213)))]⟩
noncomputable def JE : Fn := ⟨[214],[],[],[.ret (.some (.bin .mul (.call (.aH 36) [.lst [.loc 214]]) (ci 64)))]⟩
noncomputable def JF : Fn := ⟨[215],[],[],[.try_ [.exp (.call (.loc 215) [])] [((.aH 123),[.ret (.some (.cst (.str [109,105,115,117,115,101])))]),((.aH 37),[.ret (.some (.cst (.str [99,111,114,114,117,112,116])))]),((.aH 97),[.ret (.some (.cst (.str [98,117,115,121])))])],.ret (.some (.cst (.str [])))]⟩
noncomputable def JG : Fn := ⟨[217,117],[],[217,117],[.asg (.loc 216) (.lst []),.bE (.not_ (.meth (.dc 217) 125 [])) [.exp (.meth (.loc 216) 3 [.cmp (.call (.aH 218) [.lam [217] (.meth (.dc 217) 181 [ci 1,.call (.aH 219) [ci 9]])]) [.eq] [.cst (.str [109,105,115,117,115,101])]]),.exp (.meth (.loc 216) 3 [.cmp (.call (.aH 218) [.lam [217] (.meth (.dc 217) 182 [.call (.aH 43) [ci 64]])]) [.eq] [.cst (.str [109,105,115,117,115,101])]]),.exp (.meth (.loc 216) 3 [.cmp (.call (.aH 218) [.lam [217] (.meth (.dc 217) 4 [])]) [.eq] [.cst (.str [109,105,115,117,115,101])]]),.exp (.meth (.loc 216) 3 [.cmp (.call (.aH 218) [.lam [217] (.meth (.dc 217) 59 [ci 1])]) [.eq] [.cst (.str [109,105,115,117,115,101])]]),.exp (.meth (.loc 216) 3 [.cmp (.call (.aH 218) [.lam [217] (.meth (.dc 217) 183 [])]) [.eq] [.cst (.str [109,105,115,117,115,101])]]),.exp (.meth (.loc 216) 3 [.cmp (.call (.aH 218) [.lam [217] (.meth (.dc 217) 180 [])]) [.eq] [.cst (.str [109,105,115,117,115,101])]])] [.exp (.meth (.loc 216) 3 [.cmp (.call (.aH 218) [.lam [217] (.meth (.dc 217) 158 [])]) [.eq] [.cst (.str [109,105,115,117,115,101])]]),.exp (.meth (.loc 216) 3 [.cmp (.call (.aH 218) [.lam [217] (.meth (.dc 217) 181 [ci 1,.call (.aH 36) [ci 63]])]) [.eq] [.cst (.str [109,105,115,117,115,101])]]),.exp (.meth (.loc 216) 3 [.cmp (.call (.aH 218) [.lam [217,117] (.meth (.dc 217) 181 [.bin .add (.call (.aH 34) [.dc 117]) (ci 1),.call (.aH 219) [ci 9]])]) [.eq] [.cst (.str [99,111,114,114,117,112,116])]]),.exp (.meth (.loc 216) 3 [.cmp (.call (.aH 218) [.lam [217] (.meth (.dc 217) 59 [ci 0])]) [.eq] [.cst (.str [109,105,115,117,115,101])]]),.exp (.meth (.loc 216) 3 [.cmp (.call (.aH 218) [.lam [217,117] (.meth (.dc 217) 59 [.bin .add (.call (.aH 34) [.dc 117]) (ci 1)])]) [.eq] [.cst (.str [109,105,115,117,115,101])]])],.bE (.meth (.dc 217) 178 []) [.exp (.meth (.loc 216) 3 [.cmp (.call (.aH 218) [.lam [217] (.meth (.dc 217) 155 [ci 0])]) [.eq] [.cst (.str [99,111,114,114,117,112,116])]]),.exp (.meth (.loc 216) 3 [.cmp (.call (.aH 218) [.lam [217,117] (.meth (.dc 217) 155 [.bin .add (.call (.aH 34) [.dc 117]) (ci 1)])]) [.eq] [.cst (.str [99,111,114,114,117,112,116])]])] [.exp (.meth (.loc 216) 3 [.cmp (.call (.aH 218) [.lam [217] (.meth (.dc 217) 155 [ci 1])]) [.eq] [.cst (.str [109,105,115,117,115,101])]]),.exp (.meth (.loc 216) 3 [.cmp (.call (.aH 218) [.lam [217] (.meth (.dc 217) 25 [])]) [.eq] [.cst (.str [109,105,115,117,115,101])]]),.exp (.meth (.loc 216) 3 [.cmp (.call (.aH 218) [.lam [217] (.meth (.dc 217) 172 [])]) [.eq] [.cst (.str [109,105,115,117,115,101])]])],.exp (.meth (.loc 216) 3 [.cmp (.call (.aH 218) [.lam [217] (.meth (.dc 217) 131 [ci 0])]) [.eq] [.cst (.str [109,105,115,117,115,101])]]),.exp (.meth (.loc 216) 3 [.cmp (.call (.aH 218) [.lam [217] (.meth (.dc 217) 132 [ci 0])]) [.eq] [.cst (.str [109,105,115,117,115,101])]]),.ret (.some (.cmp (.cst (.bool false)) [.jH] [.loc 216]))]⟩
noncomputable def JH : Fn := ⟨[217],[],[],[.asg (.loc 31) (.lst []),.for_ [16] (.call (.aH 41) [ci 1,.bin .add (.meth (.loc 217) 25 []) (ci 1)]) [.asg (.loc 19) (.iA (.meth (.loc 217) 155 [.loc 16]) (.some (.bin .mul (ci 32) (.call (.aH 18) [.cmp (.loc 16) [.eq] [ci 1]]))) .none),.exp (.meth (.loc 31) 3 [.ite_ (.cmp (.loc 19) [.eq] [.bin .mul (.iA (.loc 19) .none (.some (ci 1))) (.call (.aH 34) [.loc 19])]) (.sub (.loc 19) (ci 0)) (.neg (ci 1))])],.ret (.some (.loc 31))]⟩
noncomputable def JI : Fn := ⟨[217,91,86,221],[],[217],[.asg (.loc 220) (.ite_ (.cmp (.sub (.loc 86) (ci 0)) [.eq] [.cst (.str [119,114,105,116,101,115])]) (.cst (.str [98,117,115,121])) (.cst (.str []))),.bE (.cmp (.call (.aH 218) [.lam [217] (.meth (.dc 217) 179 [])]) [.ne] [.loc 220]) [.ret (.some (.cst (.bool false)))] [],.bE (.cmp (.loc 220) [.eq] [.cst (.str [])]) [.lq [.sub (.loc 91) (ci 0),.sub (.loc 91) (ci 1)] [.cst (.str [119,114,105,116,101,115]),.ite_ (.cmp (.sub (.loc 91) (ci 0)) [.eq] [.cst (.str [105,100,108,101])]) (.loc 221) (.sub (.loc 91) (ci 1))]] [],.ret (.some (.cst (.bool true)))]⟩
noncomputable def JJ : Fn := ⟨[217,91,86,221],[],[217],[.bE (.and_ [.sub (.loc 91) (ci 2),.cmp (.sub (.loc 86) (ci 0)) [.ne] [.cst (.str [105,100,108,101])]]) [.ret (.some (.ite_ (.cmp (.call (.aH 218) [.lam [217] (.meth (.dc 217) 183 [])]) [.eq] [.cst (.str [98,117,115,121])]) (.loc 221) (.cst .none)))] [],.bE (.cmp (.call (.aH 218) [.lam [217] (.meth (.dc 217) 183 [])]) [.ne] [.cst (.str [])]) [.ret (.some (.cst .none))] [],.lq [.sub (.loc 91) (ci 0),.sub (.loc 91) (ci 2)] [.cst (.str [114,101,97,100,115]),.cst (.bool false)],.ret (.some (.sub (.loc 91) (ci 1)))]⟩
noncomputable def JK : Fn := ⟨[211,217,91,86,221],[],[217],[.asg (.loc 222) (.call (.aH 223) [.loc 211,ci 8]),.bE (.cmp (.loc 222) [.eq] [ci 0]) [.bE (.cmp (.sub (.loc 91) (ci 0)) [.eq] [.cst (.str [105,100,108,101])]) [.lq [.sub (.loc 91) (ci 0),.sub (.loc 91) (ci 1)] [.cst (.str [114,101,97,100,115]),.loc 221]] [],.ret (.some (.ite_ (.cmp (.call (.aH 218) [.lam [217] (.meth (.dc 217) 157 [])]) [.eq] [.cst (.str [])]) (.loc 221) (.cst .none)))] [],.bE (.and_ [.cmp (.loc 222) [.lt] [ci 3],.cmp (.sub (.loc 91) (ci 0)) [.ne] [.cst (.str [119,114,105,116,101,115])]]) [.ret (.some (.ite_ (.call (.aH 224) [.dc 217,.loc 91,.loc 86,.loc 221]) (.loc 221) (.cst .none)))] [],.bE (.and_ [.cmp (.loc 222) [.lt] [ci 5],.cmp (.sub (.loc 91) (ci 0)) [.eq] [.cst (.str [119,114,105,116,101,115])]]) [.asg (.tup [16,214]) (.tup [.bin .add (ci 1) (.call (.aH 223) [.loc 211,.call (.aH 34) [.sub (.loc 91) (ci 1)]]),.call (.aH 223) [.loc 211,ci 256]]),.exp (.meth (.dc 217) 181 [.loc 16,.call (.aH 219) [.loc 214]]),.asg (.sub (.loc 91) (ci 1)) (.bin .add (.bin .add (.iA (.sub (.loc 91) (ci 1)) .none (.some (.bin .sub (.loc 16) (ci 1)))) (.lst [.loc 214])) (.iA (.sub (.loc 91) (ci 1)) (.some (.loc 16)) .none)),.asg (.sub (.loc 91) (ci 2)) (.cst (.bool true)),.ret (.some (.loc 221))] [],.bE (.and_ [.cmp (.loc 222) [.eq] [ci 5],.cmp (.sub (.loc 91) (ci 0)) [.eq] [.cst (.str [119,114,105,116,101,115])]]) [.ret (.some (.call (.aH 225) [.dc 217,.loc 91,.loc 86,.loc 221]))] [],.bE (.and_ [.cmp (.loc 222) [.eq] [ci 6],.cmp (.sub (.loc 91) (ci 0)) [.eq] [.cst (.str [119,114,105,116,101,115])]]) [.exp (.meth (.dc 217) 177 []),.lq [.sub (.loc 91) (ci 0),.sub (.loc 91) (ci 1),.sub (.loc 91) (ci 2)] [.cst (.str [114,101,97,100,115]),.loc 221,.cst (.bool false)],.ret (.some (.loc 221))] [],.bE (.and_ [.cmp (.loc 222) [.eq] [ci 7],.cmp (.sub (.loc 91) (ci 0)) [.eq] [.cst (.str [114,101,97,100,115])]]) [.exp (.meth (.dc 217) 158 []),.asg (.sub (.loc 91) (ci 0)) (.cst (.str [105,100,108,101])),.ret (.some (.loc 221))] [],.ret (.some (.ite_ (.call (.aH 226) [.dc 217,.sub (.loc 91) (ci 1)]) (.loc 221) (.cst .none)))]⟩
noncomputable def Ak : Fn := ⟨[210],[],[],[.asg (.loc 211) (.call (.aH 227) [.loc 210]),.asg (.loc 52) (.call (.aH 228) [ci 8]),.asg (.loc 229) (.lst [.call (.aH 230) [.loc 52,.cst (.str [100,98]),ci 1,ci 64],.call (.aH 230) [.loc 52,.cst (.str [100,98]),ci 2,ci 64]]),.asg (.loc 221) (.lst [ci 7]),.exp (.meth (.sub (.loc 229) (ci 0)) 179 []),.exp (.meth (.sub (.loc 229) (ci 0)) 182 [.call (.aH 43) [ci 64]]),.exp (.meth (.sub (.loc 229) (ci 0)) 181 [ci 1,.call (.aH 219) [ci 7]]),.for_ [231] (.call (.aH 41) [.call (.aH 223) [.loc 211,ci 3]]) [.exp (.meth (.sub (.loc 229) (ci 0)) 181 [.meth (.sub (.loc 229) (ci 0)) 4 [],.call (.aH 219) [.loc 231]]),.asg (.loc 221) (.bin .add (.loc 221) (.lst [.loc 231]))],.exp (.meth (.sub (.loc 229) (ci 0)) 183 []),.exp (.meth (.sub (.loc 229) (ci 0)) 158 []),.asg (.loc 232) (.lst [.lst [.cst (.str [105,100,108,101]),.loc 221,.cst (.bool false)],.lst [.cst (.str [105,100,108,101]),.loc 221,.cst (.bool false)]]),.for_ [231] (.call (.aH 41) [.bin .add (ci 4) (.call (.aH 223) [.loc 211,ci 5])]) [.asg (.loc 233) (.call (.aH 223) [.loc 211,ci 2]),.asg (.loc 221) (.call (.aH 234) [.loc 211,.sub (.loc 229) (.loc 233),.sub (.loc 232) (.loc 233),.sub (.loc 232) (.bin .sub (ci 1) (.loc 233)),.loc 221]),.bE (.cmp (.loc 221) [.is_] [.cst .none]) [.ret (.some (.cst (.bool false)))] [],.for_ [20] (.call (.aH 41) [ci 2]) [.asg (.loc 235) (.sub (.loc 232) (.loc 20)),.bE (.cmp (.meth (.sub (.loc 229) (.loc 20)) 178 []) [.ne] [.cmp (.sub (.loc 235) (ci 0)) [.ne] [.cst (.str [105,100,108,101])]]) [.ret (.some (.cst (.bool false)))] [],.bE (.cmp (.meth (.sub (.loc 229) (.loc 20)) 125 []) [.ne] [.cmp (.sub (.loc 235) (ci 0)) [.eq] [.cst (.str [119,114,105,116,101,115])]]) [.ret (.some (.cst (.bool false)))] [],.bE (.and_ [.cmp (.sub (.loc 235) (ci 0)) [.ne] [.cst (.str [105,100,108,101])],.cmp (.call (.aH 236) [.sub (.loc 229) (.loc 20)]) [.ne] [.sub (.loc 235) (ci 1)]]) [.ret (.some (.cst (.bool false)))] []]],.ret (.some (.cst (.bool true)))]⟩
noncomputable def Oa : gT := ⟨[(8,false,35)],[10]⟩
noncomputable def Ob : gT := ⟨[(8,false,35)],[10]⟩
noncomputable def Oc : gT := ⟨[(8,false,35)],[10]⟩
noncomputable def Od : gT := ⟨[(8,false,35)],[10]⟩
noncomputable def Oe : gT := ⟨[(8,false,35)],[10]⟩
noncomputable def Of : gT := ⟨[(8,false,35)],[10]⟩
noncomputable def JL : gT := ⟨[(46,true,149),(45,false,144),(8,false,137)],[23,24,25,26,27,28,29,30]⟩
noncomputable def JM : gT := ⟨[(67,false,215),(58,false,187),(78,false,243),(64,false,194),(75,false,208),(74,false,201),(8,false,180)],[52,53,23,49,54,55]⟩
noncomputable def JN : gT := ⟨[(92,false,271),(98,false,299),(87,false,278),(108,false,306),(109,false,335),(100,false,285),(96,false,327),(93,false,313),(94,false,320),(107,false,292),(8,false,264)],[79,80,81]⟩
noncomputable def JO : gT := ⟨[(69,false,421),(124,false,463),(131,false,470),(132,false,478),(121,false,428),(128,false,435),(127,false,414),(4,false,442),(74,false,407),(8,false,400)],[116,54,117,118]⟩
noncomputable def JP : gT := ⟨[(160,false,633),(155,false,584),(120,false,577),(181,false,661),(178,false,507),(125,false,514),(131,false,752),(132,false,759),(25,false,591),(157,false,521),(59,false,682),(165,false,647),(167,false,654),(183,false,710),(158,false,556),(164,false,640),(174,false,724),(176,false,731),(161,false,626),(172,false,598),(148,false,528),(149,false,535),(151,false,549),(4,false,675),(179,false,605),(159,false,612),(182,false,668),(180,false,619),(147,false,563),(171,false,703),(177,false,738),(170,false,696),(173,false,717),(153,false,570),(8,false,500)],[52,53,82,23,133,58,134,135,136,137,138,139,140,72,142,143,144,145]⟩
noncomputable def JQ : gT := ⟨[(69,false,801),(17,false,794),(62,false,808),(67,false,822),(8,false,787)],[52,53,185,186,187]⟩
noncomputable def JR : gT := ⟨[(190,false,865),(189,false,872),(57,false,886),(73,false,893),(70,false,879),(8,false,858)],[193,196,197,163,198,199,134]⟩
noncomputable def ctx : Ctx := ⟨[(34,(.bi .len)),(83,(.int (.lit (.ofNat 0)))),(218,(.fn 956)),(36,(.ty .bytes)),(18,(.ty .int)),(123,(.cls 87)),(40,(.fn 115)),(89,(.int (.lit (.ofNat 2)))),(33,(.fn 108)),(41,(.bi .range)),(223,(.fn 942)),(95,(.int (.lit (.ofNat 3)))),(35,(.int (.lit (.ofNat 32)))),(88,(.int (.lit (.ofNat 1)))),(43,(.cls 155)),(32,(.bytes [.lit [112,97,103,101,98,97,115,101]])),(219,(.fn 949)),(99,(.int (.lit (.ofNat 4)))),(37,(.cls 63)),(154,(.ty .str)),(191,(.fn 921)),(56,(.int (.lit (.ofNat 4294967295)))),(51,(.int (.lit (.ofNat 4294967296)))),(226,(.fn 963)),(234,(.fn 991)),(21,(.int (.lit (.ofNat 64)))),(22,(.int (.lit (.ofNat 32768)))),(44,(.fn 122)),(236,(.fn 970)),(97,(.cls 51)),(150,(.cls 246)),(224,(.fn 977)),(63,(.int (.lit (.ofNat 24)))),(66,(.fn 166)),(225,(.fn 984)),(168,(.bi .max)),(68,(.int (.lit (.ofNat 8)))),(126,(.bi .sorted)),(203,(.cls 839)),(188,(.ty .bytearray)),(61,(.bytes [.lit [112,98,106,111,117,114,110,108]])),(141,(.cls 481)),(230,(.cls 769)),(200,(.cls 381)),(228,(.cls 910)),(227,(.fn 935))],[(956, JF), (35, N9), (633, I9), (584, I1), (115, H8), (271, Ip), (108, HZ), (421, IF), (299, Iv), (865, Jw), (577, I0), (661, Jd), (278, Iq), (507, IQ), (514, IS), (949, JE), (463, IK), (306, Iw), (591, I3), (794, Jr), (808, Jt), (872, Jx), (921, JB), (335, IB), (521, IT), (137, Ia), (682, Jg), (428, IG), (435, II), (647, Jb), (654, Jc), (822, Ju), (886, Jz), (187, Ih), (710, Jj), (470, IL), (478, IM), (752, Jo), (759, Jp), (963, JG), (991, JK), (122, H9), (149, Ic), (801, Js), (970, JH), (556, IX), (640, Ja), (414, IE), (724, Jl), (731, Jm), (180, Ig), (243, Im), (285, Ir), (327, IA), (626, I8), (893, JA), (598, I4), (313, Iy), (528, IU), (535, IV), (549, IW), (879, Jy), (675, Jf), (320, Iz), (605, I5), (612, I6), (668, Je), (619, I7), (977, JI), (166, Ie), (194, Ii), (208, Ik), (563, IY), (703, Ji), (738, Jn), (984, JJ), (144, Ib), (215, Il), (696, Jh), (717, Jk), (292, Iu), (570, IZ), (407, ID), (787, Jq), (201, Ij), (442, IJ), (400, IC), (500, IP), (264, Io), (858, Jv), (935, JC), (942, JD), (998, Ak)],[(38, Oa), (51, Ob), (63, Oc), (75, Od), (87, Oe), (99, Of), (155, JL), (246, JM), (381, JN), (481, JO), (769, JP), (839, JQ), (910, JR)], (.some 942), [(38,[38]),(51,[51,38]),(63,[63,38]),(75,[75,38]),(87,[87,38]),(99,[99,38])]⟩
noncomputable def Og (l : List Nat) : List (List Nat) := List.rec (motive := fun J => List (List Nat)) [] (fun n J ih => E3 (nat_lit 128) (nat_lit 40) n :: ih) l
noncomputable def nc : List (List Nat) := Og [4010727,3946480,2258351292435740308211,7863761909857,7863761976421,137245059796432884,2248623059704752109926,8376775553270,125959668179300319,484127475,1010717985403629,2063714772633704427487,70908893365435618644874575327199,311860945451106816150315192791040768591327199,264155559001101134852063,984055356665823,8342375987950,482260211,4011881,8380768661999,31329,62656045949072124536599557989068,489500358977125972942184048589,16570334700971356400,601134263515273059444018672739,2258495469091779375344,2175485134538341448038,2258495469091779344742,4445498709602702318315909619,3879159,36097565608746612294253045,61435901926,52499177677,2239389502449009900272,3912428,233411960114508442133192,65443544290,36702111431577687077730243,1072669631675118,233,2239389502449009898215,61689540850,8342379983592,8342379983560,34750510558811482018544105,494465264,8101318899573,125959666558119903,63556106228,61681154030,481947888,412395479,494728420,482046190,65730869219,481931507,1812790956987157653454,500791407,482030822,129429072431118708,479752936,3782964432428131340590081994,61716724087,14246335456178365128,271488363740683325469426,7864856408818,2194435071762891338482,477871347,119634550037243843,479752946,8380797844581,16484185387952534258,1041301640148970,7899732194020,64109540066,3748449,8413792172521,523794032,8002551395558,8378621211372,65474918003,2249054174193894766580,65175010287,414427086,1077102050407656,479933160,65174911599,1266384793943432900733263529264149736,6753203807315,110644633175122642,63564526316,482063597,129969965829567212,270114719732531837202676,4425564447045463166533955828,877911054983888,569274993946528422070985617652,17500930515098467010,17062972607260605168,14244083653697137733,4425559568097802103652235887,63578864607,513537651,16568082907077868645,494711021,513340644,4092651,72508447900392868520975255878255,494467052,8101348194165,479934440,481917286,1072669635852264,132797978711503603,65456091373,505149796,61712628339,65443328240,2249700475998079660275,17644443079223914739,62486557414,504984299,62522143460,286735245558686089540813,274975294914289878004835,2138584899414755113449,7861377480691,3749733,4012784,4012771,606258447851202006946512730223,1271416116428043991271853959784641266,162741262902789630882800614182605240306,289040723384695770478707,65455847404,481900525,1019756712325874,1019756746013047,1067828960393187,61691457763,1072223516914787,287822808696936185065680,16486467737629849578,1006254157363315,2258495469091779571938,130471788185071863,4697870263233512199270559952,2119993978233229439724,1067829499065074,34569842354785800244951020,1041301640148938,2119702348302940467947,16708269951604832101,36859010374277732478300902,3979891,16559603364402852594,273738858082257008914679,2109975773641090659042,128782701027735397,2120570492585078616308,35038574992011347747238638,16562452954959378412,61408375905,65466366579,35778851917687919478405231,4579692961441557075415626475,63578994803,129371901284662000,4075757,513601772,4715688897690742986949425527,287822808696944762613992,286641993602686965543666,603608178904415102841978058723,271433023050890079893091,1010962229885417,271433023050890085954284,132732005088180210,2138584828767632882153,271433023050892474708706,569274993946528422070998071276,2119629230643873479031,36690175181143931897936247,8412192274403,61714724451,7861341764851,1019756712538864,4061166,17997452381490330850,2194000557788030923875,504986227,2249695457414412581616,2249695457414412581603,8345097925363,136725602340976611,16707694595405560563,498857970,65443411174,137789691481586019,7861373006963,16562421993882318796,2240119105928040053059,17500930515071089350,129394155145983172,1072222432916579,136726154774887155,524040163,8411106029812,8380776838372,61417075949,8414063014387,7895196202995,64138803556,3946484,65711976943,496709859,479934452,65174892784,16493800033061729887,270114293583368504768095,3767012,513553131,4092151,16561855301695338079,2203651714714781120095,566471949388013256218408154719,4716739671790077095458666079,17068571694986720863,494728388,8380231577840,4696345963449782260154972114,501005044,8376773278323,3929207,16486437050367112799,61716593267,17855549547749078623,4059372,16566921784146622309]
noncomputable def t9 : List Nat := [0,1,2,3,35,34,108,107,115,114,122,121,137,136,130,144,143,149,148,166,165,180,179,187,186,194,193,201,200,208,207,215,214,243,242,264,263,271,270,278,277,285,284,292,291,299,298,306,305,313,312,320,319,327,326,335,334,328,400,399,393,407,406,414,413,421,420,428,427,435,434,442,441,463,462,470,469,478,477,471,500,499,493,507,506,514,513,521,520,528,527,535,534,549,548,556,555,563,562,570,569,577,576,584,583,591,590,598,597,605,604,612,611,619,618,626,625,633,632,640,639,647,646,654,653,661,660,668,667,675,674,682,681,696,695,703,702,710,709,717,716,724,723,731,730,738,737,752,751,759,758,787,786,794,793,801,800,808,807,822,821,858,857,851,865,864,872,871,879,878,886,885,893,892,921,920,935,934,942,941,949,948,956,955,963,962,970,969,977,976,984,983,991,990,998,997,38,37,51,50,63,62,75,74,87,86,99,98,155,154,151,246,245,381,380,481,480,769,768,839,838,910,909]
noncomputable def Am : List (Nat × Nat) := [(148,146),(962,958),(976,972),(983,979),(990,986)]
end aD
end
section
open PySem PySem.Calls PyProof.Rows PySem.W
set_option maxRecDepth 100000
set_option maxHeartbeats 0
namespace aD
noncomputable def oF : Nat × E × List aD.S := match Ak.body[(nat_lit 11)]? with
 | some (aD.S.for_ (t :: _) it b) => (t, it, b)
 | _ => (0, .emp, [])
noncomputable def b1 : List aD.S := oF.2.2.take (nat_lit 3)
noncomputable def b2 : List aD.S := oF.2.2.drop (nat_lit 3)
noncomputable def qM : iy ctx where
 a := nat_lit 998
 p := nat_lit 210
 sr := nat_lit 211
 gp := nat_lit 227
 ap := nat_lit 935
 dg := nat_lit 208
 mx := nat_lit 209
 nu := nat_lit 16
 sz := nat_lit 17
 cC := 41
 pre := (Ak.body.drop (nat_lit 1)).take (nat_lit 10)
 t := nat_lit 231
 it := oF.2.1
 b1 := b1
 b2 := b2
 post := Ak.body.drop (nat_lit 12)
theorem E6 : af qM.a ctx.fns = some qM.fn := by kernel_rfl
theorem An : af qM.ap ctx.fns = some (gR qM.p qM.dg qM.mx qM.nu qM.sz qM.cC) := by kernel_rfl
theorem Ao : af (nat_lit 942) ctx.fns = some (eR (nat_lit 211) (nat_lit 213) (nat_lit 212)) := by kernel_rfl
theorem Ap : af qM.gp ctx.glob = some (.fn qM.ap) := by kernel_rfl
theorem Aq : yn ctx (nat_lit 942) (nat_lit 211) (nat_lit 213) (nat_lit 212) := ⟨by kernel_rfl, Ao, by decide, by decide, by decide⟩
theorem yp : oh nc = true := by kernel_rfl
theorem vT : lh (jv nc) := ⟨xX yp, by kernel_rfl, by kernel_rfl, by kernel_rfl, by kernel_rfl, by kernel_rfl, by kernel_rfl, by kernel_rfl⟩
noncomputable def E7 : List (List Nat) := [[0,0,0,0,0],[1,1,1,1,1],[2,2,2,2,2]]
theorem CL : tT (bH ctx (nat_lit 100)) qM.pre qM.it (look mS P0) qM.start E7 = true := by kernel_rfl
theorem CM (A : AS) : qu (bH ctx (nat_lit 100)) qM.post A = true := by kernel_rfl
noncomputable def E8 (p : LS × List Nat) : Bool := HC (nat_lit 231) p && jk (bH ctx (nat_lit 100)) b1 (nat_lit 1) (look mS P1) p
noncomputable def JS (p : LS × List Nat) : Bool := jk (bH ctx (nat_lit 100)) b2 (nat_lit 0) (look mS P0) p
def Al (q : LS × List Nat → Bool) (l : List Nat) : Prop := ∀ k ∈ l, q (mS k) = true
theorem LX {q} : Al q [] := fun J h => nomatch h
theorem LY {q k l} (h : q (mS k) = true) (t : Al q l) : Al q (k :: l) := fun j hj => (List.mem_cons.mp hj).elim (fun e => e ▸ h) (t j)
def AL (q : LS × List Nat → Bool) (N : List (List Nat)) : Prop := ∀ l ∈ N, Al q l
theorem L1 {q} : AL q [] := fun J h => nomatch h
theorem L2 {q l N} (h : Al q l) (t : AL q N) : AL q (l :: N) := fun j hj => (List.mem_cons.mp hj).elim (fun e => e ▸ h) (t j)
theorem uc {q N} (h : AL q N) (p) (hp : p ∈ iW mS N) : q p = true := (List.mem_map.mp hp).elim fun k e => (List.mem_flatten.mp e.1).elim fun l m => e.2 ▸ h l m.1 k m.2
end aD
end
section
open PySem PySem.W PySem.W.X PySem.Calls PyProof.Rows
set_option maxRecDepth 100000
set_option maxHeartbeats 0
namespace aD
abbrev pw : Program := PySem.Challenge.pw_nt0139_02
noncomputable def f7 (tb : String → Option Builtin) (p : Program) (w : World) (n₀ : Nat) (ann : Option Value) : Nat → SharedT → Thread → Option SharedT
 | 0, _, _ => none
 | n + 1, s, t => match through t with
  | true => some s
  | false => match stepOk n₀ ann t with
   | false => none
   | true => match stepT (denote tb) p w s t with
    | some (s', t') => f7 tb p w n₀ ann n s' t'
    | none => none
theorem ng {tb : String → Option Builtin} {p : Program} {w : World} {n₀ : Nat} {ann : Option Value} : ∀ {n : Nat} {s s' : SharedT} {t : Thread},
 f7 tb p w n₀ ann n s t = some s' → topRun tb p w n₀ ann n s.abs t = some s'.abs
 | 0, _, _, _, h => by cases h
 | n + 1, s, s', t, h => by
  unfold f7 at h
  unfold topRun
  cases he : through t with
  | true => rw [he] at h; cases h; rfl
  | false =>
   rw [he] at h
   cases hk : stepOk n₀ ann t with
   | false => rw [hk] at h; cases h
   | true =>
    rw [hk] at h
    cases hs : stepT (denote tb) p w s t with
    | none => rw [hs] at h; cases h
    | some r => obtain ⟨gd, Oh⟩ := r; rw [hs] at h; rw [stepT_spec hs]; exact ng h
noncomputable def eX (den : Code → Sem Fin) (p : Program) (w : World) (n₀ : Nat) (ann : Option Value) : Nat → SharedT → Thread → Option SharedT
 | 0, _, _ => none
 | n + 1, s, t => match through t with
  | true => some s
  | false => match Fast.tw6613529449190102663 n₀ ann t with
   | false => none
   | true => match Fast.tw10156331382660048174 den p w s t with
    | some (s', t') => eX den p w n₀ ann n s' t'
    | none => none
theorem lj {p : Program} {w : World} {n₀ : Nat} {ann : Option Value} : ∀ (n : Nat) (s : SharedT) (t : Thread),
 f7 treeTable p w n₀ ann n s t = eX (Fast.tw11892475500146522536 Fast.tw14364793385576792824) p w n₀ ann n s t
 | 0, _, _ => rfl
 | n + 1, s, t => by
  unfold f7 eX
  rw [← Fast.te6613529449190102663, ← Fast.te10156331382660048174, ← Fast.te11892475500146522536, ← Fast.te14364793385576792824]
  cases through t with
  | true => rfl
  | false =>
   cases stepOk n₀ ann t with
   | false => rfl
   | true =>
    cases stepT (denote treeTable) p w s t with
    | none => rfl
    | some r =>
     have := lj (p := p) (w := w) (n₀ := n₀) (ann := ann) n r.1 r.2
     rw [← Fast.te11892475500146522536, ← Fast.te14364793385576792824] at this
     exact this
noncomputable def ll (P : Params) : BT := .node (boot_o_0 P)
 (.node (boot_o_1 P) (.node (boot_o_3 P) (.node (boot_o_7 P) .nil .nil) .nil) (.node (boot_o_5 P) (.node (boot_o_9 P) .nil .nil) .nil))
 (.node (boot_o_2 P) (.node (boot_o_4 P) (.node (boot_o_8 P) .nil .nil) .nil) (.node (boot_o_6 P) (.node (boot_o_10 P) .nil .nil) .nil))
theorem qN (P : Params) : absHeap (ll P) 11 (boot_heap P).life = boot_heap P := by kernel_rfl
theorem vU {p q : Program} {loose : List Str} {Xt : Shared → Bool} {α : Type} {Yf : Shared → α} {Ya : World → α} {N M : Nat} {g0 : Bool} {life : Life}
 (open_ : ∀ w : World, (fencedOpening treeTable p w N).map (fun s => (s.heap, s.gens, s.drawn, s.toks)) = some (boot_heap w.params, #[], boot_drawn, boot_toks))
 (hl : ∀ P, (boot_heap P).life = life)
 (size : ∀ w : World, ((boot_heap w.params).isNs mainGlobals, (boot_heap w.params).nsMap mainGlobals "__annotations__") = (true, some (.ref 6)))
 (le : Nat.ble M N = true)
 (run : ∀ (w : World) (os : OsState), (f7 treeTable p w 11 (some (.ref 6)) M ⟨ll w.params, 11, life, #[], boot_drawn, boot_toks, os⟩ (topStub p)).map (fun s =>
  ((staticsOk (importedModules p.main.body) (boot_heap w.params) s.abs.heap && namesBound p s.abs.heap && gensDone s.abs && laidKept (boot_heap w.params) s.abs.heap),
   openSeen q loose (importedModules p.main.body) Xt g0 s.abs, Yf s.abs)) = some (true, openGood q loose, Ya w)) : LeftO p q loose Xt Yf Ya N g0 := fun w => by
 obtain ⟨⟨h, gs, d, k, os⟩, e, e'⟩ := Option.map_eq_some_iff.mp (open_ w)
 obtain ⟨rfl, rfl, rfl, rfl⟩ : h = boot_heap w.params ∧ gs = #[] ∧ d = boot_drawn ∧ k = boot_toks := by simpa using e'
 obtain ⟨z1, z3⟩ : _ ∧ _ := by simpa only [Prod.mk.injEq] using size w
 obtain ⟨aV, hr, FA⟩ := Option.map_eq_some_iff.mp (run w os)
 obtain ⟨l1, l2, l3⟩ : _ ∧ _ ∧ _ := by simpa only [Prod.mk.injEq] using FA
 have r0 := ng hr
 have hb : SharedT.abs ⟨ll w.params, 11, life, #[], boot_drawn, boot_toks, os⟩ = ⟨boot_heap w.params, #[], boot_drawn, boot_toks, os⟩ := by
  unfold SharedT.abs
  rw [← hl w.params]
  dsimp only
  rw [qN]
 rw [hb] at r0
 have r := topRun_mono (N - M) _ _ _ _ r0
 rw [show M + (N - M) = N by have := Nat.le_of_ble_eq_true le; omega] at r
 have ru : (boot_heap w.params).objs.size = 11 := by rw [← qN, absHeap_size]
 have t : topFrom treeTable p w N ⟨boot_heap w.params, #[], boot_drawn, boot_toks, os⟩ = some aV.abs := by
  unfold topFrom
  dsimp only
  rw [z1, z3, ru, r]
  show (match staticsOk (importedModules p.main.body) (boot_heap w.params) aV.abs.heap && namesBound p aV.abs.heap && gensDone aV.abs && laidKept (boot_heap w.params) aV.abs.heap with | true => _ | false => _) = _
  rw [l1]
 unfold openEnds
 rw [e]
 show (topFrom treeTable p w N _).map _ = _
 rw [t]
 exact congrArg some (Prod.ext l2 l3)
end aD
end
section
open PySem PySem.W PySem.W.X PySem.Calls PyProof.Rows
set_option maxRecDepth 100000
set_option maxHeartbeats 0
namespace aD
noncomputable def qv : Program := { pw with main := { pw.main with body := pw.main.body.drop 51 } }
noncomputable def lo : List Str := (pw.main.scope.names.map (·.1)).filter fun n => n != Str.ofString "law"
noncomputable def qO : Life := (boot_heap { strHash := fun J => 0, shareClass := fun a => a, mergeTok := id, idOf := fun a => a, idOfShared := fun J J => 0, followText := fun J => false, idOfImm := fun J => 0 }).life
theorem As (P : Params) : (boot_heap P).life = qO := by kernel_rfl
noncomputable def Y2 (s : Shared) : Bool := eV s.heap t9 nc ctx Am (Str.ofString "law") (nat_lit 998)
noncomputable def CN (s : Shared) (l : List (Nat × Fn)) : Bool := l.all fun x => qz (fragOf s.heap t9) (jv nc) (Am.map (·.2)) x.1 x.2
noncomputable def Bm (s : Shared) : Bool := eV s.heap t9 nc { ctx with fns := [] } Am (Str.ofString "law") (nat_lit 998)
theorem vV {α : Type} {l : List α} {p : α → Bool} (n : Nat) (h : (l.take n).all p = true) (k : (l.drop n).all p = true) : l.all p = true := by
 rw [← List.take_append_drop n l, List.all_append, h, k]; rfl
theorem E9 {s : Shared} (h : CN s ctx.fns = true) (k : Bm s = true) : Y2 s = true := by
 unfold Y2 eV kZ
 rw [show (ctx.fns.all fun x => qz (fragOf s.heap t9) (jv nc) (Am.map (·.2)) x.1 x.2) = true from h]
 exact k
theorem JT (w : World) (os : OsState) : (eX (Fast.tw11892475500146522536 Fast.tw14364793385576792824) pw w 11 (some (.ref 6)) 6900 ⟨ll w.params, 11, qO, #[], boot_drawn, boot_toks, os⟩ (topStub pw)).map (fun s => CN s.abs (ctx.fns.take 57)) = some true := by kernel_rfl
theorem JU (w : World) (os : OsState) : (eX (Fast.tw11892475500146522536 Fast.tw14364793385576792824) pw w 11 (some (.ref 6)) 6900 ⟨ll w.params, 11, qO, #[], boot_drawn, boot_toks, os⟩ (topStub pw)).map (fun s => CN s.abs (ctx.fns.drop 57)) = some true := by kernel_rfl
theorem JV (w : World) (os : OsState) : (eX (Fast.tw11892475500146522536 Fast.tw14364793385576792824) pw w 11 (some (.ref 6)) 6900 ⟨ll w.params, 11, qO, #[], boot_drawn, boot_toks, os⟩ (topStub pw)).map (fun s =>
 ((staticsOk (importedModules pw.main.body) (boot_heap w.params) s.abs.heap && namesBound pw s.abs.heap && gensDone s.abs && laidKept (boot_heap w.params) s.abs.heap),
  Fast.tw4187177175401517315 qv lo (importedModules pw.main.body) (fun J => true) true s.abs, Bm s.abs)) = some (true, openGood qv lo, true) := by kernel_rfl
theorem JW {α β γ : Type} {o : Option α} {f : α → β} {g : α → γ} {a b c d e} {p q r t : α → Bool} (h1 : o.map (fun s => (f s, g s, p s)) = some (a, b, c)) (h2 : o.map q = some d) (h3 : o.map r = some e) (h : ∀ s, p s = c → q s = d → r s = e → t s = true) : o.map (fun s => (f s, g s, t s)) = some (a, b, true) := by
 cases o with
 | none => cases h1
 | some s =>
  cases h1; cases h2; cases h3
  show some (f s, g s, t s) = _
  rw [h s rfl rfl rfl]
theorem Fb (w : World) (os : OsState) : (eX (Fast.tw11892475500146522536 Fast.tw14364793385576792824) pw w 11 (some (.ref 6)) 6900 ⟨ll w.params, 11, qO, #[], boot_drawn, boot_toks, os⟩ (topStub pw)).map (fun s =>
 ((staticsOk (importedModules pw.main.body) (boot_heap w.params) s.abs.heap && namesBound pw s.abs.heap && gensDone s.abs && laidKept (boot_heap w.params) s.abs.heap),
  Fast.tw4187177175401517315 qv lo (importedModules pw.main.body) (fun J => true) true s.abs, Y2 s.abs)) = some (true, openGood qv lo, true) :=
 JW (JV w os) (JT w os) (JU w os) fun s h1 h2 h3 => E9 (vV 57 h2 h3) h1
theorem Au : opening pw = plainProg pw.main.scope.names := by rfl
theorem Av (s : Shared) : fenceModules? pw s = some s := by rfl
theorem Fc (w : World) : ((boot_heap w.params).isNs mainGlobals, (boot_heap w.params).nsMap mainGlobals "__annotations__") = (true, some (.ref 6)) := by kernel_rfl
theorem CP : LeftO pw qv lo (fun J => true) Y2 (fun J => true) 6900 := by
 refine vU (M := 6900) (boot_open Au (by decide) Av) As Fc (by decide) fun w os => ?_
 rw [lj, Fast.te4187177175401517315]
 exact Fb w os
end aD
end
section
open PySem PySem.Calls PyProof.Rows PySem.W
set_option maxRecDepth 100000
set_option maxHeartbeats 0
namespace aD
theorem yq : AL E8 P0 := by
 delta P0
 repeat refine L2 (by (repeat refine LY (by decide +kernel) ?_); exact LX) ?_
 exact L1
theorem Aw : AL JS P1 := by
 delta P1
 repeat refine L2 (by (repeat refine LY (by decide +kernel) ?_); exact LX) ?_
 exact L1
theorem CQ : tZ qM 87 mS P0 P1 E7 where
 fn := E6
 nt := by show some 942 ≠ some 998; decide
 np := by show some 942 ≠ some 935; decide
 gp := Ap
 EU := An
 d1 := by show 208 ≠ 209; decide
 d2 := by show 208 ≠ 17; decide
 d3 := by show 209 ≠ 17; decide
 d4 := by show 208 ≠ 16; decide
 d5 := by show 209 ≠ 16; decide
 d6 := by show 210 ≠ 208; decide
 d7 := by show 210 ≠ 209; decide
 d8 := by show 211 ≠ 210; decide
 s0 := by show (0 : Int) ≤ 41; decide
 s1 := by show (41 : Int) < 2147483647; decide
 pre := CL
 turn := fun p h => ao (uc yq p h)
 mid := uc Aw
 post := fun p J => CM p.1.as
end aD
end
open PySem PySem.W PySem.W.X PySem.Calls PyProof.Rows
set_option maxRecDepth 100000
set_option maxHeartbeats 0
namespace aD
theorem Fd (said : oH.row.wellSaid = true) : oH.row.Holds :=
 ym (l := oH) (q := qv) (loose := lo) CP (by rfl) (by rfl) (by rfl) said (by decide +kernel) ⟨rfl, rfl, rfl, rfl, rfl, by decide +kernel⟩ ⟨[.list [.int 3, .int 1]], by decide +kernel, by decide +kernel⟩
  (fun w aE aV mg mb hg hb hl A9 y args vs bs hp lO L => Aj (l := oH) rfl rfl qM CQ vT Aq (by decide) w aE aV mg mb hg hb hl A9 y args vs bs hp lO L)
end aD
theorem PySem.Challenge.cw_nt0139_02_holds : PySem.Challenge.rw_nt0139_02.Holds :=
 holds_law aD.Bn aD.Fd
