import PyProof.Rows.All
import Wide.All
import OpenK.AllK
import Wide.FinOn
import Lean
import PySem.Challenge.RW_nt0139_02
set_option Elab.async false
set_option genInjectivity false
set_option genSizeOf false
set_option genCtorIdx false
set_option tactic.hygienic false
set_option bootstrap.genMatcherCode false
set_option linter.all false
section
open PySem PySem.W PySem.W.X PySem.Calls PyProof.Rows
set_option maxRecDepth 100000
set_option maxHeartbeats 0
namespace aD
abbrev oK : OpenLaw := PySem.Challenge.rw_nt0139_02
theorem BH : oK.wellSaid = true := (congrFun Fast.te9446332074065402090 oK).trans (by kernel_rfl)
end aD
end
namespace aD
@[elab_as_elim] theorem ae {α : Sort u} {a b : α} {p : α → Prop} (h : a = b) (x : p b) : p a := h ▸ x
@[elab_as_elim] theorem bK {α : Sort u} {a b : α} {p : α → Prop} (h : a = b) (x : p a) : p b := h ▸ x
theorem bf {P : Prop} (h : false = true) : P := nomatch h
theorem aO {α : Type u} {a b : α} (h : some a = some b) : a = b := Option.some.inj h
theorem iB {α : Type u} [BEq α] [LawfulBEq α] {a b : α} (h : (a == b) = true) : a = b := beq_iff_eq.mp h
theorem wm {α : Type u} [BEq α] [LawfulBEq α] {a b : α} (h : a ≠ b) : (a == b) = false := beq_eq_false_iff_ne.mpr h
theorem ff {α : Type u} {a b : α} {l : List α} (h : a ∈ b :: l) : a = b ∨ a ∈ l := List.mem_cons.mp h
theorem msg {α : Type u} {a b : α} (h : a ∈ [b]) : a = b := List.mem_singleton.mp h
theorem gc {α : Type u} {β : Type v} {o : Option α} {f : α → Option β} {b : β} (h : o.bind f = some b) : ∃ a, o = some a ∧ f a = some b := Option.bind_eq_some_iff.mp h
theorem Dw {α : Type u} {β : Type v} {o : Option α} {f : α → β} {b : β} (h : o.map f = some b) : ∃ a, o = some a ∧ f a = b := Option.map_eq_some_iff.mp h
theorem lx {α : Type u} {p : α → Bool} {l : List α} (h : l.all p = true) : ∀ x ∈ l, p x = true := List.all_eq_true.mp h
theorem te {α : Type u} {l : List α} (h : l.isEmpty = true) : l = [] := List.isEmpty_iff.mp h
theorem yF {α : Type u} {o : Option α} (h : o.isNone = true) : o = none := Option.isNone_iff_eq_none.mp h
theorem yG {a b : Bool} (h : (a || b) = true) : a = true ∨ b = true := Bool.or_eq_true_iff.mp h
theorem yH {α : Type u} {l : List α} {i : Nat} {a : α} (h : l[i]? = some a) : ∃ k : i < l.length, l[i] = a := List.getElem?_eq_some_iff.mp h
theorem yN {α : Type u} {β : Type v} {f : α → β} {l : List α} {b : β} (h : b ∈ l.map f) : ∃ a, a ∈ l ∧ f a = b := List.mem_map.mp h
theorem Kk {α : Type u} {β : Type v} {o : Option α} {f : α → β} {b : β} (h : Option.rec (motive := fun _ => Option β) none (fun a => some (f a)) o = some b) : ∃ a, o = some a ∧ f a = b := by
 cases o with
 | none => cases h
 | some a => exact ⟨a, rfl, aO h⟩
theorem C7 {α : Type u} {x y : α} {b : Bool} (h : b = true) : Bool.rec (motive := fun _ => α) x y b = y := h ▸ rfl
theorem F5 {α : Type u} {x y : α} {b : Bool} (h : b = false) : Bool.rec (motive := fun _ => α) x y b = x := h ▸ rfl
theorem C8 {α : Type u} {x y : α} {b : Bool} (h : ¬b = true) : Bool.rec (motive := fun _ => α) x y b = x := F5 (Bool.eq_false_iff.mpr h)
end aD
section
open PySem
set_option genCtorIdx false
set_option backward.match.sparseCases false
noncomputable section
namespace aD
noncomputable def getL {α : Type} (l : List α) (n : Nat) : Option α := List.rec (motive := fun J => Nat → Option α) (fun J => none) (fun a J ih n => Nat.rec (motive := fun J => Option α) (some a) (fun m J => ih m) n) l n
noncomputable def oL {α : Type} (l k : List α) : List α := List.rec (motive := fun J => List α) k (fun a J ih => a :: ih) l
noncomputable def jz (l k : List Nat) : Bool := List.rec (motive := fun J => List Nat → Bool) (fun k => List.rec (motive := fun J => Bool) true (fun J J J => false) k)
 (fun a J ih k => List.rec (motive := fun J => Bool) false (fun b t J => Bool.rec (motive := fun J => Bool) false (ih t) (Nat.beq a b)) k) l k
inductive Bx (α : Type) where
 | mk (a : α)
inductive Tr (α : Type) where
 | nil
 | node (v : Option α) (l r : Tr α)
noncomputable def Tr.ctorIdx {α : Type} (x : Tr α) : Nat := Tr.casesOn (motive := fun J => Nat) x 0 (fun J J J => 1)
noncomputable def Tr.get {α : Type} (t : Tr α) (n : Nat) : Option α := Tr.rec (motive := fun J => Nat → Option α) (fun J => none)
 (fun v J J il ir n => Nat.rec (motive := fun J => Option α) v (fun m J => Bool.rec (motive := fun J => Option α) (ir (Nat.div m 2)) (il (Nat.div m 2)) (Nat.beq (Nat.mod m 2) 0)) n) t n
noncomputable def Tr.one {α : Type} (f n : Nat) (x : α) : Tr α := Nat.rec (motive := fun J => Nat → Tr α) (fun J => .nil)
 (fun J ih n => Nat.rec (motive := fun J => Tr α) (.node (some x) .nil .nil) (fun m J => Bool.rec (motive := fun J => Tr α) (.node none .nil (ih (Nat.div m 2))) (.node none (ih (Nat.div m 2)) .nil) (Nat.beq (Nat.mod m 2) 0)) n) f n
noncomputable def Tr.put {α : Type} (t : Tr α) (n : Nat) (x : α) : Tr α := Tr.rec (motive := fun J => Nat → Tr α) (fun n => Tr.one (Nat.succ n) n x)
 (fun v l r il ir n => Nat.rec (motive := fun J => Tr α) (.node (some x) l r) (fun m J => Bool.rec (motive := fun J => Tr α) (.node v l (ir (Nat.div m 2))) (.node v (il (Nat.div m 2)) r) (Nat.beq (Nat.mod m 2) 0)) n) t n
noncomputable def Tr.Ko {α : Type} (l : List α) (t : Tr α) (k : Nat) : Tr α := List.rec (motive := fun J => Tr α → Nat → Tr α) (fun t J => t) (fun a J ih t k => ih (t.put k a) (Nat.succ k)) l t k
noncomputable def Tr.yO {α : Type} (l : List α) : Tr α := Tr.Ko l .nil 0
set_option genCtorIdx true in
inductive SI where
 | lit (i : Int)
 | va (k : Nat) (o : Int)
 deriving DecidableEq
set_option genCtorIdx true in
inductive Seg where
 | lit (l : List Nat)
 | rep (k n : Nat)
 | ef (k o n : Nat)
 | be (k : Nat) (o : Int) (n a m : Nat)
 deriving DecidableEq
abbrev BS := List Seg
set_option genCtorIdx true in
inductive Ty where
 | bytes | bytearray | int | list | dict | str | other
 deriving DecidableEq
set_option genCtorIdx true in
inductive Bi where
 | len | range | sorted | max
 deriving DecidableEq
set_option genCtorIdx true in
inductive V where
 | none
 | bool (b : Bool)
 | int (i : SI)
 | str (s : List Nat)
 | bytes (b : BS)
 | loc (i : Nat)
 | fn (a : Nat)
 | cls (a : Nat)
 | ty (t : Ty)
 | bi (b : Bi)
 | bb
 deriving DecidableEq
inductive VD where
 | int (lo hi : Int)
 | oct
 | lt (k : Nat)
 | gi (s : Nat)
 | any
noncomputable def VD.ctorIdx (x : VD) : Nat := VD.casesOn (motive := fun J => Nat) x (fun J J => 0) 1 (fun J => 2) (fun J => 3) 4
set_option genCtorIdx true in
inductive qW where
 | add | sub | mul | div | mod | pow
set_option genCtorIdx true in
inductive oJ where
 | eq | ne | lt | le | gt | ge | is_ | lT | in_ | jL
inductive E where
 | cst (v : V)
 | loc (x : Nat)
 | dj (x : Nat)
 | aH (x : Nat)
 | av (e : E) (f : Nat)
 | bin (o : qW) (a b : E)
 | neg (e : E)
 | not_ (e : E)
 | and_ (es : List E)
 | or_ (es : List E)
 | cmp (a : E) (ops : List oJ) (es : List E)
 | ite_ (c a b : E)
 | call (f : E) (as : List E)
 | meth (o : E) (m : Nat) (as : List E)
 | sub (o i : E)
 | iC (o : E) (lo hi : Option E)
 | lst (es : List E)
 | tup (es : List E)
 | emp
 | eK (elt : E) (Ov : List Nat) (it : E)
 | lam (fv : List Nat) (body : E)
noncomputable def E.ctorIdx (x : E) : Nat := E.casesOn (motive_1 := fun J => Nat) x (fun J => 0) (fun J => 1) (fun J => 2) (fun J => 3) (fun J J => 4) (fun J J J => 5) (fun J => 6) (fun J => 7) (fun J => 8) (fun J => 9) (fun J J J => 10) (fun J J J => 11) (fun J J => 12) (fun J J J => 13) (fun J J => 14) (fun J J J => 15) (fun J => 16) (fun J => 17) 18 (fun J J J => 19) (fun J J => 20)
inductive T where
 | loc (x : Nat)
 | dj (x : Nat)
 | av (e : E) (f : Nat)
 | sub (o i : E)
 | iC (o : E) (lo hi : Option E)
 | tup (xs : List Nat)
noncomputable def T.ctorIdx (x : T) : Nat := T.casesOn (motive := fun J => Nat) x (fun J => 0) (fun J => 1) (fun J J => 2) (fun J J => 3) (fun J J J => 4) (fun J => 5)
inductive S where
 | asg (t : T) (e : E)
 | ly (ts : List T) (es : List E)
 | aug (x : Nat) (o : qW) (e : E)
 | nq (e : E) (f : Nat) (o : qW) (v : E)
 | exp (e : E)
 | ret (e : Option E)
 | bE (c : E) (a b : List S)
 | for_ (xs : List Nat) (it : E) (b : List S)
 | try_ (b : List S) (hs : List (E × List S))
 | del (o i : E)
 | bad
 | iD (e : Option E)
 | C9
noncomputable def S.ctorIdx (x : S) : Nat := S.casesOn (motive_1 := fun J => Nat) x (fun J J => 0) (fun J J => 1) (fun J J J => 2) (fun J J J J => 3) (fun J => 4) (fun J => 5) (fun J J J => 6) (fun J J J => 7) (fun J J => 8) (fun J J => 9) 10 (fun J => 11) 12
inductive aw where
 | inst (c : Nat) (fs : List (Nat × V))
 | list (xs : List V)
 | tup (xs : List V)
 | aB (es : List (Int × V))
 | aX (es : List (List Nat × V))
 | a5
 | bW (b : BS)
 | cell (v : Option V)
 | iA (lo hi st : Int)
 | cX (n : Nat) (es : List (Int × V))
 | rl (n : Nat) (xs : List V)
 | gone
 | src
 | exc (c : Nat)
 | qZ (c : Nat)
 | AN (cs : List (Nat × Nat)) (body : E)
 | jl (m : Nat)
 | ay (es : List (Int × V))
noncomputable def aw.ctorIdx (x : aw) : Nat := aw.casesOn (motive := fun J => Nat) x (fun J J => 0) (fun J => 1) (fun J => 2) (fun J => 3) (fun J => 4) 5 (fun J => 6) (fun J => 7) (fun J J J => 8) (fun J J => 9) (fun J J => 10) 11 12 (fun J => 13) (fun J => 14) (fun J J => 15) (fun J => 16) (fun J => 17)
structure AS where
 heap : Tr aw
 n : Nat
 locs : List (Nat × V)
 cells : List (Nat × Nat)
 vars : List VD
 hd : Option Nat := none
noncomputable def AO (a b : Int) : Bool := Int.rec (motive := fun J => Bool) (fun a => Int.rec (motive := fun J => Bool) (fun b => Nat.beq a b) (fun J => false) b) (fun a => Int.rec (motive := fun J => Bool) (fun J => false) (fun b => Nat.beq a b) b) a
noncomputable def lA (a b : Bool) : Bool := Bool.rec (motive := fun J => Bool) false b a
noncomputable def AP (x y : Seg) : Bool := Seg.rec (motive := fun J => Bool) (fun l => Seg.rec (motive := fun J => Bool) (fun k => jz l k) (fun J J => false) (fun J J J => false) (fun J J J J J => false) y)
 (fun k n => Seg.rec (motive := fun J => Bool) (fun J => false) (fun j m => lA (Nat.beq k j) (Nat.beq n m)) (fun J J J => false) (fun J J J J J => false) y)
 (fun k o n => Seg.rec (motive := fun J => Bool) (fun J => false) (fun J J => false) (fun j p m => lA (Nat.beq k j) (lA (Nat.beq o p) (Nat.beq n m))) (fun J J J J J => false) y)
 (fun k o n a m => Seg.rec (motive := fun J => Bool) (fun J => false) (fun J J => false) (fun J J J => false) (fun j p q b r => lA (Nat.beq k j) (lA (AO o p) (lA (Nat.beq n q) (lA (Nat.beq a b) (Nat.beq m r))))) y) x
noncomputable def yP (x y : BS) : Bool := List.rec (motive := fun J => BS → Bool) (fun y => List.rec (motive := fun J => Bool) true (fun J J J => false) y) (fun a J ih y => List.rec (motive := fun J => Bool) false (fun b t J => lA (AP a b) (ih t)) y) x y
noncomputable def BI (x : Nat) (l : List Nat) : Bool := List.rec (motive := fun J => Bool) false (fun a J ih => Bool.rec (motive := fun J => Bool) ih true (Nat.beq a x)) l
noncomputable def yQ {α : Type} (l : List α) : Nat := List.rec (motive := fun J => Nat) 0 (fun J J n => Nat.succ n) l
theorem tf {α : Type} {l : List α} : yQ l = l.length := by
 induction l with
 | nil => rfl
 | cons a l ih => exact congrArg Nat.succ ih
namespace BS
noncomputable def a4 : Seg → Nat
 | .lit l => yQ l
 | .rep _ n => n
 | .ef _ _ n => n
 | .be _ _ _ _ m => m
noncomputable def len (l : BS) : Nat := List.rec (motive := fun J => Nat) 0 (fun x J ih => Nat.add (a4 x) ih) l
noncomputable def cons (x : Seg) (r : BS) : BS := Bool.rec (motive := fun J => BS) (match r with
 | [] => [x]
 | y :: r' => match x with
  | .lit a => (match y with
   | .lit b => .lit (oL a b) :: r'
   | _ => x :: y :: r')
  | .rep k n => (match y with
   | .rep k' n' => if k = k' then .rep k (n + n') :: r' else x :: y :: r'
   | _ => x :: y :: r')
  | _ => x :: y :: r') r (Nat.beq (a4 x) 0)
noncomputable def app (a b : BS) : BS := List.rec (motive := fun J => BS) b (fun x J ih => cons x ih) a
noncomputable def fM (d : Nat) : Seg → Seg
 | .lit l => .lit (l.drop d)
 | .rep k n => .rep k (n - d)
 | .ef k o n => .ef k (o + d) (n - d)
 | .be k o n a m => .be k o n (a + d) (m - d)
noncomputable def fN (d : Nat) : Seg → Seg
 | .lit l => .lit (l.take d)
 | .rep k n => .rep k (min d n)
 | .ef k o n => .ef k o (min d n)
 | .be k o n a m => .be k o n a (min d m)
noncomputable def drop (d : Nat) (l : BS) : BS := List.rec (motive := fun J => Nat → BS) (fun J => []) (fun x r ih d => if a4 x ≤ d then ih (d - a4 x) else fM d x :: r) l d
noncomputable def take (d : Nat) (l : BS) : BS := List.rec (motive := fun J => Nat → BS) (fun J => []) (fun x J ih d => if a4 x ≤ d then x :: ih (d - a4 x) else if d = 0 then [] else [fN d x]) l d
noncomputable def slice (a b : Nat) (x : BS) : BS := take (b - a) (drop a x)
noncomputable def wo : (x : BS) → Option { p : Nat × Nat // x = [.rep p.1 p.2] }
 | [.rep k m] => some ⟨(k, m), rfl⟩
 | _ => none
noncomputable def wq (n : Nat) (x ih : BS) : BS := match wo x with
 | some p => [.rep p.1.1 (p.1.2 * (n + 1))]
 | none => app x ih
noncomputable def mul (n : Nat) (x : BS) : BS := Nat.rec (motive := fun J => BS) [] (fun n ih => wq n x ih) n
noncomputable def atS (x : Seg) (i : Nat) : Option SI := match x with
 | .lit l => (l[i]?).map fun n => SI.lit (Int.ofNat n)
 | .rep k _ => some (.va k 0)
 | _ => Option.none
noncomputable def Dx (l : BS) (i : Nat) : Option SI := List.rec (motive := fun J => Nat → Option SI) (fun J => Option.none) (fun x J ih i => if a4 x ≤ i then ih (i - a4 x) else atS x i) l i
noncomputable def bnd (vs : List VD) : SI → Option (Int × Int)
 | .lit i => some (i, i + 1)
 | .va k o => match getL vs k with
  | some (.int lo hi) => some (lo + o, hi + o)
  | some (.gi s) => some (o, if o ≤ s then 2147483649 else 2147483649 + o)
  | some (.lt _) => some (o, 2147483648 + o)
  | _ => none
noncomputable def iE (vs : List VD) (k : Nat) (o : Int) (j : Nat) (p : Int) : Bool := match getL vs k with
 | some (.lt i) => Nat.beq i j && decide (o ≤ p)
 | _ => false
noncomputable def Dy (vs : List VD) (x y : SI) : Bool := (match bnd vs x, bnd vs y with
 | some (a, b), some (c, d) => decide (b ≤ c) || decide (d ≤ a)
 | _, _ => false) || (match x, y with
 | .va k o, .va j p => (Nat.beq k j && o != p) || iE vs k o j p || iE vs j p k o
 | _, _ => false)
noncomputable def eq? (vs : List VD) (x y : BS) : Option Bool :=
 if len x ≠ len y then some false
 else if yP x y then some true
 else Option.none
end BS
inductive bC (α : Type) where
 | one (a : α) (A : AS)
 | many (l : List (Except Nat α × AS))
noncomputable def bC.ctorIdx {α : Type} (x : bC α) : Nat := bC.casesOn (motive := fun J => Nat) x (fun J J => 0) (fun J => 1)
noncomputable def bC.list {α : Type} (o : bC α) : List (Except Nat α × AS) := bC.rec (motive := fun J => List (Except Nat α × AS)) (fun a A => [(.ok a, A)]) (fun l => l) o
abbrev Res (α : Type) := Option (bC α)
noncomputable def ok {α : Type} (a : α) (A : AS) : Res α := some (.one a A)
noncomputable def wt {β : Type} (r t : Res β) : Res β := Option.rec (motive := fun J => Res β) none (fun u => Option.rec (motive := fun J => Res β) none (fun v => some (.many (oL u.list v.list))) t) r
noncomputable def bindR {α β : Type} (f : α → AS → Res β) (l : List (Except Nat α × AS)) : Res β := List.rec (motive := fun J => Res β) (some (.many []))
 (fun x r ih => Prod.rec (motive := fun J => Res β) (fun e A => Except.rec (motive := fun J => Res β) (fun i => wt (some (.many [(.error i, A)])) ih)
  (fun a => List.rec (motive := fun J => Res β) (f a A) (fun J J J => wt (f a A) ih) r) e) x) l
noncomputable def Res.bind {α β : Type} (r : Res α) (f : α → AS → Res β) : Res β := Option.rec (motive := fun J => Res β) none (fun o => bC.rec (motive := fun J => Res β) (fun a A => f a A) (fun l => bindR f l) o) r
noncomputable def bA {α : Type} (o : Option α) (A : AS) : Res α := Option.rec (motive := fun J => Res α) none (fun a => ok a A) o
inductive Fl where
 | next | brk | cont
 | ret (v : V)
noncomputable def Fl.ctorIdx (x : Fl) : Nat := Fl.casesOn (motive := fun J => Nat) x 0 1 2 (fun J => 3)
structure Fn where
 params : List Nat
 dflts : List V
 cells : List Nat
 body : List S
structure gU where
 meths : List (Nat × Bool × Nat)
 du : List Nat
structure Ctx where
 glob : List (Nat × V)
 fns : List (List (Nat × Fn))
 dv : List (Nat × gU)
 take : Option Nat
 cf : List (Nat × List Nat) := []
structure bM where
 e : E → AS → Res V
 c : E → AS → Res Bool
 s : S → AS → Res Fl
 fuel : Nat
namespace N
abbrev get := 0
abbrev pop := 1
abbrev bO := 2
abbrev append := 3
abbrev extend := 4
abbrev to_bytes := 5
abbrev from_bytes := 6
abbrev values := 7
abbrev init := 8
end N
noncomputable def AS.alloc (A : AS) (o : aw) : Nat × AS := AS.rec (motive := fun J => Nat × AS) (fun h n l c v d => (n, ⟨h.put n o, Nat.succ n, l, c, v, d⟩)) A
noncomputable def AS.put (A : AS) (i : Nat) (o : aw) : AS := AS.rec (motive := fun J => AS) (fun h n l c v d => ⟨h.put i o, n, l, c, v, d⟩) A
noncomputable def AS.env (A : AS) (l : List (Nat × V)) (c : List (Nat × Nat)) : AS := AS.rec (motive := fun J => AS) (fun h n J J v d => ⟨h, n, l, c, v, d⟩) A
noncomputable def AS.fresh (A : AS) (d : VD) : Nat × AS := AS.rec (motive := fun J => Nat × AS) (fun h n l c v e => (v.length, ⟨h, n, l, c, oL v [d], e⟩)) A
noncomputable def af {α : Type} (x : Nat) (l : List (Nat × α)) : Option α := List.rec (motive := fun J => Option α) none (fun p J ih => Bool.rec (motive := fun J => Option α) ih (some p.2) (Nat.beq p.1 x)) l
noncomputable def cu (a : Nat) (l : List (List (Nat × Fn))) : Option Fn := Option.rec (motive := fun J => Option Fn) none (fun l => af a l) (getL l (Nat.mod a 16))
noncomputable def fi {α : Type} (x : Nat) (v : α) (l : List (Nat × α)) : List (Nat × α) := List.rec (motive := fun J => List (Nat × α)) [(x, v)] (fun p r ih => Bool.rec (motive := fun J => List (Nat × α)) (p :: ih) ((x, v) :: r) (Nat.beq p.1 x)) l
noncomputable def dR {κ α : Type} (q : κ → κ → Bool) (x : κ) (l : List (κ × α)) : Option α := List.rec (motive := fun J => Option α) none (fun p J ih => Bool.rec (motive := fun J => Option α) ih (some p.2) (q p.1 x)) l
noncomputable def setG {κ α : Type} (q : κ → κ → Bool) (x : κ) (v : α) (l : List (κ × α)) : List (κ × α) := List.rec (motive := fun J => List (κ × α)) [(x, v)] (fun p r ih => Bool.rec (motive := fun J => List (κ × α)) (p :: ih) ((x, v) :: r) (q p.1 x)) l
noncomputable def oM {κ α : Type} (q : κ → κ → Bool) (x : κ) (l : List (κ × α)) : List (κ × α) := List.rec (motive := fun J => List (κ × α)) [] (fun p r ih => Bool.rec (motive := fun J => List (κ × α)) (p :: ih) r (q p.1 x)) l
noncomputable def eqZ (a b : Int) : Bool := decide (a = b)
noncomputable def bp {α : Type} (x : Int) (l : List (Int × α)) : Option α := dR eqZ x l
noncomputable def nr {α : Type} (x : Int) (v : α) (l : List (Int × α)) : List (Int × α) := setG eqZ x v l
noncomputable def yR {α : Type} (x : Int) (v : α) (l : List (Int × α)) : List (Int × α) := List.rec (motive := fun J => List (Int × α)) [(x, v)] (fun p r ih => Bool.rec (motive := fun J => List (Int × α)) (p :: ih) ((x, v) :: p :: r) (decide (x < p.1))) l
noncomputable def yS {α : Type} (x : Int) (v : α) (l : List (Int × α)) : List (Int × α) := if (bp x l).isSome then nr x v l else yR x v l
noncomputable def iF {α : Type} (x : Int) (l : List (Int × α)) : List (Int × α) := oM eqZ x l
noncomputable def eC {α : Type} (x : List Nat) (l : List (List Nat × α)) : Option α := dR jz x l
noncomputable def rg {α : Type} (x : List Nat) (v : α) (l : List (List Nat × α)) : List (List Nat × α) := setG jz x v l
noncomputable def F6 {α : Type} (x : List Nat) (l : List (List Nat × α)) : List (List Nat × α) := oM jz x l
noncomputable def bnd := @BS.bnd
noncomputable def ltI (vs : List VD) (a b : SI) : Option Bool := match a, b with
 | .va k o, .va j p => if Nat.beq k j then some (decide (o < p)) else if BS.iE vs k o j p then some true else if BS.iE vs j p k o then some false else none
 | a, b => match bnd vs a, bnd vs b with
  | some (al, ah), some (bl, bh) => if ah ≤ bl then some true else if bh ≤ al + 1 then some false else none
  | _, _ => none
noncomputable def F7 (vs : List VD) (a b : SI) : Option Bool := if a = b then some true else if BS.Dy vs a b then some false else none
noncomputable def Dz : (v : V) → Option { x : SI // v = .int x }
 | .int x => some ⟨x, rfl⟩
 | _ => none
noncomputable def DA : (v : V) → Option { x : List Nat // v = .str x }
 | .str x => some ⟨x, rfl⟩
 | _ => none
noncomputable def Dc : (v : V) → Option { n : Int // v = .int (.lit n) }
 | .int (.lit n) => some ⟨n, rfl⟩
 | _ => none
noncomputable def AQ : (v : V) → Option { b : Bool // v = .bool b }
 | .bool b => some ⟨b, rfl⟩
 | _ => none
noncomputable def wu : (v : V) → Option { i : Nat // v = .loc i }
 | .loc i => some ⟨i, rfl⟩
 | _ => none
noncomputable def yT : (v : V) → Option { b : BS // v = .bytes b }
 | .bytes b => some ⟨b, rfl⟩
 | _ => none
noncomputable def BJ (vs : List VD) (a b : V) : Option Bool := match a with
 | .int x => (Dz b).bind fun y => F7 vs x y.1
 | .bytes x => (yT b).bind fun y => BS.eq? vs x y.1
 | .str x => (DA b).bind fun y => some (jz x y.1)
 | .bool x => (AQ b).bind fun y => some (x == y.1)
 | _ => none
noncomputable def DB (vs : List VD) (l : List V) : List V → Option Bool := List.rec (motive := fun J => List V → Option Bool) (fun k => List.rec (motive := fun J => Option Bool) (some true) (fun J J J => none) k)
 (fun a J ih k => List.rec (motive := fun J => Option Bool) none (fun b t J => (BJ vs a b).bind fun q => Bool.rec (motive := fun J => Option Bool) none (ih t) q) k) l
noncomputable def dD : (o : Option aw) → Option { xs : List V // o = some (.list xs) }
 | some (.list xs) => some ⟨xs, rfl⟩
 | _ => none
noncomputable def F8 : (o : Option aw) → Option (PLift (o = some .a5))
 | some .a5 => some ⟨rfl⟩
 | _ => none
noncomputable def AR : (o : Option aw) → Option { v : V // o = some (.cell (some v)) }
 | some (.cell (some v)) => some ⟨v, rfl⟩
 | _ => none
noncomputable def BK : (o : Option aw) → Option { p : Nat × List (Nat × V) // o = some (.inst p.1 p.2) }
 | some (.inst C fs) => some ⟨(C, fs), rfl⟩
 | _ => none
noncomputable def DC : (o : Option aw) → Option { C : Nat // o = some (.exc C) }
 | some (.exc C) => some ⟨C, rfl⟩
 | _ => none
noncomputable def AU : (o : Option V) → Option { C : Nat // o = some (.cls C) }
 | some (.cls C) => some ⟨C, rfl⟩
 | _ => none
noncomputable def DD : (e : E) → Option { x : Nat // e = .aH x }
 | .aH x => some ⟨x, rfl⟩
 | _ => none
noncomputable def wx : (o : Option aw) → Option { b : BS // o = some (.bW b) }
 | some (.bW b) => some ⟨b, rfl⟩
 | _ => none
noncomputable def DE : (o : Option aw) → Option { es : List (Int × V) // o = some (.aB es) ∨ o = some (.ay es) }
 | some (.aB es) => some ⟨es, .inl rfl⟩
 | some (.ay es) => some ⟨es, .inr rfl⟩
 | _ => none
noncomputable def Mk : (o : Option aw) → Option { es : List (List Nat × V) // o = some (.aX es) ∨ o = some .a5 ∧ es = [] }
 | some (.aX es) => some ⟨es, .inl rfl⟩
 | some .a5 => some ⟨[], .inr ⟨rfl, rfl⟩⟩
 | _ => none
noncomputable def Ml : (o : Option aw) → Option { es : List (Int × V) // o = some (.ay es) ∨ o = some .a5 ∧ es = [] }
 | some (.ay es) => some ⟨es, .inl rfl⟩
 | some .a5 => some ⟨[], .inr ⟨rfl, rfl⟩⟩
 | _ => none
noncomputable def F9 (A : AS) (i j : Nat) : Option Bool := match dD (A.heap.get i) with
 | some a => (dD (A.heap.get j)).bind fun b => DB A.vars a.1 b.1
 | none => (DE (A.heap.get i)).bind fun es => (F8 (A.heap.get j)).bind fun J => some es.1.isEmpty
noncomputable def Ga (A : AS) (a b : V) : Option Bool := match a with
 | .loc i => (wu b).bind fun j => F9 A i j.1
 | .int x => BJ A.vars (.int x) b
 | .bytes x => BJ A.vars (.bytes x) b
 | .str x => BJ A.vars (.str x) b
 | .bool x => BJ A.vars (.bool x) b
 | _ => none
noncomputable def isIn (a : V) : List V → Option Bool
 | [] => some false
 | b :: r => match a with
  | .bool x => (match b with
   | .bool y => (isIn a r).map fun t => (x == y) || t
   | _ => none)
  | _ => none
noncomputable def Mm (A : AS) (a : V) (o : Option aw) : Option Bool := match a with
 | .str k => (Mk o).bind fun es => some (eC k es.1).isSome
 | .int x => (match x with
  | .lit k => (Ml o).bind fun es => some (bp k es.1).isSome
  | .va _ _ => none)
 | .bool b => (dD o).bind fun xs => isIn (.bool b) xs.1
 | _ => none
noncomputable def inD (A : AS) (a b : V) : Option Bool := match b with
 | .loc j => Mm A a (A.heap.get j)
 | _ => none
noncomputable def lU (a b : V) : Option (SI × SI) := match a with
 | .int x => (match b with
  | .int y => some (x, y)
  | _ => none)
 | _ => none
noncomputable def Gb (vs : List VD) (p : Option (SI × SI)) : Option Bool := match p with
 | some p => ltI vs p.1 p.2
 | none => none
noncomputable def Gd (vs : List VD) (p : Option (SI × SI)) : Option Bool := match p with
 | some p => ltI vs p.2 p.1
 | none => none
noncomputable def isNone (a b : V) : Option Bool := match b with
 | .none => (match a with
  | .bi _ => none
  | .bb => none
  | .none => some true
  | _ => some false)
 | _ => none
noncomputable def ny (A : AS) (o : oJ) (a b : V) : Option Bool := match o with
 | .eq => Ga A a b
 | .ne => (Ga A a b).map not
 | .lt => Gb A.vars (lU a b)
 | .gt => Gd A.vars (lU a b)
 | .le => (Gd A.vars (lU a b)).map not
 | .ge => (Gb A.vars (lU a b)).map not
 | .is_ => isNone a b
 | .lT => (isNone a b).map not
 | .in_ => inD A a b
 | .jL => (inD A a b).map not
noncomputable def eg (A : AS) (o : oJ) (a b : V) : Res Bool := match ny A o a b with
 | some t => ok t A
 | none => (match o with
  | .eq | .ne | .lt => (match a, b with
   | .int _, .int _ => some (.many [(.ok true, A), (.ok false, A)])
   | _, _ => none)
  | _ => none)
noncomputable def jM : V → Option Bool
 | .bool b => some b
 | .none => some false
 | _ => none
noncomputable def cg : Nat → Nat → List Nat
 | 0, _ => []
 | k + 1, n => cg k (n / 256) ++ [n % 256]
noncomputable def rj : List Nat → Nat → Nat
 | [], acc => acc
 | b :: r, acc => rj r (acc * 256 + b)
noncomputable def th (a b : V) : Option (Int × Int) := (Dc a).bind fun x => (Dc b).bind fun y => some (x.1, y.1)
noncomputable def BL (x : SI) (b : V) (A : AS) : Res V := match x with
 | .lit x => (match b with
  | .int (.lit y) => ok (.int (.lit (x + y))) A
  | _ => none)
 | .va k o => (match b with
  | .int (.lit y) => ok (.int (.va k (o + y))) A
  | .int (.va _ _) => let (k', A') := A.fresh .any; ok (.int (.va k' 0)) A'
  | _ => none)
noncomputable def DF (i j : Nat) (A : AS) : Res V := (dD (A.heap.get i)).bind fun x => (dD (A.heap.get j)).bind fun y =>
 if x.1.length + y.1.length ≤ 4096 then ok (.loc (A.alloc (.list (x.1 ++ y.1))).1) (A.alloc (.list (x.1 ++ y.1))).2 else none
noncomputable def DG (a b : V) (A : AS) : Res V := match a with
 | .int x => BL x b A
 | .str x => (DA b).bind fun y => if x.length + y.1.length ≤ 4096 then ok (.str (x ++ y.1)) A else none
 | .bytes x => (yT b).bind fun y => if BS.len x + BS.len y.1 ≤ 65536 then ok (.bytes (BS.app x y.1)) A else none
 | .loc i => (wu b).bind fun j => DF i j.1 A
 | _ => none
noncomputable def Ge (x : SI) (y : Int) (A : AS) : Res V := match x with
 | .lit i => if y.natAbs < 18446744073709551616 ∨ Builtin.Int.intBits i + Builtin.Int.intBits y ≤ 134217728 then ok (.int (.lit (i * y))) A else none
 | .va k o => if y.natAbs < 4294967296 ∧ (bnd A.vars (.va k o)).isSome then ok (.int (.va (A.fresh .any).1 0)) (A.fresh .any).2 else none
noncomputable def DH (a b : V) (A : AS) : Res V := match a with
 | .bytes x => (Dc b).bind fun n => if 0 ≤ n.1 ∧ n.1 ≤ 4096 ∧ BS.len x ≤ 16 ∧ BS.len x ≠ 0 then ok (.bytes (BS.mul n.1.toNat x)) A else none
 | .int x => (Dc b).bind fun y => Ge x y.1 A
 | _ => none
noncomputable def BM (y : Int) (A : AS) : Res V := if 0 < y then ok (.int (.va (A.fresh (.int 0 y)).1 0)) (A.fresh (.int 0 y)).2 else none
noncomputable def DI (q : Option (Int × Int)) (k : Nat) (o y : Int) (A : AS) : Res V := match q with
 | some p => if 0 ≤ p.1 ∧ p.2 ≤ y then ok (.int (.va k o)) A else BM y A
 | none => BM y A
noncomputable def Gf (x : SI) (y : Int) (A : AS) : Res V := match x with
 | .va k o => DI (bnd A.vars (.va k o)) k o y A
 | .lit x => if y ≠ 0 then ok (.int (.lit (x.fmod y))) A else none
noncomputable def DJ (a b : V) (A : AS) : Res V := (Dz a).bind fun x => (Dc b).bind fun y => Gf x.1 y.1 A
noncomputable def DK (a b : V) (A : AS) : Res V := (th a b).bind fun p => ok (.int (.lit (p.1 - p.2))) A
noncomputable def Gg (a b : V) (A : AS) : Res V := (th a b).bind fun p => if ¬(p.2 = 0 ∨ 1073741824 ≤ p.2.natAbs) then ok (.int (.lit (p.1.fdiv p.2))) A else none
noncomputable def Gh (a b : V) (A : AS) : Res V := (th a b).bind fun p => if 0 ≤ p.2 ∧ p.2 ≤ 64 ∧ p.1.natAbs < 65536 then ok (.int (.lit (p.1 ^ p.2.toNat))) A else none
noncomputable def eh (o : qW) (a b : V) (A : AS) : Res V := match o with
 | .add => DG a b A
 | .sub => DK a b A
 | .mul => DH a b A
 | .div => Gg a b A
 | .mod => DJ a b A
 | .pow => Gh a b A
noncomputable def wy (vs : List V) (A : AS) : Res V := if vs.length ≤ 4096 then ok (V.loc (A.alloc (.list vs)).1) (A.alloc (.list vs)).2 else none
noncomputable def uj (vs : List V) (A : AS) : Res V := if vs.length ≤ 4096 then ok (V.loc (A.alloc (.tup vs)).1) (A.alloc (.tup vs)).2 else none
noncomputable def tj (o : qW) (a b : V) (A : AS) : Res V := match o with
 | .add => (match a with
  | .int x => BL x b A
  | .bytes x => (yT b).bind fun y => if BS.len x + BS.len y.1 ≤ 65536 then ok (.bytes (BS.app x y.1)) A else none
  | _ => none)
 | _ => none
noncomputable def BN (n : Nat) (v : V) (d : Nat) : Option Nat := match v with
 | .none => some d
 | .int x => (match x with
  | .lit i => if 0 ≤ i then some (min i.toNat n) else none
  | .va _ _ => none)
 | _ => none
noncomputable def cut (n : Nat) (lo hi : V) : Option (Nat × Nat) := (BN n lo 0).bind fun a => (BN n hi n).bind fun b => some (a, max a b)
noncomputable def rk (o lo hi : V) (A : AS) : Res V := match o with
 | .bytes b => if BS.len b ≤ 65536 then (cut (BS.len b) lo hi).bind fun p => ok (.bytes (BS.slice p.1 p.2 b)) A else none
 | .loc i => match dD (A.heap.get i) with
  | some xs => if xs.1.length ≤ 4096 then (cut xs.1.length lo hi).bind fun p => ok (.loc (A.alloc (.list ((xs.1.drop p.1).take (p.2 - p.1)))).1) (A.alloc (.list ((xs.1.drop p.1).take (p.2 - p.1)))).2 else none
  | none => (wx (A.heap.get i)).bind fun b => if BS.len b.1 ≤ 65536 then (cut (BS.len b.1) lo hi).bind fun p => ok (.loc (A.alloc (.bW (BS.slice p.1 p.2 b.1))).1) (A.alloc (.bW (BS.slice p.1 p.2 b.1))).2 else none
 | _ => none
noncomputable def lB (as : List V) : Option V := match as with
 | [v] => some v
 | _ => none
noncomputable def lC (as : List V) : Option (V × V) := match as with
 | [v, w] => some (v, w)
 | _ => none
noncomputable def jv (v : V) : Option Int := match v with
 | .int x => (match x with
  | .lit i => some i
  | .va _ _ => none)
 | _ => none
noncomputable def eX (j : Nat) (k : Int) (A : AS) : Res V := match A.heap.get j with
 | some (.list xs) => if 0 ≤ k ∧ k ≤ 4096 then bA (getL xs k.toNat) A else none
 | some (.aB es) => bA (bp k es) A
 | some (.ay es) => bA (bp k es) A
 | some (.cX _ es) => bA (bp k es) A
 | _ => none
noncomputable def AV (b : BS) (k : Int) (A : AS) : Res V := if 0 ≤ k ∧ BS.len b ≤ 65536 then (BS.Dx b k.toNat).bind fun x => (bnd A.vars x).bind fun p => if 0 ≤ p.1 ∧ p.2 ≤ 256 then ok (.int x) A else none else none
noncomputable def wz (j : Nat) (s : List Nat) (A : AS) : Res V := match A.heap.get j with
 | some (.aX es) => bA (eC s es) A
 | _ => none
noncomputable def gW (o i : V) (A : AS) : Res V := match o with
 | .bytes b => (jv i).bind fun k => AV b k A
 | .loc j => (match i with
  | .int x => (match x with
   | .lit k => eX j k A
   | .va _ _ => none)
  | .str s => wz j s A
  | _ => none)
 | _ => none
noncomputable def nz (j : Nat) (k : Int) (v : V) (A : AS) : Res Unit := match A.heap.get j with
 | none => none
 | some ob => match ob with
  | .aB es => if es.length ≤ 4096 then ok () (A.put j (.aB (nr k v es))) else none
  | .ay es => if es.length ≤ 4096 then ok () (A.put j (.ay (yS k v es))) else none
  | .a5 => ok () (A.put j (.aB [(k, v)]))
  | .list xs => if 0 ≤ k ∧ k.toNat < xs.length ∧ xs.length ≤ 4096 then ok () (A.put j (.list (xs.set k.toNat v))) else none
  | _ => none
noncomputable def rm (j : Nat) (s : List Nat) (v : V) (A : AS) : Res Unit := match A.heap.get j with
 | none => none
 | some ob => match ob with
  | .aX es => if es.length ≤ 4096 then ok () (A.put j (.aX (rg s v es))) else none
  | .a5 => ok () (A.put j (.aX [(s, v)]))
  | _ => none
noncomputable def eD (o i v : V) (A : AS) : Res Unit := match o with
 | .loc j => (match i with
  | .int x => (match x with
   | .lit k => nz j k v A
   | .va _ _ => none)
  | .str s => rm j s v A
  | _ => none)
 | _ => none
noncomputable def wA (j : Nat) (k : Int) (A : AS) : Res Unit := match A.heap.get j with
 | none => none
 | some ob => match ob with
  | .aB es => if (bp k es).isSome ∧ es.length ≤ 4096 then ok () (A.put j (.aB (iF k es))) else none
  | .ay es => if (bp k es).isSome ∧ es.length ≤ 4096 then ok () (A.put j (.ay (iF k es))) else none
  | _ => none
noncomputable def wB (j : Nat) (s : List Nat) (A : AS) : Res Unit := match A.heap.get j with
 | none => none
 | some ob => match ob with
  | .aX es => if (eC s es).isSome ∧ es.length ≤ 4096 then ok () (A.put j (.aX (F6 s es))) else none
  | _ => none
noncomputable def jN (o i : V) (A : AS) : Res Unit := match o with
 | .loc j => (match i with
  | .int x => (match x with
   | .lit k => wA j k A
   | .va _ _ => none)
  | .str s => wB j s A
  | _ => none)
 | _ => none
noncomputable def gx (o lo hi v : V) (A : AS) : Res Unit := (wu o).bind fun j => (yT v).bind fun x => (wx (A.heap.get j.1)).bind fun b =>
 if BS.len b.1 ≤ 65536 ∧ BS.len x.1 ≤ 65536 then (cut (BS.len b.1) lo hi).bind fun p => ok () (A.put j.1 (.bW (BS.app (BS.take p.1 b.1) (BS.app x.1 (BS.drop p.2 b.1))))) else none
noncomputable def tl (o : V) (f : Nat) (A : AS) : Res V := (wu o).bind fun i => (BK (A.heap.get i.1)).bind fun p => bA (af f p.1.2) A
noncomputable def gX (Γ : Ctx) (o : V) (f : Nat) (v : V) (A : AS) : Res Unit := match o with
 | .loc i => match A.heap.get i with
  | some (.qZ c) => match af c Γ.dv with
   | some k => (match af c Γ.cf with
    | some _ => if k.du.contains f then ok () (A.put i (.exc c)) else none
    | none => none)
   | none => none
  | some (.inst c fs) => match af c Γ.dv with
   | some k => Bool.rec (motive := fun J => Res Unit) none (ok () (A.put i (.inst c (fi f v fs)))) (lA (BI f k.du) (Nat.ble (yQ fs) 900))
   | none => none
  | _ => none
 | _ => none
inductive It where
 | iA (x : Int) (left : Nat) (st : Int)
 | lst (i k : Nat)
 | tup (i k : Nat)
 | keys (i n k : Nat)
noncomputable def It.ctorIdx (x : It) : Nat := It.casesOn (motive := fun J => Nat) x (fun J J J => 0) (fun J J => 1) (fun J J => 2) (fun J J J => 3)
inductive Itm where
 | fin
 | one (v : V) (it : It)
noncomputable def Itm.ctorIdx (x : Itm) : Nat := Itm.casesOn (motive := fun J => Nat) x 0 (fun J J => 1)
noncomputable def freeze (i : Nat) (es : List (Int × V)) (A : AS) : It × AS := (.keys i A.vars.length 0, (A.fresh .oct).2.put i (.cX A.vars.length es))
noncomputable def cY (v : V) (A : AS) : Option (It × AS) := match v with
 | .loc i => match A.heap.get i with
  | some (.iA lo hi st) => if Builtin.Range.small lo hi st && decide (0 ≤ Builtin.Range.rangeSize lo hi st) then some (.iA lo (Builtin.Range.rangeSize lo hi st).toNat st, A) else none
  | some (.list _) => some (.lst i 0, A)
  | some (.rl _ _) => some (.lst i 0, A)
  | some (.tup _) => some (.tup i 0, A)
  | some (.aB es) => some (freeze i es A)
  | some .a5 => some (freeze i [] A)
  | _ => none
 | _ => none
noncomputable def cK (it : It) (A : AS) : Option (Itm × AS) := match it with
 | .iA x left st => match left with
  | 0 => some (.fin, A)
  | n + 1 => some (.one (.int (.lit x)) (.iA (x + st) n st), A)
 | .lst i k => match A.heap.get i with
  | some (.list xs) => match getL xs k with
   | some v => some (.one v (.lst i (k + 1)), A)
   | none => some (.fin, A)
  | some (.rl _ xs) => match getL xs k with
   | some v => some (.one v (.lst i (k + 1)), A)
   | none => some (.fin, A)
  | _ => none
 | .tup i k => match A.heap.get i with
  | some (.tup xs) => match getL xs k with
   | some v => some (.one v (.tup i (k + 1)), A)
   | none => some (.fin, A)
  | _ => none
 | .keys i n k => match A.heap.get i with
  | some (.cX m es) => if Nat.beq n m then (match getL es k with
   | some e => some (.one (.int (.lit e.1)) (.keys i n (k + 1)), A)
   | none => some (.fin, A.put i (.aB es))) else none
  | _ => none
noncomputable def insI (x : Int) : List Int → List Int
 | [] => [x]
 | y :: r => if x ≤ y then x :: y :: r else y :: insI x r
noncomputable def sortI : List Int → List Int
 | [] => []
 | x :: r => insI x (sortI r)
noncomputable def cZ (vs : List VD) : List V → Option BS
 | [] => some []
 | .int (.lit n) :: r => if 0 ≤ n ∧ n < 256 then (cZ vs r).map (BS.cons (.lit [n.toNat])) else none
 | .int (.va k o) :: r => if o = 0 then (match getL vs k with
  | some (.int lo hi) => if 0 ≤ lo ∧ hi ≤ 256 then (cZ vs r).map (BS.cons (.rep k 1)) else none
  | _ => none) else none
 | _ => none
noncomputable def wC (n : Int) (A : AS) : Res V := if 0 ≤ n ∧ n ≤ 4096 then ok (.bytes (if n = 0 then [] else [.lit (List.replicate n.toNat 0)])) A else none
noncomputable def rn (i : Nat) (A : AS) : Res V := match A.heap.get i with
 | some (.bW b) => if BS.len b ≤ 65536 then ok (.bytes b) A else none
 | some (.list xs) => if xs.length ≤ 4096 ∧ A.hd.isNone then bA ((cZ A.vars xs).map .bytes) A else none
 | _ => none
noncomputable def BO (v : V) (A : AS) : Res V := match v with
 | .int x => (match x with
  | .lit n => wC n A
  | .va _ _ => none)
 | .bytes b => ok (.bytes b) A
 | .loc i => rn i A
 | _ => none
noncomputable def tv (as : List V) (A : AS) : Res V := (lB as).bind fun v => BO v A
noncomputable def rp (as : List V) (A : AS) : Res V := match as with
 | [] => ok (V.loc (A.alloc (.bW [])).1) (A.alloc (.bW [])).2
 | _ => none
noncomputable def DL (as : List V) (A : AS) : Res V := (lB as).bind fun v => (AQ v).bind fun b => ok (.int (.lit (if b.1 then 1 else 0))) A
noncomputable def DM (as : List V) (A : AS) : Res V := (lB as).bind fun v => (jv v).bind fun n => if 0 ≤ n ∧ n < 10 then ok (.str [48 + n.toNat]) A else none
noncomputable def wD (t : Ty) (as : List V) (A : AS) : Res V := match t with
 | .bytes => tv as A
 | .bytearray => rp as A
 | .int => DL as A
 | .str => DM as A
 | _ => none
noncomputable def yU (as : List V) (A : AS) : Res V := match as with
 | [.bytes x] => if BS.len x ≤ 65536 then ok (.int (.lit (BS.len x))) A else none
 | [.loc i] => match A.heap.get i with
  | some (.list xs) => if xs.length ≤ 65536 then ok (.int (.lit xs.length)) A else none
  | some (.bW x) => if BS.len x ≤ 65536 then ok (.int (.lit (BS.len x))) A else none
  | _ => none
 | _ => none
noncomputable def wF (as : List V) : Option (V × V × V) := match as with
 | [v, w, x] => some (v, w, x)
 | _ => none
noncomputable def BP (a b st : Int) (A : AS) : Res V := ok (V.loc (A.alloc (.iA a b st)).1) (A.alloc (.iA a b st)).2
noncomputable def rq (as : List V) (A : AS) : Res V := match lB as with
 | some v => (jv v).bind fun b => BP 0 b 1 A
 | none => match lC as with
  | some p => (jv p.1).bind fun a => (jv p.2).bind fun b => BP a b 1 A
  | none => (wF as).bind fun p => (jv p.1).bind fun a => (jv p.2.1).bind fun b => (jv p.2.2).bind fun c => if c = 0 ∨ 1073741824 ≤ c.natAbs then none else BP a b c A
noncomputable def AW (es : List (Int × V)) (A : AS) : Res V := if es.length < 64 ∧ A.hd.isNone = true then ok (V.loc (A.alloc (.list ((sortI (es.map (·.1))).map fun i => .int (.lit i)))).1) (A.alloc (.list ((sortI (es.map (·.1))).map fun i => .int (.lit i)))).2 else none
noncomputable def wG (as : List V) (A : AS) : Res V := (lB as).bind fun v => (wu v).bind fun i => (DE (A.heap.get i.1)).bind fun es => AW es.1 A
noncomputable def DN (as : List V) (A : AS) : Res V := if A.hd.isNone then (lC as).bind fun p => (jv p.1).bind fun a => match jv p.2 with
 | some b => ok (.int (.lit (if a < b then b else a))) A
 | none => (match p.2 with
  | .int x => (bnd A.vars x).bind fun q => if a ≤ q.1 then ok (.int x) A else none
  | _ => none) else none
noncomputable def BQ (b : Bi) (as : List V) (A : AS) : Res V := match b with
 | .len => yU as A
 | .range => rq as A
 | .sorted => wG as A
 | .max => DN as A
inductive yV where
 | fn (f : Nat) (first : List V)
 | dict (i : Nat)
 | list (i : Nat)
 | int (x : SI)
 | jO
noncomputable def yV.ctorIdx (x : yV) : Nat := yV.casesOn (motive := fun J => Nat) x (fun J J => 0) (fun J => 1) (fun J => 2) (fun J => 3) 4
noncomputable def wH (i : Nat) (v : V) (A : AS) : Res V := match v with
 | .int (.lit k) => (match A.heap.get i with
  | some (.aB es) => ok ((bp k es).getD .none) A
  | some (.ay es) => ok ((bp k es).getD .none) A
  | _ => none)
 | _ => none
noncomputable def tw (i : Nat) (v d : V) (A : AS) : Res V := match v with
 | .int (.lit k) => (match A.heap.get i with
  | some (.aB es) => ok ((bp k es).getD d) A
  | some .a5 => ok d A
  | _ => none)
 | .str k => (match A.heap.get i with
  | some (.aX es) => ok ((eC k es).getD d) A
  | some .a5 => ok d A
  | _ => none)
 | _ => none
noncomputable def BU (i : Nat) (as : List V) (A : AS) : Res V := match lB as with
 | some v => wH i v A
 | none => (match lC as with
  | some p => tw i p.1 p.2 A
  | none => none)
noncomputable def AX (i : Nat) (v d : V) (A : AS) : Res V := match v with
 | .int (.lit k) => (match A.heap.get i with
  | some (.aB es) => if es.length ≤ 4096 then ok ((bp k es).getD d) (A.put i (.aB (iF k es))) else none
  | some .a5 => ok d A
  | _ => none)
 | _ => none
noncomputable def BV (i : Nat) (as : List V) (A : AS) : Res V := match lC as with
 | some p => AX i p.1 p.2 A
 | none => none
noncomputable def wI (i : Nat) (v d : V) (A : AS) : Res V := match v with
 | .str k => (match A.heap.get i with
  | some (.aX es) => if es.length ≤ 4096 then (match eC k es with
   | some v => ok v A
   | none => ok d (A.put i (.aX (rg k d es)))) else none
  | some .a5 => ok d (A.put i (.aX [(k, d)]))
  | _ => none)
 | _ => none
noncomputable def wJ (i : Nat) (as : List V) (A : AS) : Res V := match lC as with
 | some p => wI i p.1 p.2 A
 | none => none
noncomputable def gY (i m : Nat) (as : List V) (A : AS) : Res V := if m = N.get then BU i as A else if m = N.pop then BV i as A else if m = N.bO then wJ i as A else none
noncomputable def jP (i m : Nat) (as : List V) (A : AS) : Res V := match lB as with
 | some v => (match A.heap.get i with
  | some (.list xs) => if m = N.append ∧ xs.length ≤ 4096 then ok .none (A.put i (.list (xs ++ [v]))) else none
  | some (.jl k) => if m = N.append ∧ k ≤ 4096 then ok .none (A.put i (.jl (k + 1))) else none
  | _ => none)
 | none => none
noncomputable def Kq (x : SI) (v : V) (A : AS) : Res V := (Dc v).bind fun k => match x with
 | .lit n => if 0 ≤ n ∧ 0 < k.1 ∧ k.1 ≤ 8 ∧ n.toNat < 256 ^ k.1.toNat then ok (.bytes [.lit (cg k.1.toNat n.toNat)]) A else none
 | .va j o => (bnd A.vars (.va j o)).bind fun q => if 0 < k.1 ∧ k.1 ≤ 8 ∧ 0 ≤ q.1 ∧ q.2 ≤ 256 ^ k.1.toNat then (if k.1 = 1 ∧ o = 0 then ok (.bytes [.rep j 1]) A else ok (.bytes [.be j o k.1.toNat 0 k.1.toNat]) A) else none
noncomputable def toBytes (x : SI) (as : List V) (A : AS) : Res V := match lC as with
 | some p => if p.2 = .str [98, 105, 103] then Kq x p.1 A else none
 | none => none
noncomputable def DO (x : Seg) (A : AS) : Res V := match x with
 | .lit l => if l.length ≤ 8 ∧ l.all (fun x => Nat.blt x 256) then ok (.int (.lit (rj l 0))) A else none
 | .be k o n a m => (bnd A.vars (.va k o)).bind fun q => if a = 0 ∧ m = n ∧ n ≤ 8 ∧ 0 ≤ q.1 ∧ q.2 ≤ 256 ^ n then ok (.int (.va k o)) A else none
 | .ef _ _ n => if n ≤ 8 then (let (k', A') := A.fresh (.int 0 (256 ^ n)); ok (.int (.va k' 0)) A') else none
 | _ => none
noncomputable def AY (b : BS) (A : AS) : Res V := match b with
 | [] => none
 | x :: r => match r with
  | [] => DO x A
  | _ :: _ => none
noncomputable def fromBytes (as : List V) (A : AS) : Res V := match lC as with
 | some p => if p.2 = .str [98, 105, 103] then (match p.1 with
  | .bytes b => AY b A
  | _ => none) else none
 | none => none
noncomputable def drawn (n : Nat) (A : AS) : Nat → List (Except Nat V × AS)
 | 0 => []
 | k + 1 => (.ok (.int (.lit ((n - (k + 1) : Nat) : Int))), A) :: drawn n A k
noncomputable def pieces (A : AS) : List (Int × Int) → List (Except Nat V × AS)
 | [] => []
 | p :: r => (if p.1 + 1 = p.2 then (.ok (.int (.lit p.1)), A) else (.ok (.int (.va (A.fresh (.int p.1 p.2)).1 0)), (A.fresh (.int p.1 p.2)).2)) :: pieces A r
noncomputable def wK : (o : Option V) → Option { i : Nat // o = some (.loc i) }
 | some (.loc i) => some ⟨i, rfl⟩
 | _ => none
noncomputable def ru : (r : Res V) → Option { t : List Nat × AS // r = some (.one (.str t.1) t.2) }
 | some (.one (.str t) B) => some ⟨(t, B), rfl⟩
 | _ => none
noncomputable def ways (A : AS) : List (Int × Int) := match wK (af (nat_lit 91) A.locs) with
 | some i => (match ru (eX i.1 0 A) with
  | some t => if jz t.1.1 [105, 100, 108, 101] then [(0, 1), (1, 3), (3, 8)] else if jz t.1.1 [114, 101, 97, 100, 115] then [(0, 1), (1, 3), (3, 7), (7, 8)] else [(0, 1), (1, 5), (5, 6), (6, 7), (7, 8)]
  | none => [(0, 8)])
 | none => [(0, 8)]
noncomputable def oN : (as : List V) → Option { p : Nat × Int // as = [.loc p.1, .int (.lit p.2)] }
 | [.loc i, .int (.lit t)] => some ⟨(i, t), rfl⟩
 | _ => none
noncomputable def AZ : (o : Option aw) → Option (PLift (o = some .src))
 | some .src => some ⟨rfl⟩
 | _ => none
noncomputable def tx (as : List V) (A : AS) : Res V := (oN as).bind fun p => (AZ (A.heap.get p.1.1)).bind fun J =>
 if p.1.2 = 8 then some (.many (pieces A (ways A)))
 else if 0 < p.1.2 ∧ p.1.2 ≤ 8 then some (.many (drawn p.1.2.toNat A p.1.2.toNat))
 else if 8 < p.1.2 ∧ p.1.2 ≤ 256 then (let (k, A') := A.fresh (.int 0 p.1.2); ok (.int (.va k 0)) A') else none
noncomputable def fj (ps : List Nat) (n : Nat) (ds as : List V) : Option (List (Nat × V)) := List.rec (motive := fun J => Nat → List V → Option (List (Nat × V))) (fun J as => List.rec (motive := fun J => Option (List (Nat × V))) (some []) (fun J J J => none) as)
 (fun p J ih n as => List.rec (motive := fun J => Option (List (Nat × V))) (if n ≤ ds.length then (ds[ds.length - n]?).bind fun d => (ih (n - 1) []).map ((p, d) :: ·) else none) (fun a r J => Option.rec (motive := fun J => Option (List (Nat × V))) none (fun l => some ((p, a) :: l)) (ih (Nat.pred n) r)) as) ps n as
noncomputable def bV (binds : List (Nat × V)) (l : List Nat) (A : AS) : AS × List (Nat × Nat) := List.rec (motive := fun J => AS → AS × List (Nat × Nat)) (fun A => (A, [])) (fun c J g A => ((g (A.alloc (.cell (af c binds))).2).1, (c, A.n) :: (g (A.alloc (.cell (af c binds))).2).2)) l A
noncomputable def back {α β : Type} (A : AS) (f : α → β) (l : List (Except Nat α × AS)) : List (Except Nat β × AS) := AS.rec (motive := fun J => List (Except Nat β × AS)) (fun J J lo c J J => List.rec (motive := fun J => List (Except Nat β × AS)) [] (fun p J g => Prod.rec (motive := fun J => List (Except Nat β × AS)) (fun r B => (Except.rec (motive := fun J => Except Nat β) (fun i => .error i) (fun a => .ok (f a)) r, AS.env B lo c) :: g) p) l) A
noncomputable def ei {α : Type} (r : Res α) : Res α := match r with
 | none => none
 | some (.one a A) => some (.one a A)
 | some (.many l) => if l.all (fun x => match x.1 with | .ok _ => true | .error _ => false) then some (.many l) else none
noncomputable def eE {α β : Type} (A : AS) (f : α → β) (o : bC α) : bC β := AS.rec (motive := fun J => bC β) (fun J J lo c J J => bC.rec (motive := fun J => bC β) (fun a B => .one (f a) (AS.env B lo c)) (fun l => .many (back A f l)) o) A
noncomputable def A0 (f : Fl) : V := Fl.rec (motive := fun J => V) .none .none .none (fun v => v) f
section
variable (Γ : Ctx) (ih : bM)
noncomputable def eY (l : List E) (A : AS) : Res (List V) := List.rec (motive := fun J => AS → Res (List V)) (fun A => ok [] A) (fun e J g A => Res.bind (ih.e e A) fun v A => Res.bind (g A) fun vs A => ok (v :: vs) A) l A
noncomputable def Kr (g : AS → Res Fl) (f : Fl) (A : AS) : Res Fl := Fl.rec (motive := fun J => Res Fl) (g A) (ok f A) (ok f A) (fun J => ok f A) f
noncomputable def aW (l : List S) (A : AS) : Res Fl := List.rec (motive := fun J => AS → Res Fl) (fun A => ok .next A) (fun s J g A => Res.bind (ih.s s A) (Kr g)) l A
noncomputable def iG (Γ : Ctx) (a : Nat) : Bool := Option.rec (motive := fun J => Bool) false (fun b => Nat.beq b a) Γ.take
noncomputable def jQ (fn : Fn) (A : AS) (binds : List (Nat × V)) : Res Fl := List.rec (motive := fun J => Res Fl) (aW ih fn.body (A.env binds []))
 (fun J J J => Prod.rec (motive := fun J => Res Fl) (fun B cs => aW ih fn.body (B.env (binds.filter fun b => !fn.cells.contains b.1) cs)) (bV binds fn.cells A)) fn.cells
noncomputable def dT (a : Nat) (as : List V) (A : AS) : Res V :=
 Bool.rec (motive := fun J => Res V) (Option.rec (motive := fun J => Res V) none (fun fn => Option.rec (motive := fun J => Res V) none (fun binds => Option.rec (motive := fun J => Res V) none (fun l => some (eE A A0 l)) (jQ ih fn A binds)) (fj fn.params fn.params.length fn.dflts as)) (cu a Γ.fns))
  (if 20 ≤ ih.fuel then tx as A else none) (iG Γ a)
noncomputable def callC (c : Nat) (as : List V) (A : AS) : Res V := match af c Γ.dv with
 | none => none
 | some k => if Nat.blt as.length 30 = true then (let (i, A') := A.alloc (if (af c Γ.cf).isSome then .qZ c else .inst c [])
  match af N.init k.meths with
  | some (false, f) => if Γ.take = some f then none else Res.bind (ei (dT Γ ih f (.loc i :: as) A')) fun v A => match v with | .none => ok (.loc i) A | _ => none
  | some (true, _) => none
  | none => none) else none
noncomputable def jR (i : Nat) (as : List V) (A : AS) : Res V := match as with
 | [] => (match A.heap.get i with
  | some (.AN cs body) => (match ih.e body { A with locs := [], cells := cs } with
   | none => none
   | some l => some (eE A id l))
  | _ => none)
 | _ => none
noncomputable def lV (f : V) (as : List V) (A : AS) : Res V := match f with
 | .fn a => dT Γ ih a as A
 | .cls c => callC Γ ih c as A
 | .ty t => wD t as A
 | .bi b => BQ b as A
 | .loc i => jR ih i as A
 | _ => none
noncomputable def i8 (o : V) (m : Nat) (A : AS) : Option yV := match o with
 | .cls c => match af c Γ.dv with
  | some k => match af c Γ.cf with
   | some _ => none
   | none => match af m k.meths with
    | some (true, f) => some (.fn f [])
    | _ => none
  | none => none
 | .loc i => match A.heap.get i with
  | some (.inst c fs) => match af m fs with
   | some _ => none
   | none => match af c Γ.dv with
    | some k => match af m k.meths with
     | some (false, f) => some (.fn f [o])
     | _ => none
    | none => none
  | some (.aB _) => if m = N.get ∨ m = N.pop then some (.dict i) else none
  | some (.ay _) => if m = N.get ∨ m = N.pop then some (.dict i) else none
  | some (.aX _) => if m = N.get ∨ m = N.bO then some (.dict i) else none
  | some .a5 => if m = N.get ∨ m = N.pop ∨ m = N.bO then some (.dict i) else none
  | some (.list _) => if m = N.append then some (.list i) else none
  | some (.jl _) => if m = N.append then some (.list i) else none
  | _ => none
 | .int x => if m = N.to_bytes then some (.int x) else none
 | .ty .int => if m = N.from_bytes then some .jO else none
 | _ => none
noncomputable def wL (k : yV) (m : Nat) (as : List V) (A : AS) : Res V := match k with
 | .fn f first => dT Γ ih f (first ++ as) A
 | .dict i => gY i m as A
 | .list i => jP i m as A
 | .int x => toBytes x as A
 | .jO => fromBytes as A
noncomputable def lW : Option E → AS → Res V
 | none, A => ok .none A
 | some e, A => ih.e e A
noncomputable def chain (a : V) (ops : List oJ) (es : List E) (A : AS) : Res Bool := List.rec (motive := fun J => V → List E → AS → Res Bool) (fun J J J => none)
 (fun op ops g a es A => List.rec (motive := fun J => Res Bool) none (fun e es J => Res.bind (ih.e e A) fun b A => List.rec (motive := fun J => Res Bool) (List.rec (motive := fun J => Res Bool) (eg A op a b) (fun J J J => none) es) (fun J J J => Res.bind (eg A op a b) fun t A => Bool.rec (motive := fun J => Res Bool) (ok false A) (g b es A) t) ops) es) ops a es A
noncomputable def Ku (l : List E) (A : AS) : Res V := List.rec (motive := fun J => AS → Res V) (fun J => none) (fun e r g A => List.rec (motive := fun J => Res V) (ih.e e A) (fun J J J => Res.bind (ih.e e A) fun v A => Res.bind (bA (jM v) A) fun t A => Bool.rec (motive := fun J => Res V) (g A) (ok v A) t) r) l A
inductive DP (A : AS) : E → Prop
 | mk {x op k n o} (h : op = .eq ∨ op = .lt) (l : af x A.locs = some (.int (.va n o))) : DP A (.cmp (.loc x) [op] [.cst (.int (.lit k))])
noncomputable def Gi : (op : oJ) → Option (PLift (op = .eq ∨ op = .lt))
 | .eq => some ⟨.inl rfl⟩
 | .lt => some ⟨.inr rfl⟩
 | _ => none
noncomputable def Gj : (o : Option V) → Option (PLift (∃ n k, o = some (.int (.va n k))))
 | some (.int (.va n k)) => some ⟨⟨n, k, rfl⟩⟩
 | _ => none
noncomputable def DQ (A : AS) : (e : E) → Option (PLift (DP A e))
 | .cmp (.loc x) [op] [.cst (.int (.lit _))] => (Gi op).bind fun h => (Gj (af x A.locs)).map fun l => ⟨l.down.elim fun J r => r.elim fun J l => .mk h.down l⟩
 | _ => none
inductive DR (A : AS) : E → Prop
 | mk {y j op s i t B} (l : af y A.locs = some (.loc i)) (h : eX i j A = some (.one (.str t) B)) (q : (op = .eq ∧ jz t s = false) ∨ (op = .ne ∧ jz t s = true)) : DR A (.cmp (.sub (.loc y) (.cst (.int (.lit j)))) [op] [.cst (.str s)])
noncomputable def Gk (b : Bool) : (op : oJ) → Option (PLift ((op = .eq ∧ b = false) ∨ (op = .ne ∧ b = true)))
 | .eq => match b with
  | false => some ⟨.inl ⟨rfl, rfl⟩⟩
  | true => none
 | .ne => match b with
  | true => some ⟨.inr ⟨rfl, rfl⟩⟩
  | false => none
 | _ => none
noncomputable def DS (A : AS) : (e : E) → Option (PLift (DR A e))
 | .cmp (.sub (.loc y) (.cst (.int (.lit j)))) [op] [.cst (.str s)] => (wK (af y A.locs)).bind fun l => (ru (eX l.1 j A)).bind fun t => (Gk (jz t.1.1 s) op).map fun q => ⟨.mk l.2 t.2 q.down⟩
 | _ => none
noncomputable def nA (e : E) (r : List E) (A : AS) : Bool := (DQ A e).isSome && (match r with
 | [e2] => (DS A e2).isSome
 | _ => false)
noncomputable def wM (l : List E) (A : AS) : Res Bool := List.rec (motive := fun J => AS → Res Bool) (fun A => ok true A) (fun e r g A => Bool.rec (motive := fun J => Res Bool) (Res.bind (ih.c e A) fun t A => Bool.rec (motive := fun J => Res Bool) (ok false A) (g A) t) (ok false A) (nA e r A)) l A
noncomputable def Kv (l : List E) (A : AS) : Res Bool := List.rec (motive := fun J => AS → Res Bool) (fun A => ok false A) (fun e J g A => Res.bind (ih.c e A) fun t A => Bool.rec (motive := fun J => Res Bool) (g A) (ok true A) t) l A
noncomputable def aN (x : Nat) (v : V) (A : AS) : AS := AS.rec (motive := fun J => AS) (fun h n l c w d => ⟨h, n, fi x v l, c, w, d⟩) A
noncomputable def cV (l : List Nat) (k : List V) (A : AS) : Option AS := List.rec (motive := fun J => List V → AS → Option AS) (fun k A => List.rec (motive := fun J => Option AS) (some A) (fun J J J => none) k) (fun x J g k A => List.rec (motive := fun J => Option AS) none (fun v t J => g t (aN x v A)) k) l k A
noncomputable def jS (xs : List Nat) (v : V) (A : AS) : Option AS := match xs with
 | [x] => some (aN x v A)
 | xs => match A.hd with
  | some _ => none
  | none => match v with
   | .loc i => match A.heap.get i with
    | some (.tup vs) => cV xs vs A
    | _ => none
   | _ => none
noncomputable def asg (t : T) (v : V) (A : AS) : Res Unit := match t with
 | .loc x => ok () (aN x v A)
 | .dj _ => none
 | .av e f => Res.bind (ih.e e A) fun o A => gX Γ o f v A
 | .sub o i => Res.bind (ih.e o A) fun o A => Res.bind (ih.e i A) fun i A => eD o i v A
 | .iC o lo hi => Res.bind (ih.e o A) fun o A => Res.bind (lW ih lo A) fun lo A => Res.bind (lW ih hi A) fun hi A => gx o lo hi v A
 | .tup xs => match jS xs v A with
  | some A => ok () A
  | none => none
noncomputable def BW : List T → List V → AS → Res Unit
 | [], [], A => ok () A
 | t :: ts, v :: vs, A => Res.bind (asg Γ ih t v A) fun J A => BW ts vs A
 | _, _, _ => none
noncomputable def oO {β : Type} (xs : List Nat) (it : It) (A : AS) (fin : AS → Res β) (k : It × AS → Res β) : Res β := (cK it A).bind fun p => match p.1 with
 | .fin => fin p.2
 | .one v it => (jS xs v p.2).bind fun A => k (it, A)
noncomputable def wN (f : It → AS → Res Fl) (it : It) (fl : Fl) (A : AS) : Res Fl := match fl with
 | .next => f it A
 | .cont => f it A
 | .brk => ok .next A
 | .ret v => ok (.ret v) A
noncomputable def loop (xs : List Nat) (b : List S) (n : Nat) : It → AS → Res Fl := Nat.rec (motive := fun J => It → AS → Res Fl) (fun J J => none)
 (fun J f it A => oO xs it A (fun A => ok .next A) fun p => Res.bind (aW ih b p.2) (wN f p.1)) n
noncomputable def turns (elt : E) (xs : List Nat) (acc : Nat) (n : Nat) : It → AS → Res Unit := Nat.rec (motive := fun J => It → AS → Res Unit) (fun J J => none)
 (fun J f it A => oO xs it A (fun A => ok () A) fun p => Res.bind (ih.e elt p.2) fun u A => (dD (A.heap.get acc)).bind fun us => if us.1.length ≤ 4096 then f p.1 (A.put acc (.list (us.1 ++ [u]))) else none) n
noncomputable def Gl (x : Nat) (A : AS) : Res V := (af x A.cells).bind fun i => (AR (A.heap.get i)).bind fun v => ok v.1 A
noncomputable def Gm (e : E) (f : Nat) (A : AS) : Res V := Res.bind (ih.e e A) fun o A => tl o f A
noncomputable def Gq (o : qW) (a : E) (b : E) (A : AS) : Res V := Res.bind (ih.e a A) fun a A => Res.bind (ih.e b A) fun b A => eh o a b A
noncomputable def Gr (e : E) (A : AS) : Res V := Res.bind (ih.e e A) fun v A => match v with | .int (.lit i) => ok (.int (.lit (-i))) A | _ => none
noncomputable def xor_ (es : List E) (A : AS) : Res V := Ku ih es A
noncomputable def Gs (a : E) (ops : List oJ) (es : List E) (A : AS) : Res V := Res.bind (ih.e a A) fun a A => Res.bind (chain ih a ops es A) fun t A => ok (.bool t) A
noncomputable def DT (c : E) (a : E) (b : E) (A : AS) : Res V := Res.bind (ih.c c A) fun t A => Bool.rec (motive := fun J => Res V) (ih.e b A) (ih.e a A) t
noncomputable def DU (f : E) (as : List E) (A : AS) : Res V := Res.bind (ih.e f A) fun f A => Res.bind (eY ih as A) fun as A => lV Γ ih f as A
noncomputable def DV (o : E) (m : Nat) (as : List E) (A : AS) : Res V := Res.bind (ih.e o A) fun o A => match i8 Γ o m A with
 | none => none
 | some k => Res.bind (eY ih as A) fun as A => wL Γ ih k m as A
noncomputable def Gu (o : E) (i : E) (A : AS) : Res V := Res.bind (ih.e o A) fun o A => Res.bind (ih.e i A) fun i A => gW o i A
noncomputable def Gv (o : E) (lo : Option E) (hi : Option E) (A : AS) : Res V := Res.bind (ih.e o A) fun o A => Res.bind (lW ih lo A) fun lo A => Res.bind (lW ih hi A) fun hi A => rk o lo hi A
noncomputable def Gw (es : List E) (A : AS) : Res V := Res.bind (eY ih es A) fun vs A => wy vs A
noncomputable def Gx (es : List E) (A : AS) : Res V := Res.bind (eY ih es A) fun vs A => uj vs A
noncomputable def Gy  (A : AS) : Res V := let (k, A) := A.alloc .a5; ok (.loc k) A
noncomputable def Gz (fv : List Nat) (body : E) (A : AS) : Res V := let (k, A) := A.alloc (.AN (A.cells.filter fun x => fv.contains x.1) body); ok (.loc k) A
noncomputable def DW (elt : E) (xs : List Nat) (it : E) (A : AS) : Res V := Res.bind (ih.e it A) fun v A => match cY v A with
 | none => none
 | some (it, A) => if A.hd.isNone = true then (match ei (turns ih elt xs A.n 300 it { (A.alloc (.list [])).2 with locs := [] }) with
  | none => none
  | some l => some (eE A (fun J => V.loc A.n) l)) else none
noncomputable def dE (e : E) : Bx (Ctx → bM → AS → Res V) := match e with
 | .cst v => ⟨fun (Γ : Ctx) (ih : bM) (A : AS) => (some (.one v A) : Res V)⟩
 | .loc x => ⟨fun (Γ : Ctx) (ih : bM) (A : AS) => Option.rec (motive := fun J => Res V) none (fun v => some (.one v A)) (af x A.locs)⟩
 | .dj x => ⟨fun (Γ : Ctx) (ih : bM) (A : AS) => (Gl x A : Res V)⟩
 | .aH x => ⟨fun (Γ : Ctx) (ih : bM) (A : AS) => Option.rec (motive := fun J => Res V) none (fun v => some (.one v A)) (af x Γ.glob)⟩
 | .av e f => ⟨fun (Γ : Ctx) (ih : bM) (A : AS) => (Gm ih e f A : Res V)⟩
 | .bin o a b => ⟨fun (Γ : Ctx) (ih : bM) (A : AS) => (Gq ih o a b A : Res V)⟩
 | .neg e => ⟨fun (Γ : Ctx) (ih : bM) (A : AS) => (Gr ih e A : Res V)⟩
 | .not_ _ => ⟨fun J J J => none⟩
 | .and_ _ => ⟨fun J J J => none⟩
 | .or_ es => ⟨fun (Γ : Ctx) (ih : bM) (A : AS) => (xor_ ih es A : Res V)⟩
 | .cmp a ops es => ⟨fun (Γ : Ctx) (ih : bM) (A : AS) => (Gs ih a ops es A : Res V)⟩
 | .ite_ c a b => ⟨fun (Γ : Ctx) (ih : bM) (A : AS) => (DT ih c a b A : Res V)⟩
 | .call f as => ⟨fun (Γ : Ctx) (ih : bM) (A : AS) => (DU Γ ih f as A : Res V)⟩
 | .meth o m as => ⟨fun (Γ : Ctx) (ih : bM) (A : AS) => (DV Γ ih o m as A : Res V)⟩
 | .sub o i => ⟨fun (Γ : Ctx) (ih : bM) (A : AS) => (Gu ih o i A : Res V)⟩
 | .iC o lo hi => ⟨fun (Γ : Ctx) (ih : bM) (A : AS) => (Gv ih o lo hi A : Res V)⟩
 | .lst es => ⟨fun (Γ : Ctx) (ih : bM) (A : AS) => (Gw ih es A : Res V)⟩
 | .tup es => ⟨fun (Γ : Ctx) (ih : bM) (A : AS) => (Gx ih es A : Res V)⟩
 | .emp => ⟨fun (Γ : Ctx) (ih : bM) (A : AS) => (Gy A : Res V)⟩
 | .lam fv body => ⟨fun (Γ : Ctx) (ih : bM) (A : AS) => (Gz fv body A : Res V)⟩
 | .eK elt xs it => ⟨fun (Γ : Ctx) (ih : bM) (A : AS) => (DW ih elt xs it A : Res V)⟩
noncomputable def A6 (e : E) (A : AS) : Res V := Bx.rec (motive := fun J => Res V) (fun k => k Γ ih A) (dE e)
noncomputable def DX (e : E) (A : AS) : Res Bool := Res.bind (ih.c e A) fun t A => ok (!t) A
noncomputable def DY (es : List E) (A : AS) : Res Bool := wM ih es A
noncomputable def GA (es : List E) (A : AS) : Res Bool := Kv ih es A
noncomputable def GB (a : E) (ops : List oJ) (es : List E) (A : AS) : Res Bool := Res.bind (ih.e a A) fun a A => chain ih a ops es A
noncomputable def dC (e : E) : Bx (Ctx → bM → AS → Res Bool) := match e with
 | .not_ e => ⟨fun (Γ : Ctx) (ih : bM) (A : AS) => (DX ih e A : Res Bool)⟩
 | .and_ es => ⟨fun (Γ : Ctx) (ih : bM) (A : AS) => (DY ih es A : Res Bool)⟩
 | .or_ es => ⟨fun (Γ : Ctx) (ih : bM) (A : AS) => (GA ih es A : Res Bool)⟩
 | .cmp a ops es => ⟨fun (Γ : Ctx) (ih : bM) (A : AS) => (GB ih a ops es A : Res Bool)⟩
 | .ite_ .. => ⟨fun J J J => none⟩
 | e => ⟨fun (Γ : Ctx) (ih : bM) (A : AS) => (Res.bind (ih.e e A) fun v A => bA (jM v) A : Res Bool)⟩
noncomputable def Kx (e : E) (A : AS) : Res Bool := Bx.rec (motive := fun J => Res Bool) (fun k => k Γ ih A) (dC e)
noncomputable def handle (i : Nat) (hs : List (E × List S)) : AS → Res Fl := List.rec (motive := fun J => AS → Res Fl) (fun A => some (.many [(.error i, A)]))
 (fun x J GC A => (DD x.1).bind fun g => (AU (af g.1 Γ.glob)).bind fun C => (DC (A.heap.get i)).bind fun D => (af D.1 Γ.cf).bind fun bs => if (af C.1 Γ.cf).isSome then (if bs.contains C.1 then Option.bind (aW ih x.2 { A with hd := some i }) fun l => some (.many (l.list.map fun x => (x.1, { x.2 with hd := A.hd }))) else GC A) else none) hs
noncomputable def uk (hs : List (E × List S)) : List (Except Nat Fl × AS) → Res Fl
 | [] => some (.many [])
 | (.ok f, A) :: r => wt (some (.one f A)) (uk hs r)
 | (.error i, A) :: r => wt (handle Γ ih i hs A) (uk hs r)
set_option tactic.hygienic true in
noncomputable def GD (t : T) (e : E) (A : AS) : Res Fl := Res.bind (ih.e e A) fun v A => Res.bind (asg Γ ih t v A) fun J A => ok .next A
set_option tactic.hygienic true in
noncomputable def A8 (ts : List T) (es : List E) (A : AS) : Res Fl := Res.bind (eY ih es A) fun vs A => Res.bind (uj vs A) fun J A => if ts.length = vs.length ∧ A.hd.isNone = true then Res.bind (BW Γ ih ts vs A) fun J A => ok .next A else none
noncomputable def GF (x : Nat) (o : qW) (e : E) (A : AS) : Res Fl := Res.bind (bA (af x A.locs) A) fun a A => Res.bind (ih.e e A) fun b A => Res.bind (tj o a b A) fun v A => ok .next (aN x v A)
set_option tactic.hygienic true in
noncomputable def DZ (e : E) (f : Nat) (o : qW) (v : E) (A : AS) : Res Fl := Res.bind (ih.e e A) fun ob A => Res.bind (tl ob f A) fun a A => Res.bind (ih.e v A) fun b A => Res.bind (tj o a b A) fun v A =>
 Res.bind (gX Γ ob f v A) fun J A => ok .next A
set_option tactic.hygienic true in
noncomputable def GG (e : E) (A : AS) : Res Fl := Res.bind (ih.e e A) fun J A => ok .next A
noncomputable def GH (e : Option E) (A : AS) : Res Fl := Res.bind (lW ih e A) fun v A => ok (.ret v) A
noncomputable def GI (c : E) (a : List S) (b : List S) (A : AS) : Res Fl := Res.bind (ih.c c A) fun t A => aW ih (Bool.rec (motive := fun J => List S) b a t) A
noncomputable def D0 (xs : List Nat) (it : E) (b : List S) (A : AS) : Res Fl := Res.bind (ih.e it A) fun v A => match cY v A with
 | some (it, A) => if A.hd.isNone = true then ei (loop ih xs b 300 it A) else none
 | none => none
noncomputable def tA (b : List S) (hs : List (E × List S)) (A : AS) : Res Fl := match aW ih b A with
 | some (.one f A) => some (.one f A)
 | some (.many l) => uk Γ ih hs l
 | none => none
set_option tactic.hygienic true in
noncomputable def GJ (o : E) (i : E) (A : AS) : Res Fl := Res.bind (ih.e o A) fun o A => Res.bind (ih.e i A) fun i A => Res.bind (jN o i A) fun J A => ok .next A
set_option tactic.hygienic true in
noncomputable def GK  (A : AS) : Res Fl := ok .next A
noncomputable def jT (i : Nat) (A : AS) : Res Fl := match A.heap.get i with
 | some (.exc D) => (match af D Γ.cf with
  | some _ => some (.many [(.error i, A)])
  | none => none)
 | _ => none
noncomputable def BX (e : Option E) (A : AS) : Res Fl := match e with
 | none => (match A.hd with
  | some i => jT Γ i A
  | none => none)
 | some e => Res.bind (ih.e e A) fun v A => match v with
  | .loc i => (match A.hd with
   | none => jT Γ i A
   | some _ => none)
  | _ => none
noncomputable def dS (e : S) : Bx (Ctx → bM → AS → Res Fl) := match e with
 | .asg t e => ⟨fun (Γ : Ctx) (ih : bM) (A : AS) => (GD Γ ih t e A : Res Fl)⟩
 | .ly ts es => ⟨fun (Γ : Ctx) (ih : bM) (A : AS) => (A8 Γ ih ts es A : Res Fl)⟩
 | .aug x o e => ⟨fun (Γ : Ctx) (ih : bM) (A : AS) => (GF ih x o e A : Res Fl)⟩
 | .nq e f o v => ⟨fun (Γ : Ctx) (ih : bM) (A : AS) => (DZ Γ ih e f o v A : Res Fl)⟩
 | .exp e => ⟨fun (Γ : Ctx) (ih : bM) (A : AS) => (GG ih e A : Res Fl)⟩
 | .ret e => ⟨fun (Γ : Ctx) (ih : bM) (A : AS) => (GH ih e A : Res Fl)⟩
 | .bE c a b => ⟨fun (Γ : Ctx) (ih : bM) (A : AS) => (GI ih c a b A : Res Fl)⟩
 | .for_ xs it b => ⟨fun (Γ : Ctx) (ih : bM) (A : AS) => (D0 ih xs it b A : Res Fl)⟩
 | .try_ b hs => ⟨fun (Γ : Ctx) (ih : bM) (A : AS) => (tA Γ ih b hs A : Res Fl)⟩
 | .del o i => ⟨fun (Γ : Ctx) (ih : bM) (A : AS) => (GJ ih o i A : Res Fl)⟩
 | .bad => ⟨fun J J J => none⟩
 | .iD e => ⟨fun (Γ : Ctx) (ih : bM) (A : AS) => (BX Γ ih e A : Res Fl)⟩
 | .C9 => ⟨fun (Γ : Ctx) (ih : bM) (A : AS) => (GK A : Res Fl)⟩
noncomputable def GL (e : S) (A : AS) : Res Fl := Bx.rec (motive := fun J => Res Fl) (fun k => k Γ ih A) (dS e)
noncomputable def BY : bM := ⟨A6 Γ ih, Kx Γ ih, GL Γ ih, ih.fuel + 1⟩
end
noncomputable def bI (Γ : Ctx) (n : Nat) : bM := Nat.rec (motive := fun J => bM) ⟨fun J J => none, fun J J => none, fun J J => none, 0⟩ (fun J g => BY Γ g) n
end aD
end
end
section
open PySem
set_option backward.match.sparseCases false
namespace aD
theorem jA {α : Type} (l k : List α) : oL l k = l ++ k := by
 induction l with
 | nil => rfl
 | cons a r ih => exact congrArg (a :: ·) ih
theorem half_lt (m : Nat) : Nat.div m 2 < m + 1 := Nat.lt_succ_of_le (Nat.div_le_self m 2)
theorem par {m k : Nat} (h : Nat.beq (Nat.mod m 2) 0 = Nat.beq (Nat.mod k 2) 0) (hd : Nat.div m 2 = Nat.div k 2) : m = k := by
 have h1 : m % 2 = 0 ↔ k % 2 = 0 := ⟨fun e => Nat.eq_of_beq_eq_true (h ▸ (show Nat.beq (m % 2) 0 = true by rw [e]; rfl)), fun e => Nat.eq_of_beq_eq_true (h.symm ▸ (show Nat.beq (k % 2) 0 = true by rw [e]; rfl))⟩
 have h2 : m / 2 = k / 2 := hd
 omega
theorem Tr.get_one {α : Type} (x : α) : ∀ f n m, n < f → (Tr.one f n x).get m = if m = n then some x else none
 | 0, _, _, h => absurd h (Nat.not_lt_zero _)
 | f + 1, 0, 0, _ => rfl
 | f + 1, 0, m + 1, _ => by
  refine (?_ : (Bool.rec (motive := fun J => Option α) none none (Nat.beq (Nat.mod m 2) 0)) = none)
  cases Nat.beq (Nat.mod m 2) 0 <;> rfl
 | f + 1, n + 1, 0, _ => by
  refine (?_ : (Tr.get (Bool.rec (motive := fun J => Tr α) (.node none .nil _) (.node none _ .nil) (Nat.beq (Nat.mod n 2) 0)) 0) = none)
  cases Nat.beq (Nat.mod n 2) 0 <;> rfl
 | f + 1, n + 1, m + 1, h => by
  have ih := Tr.get_one x f (Nat.div n 2) (Nat.div m 2) (Nat.lt_of_lt_of_le (half_lt n) (Nat.le_of_lt_succ h))
  have e : (Tr.one (f + 1) (n + 1) x).get (m + 1) = Tr.get (Bool.rec (motive := fun J => Tr α) (.node none .nil (Tr.one f (Nat.div n 2) x)) (.node none (Tr.one f (Nat.div n 2) x) .nil) (Nat.beq (Nat.mod n 2) 0)) (m + 1) := rfl
  refine ae e ?_
  cases hn : Nat.beq (Nat.mod n 2) 0 <;> cases hm : Nat.beq (Nat.mod m 2) 0
  ·refine (?_ : Bool.rec (motive := fun J => Option α) ((Tr.one f (Nat.div n 2) x).get (Nat.div m 2)) none (Nat.beq (Nat.mod m 2) 0) = _)
   refine ae hm ?_; refine ih.trans ?_
   by_cases hq : Nat.div m 2 = Nat.div n 2
   ·rw [if_pos hq, if_pos (congrArg Nat.succ (par (hm.trans hn.symm) hq))]
   ·rw [if_neg hq, if_neg fun q => hq (by rw [Nat.succ.inj q])]
  ·refine (?_ : Bool.rec (motive := fun J => Option α) ((Tr.one f (Nat.div n 2) x).get (Nat.div m 2)) none (Nat.beq (Nat.mod m 2) 0) = _)
   refine ae hm ?_; exact (if_neg fun q => by rw [Nat.succ.inj q, hn] at hm; cases hm).symm
  ·refine (?_ : Bool.rec (motive := fun J => Option α) none ((Tr.one f (Nat.div n 2) x).get (Nat.div m 2)) (Nat.beq (Nat.mod m 2) 0) = _)
   refine ae hm ?_; exact (if_neg fun q => by rw [Nat.succ.inj q, hn] at hm; cases hm).symm
  ·refine (?_ : Bool.rec (motive := fun J => Option α) none ((Tr.one f (Nat.div n 2) x).get (Nat.div m 2)) (Nat.beq (Nat.mod m 2) 0) = _)
   refine ae hm ?_; refine ih.trans ?_
   by_cases hq : Nat.div m 2 = Nat.div n 2
   ·rw [if_pos hq, if_pos (congrArg Nat.succ (par (hm.trans hn.symm) hq))]
   ·rw [if_neg hq, if_neg fun q => hq (by rw [Nat.succ.inj q])]
theorem Tr.ba {α : Type} (x : α) : ∀ (t : Tr α) n m, (t.put n x).get m = if m = n then some x else t.get m
 | .nil, n, m => (Tr.get_one x (n + 1) n m (Nat.lt_succ_self n)).trans (by split <;> rfl)
 | .node v l r, 0, 0 => rfl
 | .node v l r, 0, m + 1 => rfl
 | .node v l r, n + 1, 0 => by
  refine (?_ : (Tr.get (Bool.rec (motive := fun J => Tr α) (.node v l (r.put (Nat.div n 2) x)) (.node v (l.put (Nat.div n 2) x) r) (Nat.beq (Nat.mod n 2) 0)) 0) = v)
  cases Nat.beq (Nat.mod n 2) 0 <;> rfl
 | .node v l r, n + 1, m + 1 => by
  have il := Tr.ba x l (Nat.div n 2) (Nat.div m 2)
  have ir := Tr.ba x r (Nat.div n 2) (Nat.div m 2)
  refine (?_ : (Tr.get (Bool.rec (motive := fun J => Tr α) (.node v l (r.put (Nat.div n 2) x)) (.node v (l.put (Nat.div n 2) x) r) (Nat.beq (Nat.mod n 2) 0)) (m + 1)) =
   if m + 1 = n + 1 then some x else Bool.rec (motive := fun J => Option α) (r.get (Nat.div m 2)) (l.get (Nat.div m 2)) (Nat.beq (Nat.mod m 2) 0))
  cases hn : Nat.beq (Nat.mod n 2) 0 <;> cases hm : Nat.beq (Nat.mod m 2) 0
  ·refine (?_ : Bool.rec (motive := fun J => Option α) ((r.put (Nat.div n 2) x).get (Nat.div m 2)) (l.get (Nat.div m 2)) (Nat.beq (Nat.mod m 2) 0) = _)
   refine ae hm ?_; refine ir.trans ?_
   by_cases hq : Nat.div m 2 = Nat.div n 2
   ·refine ae (if_pos hq) ?_; refine ae (if_pos (congrArg Nat.succ (par (hm.trans hn.symm) hq))) ?_; rfl
   ·refine ae (if_neg hq) ?_; refine ae (if_neg fun q => hq (by rw [Nat.succ.inj q])) ?_; rfl
  ·refine (?_ : Bool.rec (motive := fun J => Option α) ((r.put (Nat.div n 2) x).get (Nat.div m 2)) (l.get (Nat.div m 2)) (Nat.beq (Nat.mod m 2) 0) = _)
   refine ae hm ?_; exact (if_neg fun q => by rw [Nat.succ.inj q, hn] at hm; cases hm).symm
  ·refine (?_ : Bool.rec (motive := fun J => Option α) (r.get (Nat.div m 2)) ((l.put (Nat.div n 2) x).get (Nat.div m 2)) (Nat.beq (Nat.mod m 2) 0) = _)
   refine ae hm ?_; exact (if_neg fun q => by rw [Nat.succ.inj q, hn] at hm; cases hm).symm
  ·refine (?_ : Bool.rec (motive := fun J => Option α) (r.get (Nat.div m 2)) ((l.put (Nat.div n 2) x).get (Nat.div m 2)) (Nat.beq (Nat.mod m 2) 0) = _)
   refine ae hm ?_; refine il.trans ?_
   by_cases hq : Nat.div m 2 = Nat.div n 2
   ·refine ae (if_pos hq) ?_; refine ae (if_pos (congrArg Nat.succ (par (hm.trans hn.symm) hq))) ?_; rfl
   ·refine ae (if_neg hq) ?_; refine ae (if_neg fun q => hq (by rw [Nat.succ.inj q])) ?_; rfl
end aD
end
section
open PySem PySem.Calls PyProof.Rows PySem.W
open PySem.Sem (wp)
namespace aD
noncomputable def lX (id : String) : Bool := Builtin.Bytes.decodersThatHold.contains id || guardIds.contains id
noncomputable def lY : Code → Bool
 | .builtin id _ => lX id
 | _ => false
def ry (l : List (Code × Pos)) : Prop := ∀ x ∈ l, lY x.1 = false
structure Clean (Γ : PySem.Ctx) : Prop where
 code : lY Γ.code = false
 below : ry Γ.below
theorem Clean.enter {Γ : PySem.Ctx} (h : Clean Γ) (c : Code) (hd : Option Value) (p : Pos) : ry (Γ.enter c hd p).below := fun x hx => by
 rcases ff hx with rfl | hx
 ·exact h.code
 ·exact h.below x hx
def bt {α : Type} (M : Model) (A : Around) (t : Sem α) (Q : α → Shared → Prop) (E : Value → Shared → Prop) (s : Shared) : Prop :=
 ∀ (Γ : PySem.Ctx) p, Γ.In A → Clean Γ → wp M Γ t (fun a J s' => Q a s') (fun e J s' => E e s') p s
def bj (M : Model) (A : Around) (c : Code) (R : Result → Shared → Prop) (s : Shared) : Prop :=
 ∀ (Γ : PySem.Ctx) p, Γ.code = c → Γ.Below A → ry Γ.below → wpCode M Γ R p s
section
variable {α β : Type} {M : Model} {A : Around} {E : Value → Shared → Prop} {s : Shared}
theorem bt.of {t : Sem α} {Q : α → Shared → Prop} (h : wpAny M A t Q E s) : bt M A t Q E s := fun Γ p fg J => h Γ p fg
theorem aq {a : α} {Q : α → Shared → Prop} (h : Q a s) : bt M A (pure a) Q E s := fun J J J J => h
theorem az {t : Sem α} {Q Q' : α → Shared → Prop} {E' : Value → Shared → Prop} (h : bt M A t Q E s) (hQ : ∀ a s, Q a s → Q' a s) (hE : ∀ e s, E e s → E' e s) : bt M A t Q' E' s :=
 fun Γ p fg hC => Sem.wp_mono M Γ t (fun a J s => hQ a s) (fun e J s => hE e s) p s (h Γ p fg hC)
theorem aa {m : Sem α} {f : α → Sem β} {Q : β → Shared → Prop} (h : bt M A m (fun a s' => bt M A (f a) Q E s') E s) : bt M A (m >>= f) Q E s := fun Γ p fg hC => by
 rw [Sem.wp_bind']
 exact Sem.wp_mono M Γ m (fun a p' s' h' => h' Γ p' fg hC) (fun J J J h' => h') p s (h Γ p fg hC)
theorem wO {m : Sem α} {f : α → Sem β} {Q : β → Shared → Prop} (h : wpAny M A m (fun a s' => bt M A (f a) Q E s') E s) : bt M A (m >>= f) Q E s := aa (.of h)
theorem aA {vs : List Value} {m : Sem α} {Q : α → Shared → Prop} (h : bt M A m Q E s) : bt M A (holding vs m) Q E s := fun Γ p fg hC => by rw [Sem.wp_holding]; exact h Γ p fg hC
theorem jU {tag : String} {Q : Unit → Shared → Prop} (h : Q () s) : bt M A (rule tag) Q E s := fun J J J J => h
theorem aY {pos : Pos} {Q : Unit → Shared → Prop} (h : Q () s) : bt M A (standAt pos) Q E s := fun J J J J => h
theorem lZ {Q : Unit → Shared → Prop} (h : Q () s) : bt M A point Q E s := fun J J J J => h
theorem fk {vs ks : List Value} {Q : Unit → Shared → Prop} (h : Q () s) : bt M A (release vs ks) Q E s := .of (wpAny_release h)
theorem oP {vs : List Value} {m : Sem Value} {Q : Value → Shared → Prop} (h : bt M A m Q E s) : bt M A (operate vs m) Q E s := fun Γ p fg hC => by rw [Sem.wp_operate]; exact h Γ p fg hC
theorem gy {prog : Program} {w : World} {base : Expr} {o r : Value} {Q : Unit → Shared → Prop} (h : Q () s) : bt (model prog w) A (letTemporaryGo base o r) Q E s := .of (wpAny_letTemporaryGo h)
theorem l4 {t : Sem α} {a : α} {Q : α → Shared → Prop} (e : t = pure a) (h : Q a s) : bt M A t Q E s := e ▸ aq h
theorem yW {p : Prop} [Decidable p] {a b : Sem α} {Q : α → Shared → Prop} (ha : bt M A a Q E s) (hb : bt M A b Q E s) : bt M A (if p then a else b) Q E s := by
 by_cases h : p
 ·refine ae (if_pos h) ?_; exact ha
 ·refine ae (if_neg h) ?_; exact hb
theorem bP {p : Prop} [Decidable p] {a b : Sem α} {Q : α → Shared → Prop} (h : ¬p) (hb : bt M A b Q E s) : bt M A (if p then a else b) Q E s := by
 refine ae (if_neg h) ?_; exact hb
theorem tB {p : Prop} [Decidable p] {a b : Sem α} {Q : α → Shared → Prop} (h : p) (hb : bt M A a Q E s) : bt M A (if p then a else b) Q E s := by
 refine ae (if_pos h) ?_; exact hb
theorem yX {c : Prop} [Decidable c] {a b : Sem α} {Q : α → Shared → Prop} (h : if c then bt M A a Q E s else bt M A b Q E s) : bt M A (if c then a else b) Q E s := by split <;> simp_all
theorem yY {p : Prop} {i : Decidable p} {a b : Sem α} {Q : α → Shared → Prop} (h : bt M A a Q E s) (k : bt M A b Q E s) : bt M A (@ite _ p i a b) Q E s := by
 by_cases q : p
 ·rw [if_pos q]; exact h
 ·rw [if_neg q]; exact k
theorem i9 {m : Sem α} {Q : Except Value α → Shared → Prop} (h : bt M A m (fun a => Q (.ok a)) (fun e => Q (.error e)) s) : bt M A m.attempt Q E s := fun Γ p fg hC => by
 rw [Sem.wp_attempt]; exact h Γ p fg hC
theorem um {Γ : PySem.Ctx} (h : Clean Γ) (p : Pos) : ∀ x ∈ (Γ.code, p) :: Γ.below, lY x.1 = false := fun x hx => by
 rcases ff hx with rfl | hx
 ·exact h.code
 ·exact h.below x hx
theorem nB {f : Code × Pos → Bool} {Q : Bool → Shared → Prop} (hf : ∀ c p, lY c = false → f (c, p) = false) (h : Q false s) : bt M A (do return (← stack).any f) Q E s := fun Γ p fg hC => by
 refine (?_ : Q (((Γ.code, p) :: Γ.below).any f) s)
 refine ae (List.any_eq_false.mpr fun x hx => by rw [hf x.1 x.2 (um hC p x hx)]; decide) ?_
 exact h
theorem GN {α : Type} {a : α} : none ≠ some a := fun h => nomatch h
theorem jB {c : Code} {h : Option Value} {Q : Flow → Shared → Prop}
 (hc : bj M (A.mark h) c (fun r s' => match r with | .ok f => Q f s' | .error e => E e s') s) (GO : h ≠ some byPass) : bt M A (run c h) Q E s :=
 fun Γ p fg hC => by rw [Sem.wp_run]; exact hc _ p rfl (fg.enter c h p GO) (hC.enter c h p)
theorem nC {c : Code} {Q : Value → Shared → Prop}
 (hc : bj M A c (fun r s' => match r with | .ok (.ret v) => Q v s' | .ok _ => False | .error e => E e s') s) : bt M A (runValue c) Q E s :=
 fun Γ p fg hC => by rw [Sem.wp_runValue]; exact hc _ p rfl (fg.enter c none p (by intro x; cases x)) (hC.enter c none p)
theorem cz {f : Value} {pos : List Value} {kw : List (Str × Value)} {Q : Value → Shared → Prop}
 (hc : bj M A (.call f ⟨pos, kw⟩) (fun r s' => match r with | .ok (.ret v) => Q v s' | .ok _ => False | .error e => E e s') s) : bt M A (call f pos kw) Q E s := nC hc
theorem aZ {c : Code} {R : Result → Shared → Prop} (hd : lY c = false)
 (h : bt M (A.under c) (M.den c) (fun fin s' => match fin with | .done f => R (.ok f) s' | .again c' => c'.quiet = true ∧ bj M A c' R s')
  (fun e s' => R (.error e) s') s) : bj M A c R s := fun Γ p hc fg hC => by
 rw [wpCode_iff_wp, hc]
 refine Sem.wp_mono M Γ _ (fun fin p' s' h' => ?_) (fun J J J h' => h') p s (h Γ p (hc ▸ fg.in) ⟨by refine ae hc ?_; exact hd, hC⟩)
 cases fin with
 | done f => exact h'
 | again c' => exact ⟨h'.1, h'.2 (Γ.goto c') p' rfl (fg.goto c') hC⟩
theorem bg {c : Code} {R R' : Result → Shared → Prop} (h : bj M A c R s) (hR : ∀ r s, R r s → R' r s) : bj M A c R' s :=
 fun Γ p hc fg hC => wpCode_mono hR (h Γ p hc fg hC)
theorem cj {c : Code} {R : Result → Shared → Prop} (hd : lY c = false)
 (h : wpAny M (A.under c) (M.den c) (fun fin s' => match fin with | .done f => R (.ok f) s' | .again c' => c'.quiet = true ∧ bj M A c' R s')
  (fun e s' => R (.error e) s') s) : bj M A c R s := aZ hd (.of h)
end
end aD
end
section
open PySem PySem.Calls PyProof.Rows PySem.W
set_option backward.match.sparseCases false
namespace aD
structure Val where
 g : Nat
 i : Nat → Int
 bo : Nat → (Nat → UInt8) × Obj
noncomputable def Val.b (ρ : Val) (k : Nat) : Nat → UInt8 := (ρ.bo k).1
noncomputable def Val.o (ρ : Val) (k : Nat) : Obj := (ρ.bo k).2
structure Cfg where
 ρ : Val
 σ : Nat → Nat × Nat
 n : Nat
 nv : Nat
noncomputable def SI.den (ρ : Val) : SI → Int
 | .lit i => i
 | .va k o => ρ.i k + o
noncomputable def SI.lt (n : Nat) : SI → Prop
 | .lit _ => True
 | .va k _ => k < n
noncomputable def lD (n v i : Nat) : UInt8 := UInt8.ofNat (v / 256 ^ (n - 1 - i) % 256)
noncomputable def Seg.den (ρ : Val) : Seg → List UInt8
 | .lit l => l.map UInt8.ofNat
 | .rep k n => List.replicate n (UInt8.ofNat (ρ.i k).toNat)
 | .ef k o n => (List.range n).map fun j => ρ.b k (o + j)
 | .be k o n a m => (List.range m).map fun j => lD n (ρ.i k + o).toNat (a + j)
noncomputable def Seg.lt (m : Nat) : Seg → Prop
 | .lit _ => True
 | .rep k _ => k < m
 | .ef k _ _ => k < m
 | .be k _ _ _ _ => k < m
noncomputable def BS.den (ρ : Val) : BS → List UInt8
 | [] => []
 | x :: r => Seg.den ρ x ++ BS.den ρ r
noncomputable def BS.lt (m : Nat) : BS → Prop
 | [] => True
 | x :: r => Seg.lt m x ∧ BS.lt m r
noncomputable def VD.ok (ρ : Val) (k : Nat) : VD → Prop
 | .int lo hi => lo ≤ ρ.i k ∧ ρ.i k < hi
 | .oct => True
 | .lt j => j < k ∧ 0 ≤ ρ.i k ∧ ρ.i k < ρ.i j ∧ ρ.i k < 2147483648
 | .gi m => 0 ≤ ρ.i k ∧ ρ.i k + m + ρ.g ≤ 2147483648
 | .any => True
noncomputable def Ty.name : Ty → String
 | .bytes => "bytes" | .bytearray => "bytearray" | .int => "int" | .list => "list" | .dict => "dict" | .str => "str" | .other => "object"
noncomputable def Bi.name : Bi → String
 | .len => "len" | .range => "range" | .sorted => "sorted" | .max => "max"
noncomputable def Bi.val : Bi → Value
 | .range => .type "range"
 | b => .builtin b.name
noncomputable def strOf (l : List Nat) : Str := ⟨l.toArray⟩
noncomputable def VR (c : Cfg) : V → Value → Prop
 | .none, u => u = .none
 | .bool b, u => u = .bool b
 | .int i, u => SI.lt c.nv i ∧ ∃ t, u = .int (SI.den c.ρ i) t
 | .str l, u => ∃ t, u = .str (strOf l) t
 | .bytes b, u => BS.lt c.nv b ∧ ∃ t, u = .bytes (BS.den c.ρ b).toArray t
 | .loc i, u => i < c.n ∧ u = .ref (c.σ i).1
 | .fn a, u => u = .ref a
 | .cls a, u => u = .ref a
 | .ty t, u => u = .type t.name
 | .bi b, u => u = b.val
 | .bb, u => handedIn u = true
inductive aS {α β : Type} (R : α → β → Prop) : List α → List β → Prop
 | nil : aS R [] []
 | cons {a b l m} (h : R a b) (t : aS R l m) : aS R (a :: l) (b :: m)
theorem aS.nil_inv {α β : Type} {R : α → β → Prop} {l : List β} (h : aS R [] l) : l = [] := by cases h; rfl
theorem aS.cons_inv {α β : Type} {R : α → β → Prop} {a : α} {k : List α} {l : List β} (h : aS R (a :: k) l) : ∃ b t, l = b :: t ∧ R a b ∧ aS R k t := by cases h with | cons h t => exact ⟨_, _, rfl, h, t⟩
abbrev cA := List (Str × NameKind)
theorem wQ (a : Nat) (l : List Nat) (b : Nat) (t : List Nat) : jz (a :: l) (b :: t) = Bool.rec (motive := fun J => Bool) false (jz l t) (Nat.beq a b) := rfl
theorem cW {a b : List Nat} : (jz a b = true) = (a = b) := by
 induction a generalizing b with
 | nil => cases b with
  | nil => exact propext ⟨fun J => rfl, fun J => rfl⟩
  | cons => exact propext ⟨fun h => bf h, fun h => nomatch h⟩
 | cons a l ih => cases b with
  | nil => exact propext ⟨fun h => bf h, fun h => nomatch h⟩
  | cons b t =>
   rw [wQ]
   by_cases h : a = b
   ·refine ae (C7 (b := Nat.beq a b) (h ▸ Nat.beq_refl a)) ?_
    refine ae ih ?_
    rw [h]; exact propext ⟨fun z => z ▸ rfl, fun z => (List.cons.inj z).2⟩
   ·refine ae (F5 (b := Nat.beq a b) (Bool.eq_false_iff.mpr fun z => h (Nat.eq_of_beq_eq_true z))) ?_
    exact propext ⟨fun z => bf z, fun z => absurd (List.cons.inj z).1 h⟩
noncomputable def sEq (a b : Str) : Bool := jz a.cps.toList b.cps.toList
theorem cL {a b : Str} (h : sEq a b = true) : a = b := by
 obtain ⟨⟨x⟩⟩ := a
 obtain ⟨⟨y⟩⟩ := b
 exact congrArg (fun l => Str.mk ⟨l⟩) (cW.mp h)
theorem nD (a b : Str) : sEq a b = (a == b) := by
 by_cases e : a = b
 ·subst e; rw [beq_self_eq_true]; exact cW.mpr rfl
 ·rw [wm e]; exact Bool.eq_false_iff.mpr fun z => e (cL z)
noncomputable def A9 (x : Str) (sc : cA) : Option NameKind := List.rec (motive := fun J => Option NameKind) none (fun p J ih => Bool.rec (motive := fun J => Option NameKind) ih (some p.2) (sEq x p.1)) sc
theorem nE {x : Str} {sc : cA} : A9 x sc = sc.lookup x := by
 induction sc with
 | nil => rfl
 | cons p r ih =>
  refine (?_ : Bool.rec (motive := fun _ => Option NameKind) (A9 x r) (some p.2) (sEq x p.1) = _)
  rw [List.lookup_cons, nD, ih]
  cases x == p.1 <;> rfl
noncomputable def cw (sc : cA) (x : Str) (k : NameKind) : Bool := A9 x sc == some k
noncomputable def cM (sc : cA) (x : Str) : Bool := cw sc x .cell || cw sc x .free
structure aL where
 prog : Program
 w : World
 Γ : Ctx
 nm : Nat → Str
 K : Frag
 h₀ : Heap
 tC : OsState
 mg : Str → Option Value
 mb : Str → Option Value
 tabs : List Addr
 lam : E → Arguments → Expr → Scope → Prop
section
variable (Z : aL)
abbrev aL.M : Model := model Z.prog Z.w
noncomputable def yZ (c : Cfg) : Option V → Option Value → Prop
 | some v, some u => VR c v u
 | none, none => True
 | _, _ => False
def a9 (o : Obj) : Prop := o.cls = .type "traceback" ∧ ∃ vs, o.data = .fields vs ∧ 3 < vs.size
def dU (o : Obj) : Prop := (∃ C, o.cls = .ref C) ∧ ∃ vs T, o.data = .fields vs ∧ vs[1]? = some (Value.ref T)
def bc (o : Obj) : Prop := o.cls = .type "code" ∧ ∃ vs q t, o.data = .fields vs ∧ vs[1]? = some (.str q t)
def y5 (o : Obj) : Prop := o.cls = .none ∧ ∃ vs, o.data = .fields vs
def dF (o : Obj) : Prop := a9 o ∨ y5 o
def dk (h : Heap) (v : Value) : Prop := ∃ c o, v = .ref c ∧ h.get? c = some o ∧ bc o
def gj (h : Heap) (o : Obj) : Prop := ∃ ps, o = tabObj ps ∧ TriplesOk ps.toList ∧ ∀ pos v, codeAmong pos ps.toList = some v → dk h v
def jV (o : Obj) : Prop := ¬ dF o ∧ ¬ dU o ∧ ¬ bc o
theorem gj.l {h : Heap} {o : Obj} (x : gj h o) : y5 o := by refine (x).elim fun _ aj => (aj).elim fun e _ => ?_; exact ⟨by refine ae e ?_; rfl, _, by refine ae e ?_; rfl⟩
theorem dF.fields {o : Obj} (x : dF o) : ∃ vs, o.data = .fields vs := by
 rcases x with ⟨_, vs, e, _⟩ | ⟨_, vs, e⟩ <;> exact ⟨vs, e⟩
theorem dF.notRef {o : Obj} {C : Nat} (x : dF o) (h : o.cls = .ref C) : False := by
 rcases x with ⟨e, _⟩ | ⟨e, _⟩ <;> (rw [h] at e; cases e)
theorem bD {o : Obj} (n : ∀ vs, o.data ≠ .fields vs) : jV o := ⟨fun t => by refine (t.fields).elim fun vs e => ?_; exact n vs e, fun t => by refine (t).elim fun _ aj => (aj).elim fun vs ax => (ax).elim fun _ aP => (aP).elim fun e _ => ?_; exact n vs e, fun t => by refine (t).elim fun _ aj => (aj).elim fun vs ax => (ax).elim fun _ aP => (aP).elim fun _ bG => (bG).elim fun e _ => ?_; exact n vs e⟩
theorem a7 {o : Obj} {t : String} (e : o.cls = .type t) (n : t ≠ "traceback" ∧ t ≠ "code") : jV o :=
 ⟨fun q => q.elim (fun q => n.1 (by have := e.symm.trans q.1; injection this)) (fun q => by have := e.symm.trans q.1; cases this), fun q => by refine (q).elim fun aj _ => (aj).elim fun _ q => ?_; exact (by rw [e] at q; cases q), fun q => n.2 (by have := e.symm.trans q.1; injection this)⟩
def oQ (h₀ h : Heap) (v : Option Value) : Prop := v = some .none ∨ ∃ T o, v = some (.ref T) ∧ h₀.get? T = none ∧ h.get? T = some o ∧ a9 o
def gZ (o o' : Obj) : Prop := o' = o ∨ ((∃ es ep, o.data = .dict es ep) ∧ ∃ sl, o' = { o with slots := sl }) ∨ (dF o ∧ dF o')
inductive D1 (X : List (Nat × gU)) (Y : List (Nat × List Nat)) (nm : Nat → Str) (c : Cfg) (h : Heap) (p : Nat × Nat) (C : Nat) (fs : List (Nat × V)) : Prop
 | mk (h1 : h.get? p.1 = some (instObj C p.2)) (h2 : ∃ k, af C X = some k ∧ af C Y = none ∧ ∀ f ∈ fs, f.1 ∈ k.du) (es : List DictEntry) (n : Nat) (h3 : h.get? p.2 = some (dictOf es n)) (h4 : aS (fun (f : Nat × V) (y : DictEntry) => (∃ t, y.key = .str (nm f.1) t) ∧ VR c f.2 y.val) fs es)
inductive GP (c : Cfg) (h : Heap) (a : Nat) (xs : List V) : Prop
 | mk (vs : Array Value) (ep : Nat) (h1 : h.get? a = some { cls := .type "list", data := .seq vs ep }) (h2 : aS (VR c) xs vs.toList)
inductive Mn (pr : Program) (w : World) (c : Cfg) (h : Heap) (a : Nat) (es : List (Int × V)) : Prop
 | mk (o : Obj) (aF : List (Int × Value)) (h1 : h.get? a = some o) (h2 : o.IsDictOf (intKind pr w) aF) (h3 : aS (fun (f : Int × V) (y : Int × Value) => y.1 = f.1 ∧ VR c f.2 y.2) es aF)
inductive Mo (pr : Program) (w : World) (c : Cfg) (h : Heap) (a : Nat) (es : List (List Nat × V)) : Prop
 | mk (o : Obj) (aF : List (Str × Value)) (h1 : h.get? a = some o) (h2 : o.IsDictOf (strKind pr w) aF) (h3 : aS (fun (f : List Nat × V) (y : Str × Value) => y.1 = strOf f.1 ∧ VR c f.2 y.2) es aF)
inductive Mp (pr : Program) (w : World) (c : Cfg) (h : Heap) (a : Nat) (es : List (Int × V)) : Prop
 | mk (fs : List (Int × V)) (o : Obj) (aF : List (Int × Value)) (h1 : h.get? a = some o) (h2 : o.IsDictOf (intKind pr w) aF) (h3 : fs.Perm es) (h4 : aS (fun (f : Int × V) (y : Int × Value) => y.1 = f.1 ∧ VR c f.2 y.2) fs aF)
inductive GQ (h : Heap) (a : Nat) : Prop
 | mk (d m : Int) (t t' : Tok) (ep : Nat) (h1 : h.get? a = some { cls := .type "list", data := .seq #[.int d t, .int m t'] ep }) (h2 : 0 ≤ d ∧ 0 ≤ m ∧ m < 2147483647)
inductive GR (h₀ h : Heap) (a C : Nat) : Prop
 | mk (oe : Obj) (vs : Array Value) (h1 : h.get? a = some oe) (h2 : oe.cls = .ref C) (h3 : oe.data = .fields vs) (h4 : 4 < vs.size) (h5 : oQ h₀ h (vs[1]?))
inductive D2 (h₀ h : Heap) (a C : Nat) : Prop
 | mk (oe : Obj) (vs : Array Value) (h1 : h.get? a = some oe) (h2 : oe.cls = .ref C) (h3 : oe.data = .fields vs) (h4 : 4 < vs.size) (h5 : oQ h₀ h (vs[1]?)) (h6 : oe.dict = none)
inductive GS (lam : E → Arguments → Expr → Scope → Prop) (nm : Nat → Str) (c : Cfg) (h : Heap) (a : Nat) (ks : List (Nat × Nat)) (b : E) : Prop
 | mk (name qual : Str) (ar : Arguments) (x : Expr) (scope : Scope) (cl : List (Str × Addr)) (pm : Value) (cv : Value) (ct : Value) (h1 : h.get? a = some { cls := .type "function", data := .func (kla_fn name qual ar x scope cl pm cv ct) }) (h2 : dk h cv) (h3 : lam b ar x scope)
  (h4 : ∀ n, cM scope.names n = true → ∃ a, cl.lookup n = some a) (h5 : ∀ y i, cM scope.names (nm y) = true → af y ks = some i → i < c.n ∧ cl.lookup (nm y) = some (c.σ i).1)
noncomputable def wR (c : Cfg) (h : Heap) (p : Nat × Nat) : aw → Prop
 | .inst C fs => D1 Z.Γ.dv Z.Γ.cf Z.nm c h p C fs
 | .list xs => GP c h p.1 xs
 | .tup xs => ∃ vs, h.get? p.1 = some { cls := .type "tuple", data := .seq vs } ∧ aS (VR c) xs vs.toList
 | .aB es => Mn Z.prog Z.w c h p.1 es
 | .aX es => Mo Z.prog Z.w c h p.1 es
 | .a5 => ∃ o, h.get? p.1 = some o ∧ o.ExactDict ∧ ∃ ep, o.data = .dict #[] ep
 | .bW b => BS.lt c.nv b ∧ h.get? p.1 = some { cls := .type "bytearray", data := .bytearray (BS.den c.ρ b).toArray }
 | .cell v => ∃ u, h.IsCell p.1 u ∧ yZ c v u
 | .iA lo hi st => ∃ t t' Dd, h.get? p.1 = some { cls := .type "range", data := .fields #[.int lo t, .int hi t', .int st Dd] }
 | .cX n es => n < c.nv ∧ h.get? p.1 = some (c.ρ.o n) ∧ ∃ aF, (c.ρ.o n).IsDictOf (intKind Z.prog Z.w) aF ∧ aS (fun (f : Int × V) (y : Int × Value) => y.1 = f.1 ∧ VR c f.2 y.2) es aF
 | .rl n xs => n < c.nv ∧ h.get? p.1 = some (c.ρ.o n) ∧ ∃ vs ep, c.ρ.o n = { cls := .type "list", data := .seq vs ep } ∧ aS (VR c) xs vs.toList
 | .gone => True
 | .src => GQ h p.1
 | .exc C => GR Z.h₀ h p.1 C
 | .qZ C => D2 Z.h₀ h p.1 C
 | .AN ks b => GS Z.lam Z.nm c h p.1 ks b
 | .jl m => ∃ vs ep, h.get? p.1 = some { cls := .type "list", data := .seq vs ep } ∧ vs.size ≤ m
 | .ay es => Mp Z.prog Z.w c h p.1 es
def br (c : Cfg) (h : Heap) (i : Nat) (o : aw) : Prop := wR Z c h (c.σ i) o
abbrev Has (h : Heap) (b : Nat) : Prop := ∃ o, h.get? b = some o
theorem Has.ne {h : Heap} {a b : Nat} (x : Has h a) (y : h.get? b = none) : a ≠ b := fun e => by
 refine (x).elim fun o x => ?_
 rw [e, y] at x
 cases x
structure Kept (h h' : Heap) (o o' : Obj) : Prop where
 tb : a9 o → a9 o'
 no : dU o → dU o'
 cd : bc o → bc o'
 tab : gj h o → gj h' o'
def a6 (h h' : Heap) : Prop := ∀ b o, h.get? b = some o → ∃ o', h'.get? b = some o' ∧ Kept h h' o o'
theorem a6.has {h h' : Heap} (x : a6 h h') {b : Nat} (y : Has h b) : Has h' b := by refine (y).elim fun o e => ?_; exact by refine (x b o e).elim fun o' aj => (aj).elim fun e' _ => ?_; exact ⟨o', e'⟩
theorem gj.mk' {h h' : Heap} {o : Obj} (x : gj h o) (k : ∀ b o, h.get? b = some o → bc o → ∃ o', h'.get? b = some o' ∧ bc o') : gj h' o :=
 by refine (x).elim fun ps aj => (aj).elim fun e ax => (ax).elim fun t y => ?_; exact ⟨ps, e, t, fun pos v q => by refine (y pos v q).elim fun c aj => (aj).elim fun ob ax => (ax).elim fun e1 aP => (aP).elim fun e2 e3 => ?_; exact by refine (k c ob e2 e3).elim fun o' aj => (aj).elim fun f1 f2 => ?_; exact ⟨c, o', e1, f1, f2⟩⟩
theorem a6.mk' {h h' : Heap} (x : ∀ b o, h.get? b = some o → ∃ o', h'.get? b = some o' ∧ (a9 o → a9 o') ∧ (dU o → dU o') ∧ (bc o → bc o') ∧ (y5 o → o' = o)) : a6 h h' := fun b o e =>
 let ⟨o', e', w1, w2, w3, w4⟩ := x b o e
 ⟨o', e', w1, w2, w3, fun t => (w4 t.l).symm ▸ t.mk' fun b o e y => by refine (x b o e).elim fun o' aj => (aj).elim fun e' ax => (ax).elim fun _ aP => (aP).elim fun _ bG => (bG).elim fun w3 _ => ?_; exact ⟨o', e', w3 y⟩⟩
theorem a6.of {h h' : Heap} (x : ∀ b o, h.get? b = some o → h'.get? b = some o) : a6 h h' := a6.mk' fun b o e => ⟨o, x b o e, id, id, id, fun J => rfl⟩
theorem a6.trans {h h' FC : Heap} (x : a6 h h') (y : a6 h' FC) : a6 h FC := fun b o e => by refine (x b o e).elim fun _ aj => (aj).elim fun e1 w => ?_; exact by refine (y b _ e1).elim fun o2 aj => (aj).elim fun e2 v => ?_; exact ⟨o2, e2, fun t => v.tb (w.tb t), fun t => v.no (w.no t), fun t => v.cd (w.cd t), fun t => v.tab (w.tab t)⟩
theorem a6.tb {h h' : Heap} (x : a6 h h') : ∀ b o, h.get? b = some o → a9 o → ∃ o', h'.get? b = some o' ∧ a9 o' := fun b o e t => by refine (x b o e).elim fun o' aj => (aj).elim fun e' w => ?_; exact ⟨o', e', w.tb t⟩
theorem dk.ck {h h' : Heap} {v : Value} (y : dk h v) (x : a6 h h') : dk h' v := by refine (y).elim fun c aj => (aj).elim fun o ax => (ax).elim fun e aP => (aP).elim fun e1 w => ?_; exact by refine (x c o e1).elim fun o' aj => (aj).elim fun e' k => ?_; exact ⟨c, o', e, e', k.cd w⟩
def oR (h h' : Heap) : Prop := ∀ b o, h.get? b = some o → a9 o ∨ bc o → ∃ o', h'.get? b = some o' ∧ (a9 o → a9 o') ∧ (bc o → bc o')
theorem a6.l {h h' : Heap} (x : a6 h h') : oR h h' := fun b o e J => by refine (x b o e).elim fun o' aj => (aj).elim fun e' w => ?_; exact ⟨o', e', w.tb, w.cd⟩
theorem oR.tb {h h' : Heap} (x : oR h h') : ∀ b o, h.get? b = some o → a9 o → ∃ o', h'.get? b = some o' ∧ a9 o' := fun b o e t => by refine (x b o e (.inl t)).elim fun o' aj => (aj).elim fun e' ax => (ax).elim fun w _ => ?_; exact ⟨o', e', w t⟩
theorem dk.D3 {h h' : Heap} {v : Value} (y : dk h v) (x : oR h h') : dk h' v := by refine (y).elim fun c aj => (aj).elim fun o ax => (ax).elim fun e aP => (aP).elim fun e1 w => ?_; exact by refine (x c o e1 (.inr w)).elim fun o' aj => (aj).elim fun e' ax => (ax).elim fun _ k => ?_; exact ⟨c, o', e, e', k w⟩
def TabAt (h : Heap) (P : Nat) : Prop := ∃ o, h.get? P = some o ∧ gj h o
theorem TabAt.ck {h h' : Heap} {P : Nat} (y : TabAt h P) (x : a6 h h') : TabAt h' P := by refine (y).elim fun o aj => (aj).elim fun e w => ?_; exact by refine (x P o e).elim fun o' aj => (aj).elim fun e' k => ?_; exact ⟨o', e', k.tab w⟩
structure Le (Z : aL) (L : Nat) (c : Cfg) (s : Shared) (c' : Cfg) (s' : Shared) : Prop where
 n : c.n ≤ c'.n
 nv : c.nv ≤ c'.nv
 σ : ∀ i, i < c.n → c'.σ i = c.σ i
 ρ : ∀ k, k < c.nv → c'.ρ.i k = c.ρ.i k ∧ c'.ρ.bo k = c.ρ.bo k ∧ c'.ρ.g = c.ρ.g
 ck : a6 s.heap s'.heap
 old : ∀ b o, Z.h₀.get? b = some o → s.heap.get? b = some o → s'.heap.get? b = some o
 keep : ∀ b o, s.heap.get? b = some o → b ≠ L → (∀ i, i < c.n → b ≠ (c.σ i).1 ∧ b ≠ (c.σ i).2) → ∃ o', s'.heap.get? b = some o' ∧ gZ o o'
 new : ∀ i, c.n ≤ i → i < c'.n → s.heap.get? (c'.σ i).1 = none ∧ s.heap.get? (c'.σ i).2 = none
structure Hp (c : Cfg) (A : AS) (s : Shared) : Prop where
 base : ∀ b o, Z.h₀.get? b = some o → s.heap.get? b = some o
 gens : s.gens = #[]
 os : s.os = Z.tC
 n : c.n = A.n
 nv : c.nv = A.vars.length
 vars : ∀ k d, A.vars[k]? = some d → VD.ok c.ρ k d
 objs : ∀ i o, A.heap.get i = some o → br Z c s.heap i o
 lt : ∀ i o, A.heap.get i = some o → i < c.n
 lo : ∀ i, i < c.n → Z.h₀.get? (c.σ i).1 = none ∧ Z.h₀.get? (c.σ i).2 = none
 up : ∀ i, i < c.n → Has s.heap (c.σ i).1 ∧ Has s.heap (c.σ i).2
 apart : ∀ i j, i < c.n → j < c.n → i ≠ j → (c.σ i).1 ≠ (c.σ j).1 ∧ (c.σ i).1 ≠ (c.σ j).2 ∧ (c.σ i).2 ≠ (c.σ j).1 ∧ (c.σ i).2 ≠ (c.σ j).2
structure Frm (L : Nat) (c : Cfg) (locs : List (Nat × V)) (s : Shared) : Prop where
 oS : Z.h₀.get? L = none
 bw : Has s.heap L
 off : ∀ i, i < c.n → L ≠ (c.σ i).1 ∧ L ≠ (c.σ i).2
 ns : ∃ m, s.heap.Ns L m ∧ ∀ x v, af x locs = some v → ∃ u, m (Z.nm x) = some u ∧ VR c v u
structure Fm where
 cs : List (Nat × Nat)
 hd : Option Nat
 frs : List Env
def De (c : Cfg) (h : Heap) (a b : Option Nat) : Prop := match a, b with
 | none, none => True
 | some i, some x => i < c.n ∧ (c.σ i).1 = x ∧ ∃ o, h.get? x = some o ∧ dU o
 | _, _ => False
def uq (c : Cfg) (s : Shared) (b : Nat) : Prop := Z.h₀.get? b = none ∧ (∃ o, s.heap.get? b = some o ∧ ∃ es ep, o.data = .dict es ep) ∧ ∀ i, i < c.n → b ≠ (c.σ i).1 ∧ b ≠ (c.σ i).2
structure St (L : Nat) (cs : Fm) (c : Cfg) (A : AS) (s : Shared) : Prop extends Hp Z c A s, Frm Z L c A.locs s where
 cells : A.cells = cs.cs
 hd : De c s.heap A.hd cs.hd
 outs : ∀ b ∈ cs.frs.filterMap (·.frame), uq Z c s b
 tabs : ∀ P ∈ Z.tabs, TabAt s.heap P
end
theorem SI.lt.mono {n m : Nat} (h : n ≤ m) : ∀ {x : SI}, SI.lt n x → SI.lt m x
 | .lit _, _ => trivial
 | .va .., x => Nat.lt_of_lt_of_le x h
theorem Seg.lt.mono {n m : Nat} (h : n ≤ m) : ∀ {x : Seg}, Seg.lt n x → Seg.lt m x
 | .lit _, _ => trivial
 | .rep .., x => Nat.lt_of_lt_of_le x h
 | .ef .., x => Nat.lt_of_lt_of_le x h
 | .be .., x => Nat.lt_of_lt_of_le x h
theorem BS.lt.mono {n m : Nat} (h : n ≤ m) : ∀ {x : BS}, BS.lt n x → BS.lt m x
 | [], _ => trivial
 | _ :: _, x => ⟨x.1.mono h, BS.lt.mono h x.2⟩
def Agree (m : Nat) (ρ nF : Val) : Prop := ∀ k, k < m → nF.i k = ρ.i k ∧ nF.bo k = ρ.bo k ∧ nF.g = ρ.g
theorem SI.cQ {m : Nat} {ρ nF : Val} (h : Agree m ρ nF) : ∀ {x : SI}, SI.lt m x → SI.den nF x = SI.den ρ x
 | .lit _, _ => rfl
 | .va k o, x => congrArg (· + o) (h k x).1
theorem Seg.cQ {m : Nat} {ρ nF : Val} (h : Agree m ρ nF) : ∀ {x : Seg}, Seg.lt m x → Seg.den nF x = Seg.den ρ x
 | .lit _, _ => rfl
 | .rep k n, x => by refine (?_ : List.replicate _ _ = List.replicate _ _); refine ae ((h k x).1) ?_; rfl
 | .ef k o n, x => by refine (?_ : List.map (fun j => (nF.bo k).1 (o + j)) _ = List.map (fun j => (ρ.bo k).1 (o + j)) _); refine ae ((h k x).2.1) ?_; rfl
 | .be k o n a m, x => by refine (?_ : List.map (fun j => lD n (nF.i k + o).toNat (a + j)) _ = List.map (fun j => lD n (ρ.i k + o).toNat (a + j)) _); refine ae ((h k x).1) ?_; rfl
theorem BS.cQ {m : Nat} {ρ nF : Val} (h : Agree m ρ nF) : ∀ {x : BS}, BS.lt m x → BS.den nF x = BS.den ρ x
 | [], _ => rfl
 | y :: r, x => by refine (?_ : Seg.den nF y ++ BS.den nF r = _); refine ae (Seg.cQ h x.1) ?_; refine ae (BS.cQ h x.2) ?_; rfl
theorem VD.wU {m : Nat} {ρ nF : Val} (h : Agree m ρ nF) {k : Nat} (hk : k < m) : ∀ {d : VD}, VD.ok ρ k d → VD.ok nF k d
 | .int lo hi, x => by dsimp only [VD.ok]; refine ae ((h k hk).1) ?_; exact x
 | .oct, _ => trivial
 | .lt j, ⟨h1, x⟩ => ⟨h1, by refine ae ((h k hk).1) ?_; refine ae ((h j (Nat.lt_trans h1 hk)).1) ?_; exact x⟩
 | .gi m, x => by dsimp only [VD.ok]; refine ae ((h k hk).1) ?_; refine ae ((h k hk).2.2) ?_; exact x
 | .any, x => x
structure bu (c c' : Cfg) : Prop where
 n : c.n ≤ c'.n
 nv : c.nv ≤ c'.nv
 σ : ∀ i, i < c.n → c'.σ i = c.σ i
 ρ : Agree c.nv c.ρ c'.ρ
theorem bu.refl (c : Cfg) : bu c c := ⟨Nat.le_refl _, Nat.le_refl _, fun J J => rfl, fun J J => ⟨rfl, rfl, rfl⟩⟩
theorem bu.trans {a b c : Cfg} (x : bu a b) (y : bu b c) : bu a c :=
 ⟨Nat.le_trans x.n y.n, Nat.le_trans x.nv y.nv, fun i h => (y.σ i (Nat.lt_of_lt_of_le h x.n)).trans (x.σ i h),
  fun k h => ⟨(y.ρ k (Nat.lt_of_lt_of_le h x.nv)).1.trans (x.ρ k h).1, (y.ρ k (Nat.lt_of_lt_of_le h x.nv)).2.1.trans (x.ρ k h).2.1, (y.ρ k (Nat.lt_of_lt_of_le h x.nv)).2.2.trans (x.ρ k h).2.2⟩⟩
theorem Le.grown {Z L c s c' s'} (x : Le Z L c s c' s') : bu c c' := ⟨x.n, x.nv, x.σ, x.ρ⟩
theorem VR.mono {c c' : Cfg} (g : bu c c') : ∀ {v : V} {u : Value}, VR c v u → VR c' v u
 | .none, _, x => x
 | .bool _, _, x => x
 | .int i, _, ⟨h, t, e⟩ => ⟨h.mono g.nv, t, by refine ae (SI.cQ g.ρ h) ?_; exact e⟩
 | .str _, _, x => x
 | .bytes b, _, ⟨h, t, e⟩ => ⟨h.mono g.nv, t, by refine ae (BS.cQ g.ρ h) ?_; exact e⟩
 | .loc i, _, ⟨h, e⟩ => ⟨Nat.lt_of_lt_of_le h g.n, by refine ae (g.σ i h) ?_; exact e⟩
 | .fn _, _, x => x
 | .cls _, _, x => x
 | .ty _, _, x => x
 | .bi _, _, x => x
 | .bb, _, x => x
theorem aS.imp {α β : Type} {R R' : α → β → Prop} (h : ∀ a b, R a b → R' a b) {l : List α} {m : List β} (x : aS R l m) : aS R' l m := by
 induction x with
 | nil => exact .nil
 | cons a _ ih => exact .cons (h _ _ a) ih
theorem aS.length {α β : Type} {R : α → β → Prop} {l : List α} {m : List β} (x : aS R l m) : l.length = m.length := by
 induction x with
 | nil => rfl
 | cons _ _ ih => (refine ae List.length_cons ?_; refine ae List.length_cons ?_; refine ae ih ?_; rfl)
theorem aS.at {α β : Type} {R : α → β → Prop} {l : List α} {m : List β} (x : aS R l m) : ∀ {i : Nat} {a : α}, l[i]? = some a → ∃ b, m[i]? = some b ∧ R a b := by
 induction x with
 | nil => intro i a h; cases h
 | cons r _ ih =>
  intro i a h
  cases i with
  | zero => obtain rfl := aO h; exact ⟨_, rfl, r⟩
  | succ i => exact ih h
theorem aS.append {α β : Type} {R : α → β → Prop} {l l' : List α} {m m' : List β} (x : aS R l m) (y : aS R l' m') : aS R (l ++ l') (m ++ m') := by
 induction x with
 | nil => exact y
 | cons r _ ih => exact .cons r ih
theorem aS.drop {α β : Type} {R : α → β → Prop} {l : List α} {m : List β} (x : aS R l m) : ∀ n, aS R (l.drop n) (m.drop n) := by
 induction x with
 | nil => intro n; simp -iota only [List.drop_nil]; exact .nil
 | cons r t ih =>
  intro n
  cases n with
  | zero => exact .cons r t
  | succ n => exact ih n
theorem aS.take {α β : Type} {R : α → β → Prop} {l : List α} {m : List β} (x : aS R l m) : ∀ n, aS R (l.take n) (m.take n) := by
 induction x with
 | nil => intro n; simp -iota only [List.take_nil]; exact .nil
 | cons r t ih =>
  intro n
  cases n with
  | zero => exact .nil
  | succ n => exact .cons r (ih n)
section
variable {Z : aL}
theorem yZ.mono {c c' : Cfg} (g : bu c c') {v : Option V} {u : Option Value} (x : yZ c v u) : yZ c' v u := by
 cases v <;> cases u <;> first | exact x | exact VR.mono g x
theorem oQ.keep {h₀ h h' : Heap} {v : Option Value} (x : oQ h₀ h v) (kt : ∀ b o, h.get? b = some o → a9 o → ∃ o', h'.get? b = some o' ∧ a9 o') : oQ h₀ h' v := by
 rcases x with x | ⟨T, o, h1, h0, h2, h3⟩
 ·exact .inl x
 ·refine (kt T o h2 h3).elim fun o' aj => (aj).elim fun q q' => ?_
  exact .inr ⟨T, o', h1, h0, q, q'⟩
theorem IsDictOf.gk {K : Type} [DecidableEq K] {prog : Program} {w : World} {knd : KeyKind prog w K} {o : Obj} {aF : List (K × Value)} (x : o.IsDictOf knd aF) : ¬ dF o := by refine (x).elim fun _ aj => (aj).elim fun _ ax => (ax).elim fun x _ => ?_; exact (a7 x.1 (by decide)).1
theorem br.keep {c c' : Cfg} {h h' : Heap} {i : Nat} {o : aw} (g : bu c c') (hi : i < c.n) (x : br Z c h i o)
 (k1 : ∀ ob, h.get? (c.σ i).1 = some ob → ¬ dF ob → h'.get? (c.σ i).1 = some ob) (k2 : ∀ ob, h.get? (c.σ i).2 = some ob → ¬ dF ob → h'.get? (c.σ i).2 = some ob)
 (kt : oR h h') : br Z c' h' i o := by
 refine (?_ : wR Z c' h' (c'.σ i) o)
 refine ae (g.σ i hi) ?_
 have x : wR Z c h (c.σ i) o := x
 cases o with
 | inst C fs =>
  obtain ⟨h1, h3, es, n, h2, h4⟩ := x
  exact ⟨k1 _ h1 (bD (fun J q => Data.noConfusion q)).1, h3, es, n, k2 _ h2 (bD (fun J q => Data.noConfusion q)).1, h4.imp fun J J y => ⟨y.1, y.2.mono g⟩⟩
 | list xs => obtain ⟨vs, ep, h1, h2⟩ := x; exact ⟨vs, ep, k1 _ h1 (bD (fun J q => Data.noConfusion q)).1, h2.imp fun J J y => y.mono g⟩
 | tup xs => refine (x).elim fun vs aj => (aj).elim fun h1 h2 => ?_; exact ⟨vs, k1 _ h1 (bD (fun J q => Data.noConfusion q)).1, h2.imp fun J J y => y.mono g⟩
 | aB es => obtain ⟨ob, aF, h1, h2, h3⟩ := x; exact ⟨ob, aF, k1 _ h1 (IsDictOf.gk h2), h2, h3.imp fun J J y => ⟨y.1, y.2.mono g⟩⟩
 | aX es => obtain ⟨ob, aF, h1, h2, h3⟩ := x; exact ⟨ob, aF, k1 _ h1 (IsDictOf.gk h2), h2, h3.imp fun J J y => ⟨y.1, y.2.mono g⟩⟩
 | a5 => refine (x).elim fun ob aj => (aj).elim fun h1 h2 => ?_; exact ⟨ob, k1 _ h1 (a7 h2.1.1 (by decide)).1, h2⟩
 | bW b => refine (x).elim fun h0 h1 => ?_; exact ⟨h0.mono g.nv, by refine ae (BS.cQ g.ρ h0) ?_; exact k1 _ h1 (bD (fun J q => Data.noConfusion q)).1⟩
 | cell v => refine (x).elim fun u aj => (aj).elim fun ax h2 => (ax).elim fun ob aP => (aP).elim fun h1 FD => ?_; exact ⟨u, ⟨ob, k1 _ h1 (bD fun J q => by rw [FD] at q; cases q).1, FD⟩, h2.mono g⟩
 | iA lo hi st => refine (x).elim fun t aj => (aj).elim fun t' ax => (ax).elim fun Dd h1 => ?_; exact ⟨t, t', Dd, k1 _ h1 (a7 rfl (by decide)).1⟩
 | cX n es =>
  refine (x).elim fun h1 aj => (aj).elim fun h2 ax => (ax).elim fun aF aP => (aP).elim fun h3 h4 => ?_
  have eo : c'.ρ.o n = c.ρ.o n := congrArg Prod.snd (g.ρ n h1).2.1
  exact ⟨Nat.lt_of_lt_of_le h1 g.nv, eo ▸ k1 _ h2 (IsDictOf.gk h3), aF, eo ▸ h3, h4.imp fun J J y => ⟨y.1, y.2.mono g⟩⟩
 | rl n xs =>
  refine (x).elim fun h1 aj => (aj).elim fun h2 ax => (ax).elim fun vs aP => (aP).elim fun ep bG => (bG).elim fun h3 h4 => ?_
  have eo : c'.ρ.o n = c.ρ.o n := congrArg Prod.snd (g.ρ n h1).2.1
  exact ⟨Nat.lt_of_lt_of_le h1 g.nv, eo ▸ k1 _ h2 (by refine ae h3 ?_; exact (bD (fun J q => Data.noConfusion q)).1), vs, ep, eo ▸ h3, h4.imp fun J J y => y.mono g⟩
 | gone => trivial
 | src => obtain ⟨d, m, t, t', ep, h1, h2⟩ := x; exact ⟨d, m, t, t', ep, k1 _ h1 (bD (fun J q => Data.noConfusion q)).1, h2⟩
 | exc C =>
  obtain ⟨oe, vs, h1, h2, h4, h5, h6⟩ := x
  exact ⟨oe, vs, k1 _ h1 (fun q => q.notRef h2), h2, h4, h5, h6.keep kt.tb⟩
 | qZ C =>
  obtain ⟨oe, vs, h1, h2, h4, h5, h6, h7⟩ := x
  exact ⟨oe, vs, k1 _ h1 (fun q => q.notRef h2), h2, h4, h5, h6.keep kt.tb, h7⟩
 | AN cs b =>
  obtain ⟨name, qual, ar, y, scope, cl, pm, cv, ct, h1, h2, h3, h4, h5⟩ := x
  exact ⟨name, qual, ar, y, scope, cl, pm, cv, ct, k1 _ h1 (bD (fun J q => Data.noConfusion q)).1, h2.D3 kt, h3, h4, fun z j q e => ⟨Nat.lt_of_lt_of_le (h5 z j q e).1 g.n, by refine ae (g.σ j (h5 z j q e).1) ?_; exact (h5 z j q e).2⟩⟩
 | jl m => refine (x).elim fun vs aj => (aj).elim fun ep ax => (ax).elim fun h1 h2 => ?_; exact ⟨vs, ep, k1 _ h1 (bD (fun J q => Data.noConfusion q)).1, h2⟩
 | ay es => obtain ⟨fs, ob, aF, h1, h2, h3, h4⟩ := x; exact ⟨fs, ob, aF, k1 _ h1 (IsDictOf.gk h2), h2, h3, h4.imp fun J J y => ⟨y.1, y.2.mono g⟩⟩
theorem dF.notDict {o : Obj} (x : dF o) (h : ∃ es ep, o.data = .dict es ep) : False := by
 refine (x.fields).elim fun vs e => ?_
 refine (h).elim fun es aj => (aj).elim fun ep h => ?_
 rw [e] at h; cases h
theorem gZ.trans {o o' FE : Obj} (x : gZ o o') (y : gZ o' FE) : gZ o FE := by
 rcases x with rfl | ⟨h, sl, rfl⟩ | ⟨h, h'⟩
 ·exact y
 ·rcases y with rfl | ⟨_, Mq, rfl⟩ | ⟨k, _⟩
  ·exact .inr (.inl ⟨h, sl, rfl⟩)
  ·exact .inr (.inl ⟨h, Mq, rfl⟩)
  ·exact (dF.notDict k h).elim
 ·rcases y with rfl | ⟨k, _⟩ | ⟨_, k⟩
  ·exact .inr (.inr ⟨h, h'⟩)
  ·exact (dF.notDict h' k).elim
  ·exact .inr (.inr ⟨h, k⟩)
theorem gZ.same {o o' : Obj} (x : gZ o o') (h1 : ∀ es ep, o.data ≠ .dict es ep) (h2 : ¬ dF o) : o' = o := by
 rcases x with h | ⟨⟨es, ep, h⟩, _⟩ | ⟨h, _⟩
 ·exact h
 ·exact absurd h (h1 es ep)
 ·exact absurd h h2
theorem Le.refl (L : Nat) (c : Cfg) (s : Shared) : Le Z L c s c s :=
 ⟨Nat.le_refl _, Nat.le_refl _, fun J J => rfl, fun J J => ⟨rfl, rfl, rfl⟩, a6.of fun J J e => e, fun J J J e => e, fun J o e J J => ⟨o, e, .inl rfl⟩, fun i h h' => absurd h (Nat.not_le_of_lt h')⟩
theorem Le.trans {L : Nat} {c c' wV : Cfg} {s s' eB : Shared} (x : Le Z L c s c' s') (y : Le Z L c' s' wV eB) : Le Z L c s wV eB where
 n := Nat.le_trans x.n y.n
 nv := Nat.le_trans x.nv y.nv
 σ := (x.grown.trans y.grown).σ
 ρ := (x.grown.trans y.grown).ρ
 ck := x.ck.trans y.ck
 old := fun b o e0 e => y.old b o e0 (x.old b o e0 e)
 keep := fun b o e hb hn => by
  refine (x.keep b o e hb hn).elim fun o' aj => (aj).elim fun e' w => ?_
  obtain ⟨FE, GU, w'⟩ := y.keep b o' e' hb fun i hi => by
   by_cases q : i < c.n
   ·refine ae (x.σ i q) ?_; exact hn i q
   ·have := x.new i (Nat.le_of_not_lt q) hi
    exact ⟨Has.ne ⟨o, e⟩ this.1, Has.ne ⟨o, e⟩ this.2⟩
  exact ⟨FE, GU, w.trans w'⟩
 new := fun i h1 h2 => by
  by_cases q : i < c'.n
  ·refine ae (y.σ i q) ?_; exact x.new i h1 q
  ·have h := y.new i (Nat.le_of_not_lt q) h2
   have go : ∀ b, s'.heap.get? b = none → s.heap.get? b = none := fun b e => by
    cases e' : s.heap.get? b with
    | none => rfl
    | some o => refine (x.ck b o e').elim fun o' aj => (aj).elim fun h' _ => ?_; rw [e] at h'; cases h'
   exact ⟨go _ h.1, go _ h.2⟩
theorem De.le {L : Nat} {c c' : Cfg} {s s' : Shared} {a b : Option Nat} (x : De c s.heap a b) (le : Le Z L c s c' s') : De c' s'.heap a b := by
 cases a <;> cases b <;> first | exact x | skip
 refine (x).elim fun h1 aj => (aj).elim fun h2 ax => (ax).elim fun o aP => (aP).elim fun h3 h4 => ?_
 refine (le.ck _ o h3).elim fun o' aj => (aj).elim fun e' w => ?_
 exact ⟨Nat.lt_of_lt_of_le h1 le.n, by refine ae (le.σ _ h1) ?_; exact h2, o', e', w.no h4⟩
theorem uq.le {L : Nat} {c c' : Cfg} {s s' : Shared} {b : Nat} (x : uq Z c s b) (le : Le Z L c s c' s') (hL : ∀ o, s'.heap.get? L = some o → ∃ es ep, o.data = .dict es ep) : uq Z c' s' b := by
 refine (x).elim fun h0 aj => (aj).elim fun ax h3 => (ax).elim fun o aP => (aP).elim fun h1 h2 => ?_
 refine ⟨h0, ?_, fun i hi => ?_⟩
 ·by_cases q : b = L
  ·obtain ⟨o', e', _⟩ := le.ck _ o h1
   exact ⟨o', e', hL o' (q ▸ e')⟩
  ·obtain ⟨o', e', w⟩ := le.keep b o h1 q h3
   refine ⟨o', e', ?_⟩
   rcases w with rfl | ⟨_, sl, rfl⟩ | ⟨t, _⟩
   ·exact h2
   ·exact h2
   ·exact (t.notDict h2).elim
 ·by_cases q : i < c.n
  ·refine ae (le.σ i q) ?_; exact h3 i q
  ·have := le.new i (Nat.le_of_not_lt q) hi
   exact ⟨Has.ne ⟨o, h1⟩ this.1, Has.ne ⟨o, h1⟩ this.2⟩
theorem Ns.data {h : Heap} {a : Nat} {m : Str → Option Value} (x : h.Ns a m) : ∀ o, h.get? a = some o → ∃ es ep, o.data = .dict es ep := fun o e => by
 obtain ⟨o', es, ep, h1, h2, _⟩ := x
 rw [e] at h1; obtain rfl := aO h1
 exact ⟨es, ep, h2⟩
theorem St.next {L : Nat} {cs : Fm} {c c' : Cfg} {A A' : AS} {s s' : Shared} (H : St Z L cs c A s) (hp : Hp Z c' A' s') (fr : Frm Z L c' A'.locs s') (hc : A'.cells = A.cells) (hh : A'.hd = A.hd) (le : Le Z L c s c' s') : St Z L cs c' A' s' :=
 ⟨hp, fr, hc.trans H.cells, hh ▸ H.hd.le le, fun b m => (H.outs b m).le le (by refine (fr.ns).elim fun _ aj => (aj).elim fun h1 _ => ?_; exact Ns.data h1), fun P m => (H.tabs P m).ck le.ck⟩
end
section
variable {Z : aL} {L : Nat} {cs : Fm} {c c' : Cfg} {A A' : AS} {s s' : Shared}
theorem cR {d : Nat} {h h' : Heap} (x : Heap.SameBut d h h') (p : Has h' d) (hn : ∀ o, h.get? d = some o → jV o) : a6 h h' := a6.mk' fun b o e =>
 (Decidable.em (b = d)).elim (fun q => by refine (p).elim fun o' e' => ?_; exact let n := hn o (q ▸ e); ⟨o', q ▸ e', fun t => absurd (.inl t) n.1, fun t => absurd t n.2.1, fun t => absurd t n.2.2, fun t => absurd (.inr t) n.1⟩) fun q => ⟨o, (x.2 b q).trans e, id, id, id, fun J => rfl⟩
theorem Ns.gk {h : Heap} {a : Nat} {m : Str → Option Value} (x : h.Ns a m) : ∀ o, h.get? a = some o → jV o := fun o e => by refine (Ns.data x o e).elim fun _ aj => (aj).elim fun _ q => ?_; exact bD fun J r => by rw [q] at r; cases r
theorem Ns.at {h h' : Heap} {a : Addr} {m : Str → Option Value} (x : h.Ns a m) (k : ∀ o, h.get? a = some o → h'.get? a = some o) : h'.Ns a m := by
 refine (x).elim fun o aj => (aj).elim fun es ax => (ax).elim fun ep aP => (aP).elim fun h1 h2 => ?_
 exact ⟨o, es, ep, k o h1, h2⟩
theorem Hp.still (H : Hp Z c A s) (hk : ∀ b o, s.heap.get? b = some o → b ≠ L → s'.heap.get? b = some o) (hs : a6 s.heap s'.heap) (hg : s'.gens = #[]) (ho : s'.os = s.os)
 (FF : Z.h₀.get? L = none) (ej : ∀ i, i < c.n → L ≠ (c.σ i).1 ∧ L ≠ (c.σ i).2) : Hp Z c A s' where
 base := fun b o e => hk b o (H.base b o e) (Has.ne ⟨o, e⟩ FF)
 gens := hg
 os := ho.trans H.os
 n := H.n
 nv := H.nv
 vars := H.vars
 objs := fun i o e => by
  have hi : i < c.n := H.lt i o e
  exact (H.objs i o e).keep (bu.refl c) hi (fun ob q J => hk _ ob q (Ne.symm (ej i hi).1)) (fun ob q J => hk _ ob q (Ne.symm (ej i hi).2)) hs.l
 lt := H.lt
 lo := H.lo
 up := fun i hi => ⟨hs.has (H.up i hi).1, hs.has (H.up i hi).2⟩
 apart := H.apart
theorem Hp.change (H : Hp Z c A s) {j : Nat} (hj : j < c.n) {o' : aw} (hk : ∀ b o, s.heap.get? b = some o → b ≠ (c.σ j).1 → b ≠ (c.σ j).2 → s'.heap.get? b = some o)
 (hs : a6 s.heap s'.heap) (ho : br Z c s'.heap j o') (hg : s'.gens = #[]) (oU : s'.os = s.os) : Hp Z c (A.put j o') s' where
 base := fun b o e => by
  have := H.lo j hj
  exact hk b o (H.base b o e) (Has.ne ⟨o, e⟩ this.1) (Has.ne ⟨o, e⟩ this.2)
 gens := hg
 os := oU.trans H.os
 n := H.n
 nv := H.nv
 vars := H.vars
 objs := fun i o e => by
  have e : (A.heap.put j o').get i = some o := e
  rw [Tr.ba] at e
  by_cases q : i = j
  ·subst q
   rw [if_pos rfl] at e
   obtain rfl := aO e; exact ho
  ·rw [if_neg q] at e
   have hi : i < c.n := H.lt i o e
   have ap := H.apart i j hi hj q
   exact (H.objs i o e).keep (bu.refl c) hi (fun ob r J => hk _ ob r ap.1 ap.2.1) (fun ob r J => hk _ ob r ap.2.2.1 ap.2.2.2) hs.l
 lt := fun i o e => by
  have e : (A.heap.put j o').get i = some o := e
  rw [Tr.ba] at e
  by_cases q : i = j
  ·subst q; exact hj
  ·rw [if_neg q] at e; exact H.lt i o e
 lo := H.lo
 up := fun i hi => ⟨hs.has (H.up i hi).1, hs.has (H.up i hi).2⟩
 apart := H.apart
noncomputable def Cfg.push (c : Cfg) (p : Nat × Nat) : Cfg := { c with σ := fun i => if i = c.n then p else c.σ i, n := c.n + 1 }
theorem Cfg.aJ (c : Cfg) (p : Nat × Nat) : bu c (c.push p) :=
 ⟨Nat.le_succ _, Nat.le_refl _, fun i h => if_neg (Nat.ne_of_lt h), fun J J => ⟨rfl, rfl, rfl⟩⟩
theorem Cfg.aI (c : Cfg) (p : Nat × Nat) : (c.push p).σ c.n = p := if_pos rfl
theorem Hp.alloc (H : Hp Z c A s) {o : aw} {p : Nat × Nat} (hk : ∀ b o, s.heap.get? b = some o → s'.heap.get? b = some o)
 (h1 : s.heap.get? p.1 = none ∧ Has s'.heap p.1) (h2 : s.heap.get? p.2 = none ∧ Has s'.heap p.2) (ho : br Z (c.push p) s'.heap c.n o) (hg : s'.gens = #[]) (oU : s'.os = s.os) :
 Hp Z (c.push p) (A.alloc o).2 s' where
 base := fun b o e => hk b o (H.base b o e)
 gens := hg
 os := oU.trans H.os
 n := congrArg Nat.succ H.n
 nv := H.nv
 vars := H.vars
 objs := fun i ob e => by
  have e : (A.heap.put A.n o).get i = some ob := e
  rw [Tr.ba] at e
  by_cases q : i = A.n
  ·subst q
   rw [if_pos rfl] at e
   obtain rfl := aO e; refine bK H.n ?_; exact ho
  ·rw [if_neg q] at e
   exact (H.objs i ob e).keep (c.aJ p) (H.lt i ob e) (fun J r J => hk _ _ r) (fun J r J => hk _ _ r) (a6.of hk).l
 lt := fun i ob e => by
  have e : (A.heap.put A.n o).get i = some ob := e
  rw [Tr.ba] at e
  by_cases q : i = A.n
  ·subst q; refine bK H.n ?_; exact Nat.lt_succ_self _
  ·rw [if_neg q] at e; exact Nat.lt_succ_of_lt (H.lt i ob e)
 lo := fun i hi => by
  by_cases q : i = c.n
  ·subst q; rw [c.aI]
   have go : ∀ b, s.heap.get? b = none → Z.h₀.get? b = none := fun b e => by
    cases e' : Z.h₀.get? b with
    | none => rfl
    | some o => have := H.base b o e'; rw [e] at this; cases this
   exact ⟨go _ h1.1, go _ h2.1⟩
  ·have cP : i < c.n := Nat.lt_of_le_of_ne (Nat.le_of_lt_succ hi) q
   refine ae ((c.aJ p).σ i cP) ?_; exact H.lo i cP
 up := fun i hi => by
  by_cases q : i = c.n
  ·subst q; rw [c.aI]; exact ⟨h1.2, h2.2⟩
  ·have cP : i < c.n := Nat.lt_of_le_of_ne (Nat.le_of_lt_succ hi) q
   refine ae ((c.aJ p).σ i cP) ?_
   refine (H.up i cP).elim fun aj ax => (aj).elim fun o1 q1 => (ax).elim fun o2 q2 => ?_
   exact ⟨⟨o1, hk _ _ q1⟩, ⟨o2, hk _ _ q2⟩⟩
 apart := fun i j hi hj wW => by
  have Ky : i < c.n + 1 := hi
  have Mr : j < c.n + 1 := hj
  by_cases q : i = c.n
  ·by_cases r : j = c.n
   ·exact absurd (q.trans r.symm) wW
   ·have wX : j < c.n := by omega
    subst q
    rw [c.aI, (c.aJ p).σ j wX]
    have := H.up j wX
    exact ⟨(this.1.ne h1.1).symm, (this.2.ne h1.1).symm, (this.1.ne h2.1).symm, (this.2.ne h2.1).symm⟩
  ·have cP : i < c.n := by omega
   refine ae ((c.aJ p).σ i cP) ?_
   by_cases r : j = c.n
   ·subst r
    rw [c.aI]
    have := H.up i cP
    exact ⟨this.1.ne h1.1, this.1.ne h2.1, this.2.ne h1.1, this.2.ne h2.1⟩
   ·have wX : j < c.n := by omega
    refine ae ((c.aJ p).σ j wX) ?_
    exact H.apart i j cP wX wW
noncomputable def Cfg.draw (c : Cfg) (i : Int) (b : Nat → UInt8) (o : Obj := emptyDict) : Cfg :=
 { c with ρ := ⟨c.ρ.g, fun k => if k = c.nv then i else c.ρ.i k, fun k => if k = c.nv then (b, o) else c.ρ.bo k⟩, nv := c.nv + 1 }
theorem Cfg.dG (c : Cfg) (i : Int) (b : Nat → UInt8) (o : Obj := emptyDict) : bu c (c.draw i b o) :=
 ⟨Nat.le_refl _, Nat.le_succ _, fun J J => rfl, fun k h => ⟨if_neg (Nat.ne_of_lt h), if_neg (Nat.ne_of_lt h), rfl⟩⟩
theorem Hp.fresh (H : Hp Z c A s) {d : VD} {i : Int} {b : Nat → UInt8} {o : Obj} (hd : VD.ok (c.draw i b o).ρ c.nv d) : Hp Z (c.draw i b o) (A.fresh d).2 s where
 base := H.base
 gens := H.gens
 os := H.os
 n := H.n
 nv := by refine (?_ : c.nv + 1 = (oL A.vars [d]).length); rw [jA, List.length_append, H.nv]; rfl
 vars := fun k d' e => by
  have e : (oL A.vars [d])[k]? = some d' := e
  rw [jA, List.getElem?_append] at e
  by_cases q : k < A.vars.length
  ·rw [if_pos q] at e
   exact VD.wU (c.dG i b o).ρ (H.nv ▸ q) (H.vars k d' e)
  ·rw [if_neg q] at e
   have : k = A.vars.length := by
    have := (yH e).1
    simp -iota only [List.length_singleton] at this
    omega
   subst this
   rw [Nat.sub_self] at e
   obtain rfl := aO e
   refine bK H.nv ?_; exact hd
 objs := fun i ob e => (H.objs i ob e).keep (c.dG _ _ _) (H.lt i ob e) (fun J r J => r) (fun J r J => r) (a6.of fun J J e => e).l
 lt := H.lt
 lo := H.lo
 up := H.up
 apart := H.apart
theorem Frm.keep {locs : List (Nat × V)} (F : Frm Z L c locs s) (g : bu c c') (hk : ∀ o, s.heap.get? L = some o → s'.heap.get? L = some o)
 (hn : ∀ i, c.n ≤ i → i < c'.n → s.heap.get? (c'.σ i).1 = none ∧ s.heap.get? (c'.σ i).2 = none) : Frm Z L c' locs s' where
 oS := F.oS
 bw := by refine (F.bw).elim fun o h => ?_; exact ⟨o, hk o h⟩
 off := fun i hi => by
  by_cases q : i < c.n
  ·refine ae (g.σ i q) ?_; exact F.off i q
  ·have := hn i (Nat.le_of_not_lt q) hi
   exact ⟨F.bw.ne this.1, F.bw.ne this.2⟩
 ns := by
  refine (F.ns).elim fun m aj => (aj).elim fun hm hl => ?_
  exact ⟨m, Ns.at hm hk, fun x v e => by refine (hl x v e).elim fun u aj => (aj).elim fun h1 h2 => ?_; exact ⟨u, h1, h2.mono g⟩⟩
theorem Le.toks (t : Nat) : Le Z L c s c { s with toks := t } := ⟨Nat.le_refl _, Nat.le_refl _, fun J J => rfl, fun J J => ⟨rfl, rfl, rfl⟩, a6.of fun J J e => e, fun J J J e => e, fun J o e J J => ⟨o, e, .inl rfl⟩, fun i h h' => absurd h (Nat.not_le_of_lt h')⟩
theorem St.toks (H : St Z L cs c A s) (t : Nat) : St Z L cs c A { s with toks := t } := H.next ⟨H.base, H.gens, H.os, H.n, H.nv, H.vars, H.objs, H.lt, H.lo, H.up, H.apart⟩ ⟨H.oS, H.bw, H.off, H.ns⟩ rfl rfl (Le.toks t)
theorem Le.change (H : Hp Z c A s) {j : Nat} (hj : j < c.n) (hk : ∀ b o, s.heap.get? b = some o → b ≠ (c.σ j).1 → b ≠ (c.σ j).2 → s'.heap.get? b = some o) (hs : a6 s.heap s'.heap) : Le Z L c s c s' :=
 ⟨Nat.le_refl _, Nat.le_refl _, fun J J => rfl, fun J J => ⟨rfl, rfl, rfl⟩, hs, fun b o e0 e => hk b o e (Has.ne ⟨o, e0⟩ (H.lo j hj).1) (Has.ne ⟨o, e0⟩ (H.lo j hj).2), fun b o e J hn => ⟨o, hk b o e (hn j hj).1 (hn j hj).2, .inl rfl⟩, fun i h h' => absurd h (Nat.not_le_of_lt h')⟩
theorem St.change (H : St Z L cs c A s) {j : Nat} (hj : j < c.n) {o' : aw} (hk : ∀ b o, s.heap.get? b = some o → b ≠ (c.σ j).1 → b ≠ (c.σ j).2 → s'.heap.get? b = some o)
 (hs : a6 s.heap s'.heap) (ho : br Z c s'.heap j o') (hg : s'.gens = s.gens) (oU : s'.os = s.os) : St Z L cs c (A.put j o') s' :=
 H.next (H.toHp.change hj hk hs ho (hg.trans H.gens) oU) (H.toFrm.keep (bu.refl c) (fun o e => hk _ o e (H.off j hj).1 (H.off j hj).2) fun i h h' => absurd h (Nat.not_le_of_lt h')) rfl rfl (Le.change H.toHp hj hk hs)
theorem Le.bk (hk : ∀ b o, s.heap.get? b = some o → s'.heap.get? b = some o) : Le Z L c s c s' :=
 ⟨Nat.le_refl _, Nat.le_refl _, fun J J => rfl, fun J J => ⟨rfl, rfl, rfl⟩, a6.of hk, fun b o J e => hk b o e, fun b o e J J => ⟨o, hk b o e, .inl rfl⟩, fun i h h' => absurd h (Nat.not_le_of_lt h')⟩
theorem St.bk (H : St Z L cs c A s) (hk : ∀ b o, s.heap.get? b = some o → s'.heap.get? b = some o) (hg : s'.gens = s.gens) (oU : s'.os = s.os) : St Z L cs c A s' :=
 H.next (H.toHp.still (L := L) (fun b o e J => hk b o e) (a6.of hk) (hg.trans H.gens) oU H.oS H.off) (H.toFrm.keep (bu.refl c) (fun o e => hk _ o e) fun i h h' => absurd h (Nat.not_le_of_lt h')) rfl rfl (Le.bk hk)
theorem Le.alloc {p : Nat × Nat} (hk : ∀ b o, s.heap.get? b = some o → s'.heap.get? b = some o) (h1 : s.heap.get? p.1 = none) (h2 : s.heap.get? p.2 = none) :
 Le Z L c s (c.push p) s' :=
 ⟨Nat.le_succ _, Nat.le_refl _, (c.aJ p).σ, fun J J => ⟨rfl, rfl, rfl⟩, a6.of hk, fun b o J e => hk b o e, fun b o e J J => ⟨o, hk b o e, .inl rfl⟩, fun i h h' => by
  have : i = c.n := by have : i < c.n + 1 := h'; omega
  subst this
  rw [c.aI]; exact ⟨h1, h2⟩⟩
theorem St.alloc (H : St Z L cs c A s) {o : aw} {p : Nat × Nat} (hk : ∀ b o, s.heap.get? b = some o → s'.heap.get? b = some o)
 (h1 : s.heap.get? p.1 = none ∧ Has s'.heap p.1) (h2 : s.heap.get? p.2 = none ∧ Has s'.heap p.2) (ho : br Z (c.push p) s'.heap c.n o) (hg : s'.gens = s.gens) (oU : s'.os = s.os) :
 St Z L cs (c.push p) (A.alloc o).2 s' :=
 H.next (H.toHp.alloc hk h1 h2 ho (hg.trans H.gens) oU) (H.toFrm.keep (c.aJ p) (fun o e => hk _ o e) fun i h h' => by
  have : i = c.n := by have : i < c.n + 1 := h'; omega
  subst this
  rw [c.aI]; exact ⟨h1.1, h2.1⟩) rfl rfl (Le.alloc hk h1.1 h2.1)
theorem Le.fresh {i : Int} {b : Nat → UInt8} {o : Obj} : Le Z L c s (c.draw i b o) s :=
 ⟨Nat.le_refl _, Nat.le_succ _, fun J J => rfl, (c.dG i b o).ρ, a6.of fun J J e => e, fun J J J e => e, fun J o e J J => ⟨o, e, .inl rfl⟩, fun i h h' => absurd h (Nat.not_le_of_lt h')⟩
theorem St.fresh (H : St Z L cs c A s) {d : VD} {i : Int} {b : Nat → UInt8} {o : Obj} (hd : VD.ok (c.draw i b o).ρ c.nv d) : St Z L cs (c.draw i b o) (A.fresh d).2 s :=
 H.next (H.toHp.fresh hd) (H.toFrm.keep (c.dG i b o) (fun J e => e) fun i h h' => absurd h (Nat.not_le_of_lt h')) rfl rfl Le.fresh
theorem aK {α : Type} (y : Nat) (p : Nat × α) (r : List (Nat × α)) : af y (p :: r) = if p.1 = y then some p.2 else af y r := by
 refine (?_ : Bool.rec (motive := fun J => Option α) (af y r) (some p.2) (Nat.beq p.1 y) = _)
 cases h : Nat.beq p.1 y
 ·refine ae (if_neg (Nat.ne_of_beq_eq_false h)) ?_; rfl
 ·refine ae (if_pos (Nat.eq_of_beq_eq_true h)) ?_; rfl
theorem iH {α : Type} (x : Nat) (v : α) (p : Nat × α) (r : List (Nat × α)) : fi x v (p :: r) = if p.1 = x then (x, v) :: r else p :: fi x v r := by
 refine (?_ : Bool.rec (motive := fun J => List (Nat × α)) (p :: fi x v r) ((x, v) :: r) (Nat.beq p.1 x) = _)
 cases h : Nat.beq p.1 x
 ·refine ae (if_neg (Nat.ne_of_beq_eq_false h)) ?_; rfl
 ·refine ae (if_pos (Nat.eq_of_beq_eq_true h)) ?_; rfl
theorem bH {α : Type} (x y : Nat) (v : α) : ∀ l : List (Nat × α), af y (fi x v l) = if y = x then some v else af y l
 | [] => (aK y (x, v) []).trans (by
  by_cases q : y = x
  ·refine ae (if_pos q) ?_; refine ae (if_pos q.symm) ?_; rfl
  ·refine ae (if_neg q) ?_; refine ae (if_neg (Ne.symm q)) ?_; rfl)
 | p :: r => by
  rw [iH, aK]
  by_cases h : p.1 = x
  ·rw [if_pos h, aK]
   by_cases q : y = x
   ·subst q; simp
   ·have : p.1 ≠ y := fun z => q (z ▸ h)
    simp [q, Ne.symm q, this]
  ·rw [if_neg h, aK, bH x y v r]
   by_cases q : y = x
   ·subst q; simp [h]
   ·simp [q]
theorem Le.store {h' : Heap} {t : Nat} (hf : Z.h₀.get? L = none) (hp : Has h' L) (hn : ∀ o, s.heap.get? L = some o → jV o) (hs : Heap.SameBut L s.heap h') : Le Z L c s c { s with heap := h', toks := t } :=
 ⟨Nat.le_refl _, Nat.le_refl _, fun J J => rfl, fun J J => ⟨rfl, rfl, rfl⟩, cR hs hp hn, fun b o e0 e => (hs.2 b (Has.ne ⟨o, e0⟩ hf)).trans e, fun b o e q J => ⟨o, (hs.2 b q).trans e, .inl rfl⟩, fun i h h' => absurd h (Nat.not_le_of_lt h')⟩
theorem St.store (inj : ∀ x y, Z.nm x = Z.nm y → x = y) (H : St Z L cs c A s) {x : Nat} {v : V} {u : Value} (hv : VR c v u) {h' : Heap} {t : Nat}
 (hm : ∀ m, s.heap.Ns L m → h'.Ns L fun y => if y = Z.nm x then some u else m y) (hs : Heap.SameBut L s.heap h') : St Z L cs c (aN x v A) { s with heap := h', toks := t } := by
 have hk : ∀ b o, s.heap.get? b = some o → b ≠ L → h'.get? b = some o := fun b o e q => (hs.2 b q).trans e
 refine H.next (Hp.still (s := s) (s' := { s with heap := h', toks := t }) (L := L) ⟨H.base, H.gens, H.os, H.n, H.nv, H.vars, H.objs, H.lt, H.lo, H.up, H.apart⟩ hk ?pr H.gens rfl H.oS H.off) ⟨H.oS, ?fu, H.off, ?_⟩ rfl rfl (Le.store H.oS (by obtain ⟨m, h1, _⟩ := H.ns; exact by obtain ⟨o, _, _, q1, _⟩ := hm m h1; exact ⟨o, q1⟩) (by obtain ⟨_, h1, _⟩ := H.ns; exact Ns.gk h1) hs)
 case fu => obtain ⟨m, h1, h2⟩ := H.ns; obtain ⟨o, es, ep, q1, _⟩ := hm m h1; exact ⟨o, q1⟩
 case pr =>
  obtain ⟨m, h1, h2⟩ := H.ns
  exact cR hs (by obtain ⟨o, _, _, q1, _⟩ := hm m h1; exact ⟨o, q1⟩) (Ns.gk h1)
 refine (H.ns).elim fun m aj => (aj).elim fun h1 h2 => ?_
 refine ⟨_, hm m h1, fun y w e => ?_⟩
 have e : af y (fi x v A.locs) = some w := e
 rw [bH] at e
 by_cases q : y = x
 ·subst q
  rw [if_pos rfl] at e
  obtain rfl := aO e
  exact ⟨u, if_pos rfl, hv⟩
 ·rw [if_neg q] at e
  obtain ⟨z, z1, z2⟩ := h2 y w e
  exact ⟨z, by refine ae (if_neg fun r => q (inj _ _ r)) ?_; exact z1, z2⟩
end
theorem Ns.has {h : Heap} {a : Nat} {m : Str → Option Value} (x : h.Ns a m) : Has h a := by refine (x).elim fun o aj => (aj).elim fun _ ax => (ax).elim fun _ aP => (aP).elim fun h _ => ?_; exact ⟨o, h⟩
section
variable (Z : aL) (L : Nat) (cs : Fm)
inductive QO {α β : Type} (R : Cfg → α → β → Prop) (l : List (Except Nat α × AS)) (c : Cfg) (s : Shared) (u : β) (s' : Shared) : Prop
 | mk (a : α) (A' : AS) (c' : Cfg) (m : (Except.ok a, A') ∈ l) (le : Le Z L c s c' s') (H : St Z L cs c' A' s') (r : R c' a u)
inductive EO {α : Type} (l : List (Except Nat α × AS)) (c : Cfg) (s : Shared) (e : Value) (s' : Shared) : Prop
 | mk (i : Nat) (A' : AS) (c' : Cfg) (m : (Except.error i, A') ∈ l) (le : Le Z L c s c' s') (H : St Z L cs c' A' s') (r : VR c' (.loc i) e ∧ ∃ D, A'.heap.get i = some (.exc D))
def au {α β : Type} (Ar : Around) (t : Sem β) (R : Cfg → α → β → Prop) (r : Res α) (c : Cfg) (s : Shared) : Prop :=
 ∀ l, r = some l → bt Z.M Ar t (QO Z L cs R l.list c s) (EO Z L cs l.list c s) s
end
section
variable {Z : aL} {L : Nat} {cs : Fm} {Ar : Around} {c c' : Cfg} {A A' : AS} {s s' : Shared}
theorem g7 {β : Type} {r t : Res β} {u : bC β} (e : wt r t = some u) : ∃ a b, r = some a ∧ t = some b ∧ u.list = a.list ++ b.list := by
 cases r with
 | none => cases e
 | some a =>
  cases t with
  | none => cases e
  | some b =>
   have e : some (bC.many (oL a.list b.list)) = some u := e
   obtain rfl := aO e
   exact ⟨a, b, rfl, rfl, jA _ _⟩
theorem iI {α β : Type} {f : α → AS → Res β} : ∀ {l : List (Except Nat α × AS)} {r : bC β}, bindR f l = some r →
 (∀ a A, (Except.ok a, A) ∈ l → ∃ r', f a A = some r' ∧ ∀ x ∈ r'.list, x ∈ r.list) ∧ ∀ i A, (Except.error i, A) ∈ l → (Except.error i, A) ∈ r.list
 | [], _, _ => ⟨fun J J h => (nomatch h), fun J J h => (nomatch h)⟩
 | [(.ok a, A)], r, e => ⟨fun b B hm => by cases msg hm; exact ⟨r, e, fun J h => h⟩, fun i B hm => by cases msg hm⟩
 | (.ok a, A) :: y :: l, r, e => by
  refine (g7 (r := f a A) (t := bindR f (y :: l)) e).elim fun u aj => (aj).elim fun v ax => (ax).elim fun hu aP => (aP).elim fun hv hr => ?_
  refine (iI hv).elim fun h1 h2 => ?_
  refine ae hr ?_
  refine ⟨fun b B hm => ?_, fun i B hm => ?_⟩
  ·rcases ff hm with z | hm
   ·cases z; exact ⟨u, hu, fun x hx => List.mem_append.mpr (.inl hx)⟩
   ·refine (h1 b B hm).elim fun r' aj => (aj).elim fun q1 q2 => ?_
    exact ⟨r', q1, fun x hx => List.mem_append.mpr (.inr (q2 x hx))⟩
  ·rcases ff hm with z | hm
   ·cases z
   ·exact List.mem_append.mpr (.inr (h2 i B hm))
 | (.error j, A) :: l, r, e => by
  obtain ⟨u, v, hu, hv, hr⟩ := g7 (r := some (.many [(.error j, A)])) (t := bindR f l) e
  obtain rfl := aO hu
  obtain ⟨h1, h2⟩ := iI hv
  refine ae hr ?_
  refine ⟨fun b B hm => ?_, fun i B hm => ?_⟩
  ·rcases ff hm with z | hm
   ·cases z
   ·refine (h1 b B hm).elim fun r' aj => (aj).elim fun q1 q2 => ?_
    exact ⟨r', q1, fun x hx => .tail _ (q2 x hx)⟩
  ·rcases ff hm with z | hm
   ·cases z; exact .head _
   ·exact .tail _ (h2 i B hm)
theorem eF {α β : Type} {f : α → AS → Res β} {r : Res α} {u : bC β} (e : Res.bind r f = some u) : ∃ l, r = some l ∧
 (∀ a A, (Except.ok a, A) ∈ l.list → ∃ r', f a A = some r' ∧ ∀ x ∈ r'.list, x ∈ u.list) ∧ ∀ i A, (Except.error i, A) ∈ l.list → (Except.error i, A) ∈ u.list := by
 cases r with
 | none => cases e
 | some l =>
  cases l with
  | one a A => exact ⟨_, rfl, fun b B hm => by cases msg hm; exact ⟨u, e, fun J h => h⟩, fun i B hm => by cases msg hm⟩
  | many l => exact ⟨_, rfl, iI (r := u) e⟩
theorem au.ok {α β : Type} {R : Cfg → α → β → Prop} {a : α} {u : β} (h : St Z L cs c A s) (hr : R c a u) : au Z L cs Ar (pure u) R (ok a A) c s := fun l e => by
 obtain rfl := aO e
 exact aq ⟨a, A, c, .head _, Le.refl .., h, hr⟩
theorem au.done {α β : Type} {R : Cfg → α → β → Prop} {a : α} {t : Sem β} (h : ∀ Q E, (∀ u s' c', Le Z L c s c' s' → St Z L cs c' A' s' → R c' a u → Q u s') → wpAny Z.M Ar t Q E s) : au Z L cs Ar t R (aD.ok a A') c s := fun l e => by
 obtain rfl := aO e
 exact .of (h _ _ fun u s' c' x y z => ⟨a, A', c', .head _, x, y, z⟩)
theorem au.bind {α β γ δ : Type} {R : Cfg → α → β → Prop} {R' : Cfg → δ → γ → Prop} {t : Sem β} {k : β → Sem γ} {r : Res α} {f : α → AS → Res δ} (hL : Has s.heap L) (h : au Z L cs Ar t R r c s)
 (hk : ∀ a A' c' s' u, Le Z L c s c' s' → St Z L cs c' A' s' → R c' a u → au Z L cs Ar (k u) R' (f a A') c' s') : au Z L cs Ar (t >>= k) R' (Res.bind r f) c s := fun l e => by
 obtain ⟨ur, rfl, m1, m2⟩ := eF e
 ·refine aa (az (h ur rfl) (fun u s' q => ?_) fun e s' q => ?_)
  ·obtain ⟨a, A', c', q1, q2, q3, q4⟩ := q
   refine (m1 a A' q1).elim fun r' aj => (aj).elim fun z1 z2 => ?_
   refine az (hk a A' c' s' u q2 q3 q4 r' z1) (fun v eB y => ?_) fun e eB y => ?_
   ·obtain ⟨b, B, d, y1, y2, y3, y4⟩ := y
    exact ⟨b, B, d, z2 _ y1, q2.trans y2, y3, y4⟩
   ·obtain ⟨i, B, d, y1, y2, y3, y4⟩ := y
    exact ⟨i, B, d, z2 _ y1, q2.trans y2, y3, y4⟩
  ·obtain ⟨i, B, d, y1, y2, y3, y4⟩ := q
   exact ⟨i, B, d, m2 i B y1, y2, y3, y4⟩
theorem au.from {α β : Type} {R : Cfg → α → β → Prop} {t : Sem β} {r : Res α} (hL : Has s.heap L) (x : Le Z L c s c' s') (h : au Z L cs Ar t R r c' s') : ∀ l, r = some l → bt Z.M Ar t (QO Z L cs R l.list c s) (EO Z L cs l.list c s) s' := fun l q =>
 az (h l q) (fun u eB y => by
  obtain ⟨b, B, d, y1, y2, y3, y4⟩ := y
  exact ⟨b, B, d, y1, x.trans y2, y3, y4⟩) fun e eB y => by
  obtain ⟨b, B, d, y1, y2, y3, y4⟩ := y
  exact ⟨b, B, d, y1, x.trans y2, y3, y4⟩
theorem au.bindM {α β γ δ : Type} {R : Cfg → α → β → Prop} {R' : Cfg → δ → γ → Prop} {t : Sem β} {k : β → Sem γ} {r : Res α} {f : α → AS → Res δ} (hL : Has s.heap L) (h : au Z L cs Ar t R r c s)
 (hk : ∀ l, r = some l → ∀ a A' c' s' u, (Except.ok a, A') ∈ l.list → Le Z L c s c' s' → St Z L cs c' A' s' → R c' a u → au Z L cs Ar (k u) R' (f a A') c' s') : au Z L cs Ar (t >>= k) R' (Res.bind r f) c s := fun l e => by
 obtain ⟨ur, rfl, m1, m2⟩ := eF e
 ·refine aa (az (h ur rfl) (fun u s' q => ?_) fun e s' q => ?_)
  ·obtain ⟨a, A', c', q1, q2, q3, q4⟩ := q
   refine (m1 a A' q1).elim fun r' aj => (aj).elim fun z1 z2 => ?_
   refine az (hk ur rfl a A' c' s' u q1 q2 q3 q4 r' z1) (fun v eB y => ?_) fun e eB y => ?_
   ·obtain ⟨b, B, d, y1, y2, y3, y4⟩ := y
    exact ⟨b, B, d, z2 _ y1, q2.trans y2, y3, y4⟩
   ·obtain ⟨i, B, d, y1, y2, y3, y4⟩ := y
    exact ⟨i, B, d, z2 _ y1, q2.trans y2, y3, y4⟩
  ·obtain ⟨i, B, d, y1, y2, y3, y4⟩ := q
   exact ⟨i, B, d, m2 i B y1, y2, y3, y4⟩
theorem au.bind1 {α β γ δ : Type} {R : Cfg → α → β → Prop} {R' : Cfg → δ → γ → Prop} {t : Sem β} {k : β → Sem γ} {a : α} {B : AS} {r : Res δ} (hL : Has s.heap L) (h : au Z L cs Ar t R (aD.ok a B) c s)
 (hk : ∀ c' s' u, Le Z L c s c' s' → St Z L cs c' B s' → R c' a u → au Z L cs Ar (k u) R' r c' s') : au Z L cs Ar (t >>= k) R' r c s := fun l e =>
 aa (az (h _ rfl) (fun u s' q => by
  obtain ⟨a', A', c', q1, q2, q3, q4⟩ := q
  cases msg q1
  exact au.from hL q2 (hk c' s' u q2 q3 q4) l e) fun e s' q => by
  obtain ⟨i, B', d, y1, _⟩ := q
  cases msg y1)
theorem au.conv {α β : Type} {R : Cfg → α → β → Prop} {t t' : Sem β} {r : Res α} (e : ∀ Q E, bt Z.M Ar t' Q E s → bt Z.M Ar t Q E s) (h : au Z L cs Ar t' R r c s) : au Z L cs Ar t R r c s := fun l q => e _ _ (h l q)
theorem au.none {α β : Type} {R : Cfg → α → β → Prop} {t : Sem β} : au Z L cs Ar t R (none : Res α) c s := fun l q => by cases q
end
noncomputable def bX (x : Str) : Bool := !(sEq x ("__debug__" : Str)) && !(sEq x ("__classdict__" : Str))
noncomputable def BZ (v : V) (k : Const) : Bool := match v with
 | .none => (match k with
  | .none => true
  | _ => false)
 | .bool a => (match k with
  | .bool b => a == b
  | _ => false)
 | .int x => (match x with
  | .lit i => (match k with
   | .int j => i == j
   | _ => false)
  | _ => false)
 | .str l => (match k with
  | .str s => s == strOf l
  | _ => false)
 | .bytes b => (match k with
  | .bytes l => b == bif l.isEmpty then [] else [.lit (l.map (·.toNat))]
  | _ => false)
 | _ => false
noncomputable def rz : qW → Operator
 | .add => .Add | .sub => .Sub | .mul => .Mult | .div => .FloorDiv | .mod => .Mod | .pow => .Pow
noncomputable def D4 : oJ → CmpOp
 | .eq => .Eq | .ne => .NotEq | .lt => .Lt | .le => .LtE | .gt => .Gt | .ge => .GtE | .is_ => .Is | .lT => .IsNot | .in_ => .In | .jL => .NotIn
noncomputable def jW (o : qW) (p : Operator) : Bool := decide (p = rz o)
noncomputable def encC (o : oJ) (p : CmpOp) : Bool := decide (p = D4 o)
theorem jX {o : qW} {p : Operator} (h : jW o p = true) : p = rz o := of_decide_eq_true h
theorem encC_eq {o : oJ} {p : CmpOp} (h : encC o p = true) : p = D4 o := of_decide_eq_true h
noncomputable def encL {α β : Type} (f : α → β → Bool) : List α → List β → Bool
 | [], [] => true
 | a :: r, b :: t => f a b && encL f r t
 | _, _ => false
noncomputable def iJ {α β : Type} (f : α → β → Bool) : Option α → Option β → Bool
 | none, none => true
 | some a, some b => f a b
 | _, _ => false
noncomputable def eG : Expr → Bool
 | .Call (.Name id _) [] [] _ => id == ("super" : Str)
 | _ => false
noncomputable def tD : Expr → Bool
 | .Attribute .. => true
 | _ => false
noncomputable def bT : Expr → Bool
 | .Slice .. => true
 | _ => false
noncomputable def eL (sc : cA) (scope : Scope) : Bool := decide (scope.kind = .function) && scope.names.all fun x =>
 x.2 != .cell && (x.2 != .local || scope.names.lookup x.1 == some .local) && (x.2 != .free || (cM sc x.1 && scope.names.lookup x.1 == some .free))
noncomputable def fO (sc : cA) : Bool := sc.any fun x => x.2 == .cell
noncomputable def jY (ar : Arguments) (scope : Scope) : Bool := ar.posonlyargs.isEmpty && ar.args.isEmpty && ar.kwonlyargs.isEmpty && ar.vararg.isNone && ar.kwarg.isNone && ar.defaults.isEmpty && ar.kw_defaults.isEmpty &&
 decide (scope.kind = .function) && !scope.isCoroutine && !scope.isGenerator && scope.names.all fun x => x.2 != .cell && x.2 != .local
noncomputable def tE (sc : cA) (scope : Scope) : Bool := scope.names.all fun x => x.2 != .free || (cM sc x.1 && scope.names.lookup x.1 == some .free)
noncomputable def dp {P : Prop} (b : Bool) (k : b = true → P) : Option (PLift P) := Bool.rec (motive := fun b => (b = true → P) → Option (PLift P)) (fun J => none) (fun k => some ⟨k rfl⟩) b k
theorem dH {P : Prop} : ∀ {o : Option (PLift P)}, o.isSome = true → P
 | some p, _ => p.down
 | none, h => bf h
theorem oV {P : Prop} {b : Bool} {k : b = true → P} (h : b = true) : (dp b k).isSome = true := by
 subst h; rfl
theorem ao {a b : Bool} (h : (a && b) = true) : a = true ∧ b = true := Bool.and_eq_true_iff.mp h
section
variable (nm : Nat → Str)
noncomputable def dm (sc : cA) (i : Nat) : Expr → Bool
 | .Name id _ => sEq id (nm i) && cw sc id .local && bX id
 | _ => false
noncomputable def l5 : Expr → Str
 | .Name id _ => id
 | _ => ""
noncomputable def GW (is : List Nat) (f : Nat → Bool) : Bool := match is with
 | [i] => f i
 | _ => false
noncomputable def g8 (sc : cA) (is : List Nat) (t : Expr) : Bool := match t with
 | .Name id p => GW is fun i => dm nm sc i (.Name id p)
 | .Tuple xs _ _ => decide (2 ≤ is.length) && encL (dm nm sc) is xs
 | _ => false
end
inductive c8 (nm : Nat → Str) (f : cA → E → Expr → Bool) (sc : cA) : E → Expr → Prop
 | cst {v k t p} (h : BZ v k = true) : c8 nm f sc (.cst v) (.Constant k t p)
 | loc {i id p} (h : (sEq id (nm i) && cw sc id .local && bX id) = true) : c8 nm f sc (.loc i) (.Name id p)
 | dj {i id p} (h : (sEq id (nm i) && cM sc id && bX id) = true) : c8 nm f sc (.dj i) (.Name id p)
 | aH {i id p} (h : (sEq id (nm i) && cw sc id .globalImplicit && bX id) = true) : c8 nm f sc (.aH i) (.Name id p)
 | av {e k o a p} (h : (sEq a (nm k) && !eG o && f sc e o) = true) : c8 nm f sc (.av e k) (.Attribute o a p)
 | bin {o a b l q r p} (h : (jW o q && f sc a l && f sc b r) = true) : c8 nm f sc (.bin o a b) (.BinOp l q r p)
 | neg {e y p} (h : f sc e y = true) : c8 nm f sc (.neg e) (.UnaryOp .USub y p)
 | not_ {e y p} (h : f sc e y = true) : c8 nm f sc (.not_ e) (.UnaryOp .Not y p)
 | and_ {es xs p} (h : encL (f sc) es xs = true) : c8 nm f sc (.and_ es) (.BoolOp .And xs p)
 | or_ {es xs p} (h : encL (f sc) es xs = true) : c8 nm f sc (.or_ es) (.BoolOp .Or xs p)
 | cmp {a ops es l os xs p} (h : (f sc a l && encL encC ops os && encL (f sc) es xs && !lastMarks os xs && ops.length == es.length && !ops.isEmpty) = true) : c8 nm f sc (.cmp a ops es) (.Compare l os xs p)
 | ite_ {c a b t y z p} (h : (f sc c t && f sc a y && f sc b z) = true) : c8 nm f sc (.ite_ c a b) (.IfExp t y z p)
 | call {h as g xs p} (q : (!tD g && f sc h g && encL (f sc) as xs && decide (xs.length < 30)) = true) : c8 nm f sc (.call h as) (.Call g xs [] p)
 | meth {o n as y a ap xs p} (h : (sEq a (nm n) && !eG y && f sc o y && encL (f sc) as xs && decide (xs.length < 30) && ap.endLine == p.line) = true) : c8 nm f sc (.meth o n as) (.Call (.Attribute y a ap) xs [] p)
 | sub {o i y q p} (h : (!bT q && f sc o y && f sc i q) = true) : c8 nm f sc (.sub o i) (.Subscript y q p)
 | iC {o lo hi y l u p p'} (h : (f sc o y && iJ (f sc) lo l && iJ (f sc) hi u) = true) : c8 nm f sc (.iC o lo hi) (.Subscript y (.Slice l u none p) p')
 | lst {es xs p} (h : encL (f sc) es xs = true) : c8 nm f sc (.lst es) (.List xs p)
 | tup {es xs k p} (h : encL (f sc) es xs = true) : c8 nm f sc (.tup es) (.Tuple xs k p)
 | emp {p} : c8 nm f sc .emp (.Dict [] [] p)
 | eK {elt ts it y t z scope p} (h : (eL sc scope && f scope.names elt y && f sc it z && g8 nm scope.names ts t && decide ts.Nodup) = true) : c8 nm f sc (.eK elt ts it) (.ListComp y [⟨t, z, [], 0⟩] scope p)
 | lam {fv b ar y scope p} (h : (jY ar scope && tE sc scope && fO sc && f scope.names b y) = true) : c8 nm f sc (.lam fv b) (.Lambda ar y scope p)
theorem c8.D5 {nm : Nat → Str} {f : cA → E → Expr → Bool} {sc : cA} {elt ts it y t z scope p k} (h : (decide (k = 0) && eL sc scope && f scope.names elt y && f sc it z && g8 nm scope.names ts t && decide ts.Nodup) = true) : c8 nm f sc (.eK elt ts it) (.ListComp y [⟨t, z, [], k⟩] scope p) := by
 refine (ao h).elim fun h h6 => ?_
 refine (ao h).elim fun h h5 => ?_
 refine (ao h).elim fun h h4 => ?_
 refine (ao h).elim fun h h3 => ?_
 refine (ao h).elim fun h1 h2 => ?_
 obtain rfl := of_decide_eq_true h1
 exact .eK (by refine ae h2 ?_; refine ae h3 ?_; refine ae h4 ?_; refine ae h5 ?_; refine ae h6 ?_; rfl)
section
variable (nm : Nat → Str)
noncomputable def D6 (f : cA → E → Expr → Bool) (sc : cA) (e : E) (x : Expr) : Option (PLift (c8 nm f sc e x)) := match e with
 | .cst v => match x with
  | .Constant k _ _ => dp (BZ v k) .cst
  | _ => none
 | .loc i => match x with
  | .Name id _ => dp (sEq id (nm i) && cw sc id .local && bX id) .loc
  | _ => none
 | .dj i => match x with
  | .Name id _ => dp (sEq id (nm i) && cM sc id && bX id) .dj
  | _ => none
 | .aH i => match x with
  | .Name id _ => dp (sEq id (nm i) && cw sc id .globalImplicit && bX id) .aH
  | _ => none
 | .av e k => match x with
  | .Attribute o a _ => dp (sEq a (nm k) && !eG o && f sc e o) .av
  | _ => none
 | .bin o a b => match x with
  | .BinOp l p r _ => dp (jW o p && f sc a l && f sc b r) .bin
  | _ => none
 | .neg e => match x with
  | .UnaryOp .USub y _ => dp (f sc e y) .neg
  | _ => none
 | .not_ e => match x with
  | .UnaryOp .Not y _ => dp (f sc e y) .not_
  | _ => none
 | .and_ es => match x with
  | .BoolOp .And xs _ => dp (encL (f sc) es xs) .and_
  | _ => none
 | .or_ es => match x with
  | .BoolOp .Or xs _ => dp (encL (f sc) es xs) .or_
  | _ => none
 | .cmp a ops es => match x with
  | .Compare l os xs _ => dp (f sc a l && encL encC ops os && encL (f sc) es xs && !lastMarks os xs && ops.length == es.length && !ops.isEmpty) .cmp
  | _ => none
 | .ite_ c a b => match x with
  | .IfExp t y z _ => dp (f sc c t && f sc a y && f sc b z) .ite_
  | _ => none
 | .call h as => match x with
  | .Call g xs [] _ => dp (!tD g && f sc h g && encL (f sc) as xs && decide (xs.length < 30)) .call
  | _ => none
 | .meth o n as => match x with
  | .Call (.Attribute p a ap) xs [] pos => dp (sEq a (nm n) && !eG p && f sc o p && encL (f sc) as xs && decide (xs.length < 30) && ap.endLine == pos.line) .meth
  | _ => none
 | .sub o i => match x with
  | .Subscript p q _ => dp (!bT q && f sc o p && f sc i q) .sub
  | _ => none
 | .iC o lo hi => match x with
  | .Subscript p (.Slice l u none _) _ => dp (f sc o p && iJ (f sc) lo l && iJ (f sc) hi u) .iC
  | _ => none
 | .lst es => match x with
  | .List xs _ => dp (encL (f sc) es xs) .lst
  | _ => none
 | .tup es => match x with
  | .Tuple xs _ _ => dp (encL (f sc) es xs) .tup
  | _ => none
 | .emp => match x with
  | .Dict [] [] _ => some ⟨.emp⟩
  | _ => none
 | .lam _ b => match x with
  | .Lambda ar y scope _ => dp (jY ar scope && tE sc scope && fO sc && f scope.names b y) .lam
  | _ => none
 | .eK elt ts it => match x with
  | .ListComp y [⟨t, z, [], k⟩] scope _ => dp (decide (k = 0) && eL sc scope && f scope.names elt y && f sc it z && g8 nm scope.names ts t && decide ts.Nodup) c8.D5
  | _ => none
noncomputable def aV : Nat → cA → E → Expr → Bool
 | 0, _, _, _ => false
 | m + 1, sc, e, x => (D6 nm (aV m) sc e x).isSome
end
inductive ja (nm : Nat → Str) (g : cA → E → Expr → Bool) (sc : cA) : T → Expr → Prop
 | loc {i id p} (h : dm nm sc i (.Name id p) = true) : ja nm g sc (.loc i) (.Name id p)
 | dj {i id p} (h : (sEq id (nm i) && cw sc id .cell && bX id) = true) : ja nm g sc (.dj i) (.Name id p)
 | av {e f o a p} (h : (sEq a (nm f) && g sc e o) = true) : ja nm g sc (.av e f) (.Attribute o a p)
 | sub {o i y q p} (h : (!bT q && g sc o y && g sc i q) = true) : ja nm g sc (.sub o i) (.Subscript y q p)
 | iC {o lo hi y l u p p'} (h : (g sc o y && iJ (g sc) lo l && iJ (g sc) hi u) = true) : ja nm g sc (.iC o lo hi) (.Subscript y (.Slice l u none p) p')
 | tup {is xs k p} (h : (encL (dm nm sc) is xs && decide is.Nodup && decide (2 ≤ is.length)) = true) : ja nm g sc (.tup is) (.Tuple xs k p)
section
variable (nm : Nat → Str)
noncomputable def D7 (g : cA → E → Expr → Bool) (sc : cA) (t : T) (x : Expr) : Option (PLift (ja nm g sc t x)) := match t with
 | .loc i => match x with
  | .Name id p => dp (dm nm sc i (.Name id p)) .loc
  | _ => none
 | .dj i => match x with
  | .Name id _ => dp (sEq id (nm i) && cw sc id .cell && bX id) .dj
  | _ => none
 | .av e f => match x with
  | .Attribute o a _ => dp (sEq a (nm f) && g sc e o) .av
  | _ => none
 | .sub o i => match x with
  | .Subscript p q _ => dp (!bT q && g sc o p && g sc i q) .sub
  | _ => none
 | .iC o lo hi => match x with
  | .Subscript p (.Slice l u none _) _ => dp (g sc o p && iJ (g sc) lo l && iJ (g sc) hi u) .iC
  | _ => none
 | .tup is => match x with
  | .Tuple xs _ _ => dp (encL (dm nm sc) is xs && decide (is.Nodup) && decide (2 ≤ is.length)) .tup
  | _ => none
noncomputable def gz (m : Nat) (sc : cA) (t : T) (x : Expr) : Bool := (D7 nm (aV nm m) sc t x).isSome
noncomputable def jZ : Expr → Bool
 | .ListComp .. | .SetComp .. | .DictComp .. => true
 | _ => false
noncomputable def oW (id : Str) (p : Pos) : Expr → Bool
 | .ListComp a b scope q => p.line == (Expr.ListComp a b scope q).pos.line && !(scope.names.any fun (n, k) => n == id && (k == .local || k == .cell))
 | _ => false
set_option backward.match.sparseCases true in
noncomputable def jC (t v : Expr) : Bool := match t, v with
 | .Tuple .., .Tuple vs _ _ => (vs.all (constantsAlone 8) && !vs.all (foldedForSure 8)) || (vs.any fun | .Starred .. => true | _ => false)
 | _, _ => false
noncomputable def rA (t : T) (y z : Expr) : Bool := match t with
 | .loc _ => (match y with
  | .Name id p => oW id p z
  | _ => false)
 | _ => false
end
section
variable (nm : Nat → Str)
noncomputable def notName : Expr → Bool
 | .Name .. => false
 | _ => true
inductive Kz (g : cA → S → Stmt → Bool) (sc : cA) : E × List S → ExceptHandler → Prop
 | mk {i b id p body pos} (h : (sEq id (nm i) && cw sc id .globalImplicit && bX id && encL (g sc) b body && !body.isEmpty) = true) : Kz g sc (.aH i, b) (.ExceptHandler (some (.Name id p)) none body pos)
noncomputable def B0 (g : cA → S → Stmt → Bool) (sc : cA) (h : E × List S) (x : ExceptHandler) : Option (PLift (Kz nm g sc h x)) := match h with
 | (.aH i, b) => (match x with
  | .ExceptHandler (some (.Name id _)) none body _ => dp (sEq id (nm i) && cw sc id .globalImplicit && bX id && encL (g sc) b body && !body.isEmpty) .mk
  | _ => none)
 | _ => none
noncomputable def tF (g : cA → S → Stmt → Bool) (sc : cA) (h : E × List S) (x : ExceptHandler) : Bool := (B0 nm g sc h x).isSome
end
inductive gA (nm : Nat → Str) (m : Nat) (g : cA → S → Stmt → Bool) (sc : cA) : S → Stmt → Prop
 | asg {t e y z p} (h : (gz nm m sc t y && aV nm m sc e z && !jC y z && (!jZ z || rA t y z)) = true) : gA nm m g sc (.asg t e) (.Assign [y] z p)
 | aug {i o e id p q z p'} (h : (dm nm sc i (.Name id p) && jW o q && aV nm m sc e z) = true) : gA nm m g sc (.aug i o e) (.AugAssign (.Name id p) q z p')
 | nq {e f o v y a p q z p'} (h : (sEq a (nm f) && aV nm m sc e y && jW o q && aV nm m sc v z) = true) : gA nm m g sc (.nq e f o v) (.AugAssign (.Attribute y a p) q z p')
 | exp {e z p} (h : (aV nm m sc e z && !jZ z) = true) : gA nm m g sc (.exp e) (.Expr z p)
 | ret {e z p} (h : iJ (aV nm m sc) e z = true) : gA nm m g sc (.ret e) (.Return z p)
 | bE {c a b t y z p} (h : (aV nm m sc c t && encL (g sc) a y && encL (g sc) b z) = true) : gA nm m g sc (.bE c a b) (.If t y z p)
 | for_ {is it b t y z p} (h : (g8 nm sc is t && decide is.Nodup && aV nm m sc it y && encL (g sc) b z) = true) : gA nm m g sc (.for_ is it b) (.For t y z [] p)
 | try_ {b hs y jw p} (h : (encL (g sc) b y && encL (tF nm g sc) hs jw && !jw.isEmpty) = true) : gA nm m g sc (.try_ b hs) (.Try y jw [] [] p)
 | del {o i y q p p'} (h : (!bT q && aV nm m sc o y && aV nm m sc i q) = true) : gA nm m g sc (.del o i) (.Delete [.Subscript y q p] p')
 | iD {e a p} (h : iJ (aV nm m sc) e a = true) : gA nm m g sc (.iD e) (.Raise a none p)
 | ly {ts es ys k p zs k' p' q} (h : (encL (gz nm m sc) ts ys && encL (aV nm m sc) es zs && ys.any notName) = true) : gA nm m g sc (.ly ts es) (.Assign [.Tuple ys k p] (.Tuple zs k' p') q)
 | C9 {p} : gA nm m g sc .C9 (.Pass p)
 | bad {x} : gA nm m g sc .bad x
section
variable (nm : Nat → Str)
noncomputable def D8 (m : Nat) (g : cA → S → Stmt → Bool) (sc : cA) (st : S) (x : Stmt) : Option (PLift (gA nm m g sc st x)) := match st with
 | .asg t e => match x with
  | .Assign [y] z _ => dp (gz nm m sc t y && aV nm m sc e z && !jC y z && (!jZ z || rA t y z)) .asg
  | _ => none
 | .aug i o e => match x with
  | .AugAssign (.Name id p) q z _ => dp (dm nm sc i (.Name id p) && jW o q && aV nm m sc e z) .aug
  | _ => none
 | .nq e f o v => match x with
  | .AugAssign (.Attribute y a _) q z _ => dp (sEq a (nm f) && aV nm m sc e y && jW o q && aV nm m sc v z) .nq
  | _ => none
 | .exp e => match x with
  | .Expr z _ => dp (aV nm m sc e z && !jZ z) .exp
  | _ => none
 | .ret e => match x with
  | .Return z _ => dp (iJ (aV nm m sc) e z) .ret
  | _ => none
 | .bE c a b => match x with
  | .If t y z _ => dp (aV nm m sc c t && encL (g sc) a y && encL (g sc) b z) .bE
  | _ => none
 | .for_ is it b => match x with
  | .For t y z [] _ => dp (g8 nm sc is t && decide (is.Nodup) && aV nm m sc it y && encL (g sc) b z) .for_
  | _ => none
 | .try_ b hs => match x with
  | .Try y jw [] [] _ => dp (encL (g sc) b y && encL (tF nm g sc) hs jw && !jw.isEmpty) .try_
  | _ => none
 | .del o i => match x with
  | .Delete [.Subscript p q _] _ => dp (!bT q && aV nm m sc o p && aV nm m sc i q) .del
  | _ => none
 | .bad => some ⟨.bad⟩
 | .ly ts es => match x with
  | .Assign [.Tuple ys _ _] (.Tuple zs _ _) _ => dp (encL (gz nm m sc) ts ys && encL (aV nm m sc) es zs && ys.any notName) .ly
  | _ => none
 | .iD e => match x with
  | .Raise a none _ => dp (iJ (aV nm m sc) e a) .iD
  | _ => none
 | .C9 => match x with
  | .Pass _ => some ⟨.C9⟩
  | _ => none
noncomputable def cG : Nat → cA → S → Stmt → Bool
 | 0, _, _, _ => false
 | m + 1, sc, st, x => (D8 nm m (cG m) sc st x).isSome
end
theorem tG {nm : Nat → Str} {sc : cA} {i : Nat} {x : Expr} (h : dm nm sc i x = true) : ∃ id p, x = .Name id p := by
 cases x <;> first | exact bf h | exact ⟨_, _, rfl⟩
theorem bL {nm : Nat → Str} {m : Nat} {sc : cA} {e : E} {x : Expr} (h : aV nm (m + 1) sc e x = true) : c8 nm (aV nm m) sc e x := dH h
theorem dA {nm : Nat → Str} {m : Nat} {sc : cA} {t : T} {x : Expr} (h : gz nm m sc t x = true) : ja nm (aV nm m) sc t x := dH h
theorem wY {nm : Nat → Str} {m : Nat} {sc : cA} {i : Nat} {id : Str} {p : Pos} (h : dm nm sc i (.Name id p) = true) : gz nm m sc (.loc i) (.Name id p) = true := oV h
theorem uu {nm : Nat → Str} {m : Nat} {sc : cA} {i : Nat} {id : Str} {p : Pos} (h : gz nm m sc (.loc i) (.Name id p) = true) : dm nm sc i (.Name id p) = true := by
 cases dA h with
 | loc q => exact q
theorem wZ {nm : Nat → Str} {m : Nat} {sc : cA} {is : List Nat} {x : Expr} (h : gz nm m sc (.tup is) x = true) : ∃ xs k p, x = .Tuple xs k p ∧ encL (dm nm sc) is xs = true ∧ is.Nodup ∧ 2 ≤ is.length := by
 cases dA h with
 | tup q =>
  refine (ao q).elim fun h h2 => ?_
  refine (ao h).elim fun h h1 => ?_
  exact ⟨_, _, _, rfl, h, of_decide_eq_true h1, of_decide_eq_true h2⟩
theorem l6 {nm : Nat → Str} {m : Nat} {sc : cA} {st : S} {x : Stmt} (h : cG nm (m + 1) sc st x = true) : gA nm m (cG nm m) sc st x := dH h
def rB (Z : aL) (v : Value) : Prop := ∃ c P, v = .ref c ∧ CodeHd Z.h₀ c P ∧ P ∈ Z.tabs
structure aR (Z : aL) (sc : cA) (c : Cfg) (L : Nat) (cells : Fm) (env : Env) : Prop where
 kind : env.scope.kind = .function
 names : ∀ x k, sc.lookup x = some k → env.kindOf x = some k ∨ (k = .free ∧ env.kindOf x = some .cell)
 locals : env.locals = L
 globals : env.globals = mainGlobals
 builtins : env.builtins = builtinsNs
 top : env.frame = some L → ∃ rest, cells.frs = env :: rest
 has : ∀ n, cM sc n = true → ∃ a, env.cells.lookup n = some a
 fr : ∀ b, env.frame = some b → b ∈ cells.frs.filterMap (·.frame)
 code : fO sc = true → rB Z env.code
 cells : ∀ x i, cM sc (Z.nm x) = true → af x cells.cs = some i → i < c.n ∧ env.cells.lookup (Z.nm x) = some (c.σ i).1
theorem aR.mono {Z : aL} {sc : cA} {c c' : Cfg} {L : Nat} {cells : Fm} {env : Env} (x : aR Z sc c L cells env) (g : bu c c') : aR Z sc c' L cells env :=
 ⟨x.kind, x.names, x.locals, x.globals, x.builtins, x.top, x.has, x.fr, x.code, fun y i k e => ⟨Nat.lt_of_lt_of_le (x.cells y i k e).1 g.n, by refine ae (g.σ i (x.cells y i k e).1) ?_; exact (x.cells y i k e).2⟩⟩
noncomputable def w0 : List Value → Bool
 | [] => false
 | v :: r => match v with
  | .ref _ => w0 r
  | _ => v :: r == [.type "object"] || v :: r == [.type "Exception", .type "BaseException", .type "object"]
noncomputable def j0 (K : Frag) (C : Nat) : Bool := (clsIn K C).any fun cd => w0 cd.mro
theorem oX : ∀ {l : List Value}, w0 l = true → l.contains (.type "object") = true ∧ ∀ self : Value, refuseLoop self "__setattr__" l = pure ()
 | [], e => bf e
 | v :: r, e => by
  have no : (v :: r == [.type "object"] || v :: r == [.type "Exception", .type "BaseException", .type "object"]) = true → (v :: r).contains (.type "object") = true ∧ ∀ self : Value, refuseLoop self "__setattr__" (v :: r) = pure () := fun e => by
   rcases yG e with e | e
   ·refine ae (iB e) ?_; exact ⟨PySem.F.store_object.hasOwner, PySem.F.store_object.passes⟩
   ·refine ae (iB e) ?_; exact ⟨PySem.F.store_Exception.hasOwner, PySem.F.store_Exception.passes⟩
  cases v with
  | ref c =>
   refine (oX (l := r) e).elim fun h1 h2 => ?_
   exact ⟨by rw [List.contains_cons, h1, Bool.or_true], fun self => (refuseLoop_ref self _ c r).trans (h2 self)⟩
  | _ => exact no e
structure g9 (Z : aL) (C : Nat) (k : gU) : Prop where
 ga : findIn Z.K (.ref C) "__getattribute__" = some (some (.builtin "object.__getattribute__"))
 sa : findIn Z.K (.ref C) "__setattr__" = some (some (.builtin "object.__setattr__"))
 gt : findIn Z.K (.ref C) "__getattr__" = some none
 over : j0 Z.K C = true
 B3 : makesIn Z.K C = true
 hd : (clsIn Z.K C).any (·.hasDict) = true
 du : ∀ f ∈ k.du, findIn Z.K (.ref C) (Z.nm f) = some none
 meth : ∀ m f, af m k.meths = some (false, f) → findIn Z.K (.ref C) (Z.nm m) = some (some (.ref f)) ∧ typeIn Z.K (.ref f) = some (.type "function")
 ux : ∀ m f, af m k.meths = some (true, f) → specialIn Z.K (.ref C) "__getattribute__" = some (some (.builtin "type.__getattribute__")) ∧
  ∃ p rest mc, readsIn Z.K C mc = true ∧ findCls Z.K (.ref C) mc (Z.nm m) = some (.get (.builtin "staticmethod.__get__") (.ref p) .none (.ref C)) ∧ recIn Z.K p "staticmethod" = some (.ref f :: rest)
 kp : keepIn Z.K (.ref C) = true
structure nG (h : Heap) (C : Nat) : Prop where
 obj : ∃ nm q N bs bm B4 sn sub col dd k0 k1 k2 k3 k5, h.get? C = some (excClassObj nm q C N bs bm B4 sn sub false col dd k0 k1 k2 k3 k5 "Exception.__new__") ∧ bm.contains (.type "Exception") = true ∧ bm.contains (.type "AttributeError") = false ∧ bm.contains (.type "NameError") = false
 call : ∀ M : Model, Looks M h (specialOf (.ref C) "__call__") (some (.builtin "type.__call__"))
 typ : ∀ M : Model, Looks M h (isInstance (.ref C) (.type "type")) true
structure fo (Z : aL) (C : Nat) (k : gU) : Prop where
 sa : findIn Z.K (.ref C) "__setattr__" = some (some (.builtin "object.__setattr__"))
 over : j0 Z.K C = true
 hd : (clsIn Z.K C).any (·.hasDict) = true
 du : ∀ f ∈ k.du, findIn Z.K (.ref C) (Z.nm f) = some none
 meth : ∀ m f, af m k.meths = some (false, f) → findIn Z.K (.ref C) (Z.nm m) = some (some (.ref f)) ∧ typeIn Z.K (.ref f) = some (.type "function")
 B3 : ∀ h : Heap, Z.K.In h → nG h C
 kp : keepIn Z.K (.ref C) = true
structure aL.Glob (Z : aL) : Prop where
 g : Z.h₀.Ns mainGlobals Z.mg
 b : Z.h₀.Ns builtinsNs Z.mb
 inj : ∀ x y, Z.nm x = Z.nm y → x = y
 sys : Has Z.h₀ sysModules
 k : Z.K.In Z.h₀
 lim : Z.h₀.NoLimit
 y6 : Z.nm N.init = "__init__"
 oY : Z.nm N.get = "get"
 oZ : Z.nm N.pop = "pop"
 jb : Z.nm N.bO = "setdefault"
 nH : Z.nm N.append = "append"
 o3 : Z.nm N.to_bytes = "to_bytes"
 o4 : Z.nm N.from_bytes = "from_bytes"
 fb : findCls Z.K (.type "int") (.type "type") "from_bytes" = some (.get (.builtin "classmethod_descriptor.__get__") (.builtin "int.from_bytes") .none (.type "int"))
 cls : ∀ C k, af C Z.Γ.dv = some k → af C Z.Γ.cf = none → g9 Z C k
 o5 : ∀ C k bs, af C Z.Γ.dv = some k → af C Z.Γ.cf = some bs → fo Z C k
 exc : ∀ D C bs qX, af D Z.Γ.cf = some bs → af C Z.Γ.cf = some qX → exmOne Z.K (.ref D) (.ref C) = some (bs.contains C)
 tabs : ∀ P ∈ Z.tabs, Z.h₀.get? P = none
 Df : ∀ P ∈ Z.tabs, Z.h₀.BuiltinsAt Z.mg P
 uy : ∀ {b ar x scope m}, jY ar scope = true → aV Z.nm m scope.names b x = true → Z.lam b ar x scope
 uz : ∀ {b ar x scope}, Z.lam b ar x scope → jY ar scope = true ∧ ∃ m, aV Z.nm m scope.names b x = true
 look : ∀ x v, af x Z.Γ.glob = some v → ∃ u, (Z.mg (Z.nm x) = some u ∨ (Z.mg (Z.nm x) = none ∧ Z.mb (Z.nm x) = some u)) ∧ ∀ c, VR c v u
def Room (n : Nat) (Ar : Around) (cs : Fm) : Prop := Ar.depth + 2 * n < recursionLimit ∧ Ar.units + 8 * n + 64 < cLine ∧ Ar.handled = cs.hd.map Value.ref ∧ Ar.frames = some cs.frs ∧ ∀ e ∈ cs.frs, e.scope.kind ≠ .module ∧ ∃ b, e.frame = some b
theorem Room.quiet {Z : aL} {L n : Nat} {Ar : Around} {cs : Fm} {c : Cfg} {A : AS} {s : Shared} (hn : Room n Ar cs) (H : St Z L cs c A s) (h : A.hd = none) : Ar.handled = none := by
 have := H.hd
 rw [h] at this
 refine ae hn.2.2.1 ?_
 cases q : cs.hd with
 | none => rfl
 | some x => rw [q] at this; exact this.elim
def BR (_ : Cfg) (a b : Bool) : Prop := b = a
noncomputable def FR (c : Cfg) : Fl → Flow → Prop
 | .next, f => f = .next
 | .brk, f => f = .brk
 | .cont, f => f = .cont
 | .ret v, f => ∃ u, f = .ret u ∧ VR c v u
def UR (_ : Cfg) (_ _ : Unit) : Prop := True
noncomputable def dq (c : Cfg) : List V → List Value → Prop := aS (VR c)
section
variable {Z : aL} {L : Nat} {cs : Fm} {Ar : Around} {c c' : Cfg} {A A' : AS} {s s' : Shared} {α β γ : Type} {R : Cfg → α → β → Prop} {r : Res α} {env : Env} {sc : cA}
theorem au.at {pos : Pos} {k : Unit → Sem β} (h : au Z L cs Ar (k ()) R r c s) : au Z L cs Ar (standAt pos >>= k) R r c s := .conv (fun J J h => aa (aY h)) h
theorem au.rule {tag : String} {k : Unit → Sem β} (h : au Z L cs Ar (k ()) R r c s) : au Z L cs Ar (PySem.rule tag >>= k) R r c s := .conv (fun J J h => aa (jU h)) h
theorem au.hold {vs : List Value} {t : Sem β} (h : au Z L cs Ar t R r c s) : au Z L cs Ar (holding vs t) R r c s := .conv (fun J J h => aA h) h
theorem au.w6 {vs : List Value} {t : Sem Value} {R : Cfg → α → Value → Prop} (h : au Z L cs Ar t R r c s) : au Z L cs Ar (operate vs t) R r c s := .conv (fun J J h => oP h) h
theorem au.rel {vs ks : List Value} {k : Unit → Sem β} (h : au Z L cs Ar (k ()) R r c s) : au Z L cs Ar (release vs ks >>= k) R r c s := .conv (fun J J h => aa (fk h)) h
theorem au.ret {a : γ} {k : γ → Sem β} (h : au Z L cs Ar (k a) R r c s) : au Z L cs Ar (pure a >>= k) R r c s := .conv (fun J J h => aa (aq h)) h
theorem au.map {δ : Type} {R' : Cfg → α → δ → Prop} {t : Sem β} {k : β → Sem δ} (h : au Z L cs Ar t R r c s) (hk : ∀ a c' s' u, R c' a u → ∀ Q E, (∀ v, R' c' a v → Q v s') → wpAny Z.M Ar (k u) Q E s') : au Z L cs Ar (t >>= k) R' r c s := fun l e =>
 aa (az (h l e) (fun u s' q => by
  obtain ⟨a, A', c', q1, q2, q3, q4⟩ := q
  exact .of (hk a c' s' u q4 _ _ fun v hv => ⟨a, A', c', q1, q2, q3, hv⟩)) fun e s' q => by
  obtain ⟨i, A', c', q, q1, q2, q3⟩ := q
  exact ⟨i, A', c', q, q1, q2, q3⟩)
theorem au.opt {o : Option α} {t : Sem β} (h : ∀ a, o = some a → au Z L cs Ar t R (aD.ok a A) c s) : au Z L cs Ar t R (bA o A) c s := by
 cases o with
 | none => exact .none
 | some a => exact h a rfl
theorem au.look {a : α} {t : Sem β} (H : St Z L cs c A s) (h : ∀ Q E, (∀ u tk, R c a u → Q u { s with toks := tk }) → wpAny Z.M Ar t Q E s) : au Z L cs Ar t R (aD.ok a A) c s :=
 .done fun Q E k => h Q E fun u tk hu => k u _ c (Le.toks tk) (H.toks tk) hu
theorem au.bnd {o : Option γ} {f : γ → Res α} {t : Sem β} (h : ∀ a, o = some a → au Z L cs Ar t R (f a) c s) : au Z L cs Ar t R (o.bind f) c s := by
 cases o with
 | none => exact .none
 | some a => exact h a rfl
theorem au.Ms {b : Bool} {t : Sem β} (h : b = true → au Z L cs Ar t R r c s) : au Z L cs Ar t R (Bool.rec (motive := fun _ => Res α) Option.none r b) c s := by
 cases b with
 | false => exact .none
 | true => exact h rfl
theorem au.dP {p : Prop} [Decidable p] {t : Sem β} (h : p → au Z L cs Ar t R r c s) : au Z L cs Ar t R (if p then r else Option.none) c s := by
 by_cases q : p
 ·refine ae (if_pos q) ?_; exact h q
 ·refine ae (if_neg q) ?_; exact .none
theorem au.alt {p : Prop} [Decidable p] {a b : Res α} {t : Sem β} (h : p → au Z L cs Ar t R a c s) (k : ¬p → au Z L cs Ar t R b c s) : au Z L cs Ar t R (if p then a else b) c s := by
 by_cases q : p
 ·refine ae (if_pos q) ?_; exact h q
 ·refine ae (if_neg q) ?_; exact k q
theorem au.one {a : α} {B : AS} {t : Sem β} (h : au Z L cs Ar t R (aD.ok a B) c s) {Q : β → Shared → Prop} {E : Value → Shared → Prop} (k : ∀ u c' s', Le Z L c s c' s' → St Z L cs c' B s' → R c' a u → Q u s') : bt Z.M Ar t Q E s :=
 az (h _ rfl) (fun u s' q => by
  obtain ⟨a', A', c', q1, q2, q3, q4⟩ := q
  cases msg q1
  exact k u c' s' q2 q3 q4) fun e s' q => by
  obtain ⟨i, B', d, y1, _⟩ := q
  cases msg y1
theorem au.use {δ : Type} {t : Sem β} {f : α → AS → Res δ} {l : bC δ} (h : au Z L cs Ar t R r c s) (e : Res.bind r f = some l) {Q : β → Shared → Prop} {E : Value → Shared → Prop}
 (k : ∀ a A' c' u s' r', f a A' = some r' → (∀ x ∈ r'.list, x ∈ l.list) → Le Z L c s c' s' → St Z L cs c' A' s' → R c' a u → Q u s')
 (kE : ∀ i A' c' v s', (Except.error i, A') ∈ l.list → Le Z L c s c' s' → St Z L cs c' A' s' → (VR c' (.loc i) v ∧ ∃ D, A'.heap.get i = some (.exc D)) → E v s') : bt Z.M Ar t Q E s := by
 obtain ⟨ur, rfl, m1, m2⟩ := eF e
 ·refine az (h ur rfl) (fun u s' q => ?_) fun e s' q => ?_
  ·obtain ⟨a, A', c', q1, q2, q3, q4⟩ := q
   refine (m1 a A' q1).elim fun r' aj => (aj).elim fun y1 y2 => ?_
   exact k a A' c' u s' r' y1 y2 q2 q3 q4
  ·obtain ⟨i, A', c', q1, q2, q3, q4⟩ := q
   exact kE i A' c' e s' (m2 i A' q1) q2 q3 q4
end
section
variable {Z : aL} {L : Nat} {cs : Fm} {Ar : Around} {c : Cfg} {A : AS} {s : Shared} {env : Env} {sc : cA}
theorem uA (l : List UInt8) : (l.map (·.toNat)).map UInt8.ofNat = l := by
 refine ae List.map_map ?_
 induction l with
 | nil => rfl
 | cons a r ih => (refine ae List.map_cons ?_; refine ae ih ?_); simp
theorem jD (l : List UInt8) {nv : Nat} {ρ : Val} : BS.lt nv (bif l.isEmpty then [] else [.lit (l.map (·.toNat))]) ∧ BS.den ρ (bif l.isEmpty then [] else [.lit (l.map (·.toNat))]) = l := by
 cases l with
 | nil => exact ⟨trivial, rfl⟩
 | cons a r =>
  refine ⟨⟨trivial, trivial⟩, ?_⟩
  refine (?_ : List.map UInt8.ofNat ((a :: r).map fun x : UInt8 => x.toNat) ++ [] = a :: r)
  rw [uA, List.append_nil]
set_option tactic.hygienic true in
theorem l7 {v : V} {k : Const} (H : St Z L cs c A s) (he : BZ v k = true) : au Z L cs Ar (constValue env k) VR (ok v A) c s := by
 cases v with
 | none => cases k <;> first | exact bf he | exact .ok H rfl
 | bool a => cases k <;> first | exact bf he | (obtain rfl := iB he; exact .ok H rfl)
 | int x => cases x with
  | lit i => cases k <;> first | exact bf he | (obtain rfl := iB he; exact .look H fun Q E k => wpAny_mkInt (k _ _ ⟨trivial, _, rfl⟩))
  | va _ _ => exact bf he
 | str l => cases k <;> first | exact bf he | (obtain rfl := iB he; exact .look H fun Q E k => wpAny_mkText (k _ _ ⟨_, rfl⟩))
 | bytes b => cases k <;> first | exact bf he | (rename_i l; obtain rfl := iB he; exact .look H fun Q E k => wpAny_mkTextBytes (k _ _ ⟨(jD (ρ := c.ρ) l).1, s.toks, by refine ae ((jD (nv := 0) l).2) ?_; rfl⟩))
 | _ => exact bf he
theorem kind_of {x : Str} {k : NameKind} (h : cw sc x k = true) : sc.lookup x = some k := nE.symm.trans (iB h)
theorem hG {x : Str} (h : bX x = true) : (x == ("__debug__" : Str)) = false := by
 have := (ao h).1
 rwa [Bool.not_eq_true', nD] at this
theorem w8 {x : Str} (h : bX x = true) : (x == ("__classdict__" : Str)) = false := by
 have := (ao h).2
 rwa [Bool.not_eq_true', nD] at this
theorem l8 {x : Nat} {pos : Pos} {id : Str} (yI : id = Z.nm x) (H : St Z L cs c A s) (N : aR Z sc c L cs env) (hk : cw sc id .local = true) (hd : bX id = true) :
 au Z L cs Ar (eval (.Name id pos) env) VR (bA (af x A.locs) A) c s := .opt fun v hv => .look H fun Q E k => by
 refine (H.ns).elim fun m aj => (aj).elim fun h1 h2 => ?_
 refine (h2 x v hv).elim fun u aj => (aj).elim fun h3 h4 => ?_
 have kd : env.kindOf id = some .local := by
  rcases N.names id .local (kind_of hk) with h | h
  ·exact h
  ·cases h.1
 exact wpAny_Name (wpAny_loadName_local N.kind kd (N.locals ▸ h1) (yI ▸ h3) (k u s.toks h4)) (hG hd)
theorem uC {x : Nat} {pos : Pos} {id : Str} (yI : id = Z.nm x) (H : St Z L cs c A s) (N : aR Z sc c L cs env) (hk : cM sc id = true) (hd : bX id = true) {i : Nat} (hi : af x cs.cs = some i) {v : V} (hv : A.heap.get i = some (.cell (some v))) :
 au Z L cs Ar (eval (.Name id pos) env) VR (ok v A) c s := .look H fun Q E k => by
 refine (N.cells x i (yI ▸ hk) hi).elim fun _ hc => ?_
 obtain ⟨u, h1, h2⟩ := H.objs i _ hv
 cases u with
 | none => cases h2
 | some u =>
  have kd : env.kindOf id = some .cell ∨ env.kindOf id = some .free := by
   delta cM at hk
   rcases yG hk with hk | hk
   ·rcases N.names id .cell (kind_of hk) with h | h
    ·exact .inl h
    ·cases h.1
   ·rcases N.names id .free (kind_of hk) with h | h
    ·exact .inr h
    ·exact .inl h.2
  rcases kd with kd | kd
  ·exact wpAny_Name (wpAny_loadName_cell N.kind kd (yI ▸ hc) h1 (k u s.toks h2)) (hG hd)
  ·exact wpAny_Name (wpAny_loadName_free N.kind kd (yI ▸ hc) h1 (k u s.toks h2) (w8 hd)) (hG hd)
theorem l9 (G : Z.Glob) {x : Nat} {pos : Pos} {id : Str} (yI : id = Z.nm x) (H : St Z L cs c A s) (N : aR Z sc c L cs env) (hk : cw sc id .globalImplicit = true) (hd : bX id = true) :
 au Z L cs Ar (eval (.Name id pos) env) VR (bA (af x Z.Γ.glob) A) c s := .opt fun v hv => .look H fun Q E k => by
 refine (G.look x v hv).elim fun u aj => (aj).elim fun h1 h2 => ?_
 have kd : env.kindOf id = some .globalImplicit := by
  rcases N.names id .globalImplicit (kind_of hk) with h | h
  ·exact h
  ·cases h.1
 have gg : s.heap.Ns env.globals Z.mg := N.globals ▸ G.g.keeps H.base
 have gb : s.heap.Ns env.builtins Z.mb := N.builtins ▸ G.b.keeps H.base
 refine Name_function_global N.kind kd ?_ (hG hd)
 subst yI
 rcases h1 with h1 | ⟨h0, h1⟩
 ·exact loadGlobal_global gg h1 (k u s.toks (h2 c))
 ·exact loadGlobal_builtin gg h0 gb h1 (k u s.toks (h2 c))
end
def CR (_ : Cfg) (b : Bool) (u : Value) : Prop := u = .bool b
structure bY (Z : aL) : Prop where
 bin : ∀ {Ar : Around} {L cs c A s} {o : qW} {a b : V} {u v : Value}, Room 1 Ar cs → St Z L cs c A s → VR c a u → VR c b v → au Z L cs Ar (binaryOp (rz o) u v) VR (eh o a b A) c s
 B5 : ∀ {Ar : Around} {L cs c A s} {o : qW} {a b : V} {u v : Value}, Room 1 Ar cs → St Z L cs c A s → VR c a u → VR c b v → au Z L cs Ar (inplaceOp (rz o) u v) VR (tj o a b A) c s
 cmp : ∀ {Ar : Around} {L cs c A s} {o : oJ} {a b : V} {u v : Value}, Room 1 Ar cs → St Z L cs c A s → VR c a u → VR c b v → au Z L cs Ar (compareOp (D4 o) u v) CR (eg A o a b) c s
 truth : ∀ {Ar : Around} {L cs c A s} {a : V} {u : Value}, Room 1 Ar cs → St Z L cs c A s → VR c a u → au Z L cs Ar (truthy u) BR (bA (jM a) A) c s
 neg : ∀ {Ar : Around} {L cs c A s} {i : Int} {u : Value}, Room 1 Ar cs → St Z L cs c A s → VR c (.int (.lit i)) u → au Z L cs Ar (unaryOp .USub u) VR (ok (.int (.lit (-i))) A) c s
 item : ∀ {Ar : Around} {L cs c A s} {o i : V} {u v : Value} {x : Expr}, bT x = false → Room 1 Ar cs → St Z L cs c A s → VR c o u → VR c i v →
  au Z L cs Ar (getitemInPython u >>= fun b => subscripted x b u v) VR (gW o i A) c s
 slice : ∀ {Ar : Around} {L cs c A s} {o lo hi : V} {u l h : Value} {x y : Option Expr} {p : Pos}, Room 1 Ar cs → St Z L cs c A s → VR c o u → VR c lo l → VR c hi h →
  ∀ {k : Value → Sem Value} {pos : Pos}, (∀ i, k i = (standAt pos >>= fun J => getitemInPython u >>= fun b => subscripted (.Slice x y none p) b u i)) → au Z L cs Ar (newFields "slice" [l, h, .none] >>= k) VR (rk o lo hi A) c s
 attr : ∀ {Ar : Around} {L cs c A s} {o : V} {u : Value} {f : Nat}, Room 1 Ar cs → St Z L cs c A s → VR c o u → au Z L cs Ar (getAttr u (Z.nm f) true) VR (tl o f A) c s
 lst : ∀ {Ar : Around} {L cs c A s} {vs : List V} {us : List Value}, Room 1 Ar cs → St Z L cs c A s → dq c vs us → au Z L cs Ar (newList us) VR (wy vs A) c s
 tup : ∀ {Ar : Around} {L cs c A s} {vs : List V} {us : List Value}, Room 1 Ar cs → St Z L cs c A s → dq c vs us → au Z L cs Ar (newTuple us) VR (uj vs A) c s
 emp : ∀ {Ar : Around} {L cs c A s}, Room 1 Ar cs → St Z L cs c A s → au Z L cs Ar (dictDisplay []) VR (ok (V.loc (A.alloc .a5).1) (A.alloc .a5).2) c s
def w9 (Z : aL) : Prop := ∀ {Ar : Around} {L cs c A s env sc m} {e : E} {es : List E} {xs : List Expr}, Room 1 Ar cs → nA e es A = true → encL (aV Z.nm m sc) (e :: es) xs = true → St Z L cs c A s → aR Z sc c L cs env → au Z L cs Ar (allTrue .And xs env) BR (ok false A) c s
structure aC (Z : aL) (n : Nat) (ev : bM) : Prop where
 fuel : ev.fuel ≤ n
 s : ∀ {m sc st x Ar L cs c A s env}, cG Z.nm m sc st x = true → env.frame = some L → Room n Ar cs → St Z L cs c A s → aR Z sc c L cs env → au Z L cs Ar (exec x env) FR (ev.s st A) c s
 e : ∀ {m sc e x Ar L cs c A s env}, aV Z.nm m sc e x = true → Room n Ar cs → St Z L cs c A s → aR Z sc c L cs env → au Z L cs Ar (eval x env) VR (ev.e e A) c s
 c : ∀ {m sc e x Ar L cs c A s env}, aV Z.nm m sc e x = true → Room n Ar cs → St Z L cs c A s → aR Z sc c L cs env → au Z L cs Ar (isTrue x env (eval x env)) BR (ev.c e A) c s
theorem Room.le {n m : Nat} {Ar : Around} {cs : Fm} (h : Room n Ar cs) (hm : m ≤ n) : Room m Ar cs := ⟨Nat.lt_of_le_of_lt (Nat.add_le_add_left (Nat.mul_le_mul_left 2 hm) _) h.1, Nat.lt_of_le_of_lt (Nat.add_le_add_right (Nat.add_le_add_left (Nat.mul_le_mul_left 8 hm) _) 64) h.2.1, h.2.2⟩
section
variable {Z : aL} {n : Nat} {ih : bM} {L : Nat} {cs : Fm} {Ar : Around} {c : Cfg} {A : AS} {s : Shared} {env : Env} {sc : cA} {m : Nat}
theorem lE {env : Env} {xs : List Expr} {e : E} {x : Expr} : ∀ {m : Nat}, aV Z.nm m sc e x = true → starEach (x :: xs) env = (false, eval x env) :: starEach xs env
 | 0, h => bf h
 | m + 1, h => by
  replace h := bL h
  induction h <;> rfl
theorem dV (env : Env) : ∀ {es : List E} {xs : List Expr}, encL (aV Z.nm m sc) es xs = true → starEach xs env = (evalEach xs env).map fun t => (false, t)
 | [], [], _ => rfl
 | [], _ :: _, h => by cases h
 | _ :: _, [], h => by cases h
 | e :: es, x :: xs, h => by
  refine (ao h).elim fun h1 h2 => ?_
  have ih := dV env h2
  refine ae (lE h1) ?_; refine ae ih ?_; rfl
theorem fP {pos : Pos} : ∀ (ts : List (Sem Value)), backTo pos (ts.map fun t => (false, t)) = ts.map fun t => (false, t)
 | [] => rfl
 | t :: r => by
  refine (?_ : (false, _) :: backTo pos (r.map fun t => (false, t)) = _)
  refine ae (fP r) ?_; rfl
theorem c9 (S : aC Z n ih) (hn : Room n Ar cs) : ∀ {es : List E} {xs : List Expr} {c : Cfg} {A : AS} {s : Shared}, encL (aV Z.nm m sc) es xs = true → St Z L cs c A s → aR Z sc c L cs env →
 au Z L cs Ar (spliced ((evalEach xs env).map fun t => (false, t))) dq (eY ih es A) c s
 | [], [], _, _, _, _, H, _ => .ok H .nil
 | [], _ :: _, _, _, _, h, _, _ => by cases h
 | _ :: _, [], _, _, _, h, _, _ => by cases h
 | e :: es, x :: xs, c, A, s, h, H, N => by
  refine (ao h).elim fun h1 h2 => ?_
  refine (S.e h1 hn H N).bind H.bw fun v A1 c1 s1 u a0 H1 r1 => ?_
  refine .ret ?_
  refine au.bind H1.bw (.hold (c9 S hn h2 H1 (N.mono a0.grown))) fun vs A2 c2 s2 us le2 H2 r2 => ?_
  exact .ok H2 (.cons (r1.mono le2.grown) r2)
theorem gB (S : aC Z n ih) (hn : Room n Ar cs) {pos : Pos} {es : List E} {xs : List Expr} (h : encL (aV Z.nm m sc) es xs = true) (H : St Z L cs c A s) (N : aR Z sc c L cs env) :
 au Z L cs Ar (spliced (backTo pos (starEach xs env))) dq (eY ih es A) c s := by
 rw [dV env h, fP]
 exact c9 S hn h H N
theorem dW (S : aC Z n ih) (hn : Room n Ar cs) {e : Option E} {x : Option Expr} (h : iJ (aV Z.nm m sc) e x = true) (H : St Z L cs c A s) (N : aR Z sc c L cs env) :
 au Z L cs Ar (valueOrNone (evalOpt x env)) VR (lW ih e A) c s := by
 cases e <;> cases x
 ·exact .ok H rfl
 ·cases h
 ·cases h
 ·exact S.e h hn H N
theorem et {os : List CmpOp} {xs : List Expr} {ts : List (Sem Value)} (h : lastMarks os xs = false) : markedEach os xs ts = ts := markedEach_of_false os xs ts h
theorem dX {α β : Type} {f : α → β → Bool} : ∀ {l : List α} {k : List β}, encL f l k = true → l.length = k.length
 | [], [], _ => rfl
 | [], _ :: _, h => by cases h
 | _ :: _, [], h => by cases h
 | _ :: _, _ :: _, h => by refine ae List.length_cons ?_; refine ae List.length_cons ?_; refine ae (dX (ao h).2) ?_; rfl
theorem aQ {α β : Type} {f : α → β → Bool} {a : α} {l : List α} {b : List β} (h : encL f (a :: l) b = true) : ∃ x t, b = x :: t ∧ f a x = true ∧ encL f l t = true := by
 cases b with
 | nil => exact bf h
 | cons x t => exact ⟨x, t, rfl, (ao h).1, (ao h).2⟩
theorem cN {α β : Type} {f : α → β → Bool} {b : List β} (h : encL f ([] : List α) b = true) : b = [] := by
 cases b with
 | nil => rfl
 | cons x t => exact bf h
theorem no {α : Type} {a : α} {P : Prop} (e : (none : Option α) = some a) : P := nomatch e
theorem y7 {as : List V} {v : V} (h : lB as = some v) : as = [v] := by
 cases as with
 | nil => exact no h
 | cons a r => cases r with
  | nil => (refine ae (aO h) ?_; rfl)
  | cons b t => exact no h
theorem y8 {as : List V} {p : V × V} (h : lC as = some p) : as = [p.1, p.2] := by
 cases as with
 | nil => exact no h
 | cons a r => cases r with
  | nil => exact no h
  | cons b t => cases t with
   | nil => obtain rfl := aO h; rfl
   | cons _ _ => exact no h
theorem dI {c : Cfg} {as : List V} {v : V} {us : List Value} (h : lB as = some v) (r : dq c as us) : ∃ u, us = [u] ∧ VR c v u := by
 rw [y7 h] at r
 obtain ⟨u, t, rfl, r1, r2⟩ := r.cons_inv
 exact ⟨u, by refine ae r2.nil_inv ?_; rfl, r1⟩
theorem dJ {c : Cfg} {as : List V} {p : V × V} {us : List Value} (h : lC as = some p) (r : dq c as us) : ∃ u w, us = [u, w] ∧ VR c p.1 u ∧ VR c p.2 w := by
 rw [y8 h] at r
 obtain ⟨u, t, rfl, r1, r2⟩ := r.cons_inv
 obtain ⟨w, t, rfl, r2, r3⟩ := r2.cons_inv
 exact ⟨u, w, by refine ae r3.nil_inv ?_; rfl, r1, r2⟩
theorem cB {c : Cfg} {v : V} {i : Int} {u : Value} (h : jv v = some i) (r : VR c v u) : ∃ t, u = .int i t := by
 cases v with
 | int x => cases x with
  | lit k =>
   obtain rfl := aO h
   obtain ⟨_, t, rfl⟩ := r
   exact ⟨t, rfl⟩
  | va _ _ => exact no h
 | _ => exact no h
theorem gE (P : bY Z) (S : aC Z n ih) (h1 : 1 ≤ n) (hn : Room n Ar cs) {pos : Pos} : ∀ (ops : List oJ) {os : List CmpOp} {es : List E} {xs : List Expr} {a : V} {u : Value} {c : Cfg} {A : AS} {s : Shared},
 encL encC ops os = true → encL (aV Z.nm m sc) es xs = true → ops.length = es.length → St Z L cs c A s → aR Z sc c L cs env → VR c a u → au Z L cs Ar (testChain pos u os (evalEach xs env)) BR (chain ih a ops es A) c s
 | [], _, _, _, _, _, _, _, _, _, _, _, _, _, _ => fun J e => no e
 | [op], os, es, xs, a, u, c, A, s, h, k, hl, H, N, r => by
  obtain ⟨e, rfl⟩ := List.length_eq_one_iff.mp hl.symm
  obtain ⟨o, os, rfl, g, g'⟩ := aQ h
  obtain ⟨x, xs, rfl, j, j'⟩ := aQ k
  obtain rfl := cN g'
  obtain rfl := cN j'
  obtain rfl := encC_eq g
  refine au.bind H.bw (.hold (S.e j hn H N)) fun b A1 c1 s1 v a0 H1 r1 => .at ?_
  refine au.map (.w6 (P.cmp (hn.le h1) H1 (r.mono a0.grown) r1)) fun t c' s' w hw Q E q => ?_
  subst hw
  exact wpAny_holding (wpAny_truthy_bool (q _ rfl))
 | op :: GX :: ops, os, es, xs, a, u, c, A, s, h, k, hl, H, N, r => by
  cases es with
  | nil => exact absurd hl (Nat.succ_ne_zero _)
  | cons e es => cases es with
  | nil => exact absurd (Nat.succ.inj hl) (Nat.succ_ne_zero _)
  | cons e' es =>
  obtain ⟨o, os, rfl, g, g'⟩ := aQ h
  obtain ⟨x, xs, rfl, j, j'⟩ := aQ k
  obtain ⟨o', os, rfl, FD, GY⟩ := aQ g'
  obtain ⟨x', xs, rfl, Mt, Mu⟩ := aQ j'
  cases encC_eq g
  refine au.bind H.bw (.hold (S.e j hn H N)) fun b A1 c1 s1 v a0 H1 r1 => .at ?_
  refine au.bind H1.bw (.hold (P.cmp (hn.le h1) H1 (r.mono a0.grown) r1)) fun t A2 c2 s2 w le2 H2 hw => .rel ?_
  subst hw
  refine .conv (fun Q E q => aa (aA (.of (wpAny_truthy_bool q)))) ?_
  cases t with
  | false => exact .ok H2 rfl
  | true => exact gE P S h1 hn (GX :: ops) g' j' (Nat.succ.inj hl) H2 (N.mono (a0.grown.trans le2.grown)) (r1.mono le2.grown)
theorem j1 (P : bY Z) (S : aC Z n ih) (h1 : 1 ≤ n) (hn : Room n Ar cs) {pos : Pos} : ∀ (ops : List oJ) {os : List CmpOp} {es : List E} {xs : List Expr} {a : V} {u : Value} {c : Cfg} {A : AS} {s : Shared},
 encL encC ops os = true → encL (aV Z.nm m sc) es xs = true → ops.length = es.length → St Z L cs c A s → aR Z sc c L cs env → VR c a u → au Z L cs Ar (compareChain pos u os (evalEach xs env)) CR (chain ih a ops es A) c s
 | [], _, _, _, _, _, _, _, _, _, _, _, _, _, _ => fun J e => no e
 | [op], os, es, xs, a, u, c, A, s, h, k, hl, H, N, r => by
  obtain ⟨e, rfl⟩ := List.length_eq_one_iff.mp hl.symm
  obtain ⟨o, os, rfl, g, g'⟩ := aQ h
  obtain ⟨x, xs, rfl, j, j'⟩ := aQ k
  obtain rfl := cN g'
  obtain rfl := cN j'
  obtain rfl := encC_eq g
  exact au.bind H.bw (.hold (S.e j hn H N)) fun b A1 c1 s1 v a0 H1 r1 => .at (.w6 (P.cmp (hn.le h1) H1 (r.mono a0.grown) r1))
 | op :: GX :: ops, os, es, xs, a, u, c, A, s, h, k, hl, H, N, r => by
  cases es with
  | nil => exact absurd hl (Nat.succ_ne_zero _)
  | cons e es => cases es with
  | nil => exact absurd (Nat.succ.inj hl) (Nat.succ_ne_zero _)
  | cons e' es =>
  obtain ⟨o, os, rfl, g, g'⟩ := aQ h
  obtain ⟨x, xs, rfl, j, j'⟩ := aQ k
  obtain ⟨o', os, rfl, FD, GY⟩ := aQ g'
  obtain ⟨x', xs, rfl, Mt, Mu⟩ := aQ j'
  cases encC_eq g
  refine au.bind H.bw (.hold (S.e j hn H N)) fun b A1 c1 s1 v a0 H1 r1 => .at ?_
  refine au.bind H1.bw (.hold (P.cmp (hn.le h1) H1 (r.mono a0.grown) r1)) fun t A2 c2 s2 w le2 H2 hw => .rel ?_
  subst hw
  refine .conv (fun Q E q => aa (aA (.of (wpAny_truthy_bool q)))) ?_
  cases t with
  | false => exact .ok H2 rfl
  | true => exact j1 P S h1 hn (GX :: ops) g' j' (Nat.succ.inj hl) H2 (N.mono (a0.grown.trans le2.grown)) (r1.mono le2.grown)
theorem ma (P : bY Z) (S : aC Z n ih) (h1 : 1 ≤ n) (hn : Room n Ar cs) {pos : Pos} : ∀ (es : List E) {xs : List Expr} {c : Cfg} {A : AS} {s : Shared}, encL (aV Z.nm m sc) es xs = true → St Z L cs c A s → aR Z sc c L cs env →
 au Z L cs Ar (boolOp pos .Or (evalEach xs env)) VR (Ku ih es A) c s
 | [], _, _, _, _, _, _, _ => .none
 | [e], xs, c, A, s, h, H, N => by
  obtain ⟨x, xs, rfl, g1, g2⟩ := aQ h
  obtain rfl := cN g2
  exact S.e g1 hn H N
 | e :: e' :: es, xs, c, A, s, h, H, N => by
  obtain ⟨x, xs, rfl, g1, g2⟩ := aQ h
  obtain ⟨x', xs, rfl, _, _⟩ := aQ g2
  refine au.bind H.bw (S.e g1 hn H N) fun v A1 c1 s1 u a0 H1 r1 => .at ?_
  refine au.bind H1.bw (.hold (P.truth (hn.le h1) H1 r1)) fun t A2 c2 s2 w le2 H2 hw => ?_
  cases hw
  cases t with
  | true => exact .ok H2 (r1.mono le2.grown)
  | false => exact ma P S h1 hn (e' :: es) g2 H2 (N.mono (a0.grown.trans le2.grown))
theorem j2 (P : w9 Z) (S : aC Z n ih) (h1 : 1 ≤ n) (hn : Room n Ar cs) : ∀ (es : List E) {xs : List Expr} {c : Cfg} {A : AS} {s : Shared}, encL (aV Z.nm m sc) es xs = true → St Z L cs c A s → aR Z sc c L cs env →
 au Z L cs Ar (allTrue .And xs env) BR (wM ih es A) c s
 | [], [], _, _, _, _, H, _ => .ok H rfl
 | [], _ :: _, _, _, _, h, _, _ => by cases h
 | _ :: _, [], _, _, _, h, _, _ => by cases h
 | e :: es, x :: xs, c, A, s, h, H, N => by
  by_cases hz : nA e es A = true
  ·have e1 : wM ih (e :: es) A = ok false A := C7 hz
   refine ae e1 ?_
   exact P (hn.le h1) hz h H N
  have e1 : wM ih (e :: es) A = Res.bind (ih.c e A) fun t A => Bool.rec (motive := fun _ => Res Bool) (ok false A) (wM ih es A) t := C8 hz
  refine ae e1 ?_
  refine au.bind H.bw (S.c (ao h).1 hn H N) fun t A1 c1 s1 u a0 H1 r1 => ?_
  cases r1
  cases t with
  | false => exact .ok H1 rfl
  | true => exact j2 P S h1 hn es (ao h).2 H1 (N.mono a0.grown)
theorem me (S : aC Z n ih) (hn : Room n Ar cs) : ∀ (es : List E) {xs : List Expr} {c : Cfg} {A : AS} {s : Shared}, encL (aV Z.nm m sc) es xs = true → St Z L cs c A s → aR Z sc c L cs env →
 au Z L cs Ar (allTrue .Or xs env) BR (Kv ih es A) c s
 | [], [], _, _, _, _, H, _ => .ok H rfl
 | [], _ :: _, _, _, _, h, _, _ => by cases h
 | _ :: _, [], _, _, _, h, _, _ => by cases h
 | e :: es, x :: xs, c, A, s, h, H, N => by
  refine au.bind H.bw (S.c (ao h).1 hn H N) fun t A1 c1 s1 u a0 H1 r1 => ?_
  cases r1
  cases t with
  | true => exact .ok H1 rfl
  | false => exact me S hn es (ao h).2 H1 (N.mono a0.grown)
end
structure xa (Z : aL) (n : Nat) (ih : bM) : Prop where
 call : ∀ {Ar : Around} {L cs c A s env sc m} {f : V} {u : Value} {as : List E} {xs : List Expr} {pos : Pos}, Room (n + 1) Ar cs → St Z L cs c A s → aR Z sc c L cs env → VR c f u → encL (aV Z.nm m sc) as xs = true → xs.length < 30 →
  au Z L cs Ar (callWith pos u [] (backTo pos (starEach xs env)) (backToKw pos (keywordEach [] env))) VR (Res.bind (eY ih as A) fun as A => lV Z.Γ ih f as A) c s
 meth : ∀ {Ar : Around} {L cs c A s env sc m} {o : V} {u : Value} {k : Nat} {as : List E} {x : Expr} {xs : List Expr} {apos pos : Pos}, Room (n + 1) Ar cs → St Z L cs c A s → aR Z sc c L cs env → VR c o u → encL (aV Z.nm m sc) as xs = true → xs.length < 30 →
  (apos.endLine == pos.line) = true →
  au Z L cs Ar (methodCall x (Z.nm k) apos pos env u (xs.length + ([] : List Keyword).length) (backTo pos (starEach xs env)) (backToKw pos (keywordEach [] env))) VR (match i8 Z.Γ o k A with | none => none | some mt => Res.bind (eY ih as A) fun as A => wL Z.Γ ih mt k as A) c s
 eK : ∀ {Ar : Around} {L cs c A s env sc m} {elt it : E} {ts : List Nat} {x : Expr}, aV Z.nm (m + 1) sc (.eK elt ts it) x = true → Room (n + 1) Ar cs → St Z L cs c A s → aR Z sc c L cs env →
  au Z L cs Ar (eval x env) VR (A6 Z.Γ ih (.eK elt ts it) A) c s
 lam : ∀ {Ar : Around} {L cs c A s env sc m} {b : E} {fv : List Nat} {x : Expr}, aV Z.nm (m + 1) sc (.lam fv b) x = true → Room (n + 1) Ar cs → St Z L cs c A s → aR Z sc c L cs env →
  au Z L cs Ar (eval x env) VR (A6 Z.Γ ih (.lam fv b) A) c s
section
variable {Z : aL} {n : Nat} {ih : bM} {L : Nat} {cs : Fm} {Ar : Around} {c : Cfg} {A : AS} {s : Shared} {env : Env} {sc : cA} {m : Nat}
set_option tactic.hygienic true in
theorem eH {o : Expr} {a : Str} {whole : Sem Value} (h : eG o = false) : attributeBase o a env whole = whole := by
 cases o <;> first | rfl | skip
 rename_i f as ks pos
 cases f <;> first | rfl | skip
 rename_i id q
 cases as with
 | cons => rfl
 | nil => cases ks with
  | cons => rfl
  | nil =>
   have h : (id == ("super" : Str)) = false := h
   exact if_pos (by rw [bne, h]; rfl)
theorem au.hJ {base : Expr} {o : Value} {t : Sem Value} {x : Res V} (h : au Z L cs Ar t VR x c s) : au Z L cs Ar (t >>= fun r => letTemporaryGo base o r >>= fun J => pure r) VR x c s := fun l e =>
 aa (az (h l e) (fun u s' q => aa (gy (aq q))) fun J J q => q)
set_option tactic.hygienic true in
theorem uD (G : Z.Glob) (P : bY Z) (S : aC Z n ih) (C : xa Z n ih) (h1 : 1 ≤ n) (hn : Room (n + 1) Ar cs) {e : E} {x : Expr} (he : aV Z.nm m sc e x = true) (H : St Z L cs c A s) (N : aR Z sc c L cs env) :
 au Z L cs Ar (eval x env) VR (A6 Z.Γ ih e A) c s := by
 have cx : Room n Ar cs := hn.le (Nat.le_succ n)
 have hb : Room 1 Ar cs := cx.le h1
 cases m with
 | zero => cases he
 | succ m =>
 have FG := he
 replace he := bL he
 induction he
 case cst v _ _ _ he =>
  exact l7 H he
 case loc i id pos he =>
  obtain ⟨he, hd⟩ := ao he
  obtain ⟨he, hk⟩ := ao he
  exact l8 (cL he) H N hk hd
 case dj i id pos he =>
  obtain ⟨he, hd⟩ := ao he
  obtain ⟨he, hk⟩ := ao he
  refine (?_ : au Z L cs Ar _ VR ((af i A.cells).bind fun i => (AR (A.heap.get i)).bind fun v => ok v.1 A) c s)
  refine ae H.cells ?_
  exact .bnd fun j hj => .bnd fun v hv => uC (cL he) H N hk hd hj v.2
 case aH i id pos he =>
  obtain ⟨he, hd⟩ := ao he
  obtain ⟨he, hk⟩ := ao he
  exact l9 G (cL he) H N hk hd
 case av e f o a pos he =>
  obtain ⟨he, h3⟩ := ao he
  refine (ao he).elim fun ha h2 => ?_
  cases cL ha
  refine (?_ : au Z L cs Ar (attributeBase o (Z.nm f) env (eval o env) >>= _) VR (Res.bind (ih.e e A) _) c s)
  refine ae (eH (by simpa using h2)) ?_
  exact au.bind H.bw (S.e h3 cx H N) fun v A1 c1 s1 u a0 H1 r1 => .at (.hJ (.hold (P.attr hb H1 r1)))
 case bin o a b l p r pos he =>
  refine (ao he).elim fun he h3 => ?_
  refine (ao he).elim fun ho h2 => ?_
  cases jX ho
  refine au.bind H.bw (S.e h2 cx H N) fun v A1 c1 s1 u a0 H1 r1 => ?_
  refine au.bind H1.bw (.hold (S.e h3 cx H1 (N.mono a0.grown))) fun w A2 c2 s2 u2 le2 H2 r2 => .at ?_
  exact .w6 (P.bin hb H2 (r1.mono le2.grown) r2)
 case neg e y pos he =>
  refine au.bind H.bw (S.e he cx H N) fun v A1 c1 s1 u a0 H1 r1 => .at (.hold ?_)
  split
  ·exact P.neg hb H1 r1
  ·exact .none
 case not_ e y pos he => exact .none
 case and_ es _ _ he => exact .none
 case or_ es _ _ he =>
  exact ma P S h1 cx es he H N
 case cmp a ops es l os xs pos he =>
  refine (ao he).elim fun he _ => ?_
  refine (ao he).elim fun he hl => ?_
  refine (ao he).elim fun he hm => ?_
  refine (ao he).elim fun he h4 => ?_
  refine (ao he).elim fun h2 h3 => ?_
  refine au.bind H.bw (S.e h2 cx H N) fun v A1 c1 s1 u a0 H1 r1 => ?_
  refine ae (et (by simpa using hm)) ?_
  refine fun l q => ?_
  have := au.bind (Z := Z) (L := L) (cs := cs) (Ar := Ar) (R' := VR) (k := fun w => pure w) (f := fun t A => aD.ok (V.bool t) A) H1.bw (j1 P S h1 cx (pos := pos) ops h3 h4 (by simpa using hl) H1 (N.mono a0.grown) r1) fun t A2 c2 s2 w le2 H2 hw => by
   subst hw
   exact .ok H2 rfl
  have := this l q
  rwa [bind_pure] at this
 case ite_ a b d t y z pos he =>
  refine (ao he).elim fun he h4 => ?_
  refine (ao he).elim fun h2 h3 => ?_
  refine au.bind H.bw (S.c h2 cx H N) fun v A1 c1 s1 u a0 H1 r1 => ?_
  cases r1
  cases v with
  | true => exact S.e h3 cx H1 (N.mono a0.grown)
  | false => exact S.e h4 cx H1 (N.mono a0.grown)
 case call f as g xs pos he =>
  obtain ⟨he, hl⟩ := ao he
  refine (ao he).elim fun he h3 => ?_
  refine (ao he).elim fun hg h2 => ?_
  have hl : xs.length < 30 := of_decide_eq_true hl
  have e1 : eval (.Call g xs [] pos) env = (eval g env >>= fun f => callWith pos f [] (backTo pos (starEach xs env)) (backToKw pos (keywordEach [] env))) := by
   cases g <;> first | rfl | cases hg
  refine ae e1 ?_
  exact au.bind H.bw (S.e h2 cx H N) fun v A1 c1 s1 u a0 H1 r1 => C.call hn H1 (N.mono a0.grown) r1 h3 hl
 case meth o k as p a ap xs pos he =>
  refine (ao he).elim fun he hl => ?_
  obtain ⟨he, h5⟩ := ao he
  obtain ⟨he, h4⟩ := ao he
  refine (ao he).elim fun he h3 => ?_
  refine (ao he).elim fun ha h2 => ?_
  cases cL ha
  refine (?_ : au Z L cs Ar (attributeBase p (Z.nm k) env (eval p env) >>= _) VR (Res.bind (ih.e o A) _) c s)
  refine ae (eH (by simpa using h2)) ?_
  exact au.bind H.bw (S.e h3 cx H N) fun v A1 c1 s1 u a0 H1 r1 => .at (C.meth hn H1 (N.mono a0.grown) r1 h4 (of_decide_eq_true h5) hl)
 case sub o i p q pos he =>
  obtain ⟨he, h3⟩ := ao he
  refine (ao he).elim fun h0 h2 => ?_
  refine au.bind H.bw (S.e h2 cx H N) fun v A1 c1 s1 u a0 H1 r1 => ?_
  refine au.bind H1.bw (.hold (S.e h3 cx H1 (N.mono a0.grown))) fun w A2 c2 s2 u2 le2 H2 r2 => .at ?_
  have := (P.item (x := q) (by simpa using h0) hb H2 (r1.mono le2.grown) r2).hJ (base := p) (o := u)
  rwa [bind_assoc] at this
 case iC o lo hi p l u o6 pos he =>
  refine (ao he).elim fun he h3 => ?_
  refine (ao he).elim fun h0 h2 => ?_
  refine au.bind H.bw (S.e h0 cx H N) fun v A1 c1 s1 uo a0 H1 r1 => ?_
  refine .conv (t' := valueOrNone (evalOpt l env) >>= fun a => holding [a] (valueOrNone (evalOpt u env)) >>= fun b => (newFields "slice" [a, b, .none] >>= fun i => standAt pos >>= fun J => getitemInPython uo >>= fun d => subscripted (.Slice l u none o6) d uo i) >>= fun r => letTemporaryGo p uo r >>= fun J => pure r) (fun Q E q Γ p' fg hC => ?_) ?_
  ·have q := q Γ p' fg hC
   have ev : eval (.Slice l u none o6) env = (valueOrNone (evalOpt l env) >>= fun a => holding [a] (valueOrNone (evalOpt u env)) >>= fun b => holding [a, b] (pure .none) >>= fun d => newFields "slice" [a, b, d]) := rfl
   refine ae ev ?_
   simp -iota only [Sem.wp_bind', Sem.wp_holding, Sem.wp_pure] at q ⊢
   exact q
  ·refine au.bind H1.bw (dW S cx h2 H1 (N.mono a0.grown)) fun a A2 c2 s2 ua le2 H2 r2 => ?_
   refine au.bind H2.bw (.hold (dW S cx h3 H2 ((N.mono a0.grown).mono le2.grown))) fun b A3 c3 s3 ub dY H3 r3 => ?_
   exact .hJ (P.slice hb H3 (r1.mono (le2.grown.trans dY.grown)) (r2.mono dY.grown) r3 fun J => rfl)
 case lst es xs pos he =>
  refine .at ?_
  exact au.bind H.bw (gB S cx he H N) fun vs A1 c1 s1 us a0 H1 r1 => P.lst hb H1 r1
 case tup es xs k pos he =>
  refine .at ?_
  exact au.bind H.bw (gB S cx he H N) fun vs A1 c1 s1 us a0 H1 r1 => P.tup hb H1 r1
 case emp _ =>
  exact .at (P.emp hb H)
 case eK elt ts it y t z scope p he => exact C.eK FG hn H N
 case lam fv b ar y scope p he => exact C.lam FG hn H N
end
structure bQ (Z : aL) : Prop where
 B6 : ∀ {Ar : Around} {L cs c A s} {o v : V} {u w : Value} {f : Nat}, Room 1 Ar cs → St Z L cs c A s → VR c o u → VR c v w → au Z L cs Ar (setAttr u (Z.nm f) w) UR (gX Z.Γ o f v A) c s
 nr : ∀ {Ar : Around} {L cs c A s} {o i v : V} {u j w : Value}, Room 1 Ar cs → St Z L cs c A s → VR c o u → VR c i j → VR c v w → au Z L cs Ar (setItem u j w) UR (eD o i v A) c s
 rg : ∀ {Ar : Around} {L cs c A s} {o lo hi v : V} {u l h w : Value}, Room 1 Ar cs → St Z L cs c A s → VR c o u → VR c lo l → VR c hi h → VR c v w →
  ∀ {k : Value → Sem Unit} {pos : Pos}, (∀ i, k i = (standAt pos >>= fun J => holding [w, u, i] (setItem u i w))) → au Z L cs Ar (newFields "slice" [l, h, .none] >>= k) UR (gx o lo hi v A) c s
 iF : ∀ {Ar : Around} {L cs c A s} {o i : V} {u j : Value}, Room 1 Ar cs → St Z L cs c A s → VR c o u → VR c i j → au Z L cs Ar (delItem u j) UR (jN o i A) c s
 y9 : ∀ {Ar : Around} {L cs c A s} {i : Nat} {xs : List V}, Room 1 Ar cs → St Z L cs c A s → A.hd = none → A.heap.get i = some (.tup xs) ∨ A.heap.get i = some (.list xs) → au Z L cs Ar (unpackItems (.ref (c.σ i).1) xs.length none) dq (ok xs A) c s
structure Ba (Z : aL) (n : Nat) (ih : bM) : Prop where
 loop : ∀ {Ar : Around} {L cs c A s env sc m} {is : List Nat} {t : Expr} {b : List S} {body : List Stmt} {v : V} {u : Value}, g8 Z.nm sc is t = true → is.Nodup → encL (cG Z.nm m sc) b body = true → env.frame = some L → Room (n + 1) Ar cs → St Z L cs c A s → aR Z sc c L cs env → VR c v u →
  au Z L cs Ar (pyIter u >>= fun it => runOwn (.forLoop t it body [] env) env) FR (match cY v A with | some (it, A) => if A.hd.isNone = true then ei (aD.loop ih is b 300 it A) else none | none => none) c s
 swap : ∀ {Ar : Around} {L cs c A s env sc m} {i : Nat} {id : Str} {pos pos' : Pos} {e : E} {z : Expr}, dm Z.nm sc i (.Name id pos) = true → aV Z.nm m sc e z = true → jZ z = true → oW id pos z = true → Room (n + 1) Ar cs → St Z L cs c A s → aR Z sc c L cs env →
  au Z L cs Ar (exec (.Assign [.Name id pos] z pos') env) FR (Res.bind (ih.e e A) fun v A => ok .next (aN i v A)) c s
section
variable {Z : aL} {n : Nat} {ih : bM} {L : Nat} {cs : Fm} {Ar : Around} {c : Cfg} {A : AS} {s : Shared} {env : Env} {sc : cA} {m : Nat}
theorem uE (P : bY Z) (S : aC Z n ih) (h1 : 1 ≤ n) (hn : Room n Ar cs) {e : E} {x : Expr} (he : aV Z.nm m sc e x = true) (H : St Z L cs c A s) (N : aR Z sc c L cs env)
 (hx : isTrue x env (eval x env) = (do let v ← eval x env; standAt x.pos; holding [v] (truthy v))) :
 au Z L cs Ar (isTrue x env (eval x env)) BR (Res.bind (ih.e e A) fun v A => bA (jM v) A) c s := by
 refine ae hx ?_
 exact au.bind H.bw (S.e he hn H N) fun v A1 c1 s1 u a0 H1 r1 => .at (.hold (P.truth (hn.le h1) H1 r1))
set_option tactic.hygienic true in
theorem uF (LZ : w9 Z) (P : bY Z) (S : aC Z n ih) (h1 : 1 ≤ n) (hn : Room (n + 1) Ar cs) {e : E} {x : Expr} (he : aV Z.nm m sc e x = true) (H : St Z L cs c A s) (N : aR Z sc c L cs env) :
 au Z L cs Ar (isTrue x env (eval x env)) BR (Kx Z.Γ ih e A) c s := by
 have cx : Room n Ar cs := hn.le (Nat.le_succ n)
 cases m with
 | zero => cases he
 | succ m =>
 have FG := he
 replace he := bL he
 induction he
 case not_ e y pos he =>
  exact au.bind H.bw (S.c he cx H N) fun t A1 c1 s1 u a0 H1 r1 => by subst r1; exact .ok H1 rfl
 case and_ es _ _ he =>
  exact j2 LZ S h1 cx es he H N
 case or_ es _ _ he =>
  exact me S cx es he H N
 case cmp a ops es l os xs pos he =>
  refine (ao he).elim fun he _ => ?_
  refine (ao he).elim fun he hl => ?_
  refine (ao he).elim fun he hm => ?_
  refine (ao he).elim fun he h4 => ?_
  refine (ao he).elim fun h2 h3 => ?_
  refine au.bind H.bw (S.e h2 cx H N) fun v A1 c1 s1 u a0 H1 r1 => ?_
  refine ae (et (by simpa using hm)) ?_
  exact gE P S h1 cx ops h3 h4 (by simpa using hl) H1 (N.mono a0.grown) r1
 case ite_ a b d t y z pos he => exact .none
 all_goals exact uE P S h1 cx FG H N rfl
theorem bN (I : aC Z n ih) (hf : env.frame = some L) (hn : Room n Ar cs) : ∀ (b : List S) {xs : List Stmt} {c : Cfg} {A : AS} {s : Shared}, encL (cG Z.nm m sc) b xs = true → St Z L cs c A s → aR Z sc c L cs env →
 au Z L cs Ar (execs xs env) FR (aW ih b A) c s
 | [], [], _, _, _, _, H, _ => .ok H rfl
 | [], _ :: _, _, _, _, h, _, _ => by cases h
 | _ :: _, [], _, _, _, h, _, _ => by cases h
 | b :: bs, x :: xs, c, A, s, h, H, N => by
  refine au.bind H.bw (I.s (ao h).1 hf hn H N) fun f A1 c1 s1 u a0 H1 r1 => ?_
  cases f with
  | next => subst r1; exact bN I hf hn bs (ao h).2 H1 (N.mono a0.grown)
  | brk => subst r1; exact .ok H1 rfl
  | cont => subst r1; exact .ok H1 rfl
  | ret v => obtain ⟨w, rfl, r2⟩ := r1; exact .ok H1 ⟨w, rfl, r2⟩
theorem gG (G : Z.Glob) {i : Nat} {id : Str} {pos : Pos} (h : dm Z.nm sc i (.Name id pos) = true) (H : St Z L cs c A s) (N : aR Z sc c L cs env) {v : V} {u : Value} (r : VR c v u) :
 au Z L cs Ar (bindName env id u) UR (ok () (aN i v A)) c s := .done fun Q E k => by
 refine (ao h).elim fun h hd => ?_
 refine (ao h).elim fun hi hk => ?_
 cases cL hi
 have kd : env.kindOf (Z.nm i) = some .local := by
  rcases N.names _ .local (kind_of hk) with h | h
  ·exact h
  ·cases h.1
 refine (H.ns).elim fun m aj => (aj).elim fun h1 h2 => ?_
 refine wpAny_bindName (wpAny_storeName_local kd (N.locals ▸ h1) (fun h' hn hs => ?_) ?_)
 ·rw [N.locals] at hn hs
  refine k () _ c (Le.store H.oS (Ns.has hn) (Ns.gk h1) hs) (H.store (h' := h') G.inj r (fun m' Mv => ?_) hs) trivial
  have : m' = m := Mv.eq_nsMap.trans h1.eq_nsMap.symm
  cases this
  exact hn
 ·refine ae N.kind ?_; rfl
theorem cS (G : Z.Glob) {i : Nat} {id : Str} {pos : Pos} (h : dm Z.nm sc i (.Name id pos) = true) (H : St Z L cs c A s) (N : aR Z sc c L cs env) {v : V} {u : Value} (r : VR c v u) :
 au Z L cs Ar (assign (.Name id pos) env u) UR (ok () (aN i v A)) c s := .at (gG G h H N r)
theorem eZ (G : Z.Glob) : ∀ {is : List Nat} {xs : List Expr} {vs : List V} {us : List Value} {c : Cfg} {A A' : AS} {s : Shared}, encL (dm Z.nm sc) is xs = true → St Z L cs c A s → aR Z sc c L cs env → dq c vs us → cV is vs A = some A' →
 au Z L cs Ar (assignInOrder ((assignEach xs env).map (·.2)) us) UR (ok () A') c s
 | [], xs, vs, us, c, A, A', s, h, H, N, r, e => by
  obtain rfl := cN h
  cases vs with
  | cons => cases e
  | nil => obtain rfl := r.nil_inv; obtain rfl := aO e; exact .ok H trivial
 | i :: is, xs, vs, us, c, A, A', s, h, H, N, r, e => by
  obtain ⟨x, xs, rfl, hx, h2⟩ := aQ h
  cases vs with
  | nil => cases e
  | cons v vs =>
  obtain ⟨u, us, rfl, r1, r⟩ := r.cons_inv
  obtain ⟨id, pos, rfl⟩ := tG hx
  refine (?_ : au Z L cs Ar (holding us (assign (.Name id pos) env u) >>= _) UR (aD.ok () A') c s)
  exact au.bind1 H.bw (.hold (cS G hx H N r1)) fun c1 s1 u1 a0 H1 J => eZ G h2 H1 (N.mono a0.grown) (r.imp fun J J y => y.mono a0.grown) e
end
theorem hK {h : Heap} {a : Nat} {o : Obj} (e : h.get? a = some o) (n : jV o) : ∀ o', h.get? a = some o' → jV o' := fun o' e' => by rw [e] at e'; cases e'; exact n
theorem xb {d : Nat} {h h' : Heap} {o o' : Obj} (e : h.get? d = some o) (n : jV o) (e' : h'.get? d = some o') (k : ∀ b ob, b ≠ d → h.get? b = some ob → h'.get? b = some ob) : a6 h h' := a6.mk' fun b ob eb =>
 (Decidable.em (b = d)).elim (fun q => by subst q; rw [e] at eb; obtain rfl := aO eb; exact ⟨o', e', fun t => absurd (.inl t) n.1, fun t => absurd t n.2.1, fun t => absurd t n.2.2, fun t => absurd (.inr t) n.1⟩) fun q => ⟨ob, k b ob q eb, id, id, id, fun J => rfl⟩
section
variable {Z : aL} {n : Nat} {ih : bM} {L : Nat} {cs : Fm} {Ar : Around} {c : Cfg} {A : AS} {s : Shared} {env : Env} {sc : cA} {m : Nat}
theorem St.locs {locs : List (Nat × V)} (H : St Z L cs c A s) (h : ∀ x v, af x locs = some v → af x A.locs = some v) : St Z L cs c { A with locs := locs } s :=
 H.next ⟨H.base, H.gens, H.os, H.n, H.nv, H.vars, H.objs, H.lt, H.lo, H.up, H.apart⟩ ⟨H.oS, H.bw, H.off, by obtain ⟨m, h1, h2⟩ := H.ns; exact ⟨m, h1, fun x v e => h2 x v (h x v e)⟩⟩ rfl rfl (Le.refl ..)
theorem au.subst {α β : Type} {R : Cfg → α → β → Prop} {t : Sem β} {a : α} {A B : AS} (h : au Z L cs Ar t R (aD.ok a A) c s) (k : ∀ c s, St Z L cs c A s → St Z L cs c B s) : au Z L cs Ar t R (aD.ok a B) c s := fun l e => by
 obtain rfl := aO e
 refine az (h _ rfl) (fun u s' q => ?_) fun e s' q => ?_
 ·obtain ⟨a', A', c', q1, q2, q3, q4⟩ := q
  cases msg q1
  exact ⟨a, B, c', .head _, q2, k _ _ q3, q4⟩
 ·obtain ⟨i, B', d, y1, _⟩ := q
  cases msg y1
theorem cO : ∀ {is : List Nat} {vs : List V} {A A' : AS}, cV is vs A = some A' → is.length = vs.length
 | [], [], _, _, _ => rfl
 | [], _ :: _, _, _, e => by cases e
 | _ :: _, [], _, _, e => by cases e
 | _ :: _, _ :: _, _, _, e => by refine ae List.length_cons ?_; refine ae List.length_cons ?_; refine ae (cO (show cV _ _ (aN _ _ _) = _ from e)) ?_; rfl
theorem D9 {α : Type} : ∀ {l : List α}, l.length = 2 → ∃ a b, l = [a, b]
 | [a, b], _ => ⟨a, b, rfl⟩
theorem Ea {α : Type} : ∀ {l : List α}, l.length = 3 → ∃ a b d, l = [a, b, d]
 | [a, b, d], _ => ⟨a, b, d, rfl⟩
theorem eu {i x : Nat} {v : V} {B : AS} : af x (aN i v B).locs = if x = i then some v else af x B.locs := bH ..
theorem o7 {is : List Nat} {vs : List V} {A' : AS} (hl : is.length = 2 ∨ is.length = 3) (hd : is.Nodup) (e : cV is vs A = some A') :
 ∃ GZ, cV is.reverse vs.reverse A = some GZ ∧ ∀ c s, St Z L cs c GZ s → St Z L cs c A' s := by
 have hv := cO e
 rcases hl with h | h
 ·rw [h] at hv
  obtain ⟨i, j, rfl⟩ := D9 h
  obtain ⟨a, b, rfl⟩ := D9 hv.symm
  obtain rfl := aO (show some _ = some _ from e)
  have wW : i ≠ j := by simp at hd; exact hd
  refine ⟨_, rfl, fun c s H => St.locs (A := aN i a (aN j b A)) (locs := (aN j b (aN i a A)).locs) H fun x v => ?_⟩
  refine ae eu ?_; refine ae eu ?_; refine ae eu ?_; refine ae eu ?_
  by_cases h1 : x = i
  ·refine ae (if_pos h1) ?_; refine ae (if_pos h1) ?_; refine ae (if_neg (h1 ▸ wW)) ?_; exact id
  ·refine ae (if_neg h1) ?_; refine ae (if_neg h1) ?_; exact id
 ·rw [h] at hv
  obtain ⟨i, j, k, rfl⟩ := Ea h
  obtain ⟨a, b, d, rfl⟩ := Ea hv.symm
  obtain rfl := aO (show some _ = some _ from e)
  have hh : (i ≠ j ∧ i ≠ k) ∧ j ≠ k := by simpa using hd
  refine ⟨_, rfl, fun c s H => St.locs (A := aN i a (aN j b (aN k d A))) (locs := (aN k d (aN j b (aN i a A))).locs) H fun x v => ?_⟩
  refine ae eu ?_; refine ae eu ?_; refine ae eu ?_; refine ae eu ?_; refine ae eu ?_; refine ae eu ?_
  by_cases h1 : x = i
  ·refine ae (if_pos h1) ?_; refine ae (if_pos h1) ?_; refine ae (if_neg (h1 ▸ hh.1.2)) ?_; refine ae (if_neg (h1 ▸ hh.1.1)) ?_; exact id
  ·refine ae (if_neg h1) ?_; refine ae (if_neg h1) ?_
   by_cases h2 : x = j
   ·refine ae (if_pos h2) ?_; refine ae (if_pos h2) ?_; refine ae (if_neg (h2 ▸ hh.2)) ?_; exact id
   ·refine ae (if_neg h2) ?_; refine ae (if_neg h2) ?_; exact id
theorem iK {i : Nat} {x : Expr} (h : dm Z.nm sc i x = true) : ∃ id p, x = .Name id p ∧ id = Z.nm i := by
 obtain ⟨id, p, rfl⟩ := tG h
 exact ⟨id, p, rfl, cL (ao (ao h).1).1⟩
theorem eM : ∀ {is : List Nat} {xs : List Expr}, encL (dm Z.nm sc) is xs = true → xs.map l5 = is.map Z.nm ∧ (∀ x ∈ xs, ∃ id p, x = Expr.Name id p)
 | [], [], _ => ⟨rfl, fun J h => nomatch h⟩
 | [], _ :: _, h => by cases h
 | _ :: _, [], h => by cases h
 | i :: is, x :: xs, h => by
  refine (ao h).elim fun h1 h2 => ?_
  obtain ⟨id, p, rfl, e⟩ := iK h1
  refine (eM h2).elim fun q1 q2 => ?_
  refine ⟨by refine ae List.map_cons ?_; refine ae List.map_cons ?_; refine ae q1 ?_; exact congrArg (· :: _) e, fun y hy => ?_⟩
  rcases ff hy with rfl | hy
  ·exact ⟨_, _, rfl⟩
  ·exact q2 y hy
theorem gm : ∀ {xs : List Expr}, (∀ x ∈ xs, ∃ id p, x = Expr.Name id p) → assignEach xs env = xs.map fun x => (false, assign x env)
 | [], _ => rfl
 | x :: xs, h => by
  obtain ⟨id, p, rfl⟩ := h x (.head _)
  refine (?_ : (false, _) :: assignEach xs env = _)
  refine ae (gm fun y hy => h y (.tail _ hy)) ?_; rfl
noncomputable def bindM (is : List Nat) (v : V) (A : AS) : Option AS := match A.hd with
 | some _ => none
 | none => match v with
  | .loc i => match A.heap.get i with
   | some (.tup vs) => cV is vs A
   | _ => none
  | _ => none
set_option tactic.hygienic true in
theorem mf {is : List Nat} {v : V} {A A' : AS} (e : bindM is v A = some A') : A.hd = none ∧ ∃ i vs, v = .loc i ∧ (A.heap.get i = some (.tup vs) ∨ A.heap.get i = some (.list vs)) ∧ cV is vs A = some A' := by
 delta bindM at e
 generalize hh : A.hd = h at e
 cases h with
 | some _ => exact no e
 | none =>
 refine ⟨rfl, ?_⟩
 cases v <;> first | exact no e | skip
 rename_i i
 dsimp only at e
 generalize hm : A.heap.get i = o at e
 cases o with
 | none => exact no e
 | some ob =>
 cases ob <;> first | exact no e | skip
 exact ⟨_, _, rfl, .inl hm, e⟩
theorem o8 {is : List Nat} {v : V} (h : 2 ≤ is.length) : jS is v A = bindM is v A := by
 match is, h with
 | _ :: _ :: _, _ => rfl
theorem j3 (G : Z.Glob) (P2 : bQ Z) (h1 : Room 1 Ar cs) {is : List Nat} {xs : List Expr} {v : V} {u : Value} (h : encL (dm Z.nm sc) is xs = true) (h2 : 2 ≤ is.length) (H : St Z L cs c A s) (N : aR Z sc c L cs env) (r : VR c v u) :
 au Z L cs Ar (unpack u (assignEach xs env)) UR (match jS is v A with | some A => aD.ok () A | none => none) c s := by
 refine ae (o8 h2) ?_
 have key : ∀ i vs A', A.hd = none → v = .loc i → A.heap.get i = some (.tup vs) ∨ A.heap.get i = some (.list vs) → cV is vs A = some A' → au Z L cs Ar (unpack u (assignEach xs env)) UR (aD.ok () A') c s := by
  intro i vs A' hh hv hi e
  subst hv
  obtain ⟨cP, rfl⟩ := r
  have hlen : is.length = vs.length := cO e
  have q := eM h
  have hx := gm (env := env) q.2
  have Eb := dX h
  delta unpack
  have hf : (assignEach xs env).findIdx? (·.1) = none := by
   rw [hx, List.findIdx?_eq_none_iff]
   intro y hy
   obtain ⟨x, _, rfl⟩ := yN hy
   rfl
  refine ae hf ?_; refine ae (show (assignEach xs env).length = vs.length by rw [hx, List.length_map, ← Eb, hlen]) ?_
  exact au.bind1 H.bw (.hold (P2.y9 h1 H hh hi)) fun c1 s1 us a0 H1 r1 => eZ G h H1 (N.mono a0.grown) r1 e
 cases qY : bindM is v A with
 | none => exact .none
 | some A' =>
  obtain ⟨hh, i, vs, hv, hi, e⟩ := mf qY
  exact key i vs _ hh hv hi e
set_option tactic.hygienic true in
theorem fQ (G : Z.Glob) (P : bY Z) (P2 : bQ Z) (I : aC Z n ih) (h1 : 1 ≤ n) (hn : Room n Ar cs) {t : T} {x : Expr} {v : V} {u : Value} (h : gz Z.nm m sc t x = true) (H : St Z L cs c A s) (N : aR Z sc c L cs env) (r : VR c v u) :
 au Z L cs Ar (assign x env u) UR (asg Z.Γ ih t v A) c s := by
 have hb : Room 1 Ar cs := hn.le h1
 replace h := dA h
 induction h
 case loc i id p h =>
  exact cS G h H N r
 case dj => exact .none
 case av e f o a pos h =>
  refine (ao h).elim fun ha he => ?_
  cases cL ha
  refine au.bind H.bw (.hold (I.e he hn H N)) fun b A1 c1 s1 w a0 H1 r1 => .at ?_
  exact .conv (fun Q E q => aa (az q (fun J J y => fk y) fun J J y => y)) (.hold (P2.B6 hb H1 r1 (r.mono a0.grown)))
 case sub o i p q pos h =>
  refine (ao h).elim fun h hi => ?_
  refine (ao h).elim fun h0 ho => ?_
  refine au.bind H.bw (.hold (I.e ho hn H N)) fun b A1 c1 s1 w a0 H1 r1 => ?_
  refine au.bind H1.bw (.hold (I.e hi hn H1 (N.mono a0.grown))) fun d A2 c2 s2 w2 le2 H2 r2 => .at ?_
  exact .conv (fun Q E q => aa (az q (fun J J y => fk y) fun J J y => y)) (.hold (P2.nr hb H2 (r1.mono le2.grown) r2 (r.mono (a0.grown.trans le2.grown))))
 case iC o lo hi p l y o6 pos h =>
  refine (ao h).elim fun h h3 => ?_
  refine (ao h).elim fun ho h2 => ?_
  refine au.bind H.bw (.hold (I.e ho hn H N)) fun b A1 c1 s1 uo a0 H1 r1 => ?_
  refine .conv (t' := valueOrNone (evalOpt l env) >>= fun a => holding [a] (valueOrNone (evalOpt y env)) >>= fun b => (newFields "slice" [a, b, .none] >>= fun i => standAt pos >>= fun J => holding [u, uo, i] (setItem uo i u))) (fun Q E q Γ p' fg hC => ?_) ?_
  ·have q := q Γ p' fg hC
   have ev : eval (.Slice l y none o6) env = (valueOrNone (evalOpt l env) >>= fun a => holding [a] (valueOrNone (evalOpt y env)) >>= fun b => holding [a, b] (pure .none) >>= fun d => newFields "slice" [a, b, d]) := rfl
   refine ae ev ?_
   simp only [Sem.wp_bind', Sem.wp_holding, Sem.wp_pure, Sem.wp_release] at q ⊢
   exact q
  ·refine au.bind H1.bw (dW I hn h2 H1 (N.mono a0.grown)) fun a A2 c2 s2 ua le2 H2 r2 => ?_
   refine au.bind H2.bw (.hold (dW I hn h3 H2 ((N.mono a0.grown).mono le2.grown))) fun b A3 c3 s3 ub dY H3 r3 => ?_
   exact P2.rg hb H3 (r1.mono (le2.grown.trans dY.grown)) (r2.mono dY.grown) r3 (r.mono ((a0.grown.trans le2.grown).trans dY.grown)) fun J => rfl
 case tup is xs k pos h =>
  refine (ao h).elim fun h hl => ?_
  refine (ao h).elim fun hx _ => ?_
  exact .at (j3 G P2 hb hx (of_decide_eq_true hl) H N r)
end
def cn (s : Shared) (x : Nat) : Prop := ∃ o, s.heap.get? x = some o ∧ dU o
section
variable {Z : aL} {n : Nat} {ih : bM} {L : Nat} {cs : Fm} {Ar : Around} {c c' : Cfg} {A : AS} {s s' : Shared} {env : Env} {sc : cA} {m : Nat}
theorem cn.ck {x : Nat} (y : cn s x) (p : a6 s.heap s'.heap) : cn s' x := by refine (y).elim fun o aj => (aj).elim fun e w => ?_; exact by refine (p x o e).elim fun o' aj => (aj).elim fun e' v => ?_; exact ⟨o', e', v.no w⟩
theorem Hp.xc (H : Hp Z c A s) (hb : ∀ b o, Z.h₀.get? b = some o → s.heap.get? b = some o → s'.heap.get? b = some o)
 (hk : ∀ i, i < c.n → (∀ ob, s.heap.get? (c.σ i).1 = some ob → ¬ dF ob → s'.heap.get? (c.σ i).1 = some ob) ∧ ∀ ob, s.heap.get? (c.σ i).2 = some ob → ¬ dF ob → s'.heap.get? (c.σ i).2 = some ob)
 (hs : a6 s.heap s'.heap) (hg : s'.gens = s.gens) (ho : s'.os = s.os) : Hp Z c A s' where
 base := fun b o e => hb b o e (H.base b o e)
 gens := hg.trans H.gens
 os := ho.trans H.os
 n := H.n
 nv := H.nv
 vars := H.vars
 objs := fun i o e => (H.objs i o e).keep (bu.refl c) (H.lt i o e) (hk i (H.lt i o e)).1 (hk i (H.lt i o e)).2 hs.l
 lt := H.lt
 lo := H.lo
 up := fun i hi => ⟨hs.has (H.up i hi).1, hs.has (H.up i hi).2⟩
 apart := H.apart
theorem a9.same {o o' : Obj} (h1 : o'.cls = o.cls) (h2 : o'.data = o.data) (x : a9 o) : a9 o' := by refine (x).elim fun a aj => (aj).elim fun vs ax => (ax).elim fun b c => ?_; exact ⟨h1.trans a, vs, h2.trans b, c⟩
theorem bc.same {o o' : Obj} (h1 : o'.cls = o.cls) (h2 : o'.data = o.data) (x : bc o) : bc o' := by refine (x).elim fun a aj => (aj).elim fun vs ax => (ax).elim fun q aP => (aP).elim fun t bG => (bG).elim fun b c => ?_; exact ⟨h1.trans a, vs, q, t, h2.trans b, c⟩
theorem dU.same {o o' : Obj} (h1 : o'.cls = o.cls) (h2 : o'.data = o.data) (x : dU o) : dU o' := by refine (x).elim fun aj ax => (aj).elim fun C a => (ax).elim fun vs aP => (aP).elim fun T bG => (bG).elim fun b c => ?_; exact ⟨⟨C, h1.trans a⟩, vs, T, h2.trans b, c⟩
theorem St.slots (H : St Z L cs c A s) {h' : Heap} (x : Heap.SlotsOnly (cs.frs.filterMap (·.frame)) s.heap h') : Le Z L c s c { s with heap := h' } ∧ St Z L cs c A { s with heap := h' } := by
 have pr : a6 s.heap h' := a6.mk' fun b o e => by
  obtain ⟨sl, e'⟩ := x.2.2 b o e
  refine ⟨_, e', a9.same rfl rfl, dU.same rfl rfl, bc.same rfl rfl, fun t => ?_⟩
  by_cases hm : b ∈ cs.frs.filterMap (·.frame)
  ·obtain ⟨o2, e2, hd⟩ := (H.outs b hm).2.1
   rw [e] at e2; obtain rfl := aO e2
   exact (dF.notDict (.inr t) hd).elim
  ·have := (x.2.1 b hm).trans e
   rw [e'] at this; exact aO this
 have old : ∀ b o, Z.h₀.get? b = some o → s.heap.get? b = some o → h'.get? b = some o := fun b o e0 e => (x.2.1 b fun hm => by rw [(H.outs b hm).1] at e0; cases e0).trans e
 have le : Le Z L c s c { s with heap := h' } := ⟨Nat.le_refl _, Nat.le_refl _, fun J J => rfl, fun J J => ⟨rfl, rfl, rfl⟩, pr, old, fun b o e J J => by
  by_cases hm : b ∈ cs.frs.filterMap (·.frame)
  ·refine (x.2.2 b o e).elim fun sl e' => ?_
   refine ((H.outs b hm).2.1).elim fun o2 aj => (aj).elim fun e2 hd => ?_
   rw [e] at e2; obtain rfl := aO e2
   exact ⟨_, e', .inr (.inl ⟨hd, sl, rfl⟩)⟩
  ·exact ⟨o, (x.2.1 b hm).trans e, .inl rfl⟩, fun i h h' => absurd h (Nat.not_le_of_lt h')⟩
 refine ⟨le, H.next (H.toHp.xc (s' := { s with heap := h' }) old (fun i hi => ⟨fun ob e J => (x.2.1 _ fun hm => ((H.outs _ hm).2.2 i hi).1 rfl).trans e, fun ob e J => (x.2.1 _ fun hm => ((H.outs _ hm).2.2 i hi).2 rfl).trans e⟩) pr rfl rfl) ⟨H.oS, pr.has H.bw, H.off, ?_⟩ rfl rfl le⟩
 refine (H.ns).elim fun m aj => (aj).elim fun ax h3 => (ax).elim fun o aP => (aP).elim fun es bG => (bG).elim fun ep dc => (dc).elim fun h1 h2 => ?_
 obtain ⟨sl, e'⟩ := x.2.2 L o h1
 exact ⟨m, ⟨_, es, ep, e', h2⟩, h3⟩
theorem St.G1 (H : St Z L cs c A s) {T : Nat} {o o' : Obj} (h0 : Z.h₀.get? T = none) (e : s.heap.get? T = some o) (t : a9 o) (t' : a9 o') {h' : Heap} (e' : h'.get? T = some o') (x : Heap.SameBut T s.heap h') :
 Le Z L c s c { s with heap := h' } ∧ St Z L cs c A { s with heap := h' } := by
 have ne : ∀ b ob, s.heap.get? b = some ob → ¬ dF ob → b ≠ T := fun b ob e1 nt q => by rw [q, e] at e1; obtain rfl := aO e1; exact nt (.inl t)
 have pr : a6 s.heap h' := a6.mk' fun b ob e1 => by
  by_cases q : b = T
  ·rw [q, e] at e1; obtain rfl := aO e1
   exact ⟨o', q ▸ e', fun J => t', fun ⟨⟨C, w⟩, _⟩ => by (have := t.1; rw [w] at this; cases this), fun ⟨w, _⟩ => by (have := t.1; rw [w] at this; injection this with this; exact absurd this (by decide)), fun ⟨w, _⟩ => by (have := t.1; rw [w] at this; cases this)⟩
  ·exact ⟨ob, (x.2 b q).trans e1, id, id, id, fun J => rfl⟩
 have old : ∀ b ob, Z.h₀.get? b = some ob → s.heap.get? b = some ob → h'.get? b = some ob := fun b ob e0 e1 => (x.2 b (Has.ne ⟨ob, e0⟩ h0)).trans e1
 have le : Le Z L c s c { s with heap := h' } := ⟨Nat.le_refl _, Nat.le_refl _, fun J J => rfl, fun J J => ⟨rfl, rfl, rfl⟩, pr, old, fun b ob e1 J J => by
  by_cases q : b = T
  ·rw [q, e] at e1; obtain rfl := aO e1
   exact ⟨o', q ▸ e', .inr (.inr ⟨.inl t, .inl t'⟩)⟩
  ·exact ⟨ob, (x.2 b q).trans e1, .inl rfl⟩, fun i h h' => absurd h (Nat.not_le_of_lt h')⟩
 refine ⟨le, H.next (H.toHp.xc (s' := { s with heap := h' }) old (fun i hi => ⟨fun ob e nt => (x.2 _ (ne _ ob e nt)).trans e, fun ob e nt => (x.2 _ (ne _ ob e nt)).trans e⟩) pr rfl rfl) ⟨H.oS, pr.has H.bw, H.off, ?_⟩ rfl rfl le⟩
 refine (H.ns).elim fun m aj => (aj).elim fun ax h3 => (ax).elim fun ob aP => (aP).elim fun es bG => (bG).elim fun ep dc => (dc).elim fun h1 h2 => ?_
 exact ⟨m, ⟨ob, es, ep, (x.2 _ (ne _ ob h1 fun w => w.notDict ⟨es, ep, h2.1⟩)).trans h1, h2⟩, h3⟩
theorem St.same (H : St Z L cs c A s) {j : Nat} {o : aw} (hm : A.heap.get j = some o) (hk : ∀ b o, s.heap.get? b = some o → b ≠ (c.σ j).1 → b ≠ (c.σ j).2 → s'.heap.get? b = some o)
 (hs : a6 s.heap s'.heap) (ho : br Z c s'.heap j o) (hg : s'.gens = s.gens) (oU : s'.os = s.os) : St Z L cs c A s' := by
 have this := H.change (H.lt j o hm) hk hs ho hg oU
 refine H.next ⟨this.base, this.gens, this.os, this.n, this.nv, this.vars, fun i ob e => ?_, H.lt, this.lo, this.up, this.apart⟩ this.toFrm rfl rfl (Le.change H.toHp (H.lt j o hm) hk hs)
 refine this.objs i ob ?_
 refine (?_ : (A.heap.put j o).get i = _)
 rw [Tr.ba]
 by_cases q : i = j
 ·refine ae (if_pos q) ?_; refine bK hm ?_; refine bK q ?_; exact e
 ·refine ae (if_neg q) ?_; exact e
theorem St.Ec (H : St Z L cs c A s) {i D : Nat} (hi : A.heap.get i = some (.exc D)) {oe : Obj} {vs : Array Value} (h1 : s.heap.get? (c.σ i).1 = some oe) (hd : oe.data = .fields vs) {T : Nat} {oT : Obj} (h0 : Z.h₀.get? T = none) (eT : s.heap.get? T = some oT) (t : a9 oT) :
 Le Z L c s c { s with heap := s.heap.update (c.σ i).1 (Obj.mapFields (·.setIfInBounds 1 (.ref T))) } ∧ St Z L cs c A { s with heap := s.heap.update (c.σ i).1 (Obj.mapFields (·.setIfInBounds 1 (.ref T))) } ∧ cn { s with heap := s.heap.update (c.σ i).1 (Obj.mapFields (·.setIfInBounds 1 (.ref T))) } (c.σ i).1 := by
 have fh := H.lt i _ hi
 obtain ⟨B7, KA, g1, g2, g4, g5, g6⟩ := H.objs i _ hi
 rw [h1] at g1; obtain rfl := aO g1
 rw [hd] at g4; cases g4
 have B8 := Obj.data_mapFields hd (·.setIfInBounds 1 (Value.ref T))
 have e' := Heap.get?_update_self (Obj.mapFields (·.setIfInBounds 1 (Value.ref T))) h1 (Obj.isFreed_of_fields B8)
 have yJ : (Obj.mapFields (·.setIfInBounds 1 (Value.ref T)) oe).cls = .ref D := (Obj.cls_mapFields _ _).trans g2
 have noted : dU (Obj.mapFields (·.setIfInBounds 1 (Value.ref T)) oe) := ⟨⟨D, yJ⟩, _, T, B8, by simp -iota only [Array.getElem?_setIfInBounds_self]; refine ae (if_pos (by omega)) ?_; rfl⟩
 have G3 : ∀ b ob, s.heap.get? b = some ob → b ≠ (c.σ i).1 → (s.heap.update (c.σ i).1 (Obj.mapFields (·.setIfInBounds 1 (.ref T)))).get? b = some ob := fun b ob e q => (Heap.get?_update_other _ _ (Ne.symm q)).trans e
 have pr : a6 s.heap (s.heap.update (c.σ i).1 (Obj.mapFields (·.setIfInBounds 1 (.ref T)))) := a6.mk' fun b ob e => by
  by_cases q : b = (c.σ i).1
  ·rw [q, h1] at e; obtain rfl := aO e
   exact ⟨_, q ▸ e', fun w => (by have := w.1; rw [g2] at this; cases this), fun J => noted, fun w => (by have := w.1; rw [g2] at this; cases this), fun w => (by have := w.1; rw [g2] at this; cases this)⟩
  ·exact ⟨ob, G3 b ob e q, id, id, id, fun J => rfl⟩
 have hk : ∀ b o, s.heap.get? b = some o → b ≠ (c.σ i).1 → b ≠ (c.σ i).2 → (s.heap.update (c.σ i).1 (Obj.mapFields (·.setIfInBounds 1 (.ref T)))).get? b = some o := fun b o e q J => G3 b o e q
 have neT : T ≠ (c.σ i).1 := fun q => by rw [q, h1] at eT; obtain rfl := aO eT; have := t.1; rw [g2] at this; cases this
 refine ⟨Le.change (s' := { s with heap := _ }) H.toHp fh hk pr, ?_, _, e', noted⟩
 exact H.same (s' := { s with heap := s.heap.update (c.σ i).1 (Obj.mapFields (·.setIfInBounds 1 (.ref T))) }) hi hk pr ⟨_, _, e', yJ, B8, by refine ae Array.size_setIfInBounds ?_; exact g5, .inr ⟨T, oT, by simp -iota only [Array.getElem?_setIfInBounds_self]; refine ae (if_pos (by omega)) ?_; rfl, h0, G3 _ _ eT neT, t⟩⟩ rfl rfl
theorem mh : ∀ {l : List Env}, (∀ e ∈ l, e.scope.kind ≠ .module ∧ ∃ b, e.frame = some b) → (∀ b ∈ l.filterMap (·.frame), uq Z c s b) → s.heap.FunFrames Z.h₀ l
 | [], _, _ => trivial
 | e :: r, h1, h2 => by
  refine (h1 e (.head _)).elim fun k aj => (aj).elim fun b hb => ?_
  have hm : ∀ x, x ∈ (e :: r).filterMap (·.frame) ↔ x = b ∨ x ∈ r.filterMap (·.frame) := fun x => by rw [List.filterMap_cons, hb, List.mem_cons]
  refine (h2 b ((hm b).mpr (.inl rfl))).elim fun f0 aj => (aj).elim fun ax _ => (ax).elim fun o aP => (aP).elim fun f1 bG => (bG).elim fun es dc => (dc).elim fun ep f2 => ?_
  exact ⟨k, ⟨b, o, hb, f0, f1, fun vs q => by rw [f2] at q; cases q⟩, mh (fun x hx => h1 x (.tail _ hx)) fun x hx => h2 x ((hm x).mpr (.inr hx))⟩
theorem rC {head : Value} {L : Nat} {pl : List Value} : a9 { cls := .type "traceback", dict := none, data := .fields ([head, .ref L, .none, rawInt L, .none] ++ (if pl.isEmpty then List.replicate 6 Value.none else pl)).toArray } :=
 ⟨rfl, _, rfl, by simp -iota only [List.size_toArray, List.length_append, List.length_cons, List.length_nil]; omega⟩
theorem jc {rest : List Env} (hn : Room n Ar cs) (top : cs.frs = env :: rest) (hf : env.frame = some L) (H : St Z L cs c A s) {i D : Nat} (hi : A.heap.get i = some (.exc D)) {head : Value} {zd : Bool} {Q : Unit → Shared → Prop} {E : Value → Shared → Prop}
 (k : ∀ s', Le Z L c s c s' → St Z L cs c A s' → cn s' (c.σ i).1 → Q () s') :
 wpAny Z.M Ar (do let a ← frameOf env; let pl ← entryPlaceOf L zd; let b ← EntryCells.newEntry head a .none (rawInt L) .none pl; setField (.ref (c.σ i).1) 1 b) Q E s := by
 have nI := hn.2.2.2.1
 have hl := mh (s := s) hn.2.2.2.2 H.outs
 rw [top] at nI hl
 refine wpAny_bind (wpAny_frameOf_fun nI hl hf fun bZ Bb => ?_)
 rw [← top] at Bb
 refine (H.slots Bb).elim fun a0 H1 => ?_
 refine wpAny_bind (wpAny_entryPlaceOf fun pl FH => ?_)
 refine wpAny_bind (wpAny_newObj_type ?_ (FH.sizeOk5 _ _ _ _ _))
 have hk : ∀ b o, bZ.get? b = some o → (bZ.push { cls := .type "traceback", dict := none, data := .fields ([head, .ref L, .none, rawInt L, .none] ++ (if pl.isEmpty then List.replicate 6 Value.none else pl)).toArray }).get? b = some o := fun b o e => Heap.get?_push_of_some _ e
 have le2 : Le Z L c { s with heap := bZ } c { s with heap := (bZ.push { cls := .type "traceback", dict := none, data := .fields ([head, .ref L, .none, rawInt L, .none] ++ (if pl.isEmpty then List.replicate 6 Value.none else pl)).toArray }) } := Le.bk hk
 have H2 := H1.bk (s' := { s with heap := (bZ.push { cls := .type "traceback", dict := none, data := .fields ([head, .ref L, .none, rawInt L, .none] ++ (if pl.isEmpty then List.replicate 6 Value.none else pl)).toArray }) }) hk rfl rfl
 obtain ⟨oe, vs, g1, g2, g4, g5, _⟩ := H2.objs i _ hi
 have eT := Heap.get?_push_size bZ (o := { cls := .type "traceback", dict := none, data := .fields ([head, .ref L, .none, rawInt L, .none] ++ (if pl.isEmpty then List.replicate 6 Value.none else pl)).toArray }) rfl
 have h0 : Z.h₀.get? bZ.objs.size = none := by
  cases e : Z.h₀.get? bZ.objs.size with
  | none => rfl
  | some o => exact absurd (Heap.lt_size (H1.base _ _ e)) (Nat.lt_irrefl _)
 refine wpAny_setField g1 g4 (by omega) ?_
 refine (H2.Ec hi g1 g4 h0 eT rC).elim fun dY aj => (aj).elim fun H3 N3 => ?_
 exact k _ ((a0.trans le2).trans dY) H3 N3
theorem a9.map {o : Obj} (t : a9 o) (x : Value) : a9 (Obj.mapFields (·.setIfInBounds 3 x) o) := by refine (t).elim fun a aj => (aj).elim fun vs ax => (ax).elim fun d z => ?_; exact ⟨(Obj.cls_mapFields _ _).trans a, _, Obj.data_mapFields d _, by refine ae Array.size_setIfInBounds ?_; exact z⟩
theorem mi (H : St Z L cs c A s) {T : Nat} {o : Obj} (h0 : Z.h₀.get? T = none) (e : s.heap.get? T = some o) (t : a9 o) {x : Value} {Q : Unit → Shared → Prop} {E : Value → Shared → Prop}
 (k : ∀ s', Le Z L c s c s' → St Z L cs c A s' → Q () s') : wpAny Z.M Ar (setField (.ref T) 3 x) Q E s := by
 refine (id t).elim fun _ aj => (aj).elim fun vs ax => (ax).elim fun d z => ?_
 refine wpAny_setField e d z ?_
 refine (H.G1 h0 e t (t.map x) (Heap.get?_update_self _ e (Obj.isFreed_of_fields (Obj.data_mapFields d _))) (.update ..)).elim fun le H' => ?_
 exact k _ le H'
theorem gH {rest : List Env} (hn : Room n Ar cs) (top : cs.frs = env :: rest) (hf : env.frame = some L) (H : St Z L cs c A s) {i D : Nat} (hi : A.heap.get i = some (.exc D)) {Q : Unit → Shared → Prop} {E : Value → Shared → Prop}
 (k : ∀ s', Le Z L c s c s' → St Z L cs c A s' → cn s' (c.σ i).1 → Q () s') : wpAny Z.M Ar (noteFrame (.ref (c.σ i).1) env) Q E s := by
 dsimp only [noteFrame]
 simp -iota only [hf]
 obtain ⟨oe, vs, h1, h2, h4, h5, h6⟩ := H.objs i _ hi
 rcases h6 with h6 | ⟨T, oT, h6, G4, FI, FJ⟩
 ·refine wpAny_bind (wpAny_field h1 h4 h6 ?_)
  refine ae (if_neg (by decide)) ?_
  exact jc hn top hf H hi k
 ·refine wpAny_bind (wpAny_field h1 h4 h6 ?_)
  refine ae (if_pos (show (Value.ref T != Value.none) = true from by simp)) ?_
  refine (id FJ).elim fun _ aj => (aj).elim fun ts ax => (ax).elim fun Mw rD => ?_
  refine wpAny_bind (wpAny_field FI Mw (Array.getElem?_eq_getElem rD) ?_)
  by_cases q : (ts[3] == rawInt L) = true
  ·refine ae (if_pos q) ?_
   exact wpAny_pure (k s (Le.refl ..) H ⟨oe, h1, ⟨D, h2⟩, vs, T, h4, h6⟩)
  ·refine ae (if_neg q) ?_
   refine wpAny_bind (mi H G4 FI FJ fun s' le H' => ?_)
   exact jc hn top hf H' hi fun eB uH => k eB (le.trans uH)
theorem bR (H : St Z L cs c A s) {i D : Nat} (hi : A.heap.get i = some (.exc D)) {fr : Option Addr} {Q : Unit → Shared → Prop} {E : Value → Shared → Prop}
 (k : ∀ s', Le Z L c s c s' → St Z L cs c A s' → Q () s') : wpAny Z.M Ar (setFlight (.ref (c.σ i).1) fr) Q E s := by
 obtain ⟨oe, vs, h1, h2, h4, h5, h6⟩ := H.objs i _ hi
 rcases h6 with h6 | ⟨T, oT, h6, G4, FI, FJ⟩
 ·refine wpAny_bind (wpAny_field h1 h4 h6 ?_)
  refine ae (if_neg (by decide)) ?_
  exact wpAny_pure (k s (Le.refl ..) H)
 ·refine wpAny_bind (wpAny_field h1 h4 h6 ?_)
  refine ae (if_pos (show (Value.ref T != Value.none) = true from by simp)) ?_
  exact mi H G4 FI FJ k
theorem fp {β : Type} (H : St Z L cs c A s) {i D : Nat} (hi : A.heap.get i = some (.exc D)) (hN : cn s (c.σ i).1) {k : Value → Sem β} {Q : β → Shared → Prop} {E : Value → Shared → Prop} (h : ∀ T : Nat, wpAny Z.M Ar (k (.ref T)) Q E s) :
 wpAny Z.M Ar (field (.ref (c.σ i).1) 1 >>= k) Q E s := by
 refine (hN).elim fun o aj => (aj).elim fun e ax => (ax).elim fun _ aP => (aP).elim fun vs bG => (bG).elim fun T dc => (dc).elim fun hd h1 => ?_
 exact wpAny_bind (wpAny_field e hd h1 (h T))
theorem gq {rest : List Env} (hn : Room n Ar cs) (top : cs.frs = env :: rest) (hf : env.frame = some L) (H : St Z L cs c A s) {i D : Nat} (hi : A.heap.get i = some (.exc D)) {Q : Unit → Shared → Prop} {E : Value → Shared → Prop}
 (k : ∀ s', Le Z L c s c s' → St Z L cs c A s' → cn s' (c.σ i).1 → Q () s') : wpAny Z.M Ar (leaving env (.ref (c.σ i).1)) Q E s := by
 exact wpAny_bind (gH hn top hf H hi fun s1 a0 H1 N1 => bR H1 hi fun s2 le2 H2 => k s2 (a0.trans le2) H2 (N1.ck le2.ck))
end
section
variable {Z : aL} {n : Nat} {ih : bM} {L : Nat} {cs : Fm} {Ar : Around} {c c' : Cfg} {A : AS} {s s' : Shared} {env : Env} {sc : cA} {m : Nat}
theorem aT {α : Type} {M : Model} {A : Around} {s : Shared} {E : Value → Shared → Prop} {m : Sem α} {k : Value → Sem Unit} {Q : α → Shared → Prop}
 (h : bt M A m Q (fun e s' => bt M A (k e) (fun J eB => E e eB) E s') s) : bt M A (m.onRaise k) Q E s := fun Γ p fg hC => by
 rw [Sem.wp_onRaise]
 exact Sem.wp_mono M Γ m (fun J J J h' => h') (fun e p' s' h' => h' Γ p' fg hC) p s (h Γ p fg hC)
theorem Room.mark (hn : Room n Ar cs) (x : Nat) : Room n (Ar.mark (some (.ref x))) { cs with hd := some x } := ⟨hn.1, hn.2.1, rfl, hn.2.2.2⟩
theorem St.hand (H : St Z L cs c A s) {i : Nat} {o : aw} (hi : A.heap.get i = some o) (hN : cn s (c.σ i).1) : St Z L { cs with hd := some (c.σ i).1 } c { A with hd := some i } s :=
 ⟨⟨H.base, H.gens, H.os, H.n, H.nv, H.vars, H.objs, H.lt, H.lo, H.up, H.apart⟩, H.toFrm, H.cells, ⟨H.lt i o hi, rfl, hN⟩, H.outs, H.tabs⟩
theorem St.rE {x : Option Nat} {A' : AS} (H : St Z L cs c A s) (le : Le Z L c s c' s') (H' : St Z L { cs with hd := x } c' A' s') : St Z L cs c' { A' with hd := A.hd } s' :=
 ⟨⟨H'.base, H'.gens, H'.os, H'.n, H'.nv, H'.vars, H'.objs, H'.lt, H'.lo, H'.up, H'.apart⟩, H'.toFrm, H'.cells, H.hd.le le, H'.outs, H'.tabs⟩
theorem aR.hand (N : aR Z sc c L cs env) (x : Option Nat) : aR Z sc c L { cs with hd := x } env := ⟨N.kind, N.names, N.locals, N.globals, N.builtins, N.top, N.has, N.fr, N.code, N.cells⟩
theorem xd (H : St Z L cs c A s) {i D : Nat} (hi : A.heap.get i = some (.exc D)) : Looks Z.M s.heap (typeOf (.ref (c.σ i).1)) (.ref D) := by
 obtain ⟨oe, vs, h1, h2, _⟩ := H.objs i _ hi
 refine bK h2 ?_; exact (Looks.ld h1).andThen .now
theorem j4 {M : Model} {A : Around} {s : Shared} {E : Value → Shared → Prop} {c : Code} {h : Option Value} {Q : Flow → Shared → Prop} (hc : bj M (A.mark h) c (fun r s' => match r with
 | .ok f => Q f s'
 | .error e => bt M A (do
  if (← field e 1) == .none then unsupported "frame.own-activation:exception-without-traceback"
  setFlight e env.frame) (fun J eB => E e eB) E s') s) (GO : h ≠ some byPass) : bt M A (runOwn c env h) Q E s := by
 exact aT (jB hc GO)
theorem hM {M : Model} {A : Around} {s : Shared} {E : Value → Shared → Prop} {x : Value} {Q : Unit → Shared → Prop} (h : Q () s) : bt M A (theTreesLotGoes x) Q E s := .of (wpAny_theTreesLotGoes h)
set_option tactic.hygienic true in
theorem j5 {Γ : Ctx} {i : Nat} {r : bC Fl} (e : jT Γ i A = some r) : ∃ D bs, A.heap.get i = some (.exc D) ∧ af D Γ.cf = some bs ∧ r = .many [(.error i, A)] := by
 delta jT at e
 generalize A.heap.get i = ob at e
 cases ob with
 | none => exact no e
 | some ob =>
 cases ob <;> first | exact no e | skip
 rename_i D
 dsimp only at e
 generalize hx : af D Γ.cf = o at e
 cases o with
 | none => exact no e
 | some bs => exact ⟨D, bs, rfl, hx, (aO e).symm⟩
set_option tactic.hygienic true in
theorem uJ (G : Z.Glob) (H : Hp Z c A s) {D : Nat} {bs : List Nat} (h : af D Z.Γ.cf = some bs) : Looks Z.M s.heap (isSubtype (.ref D) (.type "BaseException")) true ∧ Looks Z.M s.heap (typeOf (.ref D)) (.type "type") ∧ True := by
 have X := G.k.keeps H.base
 have e := G.exc D D bs bs h h
 dsimp only [exmOne] at e
 split at e
 ·rename_i hb
  exact ⟨looks_subIn X (iB hb), (kit_cls X e).1, trivial⟩
 ·cases e
set_option tactic.hygienic true in
theorem o9 (G : Z.Glob) (I : aC Z n ih) (hn : Room n Ar cs) {e : E} {z : Expr} {pos : Pos} (he : aV Z.nm m sc e z = true) (H : St Z L cs c A s) (N : aR Z sc c L cs env) :
 au Z L cs Ar (exec (.Raise (some z) none pos) env) FR (BX Z.Γ ih (some e) A) c s := by
 rw [arm_exec_Raise]
 refine .at ?_
 intro l e'
 refine aa (aa (au.use (I.e he hn H N) e' (fun v A1 c1 u s1 r' y1 y2 a0 H1 r1 => aa (aY (aq ?_))) fun i A1 c1 v s1 m1 a0 H1 r1 => ⟨i, A1, c1, m1, a0, H1, r1⟩))
 refine Classical.byContradiction fun bad => ?_
 cases v <;> first | exact no y1 | skip
 rename_i i
 generalize Ed : A1.hd = hd at y1
 cases hd with
 | some _ => exact no y1
 | none =>
 have hh : Ar.handled = none := by
  have := H1.hd
  rw [Ed] at this
  refine ae hn.2.2.1 ?_
  cases q : cs.hd with
  | none => rfl
  | some x => rw [q] at this; exact this.elim
 obtain ⟨D, bs, yK, hex, rfl⟩ := j5 y1
 obtain ⟨fh, rfl⟩ := r1
 refine bad (.of ?_)
 obtain ⟨oe, vs, h1, h2, h4, _⟩ := H1.objs i _ yK
 have X := G.k.keeps H1.base
 have LT := xd H1 yK
 refine (uJ (Z := Z) G H1.toHp hex).elim fun lb aj => (aj).elim fun ld lt => ?_
 have KC : ∀ {Q' : Bool → Shared → Prop} {E : Value → Shared → Prop}, Q' false s1 → wpAny Z.M Ar (isType (.ref (c1.σ i).1)) Q' E s1 := by
  intro Q' E hq
  refine wpAny_bind (wpAny_loadPart h1 ?_)
  refine ae h4 ?_; exact wpAny_pure hq
 refine wpAny_bind (wpAny_pure ?_)
 refine wpAny_bind (wpAny_holding ?_)
 refine wpAny_bind (wpAny_bind (KC ?_))
 refine wpAny_pure ?_
 refine wpAny_bind ((LT.andThen lb).at ?_)
 refine wpAny_pure ?_
 refine wpAny_bind (KC ?_)
 refine wpAny_bind (wpAny_bind (LT.at (wpAny_bind (ld.at ?_))))
 refine ae (if_pos (by decide)) ?_
 refine wpAny_pure ?_
 refine wpAny_bind (bR H1 yK fun s2 le2 H2 => ?_)
 exact wpAny_raiseNew_none hh ⟨i, A1, c1, y2 _ (.head _), a0.trans le2, H2, ⟨fh, rfl⟩, D, yK⟩
theorem rF (hn : Room n Ar cs) {pos : Pos} (H : St Z L cs c A s) : au Z L cs Ar (exec (.Raise none none pos) env) FR (BX Z.Γ ih none A) c s := by
 rw [arm_exec_Raise]
 refine .at ?_
 intro l e'
 have e' : (match A.hd with
  | some i => jT Z.Γ i A
  | none => none) = some l := e'
 generalize Ed : A.hd = hd at e'
 cases hd with
 | none => exact no e'
 | some i =>
 obtain ⟨D, bs, yK, hex, rfl⟩ := j5 e'
 have hH := H.hd
 have hA := hn.2.2.1
 rw [Ed] at hH
 generalize cs.hd = ch at hH hA
 cases ch with
 | none => exact hH.elim
 | some x =>
 obtain ⟨fh, rfl, hN⟩ := hH
 refine .of (wpAny_bind (wpAny_handled ?_))
 refine ae hA ?_
 refine wpAny_bind (wpAny_rule (fp H yK hN fun T => ?_))
 refine ae (if_neg (show ¬ ((Value.ref T == Value.none) = true) from by simp)) ?_
 exact wpAny_bind (bR H yK fun s2 le2 H2 => wpAny_throw ⟨i, A, c, .head _, le2, H2, ⟨fh, rfl⟩, D, yK⟩)
theorem B9 {rest : List Env} (hn : Room n Ar cs) (top : cs.frs = env :: rest) (hf : env.frame = some L) {G5 : Around} {Ca : Fm} (cx : Room n G5 Ca) (nI : Ca.frs = cs.frs) (H' : St Z L Ca c' A s') {j D : Nat} (hj : A.heap.get j = some (.exc D)) {E : Value → Shared → Prop}
 (k : ∀ eB, Le Z L c' s' c' eB → St Z L Ca c' A eB → E (.ref (c'.σ j).1) eB) :
 bt Z.M G5 (noteFrame (.ref (c'.σ j).1) env) (fun J s2 => bt Z.M G5 (theTreesLotGoes (.ref (c'.σ j).1)) (fun J s3 => bt Z.M Ar (do
  if (← field (.ref (c'.σ j).1) 1) == .none then unsupported "frame.own-activation:exception-without-traceback"
  setFlight (.ref (c'.σ j).1) env.frame) (fun J eB => E (.ref (c'.σ j).1) eB) E s3) (fun J J => False) s2) (fun J J => False) s' := by
 refine .of (gH cx (nI.trans top) hf H' hj fun s2 le2 H2 N2 => hM (.of (fp H2 hj N2 fun T => ?_)))
 refine ae (if_neg (show ¬ ((Value.ref T == Value.none) = true) from by simp)) ?_
 exact bR H2 hj fun s3 dY H3 => k s3 (le2.trans dY) H3
theorem pa (I : aC Z n ih) (hn : Room n Ar cs) (hf : env.frame = some L) {i D : Nat} (hi : A.heap.get i = some (.exc D)) (hN : cn s (c.σ i).1) {b : List S} {body : List Stmt} {pos : Pos} (hb : encL (cG Z.nm m sc) b body = true) (rG : body ≠ [])
 (H : St Z L cs c A s) (N : aR Z sc c L cs env) {l : bC Fl} (e : aW ih b { A with hd := some i } = some l) {Q : Flow → Shared → Prop} {E : Value → Shared → Prop}
 (hQ : ∀ f A' c' s' fl, (Except.ok f, A') ∈ l.list → Le Z L c s c' s' → St Z L cs c' { A' with hd := A.hd } s' → FR c' f fl → Q fl s')
 (hE : ∀ j A' c' s' D, (Except.error j, A') ∈ l.list → Le Z L c s c' s' → St Z L cs c' { A' with hd := A.hd } s' → j < c'.n → A'.heap.get j = some (.exc D) → E (.ref (c'.σ j).1) s') :
 bt Z.M Ar (runOwn (.handlers (.ref (c.σ i).1) [.ExceptHandler none none body pos] env) env (some (.ref (c.σ i).1))) Q E s := by
 refine (N.top hf).elim fun rest top => ?_
 refine j4 (aZ rfl ?_) (by intro q; cases q)
 refine (?_ : bt Z.M (Ar.mark (some (.ref (c.σ i).1))) ((handleWith (.ref (c.σ i).1) env [.ExceptHandler none none body pos]).onRaise (fun x => do noteFrame x env; theTreesLotGoes x) >>= fun f => pure (PySem.Fin.done f)) _ _ s)
 refine aa (aT ?_)
 cases body with
 | nil => exact (rG rfl).elim
 | cons Mx body =>
 refine aa (aY (aa (.of (bR H hi fun s1 a0 H1 => ?_))))
 have My := H1.hand hi (hN.ck a0.ck)
 refine az (bN I hf (hn.mark _) b hb My ((N.hand (some (c.σ i).1))) l e) (fun fl s2 q => ?_) fun x s2 q => ?_
 ·obtain ⟨f, A', c', m1, le2, H2, r2⟩ := q
  exact aq (hQ f A' c' s2 fl m1 (a0.trans le2) (H.rE (a0.trans le2) H2) r2)
 ·obtain ⟨j, A', c', m1, le2, H2, ⟨fh, rfl⟩, D', hj⟩ := q
  refine aa (az (B9 hn top hf (hn.mark _) rfl H2 hj (E := E) fun s3 dY H3 => ?_) (fun J J q => az q (fun J J q => q) fun J J q => q.elim) fun J J q => q.elim)
  exact hE j A' c' s3 D' m1 ((a0.trans le2).trans dY) (H.rE ((a0.trans le2).trans dY) H3) fh hj
theorem pb (G : Z.Glob) (hn : Room n Ar cs) {i D C g : Nat} {bs qX : List Nat} (hi : A.heap.get i = some (.exc D)) (hN : cn s (c.σ i).1) {id : Str} {p pos : Pos} (yI : id = Z.nm g) (hk : cw sc id .globalImplicit = true) (hd : bX id = true) (hg : af g Z.Γ.glob = some (.cls C)) (hD : af D Z.Γ.cf = some bs) (hC : af C Z.Γ.cf = some qX)
 (H : St Z L cs c A s) (N : aR Z sc c L cs env) {Q : Flow → Shared → Prop} {E : Value → Shared → Prop}
 (hQ : ∀ c' s', Le Z L c s c' s' → St Z L cs c' A s' → Q (if bs.contains C then .brk else .next) s') :
 bt Z.M Ar (runOwn (.handlers (.ref (c.σ i).1) [.ExceptHandler (some (.Name id p)) none [] pos] env) env (some (.ref (c.σ i).1))) Q E s := by
 refine j4 (aZ rfl ?_) (by intro q; cases q)
 refine (?_ : bt Z.M (Ar.mark (some (.ref (c.σ i).1))) ((handleWith (.ref (c.σ i).1) env [.ExceptHandler (some (.Name id p)) none [] pos]).onRaise (fun x => do noteFrame x env; theTreesLotGoes x) >>= fun f => pure (PySem.Fin.done f)) _ _ s)
 refine aa (aT ?_)
 have H1 := H.hand hi hN
 have w := l9 (Ar := Ar.mark (some (.ref (c.σ i).1))) (pos := p) G yI H1 (N.hand (some (c.σ i).1)) hk hd
 rw [hg] at w
 refine aa (aY (aa (au.one w fun u c' s' uH H' r' => ?_)))
 cases r'
 refine aa (aY (aa (.of ?_)))
 have cP : ({ A with hd := some i } : AS).heap.get i = some (.exc D) := hi
 have LT := xd H' cP
 have X := G.k.keeps H'.base
 refine bK (uH.σ i (H.lt i _ hi)) ?_
 exact (exm_one X LT (G.exc D C bs qX hD hC)).at (aq (aq (hQ c' s' uH (H.rE (A' := { A with hd := some i }) uH H'))))
theorem pd {Γ : Ctx} {i : Nat} {g : Nat} {b : List S} {r : List (E × List S)} {l : bC Fl} {D : Nat} (hi : A.heap.get i = some (.exc D)) (e : handle Γ ih i ((.aH g, b) :: r) A = some l) : ∃ C bs qX, af g Γ.glob = some (.cls C) ∧ af D Γ.cf = some bs ∧ af C Γ.cf = some qX ∧
 ((bs.contains C = true ∧ ∃ l0, aW ih b { A with hd := some i } = some l0 ∧ l = .many (l0.list.map fun x => (x.1, { x.2 with hd := A.hd }))) ∨ (bs.contains C = false ∧ handle Γ ih i r A = some l)) := by
 refine (gc (show (AU (af g Γ.glob)).bind _ = some l from e)).elim fun C aj => (aj).elim fun _ e => ?_
 obtain ⟨⟨D', hD⟩, _, e⟩ := gc e
 cases hi.symm.trans hD
 obtain ⟨bs, hb, e⟩ := gc e
 generalize hC : af C.1 Γ.cf = o at e
 cases o with
 | none => exact no e
 | some qX =>
 refine ⟨C.1, bs, qX, C.2, hb, hC, ?_⟩
 replace e := (if_pos (show (some qX).isSome = true from rfl)).symm.trans e
 cases hc : bs.contains C.1 with
 | false => exact .inr ⟨rfl, (if_neg (hc ▸ Bool.false_ne_true)).symm.trans e⟩
 | true =>
  obtain ⟨l0, h0, e⟩ := gc ((if_pos hc).symm.trans e)
  exact .inl ⟨rfl, l0, h0, (aO e).symm⟩
theorem hO (G : Z.Glob) (I : aC Z n ih) (hn : Room n Ar cs) (hf : env.frame = some L) {i D : Nat} : ∀ {hs : List (E × List S)} {jw : List ExceptHandler} {c : Cfg} {A : AS} {s : Shared}, encL (tF Z.nm (cG Z.nm m) sc) hs jw = true → A.heap.get i = some (.exc D) → cn s (c.σ i).1 → St Z L cs c A s → aR Z sc c L cs env →
 au Z L cs Ar (handleBy (.ref (c.σ i).1) env jw) FR (handle Z.Γ ih i hs A) c s
 | [], jw, c, A, s, h, hi, hN, H, N => by
  obtain rfl := cN h
  intro l e
  obtain rfl := aO e
  refine .of (fp H hi hN fun T => ?_)
  refine ae (if_neg (show ¬ ((Value.ref T == Value.none) = true) from by simp)) ?_
  exact wpAny_bind (bR H hi fun s2 le2 H2 => wpAny_throw ⟨i, A, c, .head _, le2, H2, ⟨H.lt i _ hi, rfl⟩, D, hi⟩)
 | (e0, b) :: hs, jw, c, A, s, h, hi, hN, H, N => by
  obtain ⟨x, jw, rfl, g1, g2⟩ := aQ h
  intro l e
  refine Classical.byContradiction fun bad => ?_
  obtain @⟨g, _, id, p, body, pos, q⟩ := dH g1
  refine (ao q).elim fun q h5 => ?_
  refine (ao q).elim fun q h4 => ?_
  refine (ao q).elim fun q h3 => ?_
  refine (ao q).elim fun h1 h2 => ?_
  replace h1 := cL h1
  replace h5 : body ≠ [] := fun q => by subst q; exact absurd h5 (by decide)
  obtain ⟨C, bs, qX, k1, k2, k3, k⟩ := pd hi e
  refine bad ?_
  rw [handleBy]
  refine aa (aA (pb G hn hi hN h1 h2 h3 k1 k2 k3 H N fun c1 s1 a0 H1 => ?_))
  have Bc := a0.σ i (H.lt i _ hi)
  have KD : cn s1 (c1.σ i).1 := by refine ae Bc ?_; exact hN.ck a0.ck
  rcases k with ⟨kc, l0, k4, rfl⟩ | ⟨kc, k4⟩
  ·refine ae kc ?_; refine ae (if_pos rfl) ?_
   refine aa (aq ?_)
   refine bK Bc ?_
   refine aa (aA (pa I hn hf hi KD h4 h5 H1 (N.mono a0.grown) k4 (fun f A' c' s' fl m1 uH H' r' => aq ?_) fun j A' c' s' D' m1 uH H' fh hj => ?_))
   ·exact ⟨f, _, c', List.mem_map.mpr ⟨_, m1, rfl⟩, a0.trans uH, H', r'⟩
   ·exact ⟨j, _, c', List.mem_map.mpr ⟨_, m1, rfl⟩, a0.trans uH, H', ⟨fh, rfl⟩, D', hj⟩
  ·refine ae kc ?_; refine ae (if_neg (by decide)) ?_
   refine aa (aq ?_)
   refine bK Bc ?_
   exact au.from H.bw a0 (hO G I hn hf g2 hi KD H1 (N.mono a0.grown)) l k4
theorem j6 {Γ : Ctx} {hs : List (E × List S)} : ∀ {l : List (Except Nat Fl × AS)} {r : bC Fl}, uk Γ ih hs l = some r →
 (∀ f A, (Except.ok f, A) ∈ l → (Except.ok f, A) ∈ r.list) ∧ ∀ i A, (Except.error i, A) ∈ l → ∃ r', handle Γ ih i hs A = some r' ∧ ∀ x ∈ r'.list, x ∈ r.list
 | [], _, _ => ⟨fun J J h => (nomatch h), fun J J h => (nomatch h)⟩
 | (.ok f, A) :: t, r, e => by
  obtain ⟨u, v, hu, hv, hr⟩ := g7 (r := some (.one f A)) (t := uk Γ ih hs t) e
  obtain rfl := aO hu
  obtain ⟨h1, h2⟩ := j6 hv
  refine ae hr ?_
  refine ⟨fun f' A' hm => ?_, fun i A' hm => ?_⟩
  ·rcases ff hm with z | hm
   ·cases z; exact .head _
   ·exact .tail _ (h1 _ _ hm)
  ·rcases ff hm with z | hm
   ·cases z
   ·refine (h2 _ _ hm).elim fun r' aj => (aj).elim fun q1 q2 => ?_
    exact ⟨r', q1, fun x hx => .tail _ (q2 x hx)⟩
 | (.error j, A) :: t, r, e => by
  obtain ⟨u, v, hu, hv, hr⟩ := g7 (r := handle Γ ih j hs A) (t := uk Γ ih hs t) e
  refine (j6 hv).elim fun h1 h2 => ?_
  refine ae hr ?_
  refine ⟨fun f' A' hm => ?_, fun i A' hm => ?_⟩
  ·rcases ff hm with z | hm
   ·cases z
   ·exact List.mem_append.mpr (.inr (h1 _ _ hm))
  ·rcases ff hm with z | hm
   ·cases z; exact ⟨u, hu, fun x hx => List.mem_append.mpr (.inl hx)⟩
   ·refine (h2 _ _ hm).elim fun r' aj => (aj).elim fun q1 q2 => ?_
    exact ⟨r', q1, fun x hx => List.mem_append.mpr (.inr (q2 x hx))⟩
theorem ze {Γ : Ctx} {b : List S} {hs : List (E × List S)} {r : bC Fl} (e : tA Γ ih b hs A = some r) : ∃ l, aW ih b A = some l ∧
 (∀ f A, (Except.ok f, A) ∈ l.list → (Except.ok f, A) ∈ r.list) ∧ ∀ i A, (Except.error i, A) ∈ l.list → ∃ r', handle Γ ih i hs A = some r' ∧ ∀ x ∈ r'.list, x ∈ r.list := by
 delta tA at e
 generalize hx : aW ih b A = o at e
 cases o with
 | none => exact no e
 | some l => cases l with
  | one f B =>
   obtain rfl := aO e
   exact ⟨_, rfl, fun J J h => h, fun i A h => by cases msg h⟩
  | many l => exact ⟨_, rfl, j6 e⟩
theorem uM (G : Z.Glob) (I : aC Z n ih) (hn : Room n Ar cs) (hf : env.frame = some L) {b : List S} {hs : List (E × List S)} {y : List Stmt} {jw : List ExceptHandler} {pos : Pos} (h1 : encL (cG Z.nm m sc) b y = true) (h2 : encL (tF Z.nm (cG Z.nm m) sc) hs jw = true) (h3 : jw.isEmpty = false)
 (H : St Z L cs c A s) (N : aR Z sc c L cs env) : au Z L cs Ar (exec (.Try y jw [] [] pos) env) FR (tA Z.Γ ih b hs A) c s := by
 refine (N.top hf).elim fun rest top => ?_
 rw [arm_exec_Try]
 refine .at ?_
 intro r e
 refine (ze e).elim fun l aj => (aj).elim fun hl ax => (ax).elim fun m1 m2 => ?_
 dsimp only [tryStmt]
 simp -iota only [List.isEmpty_nil, if_true, h3, Bool.false_and, Bool.false_eq_true, if_false]
 refine aa (i9 (az (bN I hf hn b h1 H N l hl) (fun fl s1 q => ?_) fun e s1 q => ?_))
 ·obtain ⟨f, A1, c1, k1, k2, k3, k4⟩ := q
  have w : QO Z L cs FR r.list c s fl s1 := ⟨f, A1, c1, m1 f A1 k1, k2, k3, k4⟩
  cases fl <;> exact aq w
 ·obtain ⟨i, A1, c1, k1, a0, H1, ⟨fh, rfl⟩, D, hi⟩ := q
  refine (m2 i A1 k1).elim fun r' aj => (aj).elim fun q1 q2 => ?_
  refine aa (.of (gH hn top hf H1 hi fun s2 le2 H2 N2 => ?_))
  refine aa (.of (bR H2 hi fun s3 dY H3 => ?_))
  have le := (a0.trans le2).trans dY
  refine az (hO G I hn hf h2 hi (N2.ck dY.ck) H3 (N.mono le.grown) r' q1) (fun fl s4 q => ?_) fun e s4 q => ?_
  ·obtain ⟨f, A4, c4, k1, k2, k3, k4⟩ := q
   exact ⟨f, A4, c4, q2 _ k1, le.trans k2, k3, k4⟩
  ·obtain ⟨f, A4, c4, k1, k2, k3, k4⟩ := q
   exact ⟨f, A4, c4, q2 _ k1, le.trans k2, k3, k4⟩
end
end aD
end
section
open PySem PySem.Calls PyProof.Rows PySem.W
namespace aD
section
variable {Z : aL} {n : Nat} {ih : bM} {L : Nat} {cs : Fm} {Ar : Around} {c : Cfg} {A : AS} {s : Shared} {env : Env} {sc : cA} {m : Nat}
theorem hW {z : Expr} {t : Option Expr} {l : Nat} (h : jZ z = false) : swapsWith z t l env = pure false := by
 cases z <;> first | rfl | cases h
noncomputable def Dg (f : Str → Pos → Bool) (x : Expr) : Option Str := match x with
 | .Name id pos => if f id pos then some id else none
 | _ => none
theorem nJ {f : Str → Pos → Bool} {ts : List Expr} : (∀ x ∈ ts, ∃ id q, x = Expr.Name id q) → (ts.filterMap (Dg f)).length = ts.length → ts.filterMap (Dg f) = ts.map l5 := by
 induction ts with
 | nil => exact fun J J => rfl
 | cons x r ih =>
  intro ht hn
  obtain ⟨id, q, rfl⟩ := ht x (.head _)
  by_cases hb : f id q = true
  ·have e : Dg f (.Name id q) = some id := if_pos hb
   rw [List.filterMap_cons_some e] at hn ⊢
   exact congrArg (id :: ·) (ih (fun y hy => ht y (.tail _ hy)) (Nat.succ.inj hn))
  ·have e : Dg f (.Name id q) = none := if_neg hb
   rw [List.filterMap_cons_none e] at hn
   exact absurd (hn ▸ List.length_filterMap_le (Dg f) r) (Nat.not_succ_le_self _)
set_option tactic.hygienic true in
theorem pe {ts vs : List Expr} {k k' : Nat} {p p' : Pos} (ht : ∀ x ∈ ts, ∃ id q, x = Expr.Name id q) (hc : jC (.Tuple ts k p) (.Tuple vs k' p') = false) :
 swappedStores [.Tuple ts k p] (.Tuple vs k' p') env = pure none ∨ (swappedStores [.Tuple ts k p] (.Tuple vs k' p') env = pure (some (ts.map l5)) ∧ (ts.length = 2 ∨ ts.length = 3)) := by
 refine (?_ : (if (!(ts.length == 2 || ts.length == 3) || vs.length != ts.length || env.blockKind != .function) = true then (pure none : Sem (Option (List Str))) else _) = pure none ∨ (if (!(ts.length == 2 || ts.length == 3) || vs.length != ts.length || env.blockKind != .function) = true then (pure none : Sem (Option (List Str))) else _) = _ ∧ _)
 dsimp -iota only
 split
 ·exact .inl rfl
 ·rename_i hlen
  split
  ·exact .inl rfl
  ·split
   ·exact .inl rfl
   ·rename_i hn
    split
    ·exact .inl rfl
    ·rename_i KG hf
     have hc : ((vs.all (constantsAlone 8) && !vs.all (foldedForSure 8)) || (vs.any fun | .Starred .. => true | _ => false)) = false := hc
     have Ee : vs.all (foldedForSure 8) = false := by simpa using hf
     rw [Bool.or_eq_false_iff, Ee, Bool.not_false, Bool.and_true] at hc
     refine ae (if_neg (by rw [hc.1]; decide)) ?_
     refine .inr ⟨?_, ?_⟩
     ·congr 2
      have hn : (ts.filterMap (Dg fun id pos => env.kindOf id == some .local && pos.line == (ts.head?.map (·.pos.line)).getD 0)).length = ts.length := by
       revert hn
       simp -iota only [Bool.or_eq_true, bne_iff_ne, ne_eq, not_or, Decidable.not_not]
       exact fun h => h.1
      exact nJ (f := fun id pos => env.kindOf id == some .local && pos.line == (ts.head?.map (·.pos.line)).getD 0) ht hn
     ·revert hlen
      simp -iota only [Bool.or_eq_true, Bool.not_eq_true', Bool.or_eq_false_iff, beq_eq_false_iff_ne, bne_iff_ne, ne_eq, not_or, not_and, Decidable.not_not, beq_iff_eq]
      intro h
      by_cases h2 : ts.length = 2
      ·exact .inl h2
      ·exact .inr (h.1.1 h2)
theorem uQ (G : Z.Glob) {is : List Nat} {xs : List Expr} {vs : List V} {us : List Value} {A' : AS} (h : encL (dm Z.nm sc) is xs = true) (H : St Z L cs c A s) (N : aR Z sc c L cs env) (r : dq c vs us) (e : cV is.reverse vs.reverse A = some A') :
 au Z L cs Ar (assignInOrder (is.reverse.map ((fun n => bindName env n) ∘ Z.nm)) us.reverse) UR (ok () A') c s := by
 have Ef : ∀ i ∈ is, dm Z.nm sc i (.Name (Z.nm i) default) = true := by
  clear e r
  revert xs
  induction is with
  | nil => intro _ _ i hi; cases hi
  | cons j is ih =>
   intro xs h i hi
   cases xs with
   | nil => cases h
   | cons x xs =>
    refine (ao h).elim fun h1 h2 => ?_
    rcases ff hi with rfl | hi
    ·obtain ⟨id, p, rfl, rfl⟩ := iK h1
     exact h1
    ·exact ih h2 i hi
 have Bd : ∀ i ∈ is.reverse, dm Z.nm sc i (.Name (Z.nm i) default) = true := fun i hi => Ef i (List.mem_reverse.mp hi)
 have r' : dq c vs.reverse us.reverse := by
  clear e H
  induction r with
  | nil => exact .nil
  | cons a _ ih => (refine ae List.reverse_cons ?_; refine ae List.reverse_cons ?_); exact ih.append (.cons a .nil)
 clear r h Ef
 generalize is.reverse = is at *
 generalize vs.reverse = vs at *
 generalize us.reverse = us at *
 revert vs us A c s
 induction is with
 | nil =>
  intro c A s H N vs e us r
  cases vs with
  | nil => cases r; obtain rfl := aO e; exact .ok H trivial
  | cons => cases e
 | cons i is ih =>
  intro c A s H N vs e us r
  cases vs with
  | nil => cases e
  | cons v vs =>
   cases r with
   | cons r1 r =>
    exact au.bind1 H.bw (.hold (gG (pos := default) G (Bd i (.head _)) H N r1)) fun c1 s1 u1 a0 H1 J => ih (fun j hj => Bd j (.tail _ hj)) H1 (N.mono a0.grown) _ e _ (r.imp fun J J y => y.mono a0.grown)
theorem uR {t : T} {y z : Expr} (h : (!true || rA t y z) = true) : ∃ i id p, t = .loc i ∧ y = .Name id p ∧ oW id p z = true := by
 cases t <;> first | exact bf h | skip
 cases y <;> first | exact bf h | exact ⟨_, _, _, rfl, rfl, h⟩
theorem j7 {t : T} {y : Expr} (h : gz Z.nm m sc t y = true) : (assignEach [y] env).map (·.2) = [assign y env] := by
 replace h := dA h
 induction h <;> rfl
theorem pf {t : T} {y z : Expr} (h : gz Z.nm m sc t y = true) (ht : ∀ is, t ≠ .tup is) : swappedStores [y] z env = pure none := by
 replace h := dA h
 induction h <;> first | rfl | exact (ht _ rfl).elim
theorem pg {ts : List Expr} {k : Nat} {p : Pos} {z : Expr} (hz : ∀ vs k p, z ≠ .Tuple vs k p) : swappedStores [.Tuple ts k p] z env = pure none := by
 cases z <;> first | rfl | exact (hz _ _ _ rfl).elim
theorem iL {e : E} {y : Expr} {u : Value} : ∀ {m : Nat}, aV Z.nm m sc e y = true → foldedSetIterable y env u = pure u
 | 0, h => bf h
 | m + 1, h => by
  replace h := bL h
  induction h <;> rfl
set_option tactic.hygienic true in
theorem zf (G : Z.Glob) (P2 : bQ Z) (hb : Room 1 Ar cs) {is : List Nat} {xs : List Expr} {v : V} {u : Value} (hx : encL (dm Z.nm sc) is xs = true) (hl : 2 ≤ is.length) (Cc : is.Nodup) (Ow : xs.length = 2 ∨ xs.length = 3) (H : St Z L cs c A s) (N : aR Z sc c L cs env) (r : VR c v u) :
 au Z L cs Ar (unpackItems u (xs.map l5).length none >>= fun items => assignInOrder ((xs.map l5).reverse.map fun n => bindName env n) items.reverse >>= fun J => pure Flow.next) FR (Res.bind (match bindM is v A with | some A => aD.ok () A | none => none) fun J A => aD.ok .next A) c s := by
 have Cd := eM hx
 have Eb := dX hx
 cases qY : bindM is v A with
 | none => exact .none
 | some A' =>
  obtain ⟨hh, i, vs, rfl, hi, e'⟩ := mf qY
  obtain ⟨cP, rfl⟩ := r
  have hlen := cO e'
  refine ae (show (xs.map l5).length = vs.length by rw [List.length_map, ← Eb, hlen]) ?_
  refine au.bind1 H.bw (P2.y9 hb H hh hi) fun c2 s2 us le2 H2 r2 => ?_
  refine (o7 (Z := Z) (L := L) (cs := cs) (show is.length = 2 ∨ is.length = 3 by omega) Cc e').elim fun GZ aj => (aj).elim fun q1 q2 => ?_
  have G6 := uQ (Ar := Ar) G hx H2 (N.mono le2.grown) r2 q1
  refine ae Cd.1 ?_; refine bK List.map_reverse ?_; refine ae List.map_map ?_
  exact au.bind1 H2.bw (G6.subst q2) fun c3 s3 J dY H3 J => .ok H3 rfl
set_option tactic.hygienic true in
theorem zg (G : Z.Glob) (P : bY Z) (P2 : bQ Z) (I : aC Z n ih) (h1 : 1 ≤ n) (cx : Room n Ar cs) {t : T} {e : E} {y z : Expr} {pos : Pos} (h2 : gz Z.nm m sc t y = true) (h5 : aV Z.nm m sc e z = true) (hz : jZ z = false) (h3 : jC y z = false) (H : St Z L cs c A s) (N : aR Z sc c L cs env) :
 au Z L cs Ar (exec (.Assign [y] z pos) env) FR (GL Z.Γ ih (.asg t e) A) c s := by
 rw [exec_Assign, show swapsWithSole [y] z pos.line env = pure false from hW hz]
 refine .at (.ret ?_)
 refine ae (if_neg (by decide)) ?_
 refine au.bind H.bw (I.e h5 cx H N) fun v A1 c1 s1 u a0 H1 r1 => ?_
 have plain : au Z L cs Ar (assignAll u ((assignEach [y] env).map (·.2)) >>= fun J => pure Flow.next) FR (Res.bind (asg Z.Γ ih t v A1) fun J A => aD.ok .next A) c1 s1 := by
  refine ae (j7 h2) ?_
  exact au.bind H1.bw (fQ G P P2 I h1 cx h2 H1 (N.mono a0.grown) r1) fun w A2 c2 s2 u2 le2 H2 J => .ok H2 rfl
 by_cases ht : ∃ is, t = .tup is
 ·obtain ⟨is, rfl⟩ := ht
  obtain ⟨ts, k, tp, rfl, hx, Cc, hl⟩ := wZ h2
  by_cases KH : ∃ vs k' p', z = .Tuple vs k' p'
  ·obtain ⟨vs, k', p', rfl⟩ := KH
   rcases pe (env := env) (eM hx).2 h3 with hw | ⟨hw, hlen⟩
   ·refine ae hw ?_; exact .ret plain
   ·refine ae hw ?_
    refine .ret (.rule ?_)
    dsimp only [asg]
    refine ae (o8 hl) ?_
    exact zf G P2 (cx.le h1) hx hl Cc hlen H1 (N.mono a0.grown) r1
  ·refine ae (pg fun vs k p e => KH ⟨vs, k, p, e⟩) ?_; exact .ret plain
 ·refine ae (pf h2 fun is e => ht ⟨is, e⟩) ?_; exact .ret plain
theorem jd {f : Expr → Option Str} (hf : ∀ x, notName x = true → f x = none) : ∀ {ts : List Expr}, ts.any notName = true → (ts.filterMap f).length ≠ ts.length
 | [], h => bf h
 | x :: r, h => fun hn => by
  have hr := List.length_filterMap_le f r
  rw [List.filterMap_cons, List.length_cons] at hn
  rw [List.any_cons] at h
  cases hx : f x with
  | none =>
   rw [hx] at hn
   dsimp only at hn
   omega
  | some y =>
   rw [hx] at hn
   rcases yG h with h | h
   ·rw [hf x h] at hx; cases hx
   ·exact jd hf h (Nat.succ.inj hn)
set_option tactic.hygienic true in
theorem ph {ys zs : List Expr} {k k' : Nat} {p p' : Pos} (h : ys.any notName = true) : swappedStores [.Tuple ys k p] (.Tuple zs k' p') env = pure none := by
 refine (?_ : (if (!(ys.length == 2 || ys.length == 3) || zs.length != ys.length || env.blockKind != .function) = true then (pure none : Sem (Option (List Str))) else _) = pure none)
 dsimp -iota only
 split
 ·rfl
 ·split
  ·rfl
  ·split
   ·rfl
   ·rename_i hn
    refine absurd ?_ hn
    rw [Bool.or_eq_true, bne_iff_ne]
    exact .inl (jd (fun x h => by cases x <;> first | rfl | cases h) h)
theorem j8 : ∀ {ts : List T} {ys : List Expr}, encL (gz Z.nm m sc) ts ys = true → assignEach ys env = ys.map fun y => (false, assign y env)
 | [], [], _ => rfl
 | [], _ :: _, h => by cases h
 | _ :: _, [], h => by cases h
 | t :: ts, y :: ys, h => by
  refine (ao h).elim fun h1 h2 => ?_
  have ih := j8 h2
  have e : assignEach (y :: ys) env = (false, assign y env) :: assignEach ys env := by
   replace h1 := dA h1
   induction h1 <;> rfl
  refine ae e ?_; refine ae ih ?_; rfl
theorem j9 (G : Z.Glob) (P : bY Z) (P2 : bQ Z) (I : aC Z n ih) (h1 : 1 ≤ n) (hn : Room n Ar cs) : ∀ {ts : List T} {ys : List Expr} {vs : List V} {us : List Value} {c : Cfg} {A : AS} {s : Shared}, encL (gz Z.nm m sc) ts ys = true → St Z L cs c A s → aR Z sc c L cs env → dq c vs us →
 au Z L cs Ar (assignInOrder (ys.map fun y => assign y env) us) UR (BW Z.Γ ih ts vs A) c s
 | [], ys, vs, us, _, _, _, h, H, _, r => by
  obtain rfl := cN h
  cases vs with
  | cons => exact .none
  | nil => obtain rfl := r.nil_inv; exact .ok H trivial
 | t :: ts, ys, vs, us, c, A, s, h, H, N, r => by
  obtain ⟨y, ys, rfl, k1, k2⟩ := aQ h
  cases vs with
  | nil => exact .none
  | cons v vs =>
  obtain ⟨u, us, rfl, r1, r⟩ := r.cons_inv
  refine (?_ : au Z L cs Ar (holding us (assign y env u) >>= _) UR (Res.bind (asg Z.Γ ih t v A) _) c s)
  exact au.bind H.bw (.hold (fQ G P P2 I h1 hn k1 H N r1)) fun J A1 c1 s1 J a0 H1 J => j9 G P P2 I h1 hn k2 H1 (N.mono a0.grown) (r.imp fun J J y => y.mono a0.grown)
theorem rH (G : Z.Glob) (P : bY Z) (P2 : bQ Z) (I : aC Z n ih) (h1 : 1 ≤ n) (cx : Room n Ar cs) {ts : List T} {es : List E} {ys zs : List Expr} {k k' : Nat} {p p' q : Pos} (h2 : encL (gz Z.nm m sc) ts ys = true) (h3 : encL (aV Z.nm m sc) es zs = true) (h4 : ys.any notName = true) (H : St Z L cs c A s) (N : aR Z sc c L cs env) :
 au Z L cs Ar (exec (.Assign [.Tuple ys k p] (.Tuple zs k' p') q) env) FR (A8 Z.Γ ih ts es A) c s := by
 rw [exec_Assign, show swapsWithSole [.Tuple ys k p] (.Tuple zs k' p') q.line env = pure false from rfl]
 refine .at (.ret ?_)
 refine ae (if_neg (by decide)) ?_
 refine (?_ : au Z L cs Ar ((standAt p' >>= fun J => spliced (backTo p' (starEach zs env)) >>= fun us => newTuple us) >>= _) FR (Res.bind (eY ih es A) _) c s)
 rw [bind_assoc]
 refine .at ?_
 rw [bind_assoc]
 refine au.bind H.bw (gB I cx h3 H N) fun vs A1 c1 s1 us a0 H1 r1 => ?_
 refine au.bindM H1.bw (P.tup (cx.le h1) H1 r1) fun l hl v A2 c2 s2 u hm le2 H2 r2 => ?_
 refine ae (ph h4) ?_
 refine .ret ?_
 dsimp only [uj] at hl
 split at hl
 ·obtain rfl := aO hl
  cases msg hm
  obtain ⟨_, rfl⟩ := r2
  refine .dP fun hlen => ?_
  refine (hlen).elim fun hlen hh => ?_
  have hh := yF hh
  refine au.bind (R := UR) H2.bw (.at ?_) fun J A3 c3 s3 J dY H3 J => .ok H3 rfl
  have hx := j8 (env := env) h2
  delta unpack
  have Mz : (assignEach ys env).findIdx? (·.1) = none := by
   rw [hx, List.findIdx?_eq_none_iff]
   intro y hy
   obtain ⟨x, _, rfl⟩ := yN hy
   rfl
  refine ae Mz ?_; refine ae (show (assignEach ys env).length = vs.length by rw [hx, List.length_map, ← dX h2, hlen]) ?_
  refine au.bind1 H2.bw (.hold (P2.y9 (cx.le h1) H2 hh (.inl (by refine (?_ : (A1.heap.put A1.n (.tup vs)).get A1.n = _); rw [Tr.ba, if_pos rfl])))) fun c3 s3 Ox dY H3 r3 => ?_
  refine ae hx ?_; refine ae List.map_map ?_
  exact j9 G P P2 I h1 cx h2 H3 (N.mono ((a0.grown.trans le2.grown).trans dY.grown)) r3
 ·exact no hl
set_option tactic.hygienic true in
theorem uS (G : Z.Glob) (P : bY Z) (P2 : bQ Z) (I : aC Z n ih) (C : xa Z n ih) (Lo : Ba Z n ih) (h1 : 1 ≤ n) (hn : Room (n + 1) Ar cs) (hf : env.frame = some L) {st : S} {x : Stmt} (he : cG Z.nm m sc st x = true) (H : St Z L cs c A s) (N : aR Z sc c L cs env) :
 au Z L cs Ar (exec x env) FR (GL Z.Γ ih st A) c s := by
 have cx : Room n Ar cs := hn.le (Nat.le_succ n)
 have hb : Room 1 Ar cs := cx.le h1
 cases m with
 | zero => cases he
 | succ m =>
 replace he := l6 he
 induction he
 case asg t e y z pos he =>
  refine (ao he).elim fun KI h4 => ?_
  refine (ao KI).elim fun KJ h3 => ?_
  refine (ao KJ).elim fun h2 h5 => ?_
  clear he KI KJ
  cases hz : jZ z with
  | true =>
   rw [hz] at h4
   obtain ⟨i, id, p, rfl, rfl, h4⟩ := uR h4
   exact .conv (fun J J q => q) (Lo.swap (uu h2) h5 hz h4 hn H N)
  | false =>
   exact zg G P P2 I h1 cx h2 h5 hz (by simpa using h3) H N
 case aug i o e id p q z pos he =>
  refine (ao he).elim fun he h4 => ?_
  refine (ao he).elim fun h2 h3 => ?_
  cases jX h3
  have GY := h2
  refine (ao h2).elim fun h2 hd => ?_
  refine (ao h2).elim fun hi hk => ?_
  refine .at ?_
  have hl : au Z L cs Ar (loadName env id) VR (bA (af i A.locs) A) c s := .opt fun v hv => .look H fun Q E k => by
   refine (H.ns).elim fun m aj => (aj).elim fun h1 h2 => ?_
   refine (h2 i v hv).elim fun u aj => (aj).elim fun h3 h4 => ?_
   have kd : env.kindOf id = some .local := by
    rcases N.names id .local (kind_of hk) with h | h
    ·exact h
    ·cases h.1
   exact wpAny_loadName_local N.kind kd (N.locals ▸ h1) (cL hi ▸ h3) (k u s.toks h4)
  refine au.bind H.bw hl fun v A1 c1 s1 u a0 H1 r1 => ?_
  refine au.bind H1.bw (.hold (I.e h4 cx H1 (N.mono a0.grown))) fun w A2 c2 s2 u2 le2 H2 r2 => .at ?_
  refine au.bind H2.bw (.w6 (P.B5 hb H2 (r1.mono le2.grown) r2)) fun y A3 c3 s3 u3 dY H3 r3 => .at ?_
  exact au.bind1 H3.bw (gG (pos := p) G GY H3 (((N.mono a0.grown).mono le2.grown).mono dY.grown) r3) fun c4 s4 u4 zi H4 J => .ok H4 rfl
 case nq e f o v y a ap q z pos he =>
  refine (ao he).elim fun he h4 => ?_
  refine (ao he).elim fun he h3 => ?_
  refine (ao he).elim fun ha h2 => ?_
  cases cL ha
  cases jX h3
  refine .at ?_
  refine (?_ : au Z L cs Ar (eval y env >>= _) FR (Res.bind (ih.e e A) _) c s)
  refine au.bind H.bw (I.e h2 cx H N) fun b A1 c1 s1 ub a0 H1 r1 => ?_
  refine .conv (t' := (standAt ap.atName >>= fun J => getAttr ub (Z.nm f) true) >>= fun old => eval z env >>= fun w => standAt pos >>= fun J => inplaceOp (rz o) old w >>= fun new => standAt ap.atName >>= fun J => setAttr ub (Z.nm f) new >>= fun J => pure Flow.next) (fun Q E q Γ p' fg hC => ?_) ?_
  ·have q := q Γ p' fg hC
   simp -iota only [Sem.wp_bind', Sem.wp_holding, Sem.wp_pure, Sem.wp_release, Sem.wp_operate] at q ⊢
   exact q
  ·refine au.bind H1.bw (.at (P.attr hb H1 r1)) fun old A2 c2 s2 uo le2 H2 r2 => ?_
   refine au.bind H2.bw (I.e h4 cx H2 ((N.mono a0.grown).mono le2.grown)) fun w A3 c3 s3 uw dY H3 r3 => .at ?_
   refine au.bind H3.bw (P.B5 hb H3 (r2.mono dY.grown) r3) fun nw A4 c4 s4 un zi H4 r4 => .at ?_
   exact au.bind H4.bw (P2.B6 hb H4 (r1.mono ((le2.grown.trans dY.grown).trans zi.grown)) r4) fun J A5 c5 s5 J yL H5 J => .ok H5 rfl
 case exp e z pos he =>
  refine (ao he).elim fun h2 h3 => ?_
  have hz : jZ z = false := by simpa using h3
  have ex : exec (.Expr z pos) env = (do
   standAt pos
   if interactive env then printExpr (eval z env)
   else if ← swapsWith z none pos.line env then do evalThenUse z env fun J => point; pure .next
   else do dropValue z pos (← eval z env)) := rfl
  have hi : interactive env = false := by dsimp only [interactive]; refine ae N.kind ?_; rfl
  refine ae ex ?_; refine ae hi ?_; refine ae (hW hz) ?_
  refine .at ?_
  refine ae (if_neg (by decide)) ?_
  refine .ret ?_
  refine ae (if_neg (by decide)) ?_
  exact au.bind H.bw (I.e h2 cx H N) fun v A1 c1 s1 u a0 H1 r1 => .done fun Q E k => wpAny_dropValue (k _ _ c1 (Le.refl ..) H1 rfl)
 case ret e z pos he =>
  refine .at ?_
  cases e <;> cases z
  ·exact .ok H ⟨_, rfl, rfl⟩
  ·cases he
  ·cases he
  ·rename_i e z
   refine (?_ : au Z L cs Ar (eval z env >>= _) FR (Res.bind (ih.e e A) _) c s)
   exact au.bind H.bw (I.e he cx H N) fun v A1 c1 s1 u a0 H1 r1 => .ok H1 ⟨_, rfl, r1⟩
 case bE b x y t y' z' pos he =>
  refine (ao he).elim fun he h4 => ?_
  refine (ao he).elim fun h2 h3 => ?_
  refine .at ?_
  refine au.bind H.bw (I.c h2 cx H N) fun v A1 c1 s1 u a0 H1 r1 => ?_
  cases r1
  cases v with
  | true => exact bN I hf cx x h3 H1 (N.mono a0.grown)
  | false => exact bN I hf cx y h4 H1 (N.mono a0.grown)
 case for_ is it b t y z pos he =>
  refine (ao he).elim fun he h4 => ?_
  refine (ao he).elim fun he h3 => ?_
  refine (ao he).elim fun h2 hd => ?_
  refine .at ?_
  refine au.bind H.bw (I.e h3 cx H N) fun v A1 c1 s1 u a0 H1 r1 => ?_
  refine ae (iL h3) ?_
  refine .ret (.at ?_)
  exact .conv (fun Q E q Γ p' fg hC => by have q := q Γ p' fg hC; simp -iota only [Sem.wp_bind', Sem.wp_holding] at q ⊢; exact q) (Lo.loop h2 (of_decide_eq_true hd) h4 hf hn H1 (N.mono a0.grown) r1)
 case try_ b hs y jw pos he =>
  refine (ao he).elim fun he h3 => ?_
  refine (ao he).elim fun h2 h4 => ?_
  exact uM G I cx hf h2 h4 (by simpa using h3) H N
 case del o i p q o6 pos he =>
  refine (ao he).elim fun he h3 => ?_
  refine (ao he).elim fun h0 h2 => ?_
  refine .at ?_
  refine .conv (t' := eval p env >>= fun ov => holding [ov] (eval q env) >>= fun iv => standAt o6 >>= fun J => holding [ov, iv] (delItem ov iv) >>= fun J => pure Flow.next) (fun Q E r Γ p' fg hC => ?_) ?_
  ·have r := r Γ p' fg hC
   have e1 : deleteEach [.Subscript p q o6] env = ((eval p env >>= fun ov => holding [ov] (eval q env) >>= fun iv => standAt o6 >>= fun J => holding [ov, iv] (delItem ov iv) >>= fun J => release [ov, iv] []) >>= fun J => pure ()) := rfl
   refine ae e1 ?_
   simp -iota only [Sem.wp_bind', Sem.wp_holding, Sem.wp_pure, Sem.wp_release] at r ⊢
   exact r
  ·refine au.bind H.bw (I.e h2 cx H N) fun v A1 c1 s1 u a0 H1 r1 => ?_
   refine au.bind H1.bw (.hold (I.e h3 cx H1 (N.mono a0.grown))) fun w A2 c2 s2 j le2 H2 r2 => .at ?_
   exact au.bind H2.bw (.hold (P2.iF hb H2 (r1.mono le2.grown) r2)) fun J A3 c3 s3 J dY H3 J => .ok H3 rfl
 case iD e a p he =>
  cases e <;> cases a
  ·exact rF (ih := ih) cx H
  ·cases he
  ·cases he
  ·exact o9 G I cx he H N
 case ly ts es ys k p zs k' p' q he =>
  refine (ao he).elim fun he h4 => ?_
  refine (ao he).elim fun h2 h3 => ?_
  exact rH G P P2 I h1 cx h2 h3 h4 H N
 case C9 p => exact .at (.ok H rfl)
 case bad => exact .none
end
end aD
end
section
open PySem PySem.Calls PyProof.Rows PySem.W
set_option backward.match.sparseCases false
namespace aD
namespace BS
variable {ρ : Val} {m : Nat}
theorem cH (x : Seg) : (Seg.den ρ x).length = a4 x := by
 cases x with
 | lit l => exact (List.length_map ..).trans tf.symm
 | rep k n => exact List.length_replicate ..
 | ef k o n => exact (List.length_map ..).trans List.length_range
 | be k o n a m => exact (List.length_map ..).trans List.length_range
theorem bq (x : BS) : (BS.den ρ x).length = len x := by
 induction x with
 | nil => rfl
 | cons x r ih => refine (?_ : (Seg.den ρ x ++ BS.den ρ r).length = a4 x + len r); rw [List.length_append, cH, ih]
theorem hX (x : Seg) (r : BS) : BS.den ρ (cons x r) = Seg.den ρ x ++ BS.den ρ r := by
 delta cons
 by_cases h : Nat.beq (a4 x) 0 = true
 ·refine ae (C7 h) ?_; refine ae (List.eq_nil_of_length_eq_zero ((cH x).trans (Nat.eq_of_beq_eq_true h))) ?_; rfl
 refine ae (C8 h) ?_
 cases r with
 | nil => rfl
 | cons y r =>
  cases x with
  | lit a =>
   cases y with
   | lit b =>
    refine (?_ : List.map UInt8.ofNat (oL a b) ++ BS.den ρ r = List.map UInt8.ofNat a ++ (List.map UInt8.ofNat b ++ BS.den ρ r))
    rw [jA, List.map_append, List.append_assoc]
   | _ => rfl
  | rep k n =>
   cases y with
   | rep k' n' =>
    refine (?_ : BS.den ρ (if k = k' then _ else _) = _)
    by_cases q : k = k'
    ·subst q
     refine ae (if_pos rfl) ?_
     exact (congrArg (· ++ _) List.replicate_append_replicate.symm).trans (List.append_assoc ..)
    ·refine ae (if_neg q) ?_; rfl
   | _ => rfl
  | _ => rfl
theorem nK {x : Seg} {r : BS} (h : Seg.lt m x) (h' : BS.lt m r) : BS.lt m (cons x r) := by
 delta cons
 by_cases q : Nat.beq (a4 x) 0 = true
 ·refine ae (C7 q) ?_; exact h'
 refine ae (C8 q) ?_
 cases r with
 | nil => exact ⟨h, h'⟩
 | cons y r =>
  cases x with
  | lit a =>
   cases y with
   | lit b => exact ⟨trivial, h'.2⟩
   | _ => exact ⟨h, h'⟩
  | rep k n =>
   cases y with
   | rep k' n' =>
    refine (?_ : BS.lt m (if k = k' then _ else _))
    by_cases q : k = k'
    ·refine ae (if_pos q) ?_; exact ⟨h, h'.2⟩
    ·refine ae (if_neg q) ?_; exact ⟨h, h'⟩
   | _ => exact ⟨h, h'⟩
  | _ => exact ⟨h, h'⟩
theorem fR (x y : BS) : BS.den ρ (app x y) = BS.den ρ x ++ BS.den ρ y := by
 induction x with
 | nil => rfl
 | cons x r ih =>
  refine (?_ : BS.den ρ (cons x (app r y)) = Seg.den ρ x ++ BS.den ρ r ++ BS.den ρ y)
  rw [hX, ih, List.append_assoc]
theorem ka {x y : BS} (h : BS.lt m x) (h' : BS.lt m y) : BS.lt m (app x y) := by
 induction x with
 | nil => exact h'
 | cons x r ih => exact nK h.1 (ih h.2)
theorem pj (d : Nat) (x : Seg) : Seg.den ρ (fM d x) = (Seg.den ρ x).drop d := by
 cases x with
 | lit l => exact List.map_drop
 | rep k n => exact List.drop_replicate.symm
 | ef k o n =>
  refine (?_ : List.map _ (List.range (n - d)) = (List.map _ (List.range n)).drop d)
  refine bK List.map_drop ?_
  apply List.ext_getElem
  ·simp
  ·intro i h1 h2
   simp [Nat.add_assoc]
 | be k o n a m =>
  refine (?_ : List.map _ (List.range (m - d)) = (List.map _ (List.range m)).drop d)
  refine bK List.map_drop ?_
  apply List.ext_getElem
  ·simp
  ·intro i h1 h2
   simp [Nat.add_assoc]
theorem pn (d : Nat) (x : Seg) : Seg.den ρ (fN d x) = (Seg.den ρ x).take d := by
 cases x with
 | lit l => exact List.map_take
 | rep k n => exact List.take_replicate.symm
 | ef k o n =>
  refine (?_ : List.map _ (List.range (min d n)) = (List.map _ (List.range n)).take d)
  refine bK List.map_take ?_; refine ae List.take_range ?_; rfl
 | be k o n a m =>
  refine (?_ : List.map _ (List.range (min d m)) = (List.map _ (List.range m)).take d)
  refine bK List.map_take ?_; refine ae List.take_range ?_; rfl
theorem rI {d : Nat} {x : Seg} (h : Seg.lt m x) : Seg.lt m (fM d x) := by
 cases x <;> exact h
theorem rJ {d : Nat} {x : Seg} (h : Seg.lt m x) : Seg.lt m (fN d x) := by
 cases x <;> exact h
theorem px (d : Nat) (x : BS) : BS.den ρ (drop d x) = (BS.den ρ x).drop d := by
 induction x generalizing d with
 | nil => exact List.drop_nil.symm
 | cons x r ih =>
  refine (?_ : BS.den ρ (if a4 x ≤ d then drop (d - a4 x) r else fM d x :: r) = (Seg.den ρ x ++ BS.den ρ r).drop d)
  rw [List.drop_append, cH]
  by_cases h : a4 x ≤ d
  ·rw [if_pos h, ih, List.drop_eq_nil_of_le (Nat.le_trans (Nat.le_of_eq (cH x)) h)]; rfl
  ·rw [if_neg h]
   refine (?_ : Seg.den ρ (fM d x) ++ BS.den ρ r = _)
   rw [pj, Nat.sub_eq_zero_of_le (Nat.le_of_not_le h), List.drop_zero]
theorem tH {d : Nat} {x : BS} (h : BS.lt m x) : BS.lt m (drop d x) := by
 induction x generalizing d with
 | nil => exact h
 | cons x r ih =>
  refine (?_ : BS.lt m (if a4 x ≤ d then drop (d - a4 x) r else fM d x :: r))
  by_cases q : a4 x ≤ d
  ·refine ae (if_pos q) ?_; exact ih h.2
  ·refine ae (if_neg q) ?_; exact ⟨rI h.1, h.2⟩
theorem pz (d : Nat) (x : BS) : BS.den ρ (take d x) = (BS.den ρ x).take d := by
 induction x generalizing d with
 | nil => exact List.take_nil.symm
 | cons x r ih =>
  refine (?_ : BS.den ρ (if a4 x ≤ d then x :: take (d - a4 x) r else if d = 0 then [] else [fN d x]) = (Seg.den ρ x ++ BS.den ρ r).take d)
  rw [List.take_append, cH]
  by_cases h : a4 x ≤ d
  ·rw [if_pos h]
   refine (?_ : Seg.den ρ x ++ BS.den ρ (take (d - a4 x) r) = _)
   rw [ih, List.take_of_length_le (Nat.le_trans (Nat.le_of_eq (cH x)) h)]
  ·rw [if_neg h, Nat.sub_eq_zero_of_le (Nat.le_of_not_le h), List.take_zero, List.append_nil]
   by_cases h0 : d = 0
   ·subst h0; rfl
   ·rw [if_neg h0]
    refine (?_ : Seg.den ρ (fN d x) ++ [] = _)
    rw [pn, List.append_nil]
theorem tI {d : Nat} {x : BS} (h : BS.lt m x) : BS.lt m (take d x) := by
 induction x generalizing d with
 | nil => exact h
 | cons x r ih =>
  refine (?_ : BS.lt m (if a4 x ≤ d then x :: take (d - a4 x) r else if d = 0 then [] else [fN d x]))
  by_cases q : a4 x ≤ d
  ·refine ae (if_pos q) ?_; exact ⟨h.1, ih h.2⟩
  ·refine ae (if_neg q) ?_
   by_cases q : d = 0
   ·refine ae (if_pos q) ?_; exact trivial
   ·refine ae (if_neg q) ?_; exact ⟨rJ h.1, trivial⟩
theorem iM (a b : Nat) (x : BS) : BS.den ρ (slice a b x) = ((BS.den ρ x).drop a).take (b - a) := by
 delta slice; rw [pz, px]
theorem pA {a b : Nat} {x : BS} (h : BS.lt m x) : BS.lt m (slice a b x) := tI (tH h)
theorem Ce {n : Nat} {x : BS} (h : BS.lt m x) : BS.lt m (mul n x) := by
 induction n with
 | zero => exact trivial
 | succ n ih =>
  refine (?_ : BS.lt m (wq n x (mul n x)))
  delta wq
  cases wo x with
  | none => exact ka h ih
  | some p =>
   obtain ⟨p, rfl⟩ := p
   exact ⟨h.1, trivial⟩
theorem zj (n : Nat) (x : BS) : BS.den ρ (mul n x) = (List.replicate n (BS.den ρ x)).flatten := by
 induction n with
 | zero => rfl
 | succ n ih =>
  refine (?_ : BS.den ρ (wq n x (mul n x)) = _)
  delta wq
  cases wo x with
  | none => rw [fR, ih]; rfl
  | some p =>
   obtain ⟨⟨k, j⟩, rfl⟩ := p
   refine (?_ : List.replicate (j * (n + 1)) (UInt8.ofNat (ρ.i k).toNat) ++ [] = (List.replicate (n + 1) (List.replicate j _ ++ [])).flatten)
   rw [List.append_nil, List.append_nil, List.flatten_replicate_replicate, Nat.mul_comm]
theorem Cf {x : BS} {i : Nat} {e : SI} : Dx x i = some e → (BS.den ρ x)[i]? = some (UInt8.ofNat (SI.den ρ e).toNat) := by
 induction x generalizing i with
 | nil => exact fun h => nomatch h
 | cons x r ih =>
  intro h
  refine (?_ : (Seg.den ρ x ++ BS.den ρ r)[i]? = _)
  replace h : (if a4 x ≤ i then Dx r (i - a4 x) else atS x i) = some e := h
  rw [List.getElem?_append, cH]
  by_cases hi : a4 x ≤ i
  ·refine ae (if_neg (Nat.not_lt_of_le hi)) ?_
   exact ih ((if_pos hi).symm.trans h)
  ·replace h := (if_neg hi).symm.trans h
   replace hi := Nat.lt_of_not_le hi
   refine ae (if_pos hi) ?_
   cases x with
   | lit l =>
    refine (?_ : (List.map _ l)[i]? = _)
    refine ae (List.getElem?_map) ?_
    obtain ⟨b, hl, rfl⟩ := Dw h
    refine ae hl ?_; rfl
   | rep k n =>
    obtain rfl := aO h
    refine (?_ : (List.replicate n _)[i]? = _)
    refine ae (List.getElem?_replicate) ?_; refine ae (if_pos hi) ?_; refine (?_ : _ = some (UInt8.ofNat (ρ.i k + 0).toNat)); rw [Int.add_zero]
   | _ => exact nomatch h
theorem Eg {x : BS} {i : Nat} {e : SI} : BS.lt m x → Dx x i = some e → SI.lt m e := by
 induction x generalizing i with
 | nil => exact fun _ h => nomatch h
 | cons x r ih =>
  intro l h
  replace h : (if a4 x ≤ i then Dx r (i - a4 x) else atS x i) = some e := h
  by_cases hi : a4 x ≤ i
  ·exact ih l.2 ((if_pos hi).symm.trans h)
  ·replace h := (if_neg hi).symm.trans h
   cases x with
   | lit l =>
    obtain ⟨b, hl, rfl⟩ := Dw h
    exact trivial
   | rep k n => obtain rfl := aO h; exact l.1
   | _ => exact nomatch h
end BS
section
variable {Z : aL} {L : Nat} {cs : Fm} {Ar : Around} {c : Cfg} {A : AS} {s : Shared}
theorem au.gJ {t : Sem Value} {i : Int} (H : St Z L cs c A s) (h : ∀ {Q E}, Q (.int i s.toks) { s with toks := s.toks + 1 } → wpAny Z.M Ar t Q E s) : au Z L cs Ar t VR (aD.ok (.int (.lit i)) A) c s :=
 .look H fun J J k => h (k _ _ ⟨trivial, _, rfl⟩)
theorem St.drawn (H : St Z L cs c A s) {d : VD} {i : Int} {b : Nat → UInt8} {t : Nat} (hd : VD.ok (c.draw i b).ρ c.nv d) : St Z L cs (c.draw i b) (A.fresh d).2 { s with toks := t } := (H.toks t).fresh hd
theorem Le.drawn {i : Int} {b : Nat → UInt8} {t : Nat} : Le Z L c s (c.draw i b) { s with toks := t } := (Le.toks t).trans Le.fresh
theorem gu {y : Int} (h : y.natAbs < 18446744073709551616) : Builtin.Int.intBits y ≤ 64 := intBits_le_64 (by omega) (by omega)
theorem get_size (h : Heap) : h.get? h.objs.size = none := by
 cases e : h.get? h.objs.size with
 | none => rfl
 | some o => exact absurd (Heap.lt_size e) (Nat.lt_irrefl _)
theorem au.newObj {t : Sem Value} {o : aw} {ob : Obj} (H : St Z L cs c A s) (hf : ob.isFreed = false) (ho : ∀ h p, (h : Heap).get? p.1 = some ob → p.1 = s.heap.objs.size → br Z (c.push p) h c.n o)
 (h : ∀ {Q : Value → Shared → Prop} {E}, (∀ tk, Q (.ref s.heap.objs.size) { s with heap := s.heap.push ob, toks := tk }) → wpAny Z.M Ar t Q E s) : au Z L cs Ar t VR (aD.ok (V.loc (A.alloc o).1) (A.alloc o).2) c s := .done fun Q E k => h fun tk => by
 have hk : ∀ b o', s.heap.get? b = some o' → (s.heap.push ob).get? b = some o' := fun b o' e => Heap.get?_push_of_some ob e
 have hz := get_size s.heap
 have hy : Has (s.heap.push ob) s.heap.objs.size := ⟨ob, Heap.get?_push_size _ hf⟩
 refine k _ _ (c.push (s.heap.objs.size, s.heap.objs.size)) ((Le.alloc (s' := { s with heap := s.heap.push ob, toks := tk }) hk hz hz)) ?_ ⟨?_, ?_⟩
 ·exact H.alloc (s' := { s with heap := s.heap.push ob, toks := tk }) hk ⟨hz, hy⟩ ⟨hz, hy⟩ (ho _ _ (Heap.get?_push_size _ hf) rfl) rfl rfl
 ·refine (?_ : A.n < c.n + 1)
  refine ae H.n ?_; exact Nat.lt_succ_self _
 ·refine (?_ : _ = Value.ref ((c.push _).σ A.n).1)
  rw [← H.n, c.aI]
theorem pB {vs : List V} {us : List Value} (H : St Z L cs c A s) (r : dq c vs us) : ∀ h p, (h : Heap).get? p.1 = some { cls := .type "list", data := .seq us.toArray } → p.1 = s.heap.objs.size → br Z (c.push p) h c.n (.list vs) := fun h p e J => by
 refine ⟨us.toArray, 0, ?_, ?_⟩
 ·rw [c.aI]; exact e
 ·refine ae List.toList_toArray ?_; exact r.imp fun J J y => y.mono (c.aJ p)
set_option tactic.hygienic true in
theorem uT {vs : List V} {us : List Value} (H : St Z L cs c A s) (r : dq c vs us) : au Z L cs Ar (newList us) VR (wy vs A) c s := by
 delta wy
 split
 ·rename_i hl
  exact .newObj H rfl (pB H r) fun h => wpAny_newList (h s.toks) (by refine ae sizeLine_eq ?_; refine bK r.length ?_; exact Nat.le_trans ‹_› (by decide))
 ·exact .none
set_option tactic.hygienic true in
theorem uU {vs : List V} {us : List Value} (H : St Z L cs c A s) (r : dq c vs us) : au Z L cs Ar (newTuple us) VR (uj vs A) c s := by
 delta uj
 split
 ·rename_i hl
  exact .newObj H (ob := { cls := .type "tuple", data := .seq us.toArray }) rfl (fun h p e J => by
   refine ⟨us.toArray, ?_, ?_⟩
   ·rw [c.aI]; exact e
   ·refine ae List.toList_toArray ?_; exact r.imp fun J J y => y.mono (c.aJ p)) fun h => wpAny_newTuple (h s.toks) (by refine ae sizeLine_eq ?_; refine bK r.length ?_; exact Nat.le_trans ‹_› (by decide))
 ·exact .none
theorem kb {a b : V} {p : Int × Int} (h : th a b = some p) : a = .int (.lit p.1) ∧ b = .int (.lit p.2) := by
 obtain ⟨x, _, h⟩ := gc h
 obtain ⟨y, _, h⟩ := gc h
 obtain rfl := aO h
 exact ⟨x.2, y.2⟩
theorem bF {α : Type} : ∀ (l : List α) (n : Nat), getL l n = l[n]?
 | [], _ => rfl
 | _ :: _, 0 => rfl
 | _ :: l, n + 1 => bF l n
theorem dw {vs : List VD} (Eh : ∀ k d, vs[k]? = some d → VD.ok c.ρ k d) {x : SI} {p : Int × Int} (e : bnd vs x = some p) : p.1 ≤ SI.den c.ρ x ∧ SI.den c.ρ x < p.2 := by
 cases x with
 | lit i => obtain rfl := aO e; exact ⟨Int.le_refl _, Int.lt_succ _⟩
 | va k o =>
  refine (?_ : _ ≤ c.ρ.i k + o ∧ c.ρ.i k + o < _)
  have e : (match getL vs k with
   | some (.int lo hi) => some (lo + o, hi + o)
   | some (.gi s) => some (o, if o ≤ s then 2147483649 else 2147483649 + o)
   | some (.lt _) => some (o, 2147483648 + o)
   | _ => none) = some p := e
  rw [bF] at e
  generalize hv : vs[k]? = d at e
  cases d with
  | none => exact no e
  | some d =>
   have hd := Eh k d hv
   cases d with
   | int lo hi => obtain rfl := aO e; exact ⟨Int.add_le_add_right hd.1 o, Int.add_lt_add_right hd.2 o⟩
   | oct => exact no e
   | lt j => obtain rfl := aO e; obtain ⟨_, h1, _, h2⟩ := hd; dsimp -iota only; omega
   | gi m =>
    obtain rfl := aO e
    refine (hd).elim fun h1 h2 => ?_
    dsimp -iota only
    by_cases q : o ≤ (m : Int)
    ·refine ae (if_pos q) ?_; omega
    ·refine ae (if_neg q) ?_; omega
   | any => exact no e
theorem nL (H : Hp Z c A s) {x : SI} {p : Int × Int} (e : bnd A.vars x = some p) : p.1 ≤ SI.den c.ρ x ∧ SI.den c.ρ x < p.2 := dw H.vars e
theorem au.nM {t : Sem Value} {i : Int} {d : VD} (H : St Z L cs c A s) (hd : VD.ok (c.draw i (fun J => 0)).ρ c.nv d) (h : ∀ {Q E}, Q (.int i s.toks) { s with toks := s.toks + 1 } → wpAny Z.M Ar t Q E s) : au Z L cs Ar t VR (aD.ok (.int (.va (A.fresh d).1 0)) (A.fresh d).2) c s :=
 .done fun Q E q => h (q _ _ (c.draw i (fun J => 0)) Le.drawn (H.drawn hd) ⟨by refine (?_ : A.vars.length < c.nv + 1); refine ae H.nv ?_; exact Nat.lt_succ_self _, s.toks, by
  refine (?_ : _ = Value.int ((if A.vars.length = c.nv then i else c.ρ.i A.vars.length) + 0) _)
  rw [if_pos H.nv.symm, Int.add_zero]⟩)
theorem au.xe {t : Sem Value} {i o : Int} {k : Nat} (H : St Z L cs c A s) (hk : k < c.nv) (e : i = c.ρ.i k + o) (h : ∀ {Q E}, Q (.int i s.toks) { s with toks := s.toks + 1 } → wpAny Z.M Ar t Q E s) : au Z L cs Ar t VR (aD.ok (.int (.va k o)) A) c s :=
 .look H fun J J q => h (q _ _ ⟨hk, s.toks, by refine ae e ?_; rfl⟩)
def Ei (f : Int → Int → Int) (Z : aL) (Ar : Around) (s : Shared) (u v : Value) (t : Sem Value) : Prop := ∀ i j t1 t2, u = .int i t1 → v = .int j t2 → ∀ {Q : Value → Shared → Prop} {E : Value → Shared → Prop}, Q (.int (f i j) s.toks) { s with toks := s.toks + 1 } → wpAny Z.M Ar t Q E s
theorem kg {x : SI} {b : V} {u v : Value} {t : Sem Value} (hT : Ei (· + ·) Z Ar s u v t) (H : St Z L cs c A s) (ra : VR c (.int x) u) (rb : VR c b v) : au Z L cs Ar t VR (BL x b A) c s := by
 obtain ⟨hx, t1, hu⟩ := ra
 cases b with
 | int y =>
  obtain ⟨hy, t2, hv⟩ := rb
  have hT := fun {Q : Value → Shared → Prop} {E : Value → Shared → Prop} => hT _ _ _ _ hu hv (Q := Q) (E := E)
  cases x with
  | lit x => cases y with
   | lit y => exact .gJ H hT
   | va k o => exact .none
  | va k o => cases y with
   | lit y => exact .xe H hx (by refine (?_ : c.ρ.i k + o + y = _); exact Int.add_assoc _ _ _) hT
   | va j p => exact .nM H trivial hT
 | _ => cases x <;> exact .none
theorem rK {i j : Nat} (H : St Z L cs c A s) : au Z L cs Ar (binaryOp .Add (.ref (c.σ i).1) (.ref (c.σ j).1)) VR (DF i j A) c s := by
 refine .bnd fun x J => .bnd fun y J => .dP fun hl => ?_
 obtain ⟨x, hx⟩ := x
 obtain ⟨y, hy⟩ := y
 obtain ⟨us, ep, e1, r1⟩ := H.objs _ _ hx
 obtain ⟨ws, Be, e2, r2⟩ := H.objs _ _ hy
 refine .newObj H (ob := { cls := .type "list", data := .seq (us ++ ws) }) rfl (fun h p e hp => ?_) fun h => P.add_list (n := ep) (n2 := Be) e1 e2 (h s.toks) ?_
 ·refine ⟨us ++ ws, 0, ?_, ?_⟩
  ·rw [c.aI]; exact e
  ·refine ae Array.toList_append ?_; exact (r1.append r2).imp fun J J y => y.mono (c.aJ p)
 ·refine ae sizeLine_eq ?_
  have q1 : _ = us.size := r1.length
  have q2 : _ = ws.size := r2.length
  rw [← q1, ← q2]
  exact Nat.le_trans hl (by decide)
theorem rL {a b : V} {u v : Value} (H : St Z L cs c A s) (ra : VR c a u) (rb : VR c b v) : au Z L cs Ar (binaryOp .Add u v) VR (DG a b A) c s := by
 cases a with
 | int x => exact kg (fun J J J J h1 h2 => by subst h1; subst h2; exact fun h => add_int h) H ra rb
 | str x =>
  refine .bnd fun y J => .dP fun hl => ?_
  obtain ⟨y, rfl⟩ := y
  obtain ⟨t, rfl⟩ := ra; obtain ⟨t', rfl⟩ := rb
  refine .look H fun Q E q => PyProof.Rows.add_str (fun t' tk => q _ _ ⟨t', ?_⟩) ?_
  ·refine (?_ : Value.str (strOf x ++ strOf y) _ = Value.str (strOf (x ++ y)) _)
   congr 1
   refine (?_ : (⟨x.toArray ++ y.toArray⟩ : Str) = ⟨(x ++ y).toArray⟩)
   rw [List.append_toArray]
  ·refine (?_ : x.toArray.size + y.toArray.size ≤ _)
   refine ae sizeLine_eq ?_; refine ae List.size_toArray ?_; refine ae List.size_toArray ?_; exact Nat.le_trans hl (by decide)
 | bytes x =>
  refine .bnd fun y J => .dP fun hl => ?_
  obtain ⟨y, rfl⟩ := y
  obtain ⟨h1, t, rfl⟩ := ra; obtain ⟨h2, t', rfl⟩ := rb
  refine .look H fun Q E q => KBy.add_bytes ?_ fun t' tk => q _ _ ⟨BS.ka h1 h2, t', ?_⟩
  ·rw [List.size_toArray, List.size_toArray, BS.bq, BS.bq]; exact Nat.le_trans hl (by decide)
  ·rw [BS.fR, ← List.append_toArray]
 | loc i =>
  refine .bnd fun j J => ?_
  obtain ⟨j, rfl⟩ := j
  obtain ⟨h1, rfl⟩ := ra; obtain ⟨h2, rfl⟩ := rb
  exact rK H
 | _ => exact .none
theorem rM {a b : V} {u v : Value} (H : St Z L cs c A s) (ra : VR c a u) (rb : VR c b v) : au Z L cs Ar (binaryOp .Mult u v) VR (DH a b A) c s := by
 cases a with
 | bytes x =>
  refine .bnd fun y J => .dP fun hl => ?_
  obtain ⟨y, rfl⟩ := y
  obtain ⟨h1, t, rfl⟩ := ra; obtain ⟨h2, t', rfl⟩ := rb
  refine .look H fun Q E q => bytes_mul_any ?_ ?_ ?_ ?_ fun t' tk => q _ _ ⟨BS.Ce h1, t', ?_⟩
  ·intro e
   have := BS.bq (ρ := c.ρ) x
   rw [e] at this
   exact hl.2.2.2 this.symm
  ·exact Int.le_trans (by decide) hl.1
  ·exact Int.le_trans hl.2.1 (by decide)
  ·rw [BS.bq]; exact hl.2.2.1
  ·rw [BS.zj]; rfl
 | int x =>
  refine .bnd fun y J => ?_
  obtain ⟨y, rfl⟩ := y
  obtain ⟨_, t, rfl⟩ := ra; obtain ⟨_, t', rfl⟩ := rb
  cases x with
  | lit i => exact .dP fun hy => .gJ H fun h => PyProof.Rows.mul_int h (hy.elim (fun hy => IntMulOk.of_right (gu hy)) fun hy => mulOk_of_bits (Nat.le_refl _) (Nat.le_refl _) hy)
  | va k o => exact .dP fun hy => .nM H trivial fun h => PyProof.Rows.mul_int h (IntMulOk.of_right (gu (Nat.lt_trans hy.1 (by decide))))
 | _ => exact .none
theorem modS {k : Nat} {o y : Int} {t t' : Tok} (H : St Z L cs c A s) : au Z L cs Ar (binaryOp .Mod (.int (SI.den c.ρ (.va k o)) t) (.int y t')) VR (BM y A) c s :=
 .dP fun hy => .nM H (i := (SI.den c.ρ (.va k o)).fmod y) ⟨by
  show 0 ≤ if c.nv = c.nv then _ else _
  refine ae (if_pos rfl) ?_; exact Int.fmod_nonneg_of_pos _ hy, by
  refine (?_ : (if c.nv = c.nv then _ else _) < y)
  refine ae (if_pos rfl) ?_; exact Int.fmod_lt_of_pos _ hy⟩ fun h => mod_int (Int.ne_of_gt ‹_›) h
set_option tactic.hygienic true in
theorem rN {k : Nat} {o y : Int} {t t' : Tok} (H : St Z L cs c A s) (hk : k < c.nv) {q : Option (Int × Int)} (hv : bnd A.vars (.va k o) = q) : au Z L cs Ar (binaryOp .Mod (.int (SI.den c.ρ (.va k o)) t) (.int y t')) VR (DI q k o y A) c s := by
 cases q with
 | none => exact modS H
 | some p =>
  refine .alt (fun hc => ?_) fun _ => modS H
  have hd := nL H.toHp hv
  have h1 := Int.le_trans hc.1 hd.1
  have h2 := Int.lt_of_lt_of_le hd.2 hc.2
  exact .xe H hk (Int.fmod_eq_of_lt h1 h2) fun h => mod_int (Int.ne_of_gt (Int.lt_of_le_of_lt h1 h2)) h
theorem rO {a b : V} {u v : Value} (H : St Z L cs c A s) (ra : VR c a u) (rb : VR c b v) : au Z L cs Ar (binaryOp .Mod u v) VR (DJ a b A) c s := by
 refine .bnd fun x J => .bnd fun y J => ?_
 obtain ⟨x, rfl⟩ := x
 obtain ⟨y, rfl⟩ := y
 obtain ⟨hk, t, rfl⟩ := ra; obtain ⟨_, t', rfl⟩ := rb
 cases x with
 | lit i => exact .dP fun hy => .gJ H fun h => mod_int hy h
 | va k o => exact rN H hk rfl
theorem rP {a b : V} {u v : Value} {t : Sem Value} (hT : Ei (· - ·) Z Ar s u v t) (H : St Z L cs c A s) (ra : VR c a u) (rb : VR c b v) : au Z L cs Ar t VR (DK a b A) c s := by
 refine .bnd fun p hp => ?_
 obtain ⟨rfl, rfl⟩ := kb hp
 obtain ⟨_, t, hu⟩ := ra; refine (rb).elim fun _ aj => (aj).elim fun t' hv => ?_
 exact .gJ H fun h => hT _ _ _ _ hu hv h
theorem uW {o : qW} {a b : V} {u v : Value} (H : St Z L cs c A s) (ra : VR c a u) (rb : VR c b v) : au Z L cs Ar (binaryOp (rz o) u v) VR (eh o a b A) c s := by
 cases o with
 | add => exact rL H ra rb
 | mul => exact rM H ra rb
 | mod => exact rO H ra rb
 | sub => exact rP (fun J J J J h1 h2 => by subst h1; subst h2; exact fun h => sub_int h) H ra rb
 | div =>
  refine .bnd fun p hp => .dP fun hy => ?_
  obtain ⟨rfl, rfl⟩ := kb hp
  obtain ⟨_, t, rfl⟩ := ra; obtain ⟨_, t', rfl⟩ := rb
  have hy := not_or.mp hy
  exact .gJ H fun h => PyProof.Rows.floordiv_int hy.1 h (.inl (PyProof.noPylong_small (Nat.lt_of_not_le hy.2)))
 | pow =>
  refine .bnd fun p hp => .dP fun hy => ?_
  obtain ⟨rfl, rfl⟩ := kb hp
  obtain ⟨_, t, rfl⟩ := ra; obtain ⟨_, t', rfl⟩ := rb
  exact .gJ H fun h => pow_int_small hy.1 (Int.le_trans hy.2.1 (by decide)) (Nat.lt_trans hy.2.2 (by decide)) h
theorem lF : typeLookup (.type "bytes") (dunderI "add") = pure none := by rw [typeLookup_type, builtinLookup_eq_fast]; kernel_rfl
theorem rQ {M : World} {prog : Program} {E : Value → Shared → Prop} {b d : Array UInt8} {t u : Tok} {Q : Value → Shared → Prop} (rD : b.size + d.size ≤ 16777216) (h : ∀ t' k, Q (.bytes (b ++ d) t') { s with toks := k }) : wpAny (model prog M) Ar (inplaceOp .Add (.bytes b t) (.bytes d u)) Q E s := by
 refine iconcat_gives (typeIs_bytes s b t) (typeIs_bytes s d u) lF KBy.noFill_bytes_add KBy.seq_bytes_add FB.slot_bytes_add FB.entry_bytes_add (FB.args_bytes_add_2 _ _) (KBy.gives_bytes_add (KBy.tooLong_not rD)) ?_
 by_cases hb : b.isEmpty = true
 ·refine ae (if_pos hb) ?_
  have e : b = #[] := Array.isEmpty_iff.1 hb
  have h' := h u s.toks
  rw [e, Array.empty_append] at h'
  exact h'
 ·refine ae (if_neg hb) ?_
  by_cases hc : d.isEmpty = true
  ·refine ae (if_pos hc) ?_
   have e : d = #[] := Array.isEmpty_iff.1 hc
   have h' := h t s.toks
   rw [e, Array.append_empty] at h'
   exact h'
  ·refine ae (if_neg hc) ?_
   exact ⟨by refine ae Array.size_append ?_; refine ae sizeLine_eq ?_; exact rD, h s.toks (s.toks + 1)⟩
theorem rR {o : qW} {a b : V} {u v : Value} (H : St Z L cs c A s) (ra : VR c a u) (rb : VR c b v) : au Z L cs Ar (inplaceOp (rz o) u v) VR (tj o a b A) c s := by
 cases o with
 | add =>
  cases a with
  | int x => exact kg (fun J J J J h1 h2 => by subst h1; subst h2; exact fun h => iadd_int h) H ra rb
  | bytes x =>
   refine .bnd fun y J => .dP fun hl => ?_
   obtain ⟨y, rfl⟩ := y
   obtain ⟨h1, t, rfl⟩ := ra; obtain ⟨h2, t', rfl⟩ := rb
   refine .look H fun Q E q => rQ ?_ fun t' tk => q _ _ ⟨BS.ka h1 h2, t', ?_⟩
   ·rw [List.size_toArray, List.size_toArray, BS.bq, BS.bq]; exact Nat.le_trans hl (by decide)
   ·rw [BS.fR, ← List.append_toArray]
  | _ => exact .none
 | _ => exact .none
end
section
variable {κ K : Type} [DecidableEq K] {g : κ → K} {q : κ → κ → Bool} {c : Cfg}
def KR (g : κ → K) (c : Cfg) (f : κ × V) (p : K × Value) : Prop := p.1 = g f.1 ∧ VR c f.2 p.2
theorem pC {α : Type} {a b : α} {t : Bool} (h : t = true) : Bool.rec (motive := fun J => α) a b t = b := by subst h; rfl
theorem mj {α : Type} {a b : α} {t : Bool} (h : t = false) : Bool.rec (motive := fun J => α) a b t = a := by subst h; rfl
theorem KR.hit (he : ∀ a b, q a b = decide (g a = g b)) {f : κ × V} {p : K × Value} {x : κ} (r : KR g c f p) (h : p.1 = g x) : q f.1 x = true := (he _ _).trans (decide_eq_true (r.1.symm.trans h))
theorem KR.miss (he : ∀ a b, q a b = decide (g a = g b)) {f : κ × V} {p : K × Value} {x : κ} (r : KR g c f p) (h : ¬ p.1 = g x) : q f.1 x = false := (he _ _).trans (decide_eq_false fun z => h (r.1.trans z))
theorem fS {α : Type} {x : κ} {p : κ × α} {r : List (κ × α)} (h : q p.1 x = true) : dR q x (p :: r) = some p.2 := pC h
theorem eN {α : Type} {x : κ} {p : κ × α} {r : List (κ × α)} (h : q p.1 x = false) : dR q x (p :: r) = dR q x r := mj h
theorem pD {α : Type} {x : κ} {v : α} {p : κ × α} {r : List (κ × α)} (h : q p.1 x = true) : setG q x v (p :: r) = (x, v) :: r := pC h
theorem ml {α : Type} {x : κ} {v : α} {p : κ × α} {r : List (κ × α)} (h : q p.1 x = false) : setG q x v (p :: r) = p :: setG q x v r := mj h
theorem pE {α : Type} {x : κ} {p : κ × α} {r : List (κ × α)} (h : q p.1 x = true) : oM q x (p :: r) = r := pC h
theorem iN {α : Type} {x : κ} {p : κ × α} {r : List (κ × α)} (h : q p.1 x = false) : oM q x (p :: r) = p :: oM q x r := mj h
theorem KR.look (he : ∀ a b, q a b = decide (g a = g b)) {x : κ} {es : List (κ × V)} {aF : List (K × Value)} (h : aS (KR g c) es aF) : (dR q x es = none ∧ valueAt aF (g x) = none) ∨ ∃ v u, dR q x es = some v ∧ valueAt aF (g x) = some u ∧ VR c v u := by
 induction h with
 | nil => exact .inl ⟨rfl, rfl⟩
 | @cons f p es aF r _ ih =>
  delta valueAt
  refine ae (List.find?_cons) ?_
  by_cases z : p.1 = g x
  ·refine ae (decide_eq_true z) ?_
   exact .inr ⟨_, _, fS (r.hit he z), rfl, r.2⟩
  ·refine ae (decide_eq_false z) ?_
   refine ae (eN (r.miss he z)) ?_
   exact ih
theorem KR.some (he : ∀ a b, q a b = decide (g a = g b)) {x : κ} {v : V} {es : List (κ × V)} {aF : List (K × Value)} (h : aS (KR g c) es aF) (e : dR q x es = some v) : ∃ u, valueAt aF (g x) = some u ∧ VR c v u := by
 rcases KR.look (x := x) he h with z | ⟨w, u, z, h1, h2⟩
 ·cases z.1.symm.trans e
 ·cases z.symm.trans e; exact ⟨u, h1, h2⟩
theorem KR.none (he : ∀ a b, q a b = decide (g a = g b)) {x : κ} {es : List (κ × V)} {aF : List (K × Value)} (h : aS (KR g c) es aF) (e : dR q x es = none) : valueAt aF (g x) = none := by
 rcases KR.look (x := x) he h with z | ⟨w, u, z, h1, h2⟩
 ·exact z.2
 ·cases z.symm.trans e
theorem KR.isSome (he : ∀ a b, q a b = decide (g a = g b)) {x : κ} {es : List (κ × V)} {aF : List (K × Value)} (h : aS (KR g c) es aF) : (valueAt aF (g x)).isSome = (dR q x es).isSome := by
 rcases KR.look (x := x) he h with z | ⟨w, u, z, h1, h2⟩
 ·rw [z.1, z.2]; rfl
 ·rw [z, h1]; rfl
theorem pF {p : K × Value} {aF : List (K × Value)} {k : K} {u : Value} (h : ¬ p.1 = k) : stored (p :: aF) k u = p :: stored aF k u := by
 delta stored
 rw [List.any_cons, decide_eq_false h, Bool.false_or, List.map_cons, if_neg h]
 split <;> rfl
theorem KR.set (he : ∀ a b, q a b = decide (g a = g b)) {x : κ} {v : V} {u : Value} (hv : VR c v u) {es : List (κ × V)} {aF : List (K × Value)} (h : aS (KR g c) es aF) (nd : (aF.map (·.1)).Nodup) : aS (KR g c) (setG q x v es) (stored aF (g x) u) := by
 induction h with
 | nil => exact .cons ⟨rfl, hv⟩ .nil
 | @cons f p es aF r t ih =>
  rw [List.map_cons, List.nodup_cons] at nd
  by_cases e : p.1 = g x
  ·refine ae (pD (r.hit he e)) ?_
   delta stored
   rw [List.any_cons, decide_eq_true e, Bool.true_or, if_pos rfl, List.map_cons, if_pos e, map_store_of_not_mem aF (g x) u (e ▸ nd.1)]
   exact .cons ⟨e, hv⟩ t
  ·refine ae (ml (r.miss he e)) ?_
   refine ae (pF e) ?_
   exact .cons r (ih nd.2)
theorem KR.del (he : ∀ a b, q a b = decide (g a = g b)) {x : κ} {es : List (κ × V)} {aF : List (K × Value)} (h : aS (KR g c) es aF) (nd : (aF.map (·.1)).Nodup) : aS (KR g c) (oM q x es) (without aF (g x)) := by
 induction h with
 | nil => exact .nil
 | @cons f p es aF r t ih =>
  rw [List.map_cons, List.nodup_cons] at nd
  by_cases e : p.1 = g x
  ·refine ae (pE (r.hit he e)) ?_
   have hw : without (p :: aF) (g x) = without aF (g x) := by
    delta without
    refine ae List.filter_cons ?_; exact if_neg (by simp [e])
   refine ae hw ?_; refine ae (without_of_not_mem aF (g x) (e ▸ nd.1)) ?_
   exact t
  ·refine ae (iN (r.miss he e)) ?_
   have hw : without (p :: aF) (g x) = p :: without aF (g x) := by
    delta without
    refine ae List.filter_cons ?_; exact if_pos (by simp [e])
   refine ae hw ?_
   exact .cons r (ih nd.2)
end
theorem lG {a b : Bool} (h : lA a b = true) : a = true ∧ b = true := by
 cases a with
 | false => exact bf h
 | true => exact ⟨rfl, h⟩
theorem kh {a b : Int} (h : AO a b = true) : a = b := by
 cases a <;> cases b <;> first | exact bf h | exact congrArg _ (Nat.eq_of_beq_eq_true h)
theorem xf {x y : Seg} (h : AP x y = true) : x = y := by
 cases x with
 | lit l =>
  cases y <;> first | exact bf h | exact congrArg _ (cW.mp h)
 | rep k n =>
  cases y <;> first | exact bf h | skip
  cases Nat.eq_of_beq_eq_true (lG h).1; cases Nat.eq_of_beq_eq_true (lG h).2; rfl
 | ef k o n =>
  cases y <;> first | exact bf h | skip
  obtain ⟨h1, h2⟩ := lG h
  obtain ⟨h2, h3⟩ := lG h2
  cases Nat.eq_of_beq_eq_true h1; cases Nat.eq_of_beq_eq_true h2; cases Nat.eq_of_beq_eq_true h3; rfl
 | be k o n a m =>
  cases y <;> first | exact bf h | skip
  obtain ⟨h1, h2⟩ := lG h
  obtain ⟨h2, h3⟩ := lG h2
  obtain ⟨h3, h4⟩ := lG h3
  obtain ⟨h4, h5⟩ := lG h4
  cases Nat.eq_of_beq_eq_true h1; cases kh h2; cases Nat.eq_of_beq_eq_true h3; cases Nat.eq_of_beq_eq_true h4; cases Nat.eq_of_beq_eq_true h5; rfl
theorem tJ {x y : BS} (h : yP x y = true) : x = y := by
 induction x generalizing y with
 | nil => cases y <;> first | exact bf h | rfl
 | cons a l ih => cases y with
  | nil => exact bf h
  | cons b t => cases xf (lG h).1; cases ih (lG h).2; rfl
theorem zo {x : Nat} {l : List Nat} : BI x l = true → x ∈ l := by
 induction l with
 | nil => exact fun h => bf h
 | cons a l ih =>
  intro h
  by_cases e : Nat.beq a x = true
  ·cases Nat.eq_of_beq_eq_true e; exact .head _
  ·exact .tail _ (ih ((C8 e).symm.trans h))
theorem dB : ∀ a b, strOf a = strOf b → a = b := fun a b h => by
 have : a.toArray = b.toArray := congrArg Str.cps h
 exact congrArg Array.toList this
theorem id_eq : ∀ a b : Int, eqZ a b = decide (id a = id b) := fun J J => rfl
theorem cC (a b : List Nat) : jz a b = decide (strOf a = strOf b) := by
 by_cases h : strOf a = strOf b
 ·exact (cW.mpr (dB _ _ h)).trans (decide_eq_true h).symm
 ·exact (Bool.eq_false_iff.mpr fun z => h (congrArg strOf (cW.mp z))).trans (decide_eq_false h).symm
structure e8 (Z : aL) (c : Cfg) (h : Heap) (i : Nat) (es : List (Int × V)) (aF : List (Int × Value)) : Prop where
 at_ : h.DictOf (intKind Z.prog Z.w) (c.σ i).1 aF
 all : aS (KR id c) es aF
 nd : (aF.map (·.1)).Nodup
structure kq (Z : aL) (c : Cfg) (h : Heap) (i : Nat) (es : List (List Nat × V)) (aF : List (Str × Value)) : Prop where
 at_ : h.DictOf (strKind Z.prog Z.w) (c.σ i).1 aF
 all : aS (KR strOf c) es aF
 nd : (aF.map (·.1)).Nodup
section
variable {Z : aL} {c : Cfg} {h : Heap} {i : Nat}
theorem br.aB {es : List (Int × V)} (x : br Z c h i (.aB es)) : ∃ aF, e8 Z c h i es aF := by
 obtain ⟨o, aF, h1, h2, h3⟩ := x
 refine (id h2).elim fun Dh aj => (aj).elim fun ep ax => (ax).elim fun q1 aP => (aP).elim fun q2 bG => (bG).elim fun q3 dc => (dc).elim fun q4 q5 => ?_
 exact ⟨aF, Heap.dictOf_iff.mpr ⟨o, h1, h2⟩, h3, q5⟩
theorem br.aX {es : List (List Nat × V)} (x : br Z c h i (.aX es)) : ∃ aF, kq Z c h i es aF := by
 obtain ⟨o, aF, h1, h2, h3⟩ := x
 refine (id h2).elim fun Dh aj => (aj).elim fun ep ax => (ax).elim fun q1 aP => (aP).elim fun q2 bG => (bG).elim fun q3 dc => (dc).elim fun q4 q5 => ?_
 exact ⟨aF, Heap.dictOf_iff.mpr ⟨o, h1, h2⟩, h3, q5⟩
theorem br.hY {es : List (Int × V)} {aF : List (Int × Value)} (x : h.DictOf (intKind Z.prog Z.w) (c.σ i).1 aF) (y : aS (KR id c) es aF) : br Z c h i (.aB es) := by
 refine (Heap.dictOf_iff.mp x).elim fun o aj => (aj).elim fun h1 h2 => ?_
 exact ⟨o, aF, h1, h2, y⟩
theorem br.kr {es : List (List Nat × V)} {aF : List (Str × Value)} (x : h.DictOf (strKind Z.prog Z.w) (c.σ i).1 aF) (y : aS (KR strOf c) es aF) : br Z c h i (.aX es) := by
 refine (Heap.dictOf_iff.mp x).elim fun o aj => (aj).elim fun h1 h2 => ?_
 exact ⟨o, aF, h1, h2, y⟩
theorem br.cX {n : Nat} {es : List (Int × V)} (x : br Z c h i (.cX n es)) : br Z c h i (.aB es) := by
 refine (x).elim fun _ aj => (aj).elim fun h1 ax => (ax).elim fun aF aP => (aP).elim fun h2 h3 => ?_
 exact ⟨_, aF, h1, h2, h3⟩
theorem br.fq (x : br Z c h i .a5) : e8 Z c h i [] [] := by
 refine (x).elim fun o aj => (aj).elim fun h1 ax => (ax).elim fun h2 aP => (aP).elim fun ep h3 => ?_
 exact ⟨⟨o, #[], ep, h1, h2, h3, (by intro e he; simp at he), .nil, .nil⟩, .nil, .nil⟩
theorem br.nN (x : br Z c h i .a5) : kq Z c h i [] [] := by
 refine (x).elim fun o aj => (aj).elim fun h1 ax => (ax).elim fun h2 aP => (aP).elim fun ep h3 => ?_
 exact ⟨⟨o, #[], ep, h1, h2, h3, (by intro e he; simp at he), .nil, .nil⟩, .nil, .nil⟩
theorem pG {a b : Int} (h : a = b) : eqZ a b = true := decide_eq_true h
theorem mn {a b : Int} (h : ¬ a = b) : eqZ a b = false := decide_eq_false h
theorem fT {x : Int} {v : V} {l : List (Int × V)} : (l.map (·.1)).Nodup → (bp x l = some v ↔ (x, v) ∈ l) := by
 induction l with
 | nil => exact fun J => ⟨fun h => (nomatch h), fun h => (nomatch h)⟩
 | cons p r ih =>
  intro h
  rw [List.map_cons, List.nodup_cons] at h
  by_cases q : p.1 = x
  ·refine (?_ : dR eqZ x (p :: r) = some v ↔ _)
   refine ae (fS (pG q)) ?_
   refine ⟨fun e => ?_, fun e => ?_⟩
   ·obtain rfl := aO e
    refine bK q ?_; exact .head _
   ·rcases ff e with e | e
    ·refine bK e ?_; rfl
    ·exact absurd (List.mem_map.mpr ⟨_, e, q.symm⟩) h.1
  ·refine (?_ : dR eqZ x (p :: r) = some v ↔ _)
   refine ae (eN (mn q)) ?_
   refine ae (propext (ih h.2)) ?_
   exact ⟨.tail _, fun e => (ff e).resolve_left fun z => q (by refine bK z ?_; rfl)⟩
theorem ku {l k : List (Int × V)} (p : l.Perm k) (nd : (l.map (·.1)).Nodup) (x : Int) : bp x l = bp x k := by
 have Di : (k.map (·.1)).Nodup := (p.map _).nodup_iff.mp nd
 cases e : bp x l with
 | some v => exact ((fT Di).mpr (p.mem_iff.mp ((fT nd).mp e))).symm
 | none => cases e' : bp x k with
  | none => rfl
  | some v => cases e.symm.trans ((fT nd).mpr (p.mem_iff.mpr ((fT Di).mp e')))
theorem tK {x : Int} {v : V} {l : List (Int × V)} : (l.map (·.1)).Nodup → nr x v l = if (bp x l).isSome then l.map (fun p => if p.1 = x then (x, v) else p) else l ++ [(x, v)] := by
 induction l with
 | nil => exact fun J => rfl
 | cons p r ih =>
  intro h
  rw [List.map_cons, List.nodup_cons] at h
  by_cases q : p.1 = x
  ·refine (?_ : setG eqZ x v (p :: r) = if (dR eqZ x (p :: r)).isSome then _ else _)
   refine ae (pD (pG q)) ?_
   refine ae (fS (pG q)) ?_
   refine ae (if_pos (show (some p.2).isSome = true from rfl)) ?_; refine ae List.map_cons ?_; refine ae (if_pos q) ?_
   have : r.map (fun p => if p.1 = x then (x, v) else p) = r := by
    refine (List.map_congr_left fun y hy => ?_).trans (List.map_id _)
    exact if_neg fun z => h.1 (List.mem_map.mpr ⟨y, hy, z.trans q.symm⟩)
   refine ae this ?_; rfl
  ·refine (?_ : setG eqZ x v (p :: r) = if (dR eqZ x (p :: r)).isSome then _ else _)
   refine ae (ml (mn q)) ?_
   refine ae (eN (mn q)) ?_
   refine (?_ : p :: nr x v r = if (bp x r).isSome then _ else _)
   refine ae (ih h.2) ?_; refine ae List.map_cons ?_; refine ae (if_neg q) ?_
   cases (bp x r).isSome <;> rfl
theorem tL {x : Int} {l : List (Int × V)} : (l.map (·.1)).Nodup → iF x l = l.filter fun p => !decide (p.1 = x) := by
 induction l with
 | nil => exact fun J => rfl
 | cons p r ih =>
  intro h
  rw [List.map_cons, List.nodup_cons] at h
  refine ae List.filter_cons ?_
  by_cases q : p.1 = x
  ·refine (?_ : oM eqZ x (p :: r) = _)
   refine ae (pE (pG q)) ?_
   refine ae (decide_eq_true q) ?_; refine ae (if_neg (by decide)) ?_
   refine (List.filter_eq_self.mpr fun y hy => ?_).symm
   refine ae (decide_eq_false fun z => h.1 (List.mem_map.mpr ⟨y, hy, z.trans q.symm⟩)) ?_; rfl
  ·refine (?_ : oM eqZ x (p :: r) = _)
   refine ae (iN (mn q)) ?_
   refine (?_ : p :: iF x r = _)
   refine ae (decide_eq_false q) ?_; refine ae (if_pos (by decide)) ?_; refine ae (ih h.2) ?_; rfl
theorem uX {x : Int} {v : V} {l : List (Int × V)} : (yR x v l).Perm (l ++ [(x, v)]) := by
 induction l with
 | nil => exact .refl _
 | cons p r ih =>
  by_cases q : x < p.1
  ·refine (?_ : (Bool.rec (p :: yR x v r) ((x, v) :: p :: r) (decide (x < p.1)) : List _).Perm _)
   refine ae (pC (decide_eq_true q)) ?_
   exact List.perm_append_comm (l₁ := [(x, v)]) (l₂ := p :: r)
  ·refine (?_ : (Bool.rec (p :: yR x v r) ((x, v) :: p :: r) (decide (x < p.1)) : List _).Perm _)
   refine ae (mj (decide_eq_false q)) ?_
   exact ih.cons p
theorem uY {x : Int} {v : V} {l k : List (Int × V)} (p : l.Perm k) (nd : (l.map (·.1)).Nodup) : (nr x v l).Perm (yS x v k) := by
 have Di : (k.map (·.1)).Nodup := (p.map _).nodup_iff.mp nd
 delta yS
 rw [tK nd, ku p nd, tK Di]
 cases (bp x k).isSome
 ·exact (p.append_right _).trans uX.symm
 ·exact p.map _
theorem uZ {x : Int} {l k : List (Int × V)} (p : l.Perm k) (nd : (l.map (·.1)).Nodup) : (iF x l).Perm (iF x k) := by
 have Di : (k.map (·.1)).Nodup := (p.map _).nodup_iff.mp nd
 refine ae (tL nd) ?_; refine ae (tL Di) ?_
 exact p.filter _
theorem br.ay {es : List (Int × V)} (x : br Z c h i (.ay es)) : ∃ fs aF, e8 Z c h i fs aF ∧ fs.Perm es ∧ (fs.map (·.1)).Nodup ∧ ∀ k, bp k fs = bp k es := by
 obtain ⟨fs, o, aF, h1, h2, p, h3⟩ := x
 obtain ⟨Dh, ep, q1, q2, q3, q4, q5⟩ := id h2
 have e : fs.map (·.1) = aF.map (·.1) := by
  clear h2 q4 q5 p
  induction h3 with
  | nil => rfl
  | cons a _ ih => (refine ae List.map_cons ?_; refine ae List.map_cons ?_; refine ae ih ?_; refine ae a.1 ?_; rfl)
 have nd : (fs.map (·.1)).Nodup := e ▸ q5
 exact ⟨fs, aF, ⟨Heap.dictOf_iff.mpr ⟨o, h1, h2⟩, h3, q5⟩, p, nd, ku p nd⟩
theorem br.pH {fs es : List (Int × V)} {aF : List (Int × Value)} (x : h.DictOf (intKind Z.prog Z.w) (c.σ i).1 aF) (y : aS (KR id c) fs aF) (p : fs.Perm es) : br Z c h i (.ay es) := by
 refine (Heap.dictOf_iff.mp x).elim fun o aj => (aj).elim fun h1 h2 => ?_
 exact ⟨fs, o, aF, h1, h2, p, y⟩
end
end aD
end
section
open PySem PySem.Calls PyProof.Rows PySem.W PySem.SeqAt
set_option backward.match.sparseCases false
namespace aD
section
variable {Z : aL} {L : Nat} {cs : Fm} {Ar : Around} {c : Cfg} {A : AS} {s : Shared}
theorem RcAt.cI (a b : Array UInt8) (t u : Tok) : RcAt Ar s (.bytes a t) (.bytes b u) (a.toList == b.toList) := fun prog w E Q h =>
 richCompare_gives (typeIs_bytes s a t) (typeIs_bytes s b u) FB.slot_bytes_eq FB.entry_bytes_eq (FB.args_bytes_eq_2 _ _) (gives_bytes_eq a b t u) (fun e => nomatch e) h
theorem RcNeAt.cI (a b : Array UInt8) (t u : Tok) : RcNeAt Ar s (.bytes a t) (.bytes b u) (!(a.toList == b.toList)) := fun prog w E Q h =>
 richCompare_gives (typeIs_bytes s a t) (typeIs_bytes s b u) FB.slot_bytes_ne FB.entry_bytes_ne (FB.args_bytes_ne_2 _ _) (gives_bytes_ne a b t u) (fun e => nomatch e) h
theorem EqAt.cI (a b : Array UInt8) (t u : Tok) : EqAt Ar s (.bytes a t) (.bytes b u) (a.toList == b.toList) := fun prog w E Q h => by
 dsimp only [eqBool]
 refine wpAny_holding ?_
 refine wpAny_ite_split (fun tM => ?_) (fun tM => ?_)
 ·have e : a = b := by have := eq_of_beq tM; injection this
  subst e
  exact wpAny_bind (wpAny_rule (wpAny_pure (by simpa using h)))
 ·exact wpAny_bind (RcAt.cI a b t u prog w E _ (wpAny_truthy_bool h))
set_option tactic.hygienic true in
theorem eO {vs : List VD} (hv : ∀ k d, vs[k]? = some d → VD.ok c.ρ k d) {k j : Nat} {o p : Int} (h : BS.iE vs k o j p = true) : c.ρ.i k + o < c.ρ.i j + p := by
 delta BS.iE at h
 rw [bF] at h
 generalize hd : vs[k]? = d at h
 cases d with
 | none => exact bf h
 | some d =>
  cases d <;> first | exact bf h | skip
  rename_i i
  refine (ao h).elim fun h1 h2 => ?_
  obtain rfl := Nat.eq_of_beq_eq_true h1
  have h2 := of_decide_eq_true h2
  obtain ⟨_, _, q, _⟩ := hv _ _ hd
  omega
theorem xg {vs : List VD} (hv : ∀ k d, vs[k]? = some d → VD.ok c.ρ k d) {a b : SI} (h : BS.Dy vs a b = true) : SI.den c.ρ a ≠ SI.den c.ρ b := by
 rcases yG h with h | h
 ·generalize ha : BS.bnd vs a = x at h
  generalize hb : BS.bnd vs b = y at h
  cases x with
  | none => exact bf h
  | some x => cases y with
   | none => exact bf h
   | some y =>
    have h1 := dw hv ha
    have h2 := dw hv hb
    rcases yG h with h | h <;> have h := of_decide_eq_true h <;> omega
 ·cases a with
  | lit _ => exact bf h
  | va k o => cases b with
   | lit _ => exact bf h
   | va j p =>
    refine (?_ : c.ρ.i k + o ≠ c.ρ.i j + p)
    rcases yG h with h | h
    ·rcases yG h with h | h
     ·refine (ao h).elim fun h1 h2 => ?_
      obtain rfl := Nat.eq_of_beq_eq_true h1
      have := bne_iff_ne.mp h2
      omega
     ·have := eO hv h; omega
    ·have := eO hv h; exact Int.ne_of_gt ‹_›
theorem Cg {vs : List VD} {x y : BS} {r : Bool} (h : BS.eq? vs x y = some r) : (BS.den c.ρ x == BS.den c.ρ y) = r := by
 delta BS.eq? at h
 by_cases hl : BS.len x = BS.len y
 ·rw [if_neg (fun k => k hl)] at h
  by_cases e : yP x y = true
  ·rw [if_pos e] at h; obtain rfl := aO h; cases tJ e; exact beq_self_eq_true _
  ·rw [if_neg e] at h; cases h
 ·rw [if_pos hl] at h
  obtain rfl := aO h
  refine wm fun e => hl ?_
  refine bK (BS.bq (ρ := c.ρ) x) ?_; refine bK (BS.bq (ρ := c.ρ) y) ?_; refine ae e ?_; rfl
set_option tactic.hygienic true in
theorem zp {vs : List VD} (hv : ∀ k d, vs[k]? = some d → VD.ok c.ρ k d) {x y : SI} {r : Bool} (h : F7 vs x y = some r) : (SI.den c.ρ x == SI.den c.ρ y) = r := by
 delta F7 at h
 split at h
 ·rename_i e; obtain rfl := aO h; subst e; exact beq_self_eq_true _
 ·split at h
  ·rename_i e; obtain rfl := aO h; exact wm (xg hv e)
  ·cases h
theorem zq {x y : List Nat} {r : Bool} (h : some (jz x y) = some r) : (strOf x == strOf y) = r := by
 obtain rfl := aO h
 cases q : jz x y with
 | true => refine ae (cW.mp q) ?_; exact beq_self_eq_true _
 | false => exact wm fun z => by rw [cW.mpr (dB _ _ z)] at q; cases q
theorem mq {vs : List VD} (hv : ∀ k d, vs[k]? = some d → VD.ok c.ρ k d) {a b : V} {u v : Value} {r : Bool} (h : BJ vs a b = some r) (ra : VR c a u) (rb : VR c b v) :
 RcAt Ar s u v r ∧ RcNeAt Ar s u v (!r) ∧ EqAt Ar s u v r := by
 cases a with
 | int x =>
  obtain ⟨⟨y, rfl⟩, _, h⟩ := gc h
  obtain ⟨_, t, rfl⟩ := ra; obtain ⟨_, t', rfl⟩ := rb
  obtain rfl := zp hv h
  exact ⟨RcAt.int_int _ _ _ _, RcNeAt.int_int _ _ _ _, EqAt.int_int _ _ _ _⟩
 | bytes x =>
  obtain ⟨⟨y, rfl⟩, _, h⟩ := gc h
  obtain ⟨_, t, rfl⟩ := ra; obtain ⟨_, t', rfl⟩ := rb
  obtain rfl := Cg (c := c) h
  have q := fun (x y : BS) => RcAt.cI (Ar := Ar) (s := s) (BS.den c.ρ x).toArray (BS.den c.ρ y).toArray t t'
  exact ⟨q _ _, RcNeAt.cI _ _ _ _, EqAt.cI _ _ _ _⟩
 | str x =>
  obtain ⟨⟨y, rfl⟩, _, h⟩ := gc h
  obtain ⟨t, rfl⟩ := ra; obtain ⟨t', rfl⟩ := rb
  obtain rfl := zq h
  exact ⟨RcAt.str_str _ _ _ _, RcNeAt.str_str _ _ _ _, EqAt.str_str _ _ _ _⟩
 | bool x =>
  obtain ⟨⟨y, rfl⟩, _, h⟩ := gc h
  subst ra; subst rb
  cases aO h
  exact ⟨RcAt.bool_bool _ _, RcNeAt.bool_bool _ _, EqAt.bool_bool _ _⟩
 | _ => exact no h
theorem rS {vs : List VD} (hv : ∀ k d, vs[k]? = some d → VD.ok c.ρ k d) : ∀ {xs ys : List V} {us ws : List Value} {r : Bool}, DB vs xs ys = some r → dq c xs us → dq c ys ws →
 r = true ∧ us.length = ws.length ∧ ∀ j (h1 : j < us.length) (h2 : j < ws.length), EqAt Ar s us[j] ws[j] true := by
 intro xs
 induction xs with
 | nil =>
  intro ys us ws r h r1 r2
  cases ys with
  | nil =>
   obtain rfl := aO h
   obtain rfl := r1.nil_inv
   obtain rfl := r2.nil_inv
   exact ⟨rfl, rfl, fun j h1 => absurd h1 (Nat.not_lt_zero _)⟩
  | cons => exact no h
 | cons x xs ih =>
  intro ys us ws r h r0 q0
  cases ys with
  | nil => exact no h
  | cons y ys =>
  obtain ⟨u, us, rfl, r1, r2⟩ := r0.cons_inv
  obtain ⟨w, ws, rfl, q1, q2⟩ := q0.cons_inv
  obtain ⟨q, e, h⟩ := gc h
  cases q with
  | false => exact no h
  | true =>
  refine (ih h r2 q2).elim fun z1 aj => (aj).elim fun z2 z3 => ?_
  refine ⟨z1, congrArg Nat.succ z2, fun j h1 h2 => ?_⟩
  cases j with
  | zero => exact (mq hv e r1 q1).2.2
  | succ j => exact z3 j (Nat.lt_of_succ_lt_succ h1) (Nat.lt_of_succ_lt_succ h2)
theorem fw (n : Nat) : (List.range n).all (fun J => true) = true := List.all_eq_true.mpr fun J J => rfl
theorem cy (G : Z.Glob) (H : St Z L cs c A s) {i : Nat} (hi : i < c.n) : ((c.σ i).1 == sysModules) = false := by
 refine wm fun e => ?_
 exact Has.ne G.sys (H.lo i hi).1 e.symm
theorem xh {u v : Value} {r : Bool} {Q : Value → Shared → Prop} {E : Value → Shared → Prop} (h : RcAt Ar s u v r) (hq : Q (.bool r) s) : wpAny Z.M Ar (compareOp .Eq u v) Q E s := h _ _ E Q hq
theorem nO {u v : Value} {r : Bool} {Q : Value → Shared → Prop} {E : Value → Shared → Prop} (h : RcNeAt Ar s u v r) (hq : Q (.bool r) s) : wpAny Z.M Ar (compareOp .NotEq u v) Q E s := h _ _ E Q hq
theorem mr (G : Z.Glob) (hr : Room 1 Ar cs) (H : St Z L cs c A s) {i j : Nat} (hi : i < c.n) (hj : j < c.n) {es : List (Int × V)} {aF : List (Int × Value)} (d : e8 Z c s.heap i es aF) (d2 : e8 Z c s.heap j [] []) :
 ∀ {Q E : Value → Shared → Prop}, (Q (.bool es.isEmpty) s → wpAny Z.M Ar (compareOp .Eq (.ref (c.σ i).1) (.ref (c.σ j).1)) Q E s) ∧ (Q (.bool (!es.isEmpty)) s → wpAny Z.M Ar (compareOp .NotEq (.ref (c.σ i).1) (.ref (c.σ j).1)) Q E s) := by
 have hu : Ar.units < cLine := by have := hr.2.1; omega
 have hits : aF.length = ([] : List (Int × Value)).length → KeqHits Ar.in1 s [] aF true := fun h => by
  cases aF with
  | nil => exact .nil
  | cons => cases h
 have e : (aF.length == ([] : List (Int × Value)).length && true) = es.isEmpty := by
  have := d.all.length
  cases es <;> cases aF <;> first | rfl | cases this
 intro Q E
 constructor
 ·intro q; exact keq_eq (cy G H hi) (cy G H hj) d.at_ d2.at_ hu hits (by refine ae e ?_; exact q)
 ·intro q; exact keq_ne (cy G H hi) (cy G H hj) d.at_ d2.at_ hu hits (by refine ae e ?_; exact q)
theorem u0 (G : Z.Glob) (hr : Room 1 Ar cs) (H : St Z L cs c A s) {i j : Nat} {r : Bool} (hi : i < c.n) (hj : j < c.n) (h : F9 A i j = some r) :
 ∀ {Q E : Value → Shared → Prop}, (Q (.bool r) s → wpAny Z.M Ar (compareOp .Eq (.ref (c.σ i).1) (.ref (c.σ j).1)) Q E s) ∧ (Q (.bool (!r)) s → wpAny Z.M Ar (compareOp .NotEq (.ref (c.σ i).1) (.ref (c.σ j).1)) Q E s) := by
 have hu : Ar.units < cLine := by have := hr.2.1; omega
 delta F9 at h
 cases hl : dD (A.heap.get i) with
 | some a =>
  rw [hl] at h
  obtain ⟨xs, ha⟩ := a
  obtain ⟨⟨ys, hb⟩, _, h⟩ := gc h
  obtain ⟨us, ep, e1, r1⟩ := H.objs _ _ ha
  obtain ⟨ws, Be, e2, r2⟩ := H.objs _ _ hb
  obtain ⟨rfl, hl, he⟩ := rS (Ar := Ar.in1) (s := s) H.vars h r1 r2
  have hl : us.size = ws.size := hl
  have he : ∀ j (h1 : j < us.size) (h2 : j < ws.size), EqAt Ar.in1 s us[j] ws[j] ((fun J => true) j) := he
  exact fun {_ _} => ⟨fun q => xh (RcAt.lists ⟨_, e1, rfl, _, rfl⟩ ⟨_, e2, rfl, _, rfl⟩ hl hu he) (by rw [fw]; exact q), fun q => nO (RcNeAt.lists ⟨_, e1, rfl, _, rfl⟩ ⟨_, e2, rfl, _, rfl⟩ hl hu he) (by rw [fw]; exact q)⟩
 | none =>
  rw [hl] at h
  obtain ⟨⟨es, ha⟩, _, h⟩ := gc h
  obtain ⟨⟨hb⟩, _, h⟩ := gc h
  obtain rfl := aO h
  rcases ha with ha | ha
  ·obtain ⟨aF, d⟩ := (H.objs _ _ ha).aB
   exact fun {_ _} => mr G hr H hi hj d (H.objs _ _ hb).fq
  ·obtain ⟨fs, aF, d, p, _⟩ := (H.objs _ _ ha).ay
   have e : es.isEmpty = fs.isEmpty := by
    have := p.length_eq
    cases es <;> cases fs <;> first | rfl | cases this
   exact e ▸ fun {_ _} => mr G hr H hi hj d (H.objs _ _ hb).fq
theorem mv (G : Z.Glob) (hr : Room 1 Ar cs) (H : St Z L cs c A s) {a b : V} {u v : Value} {r : Bool} (h : Ga A a b = some r) (ra : VR c a u) (rb : VR c b v) :
 ∀ {Q E : Value → Shared → Prop}, (Q (.bool r) s → wpAny Z.M Ar (compareOp .Eq u v) Q E s) ∧ (Q (.bool (!r)) s → wpAny Z.M Ar (compareOp .NotEq u v) Q E s) := by
 have val : ∀ {a}, BJ A.vars a b = some r → VR c a u → ∀ {Q E : Value → Shared → Prop}, (Q (.bool r) s → wpAny Z.M Ar (compareOp .Eq u v) Q E s) ∧ (Q (.bool (!r)) s → wpAny Z.M Ar (compareOp .NotEq u v) Q E s) := fun h ra => by
  obtain ⟨h1, h2, _⟩ := mq (Ar := Ar) (s := s) H.vars h ra rb
  intro Q E
  exact ⟨fun q => xh h1 q, fun q => nO h2 q⟩
 cases a with
 | loc i =>
  obtain ⟨⟨j, rfl⟩, _, h⟩ := gc h
  obtain ⟨hi, rfl⟩ := ra; obtain ⟨hj, rfl⟩ := rb
  exact fun {_ _} => u0 G hr H hi hj h
 | int x => exact fun {_ _} => val (a := .int x) h ra
 | bytes x => exact fun {_ _} => val (a := .bytes x) h ra
 | str x => exact fun {_ _} => val (a := .str x) h ra
 | bool x => exact fun {_ _} => val (a := .bool x) h ra
 | _ => exact fun {_ _} => no h
theorem mw (G : Z.Glob) (H : St Z L cs c A s) {es : List (Int × V)} {aF : List (Int × Value)} {j : Nat} {k : Int} {t : Tok} (hj : j < c.n) (d : e8 Z c s.heap j es aF) :
 ∀ {Q E : Value → Shared → Prop}, (Q (.bool (bp k es).isSome) { s with toks := s.toks + 1 } → wpAny Z.M Ar (compareOp .In (.int k t) (.ref (c.σ j).1)) Q E s) ∧ (Q (.bool (!(bp k es).isSome)) { s with toks := s.toks + 1 } → wpAny Z.M Ar (compareOp .NotIn (.int k t) (.ref (c.σ j).1)) Q E s) := by
 have e2 : (valueAt aF k).isSome = (bp k es).isSome := by exact KR.isSome id_eq d.all
 intro Q E
 exact ⟨fun q => wpAny_in_of (intKind_is _ _ k t) (cy G H hj) d.at_.mapOf (by refine ae e2 ?_; exact q), fun q => wpAny_notIn_of (intKind_is _ _ k t) (cy G H hj) d.at_.mapOf (by refine ae e2 ?_; exact q)⟩
theorem my (G : Z.Glob) (H : St Z L cs c A s) {es : List (List Nat × V)} {aF : List (Str × Value)} {j : Nat} {k : List Nat} {t : Tok} (hj : j < c.n) (d : kq Z c s.heap j es aF) :
 ∀ {Q E : Value → Shared → Prop}, (Q (.bool (eC k es).isSome) { s with toks := s.toks + 1 } → wpAny Z.M Ar (compareOp .In (.str (strOf k) t) (.ref (c.σ j).1)) Q E s) ∧ (Q (.bool (!(eC k es).isSome)) { s with toks := s.toks + 1 } → wpAny Z.M Ar (compareOp .NotIn (.str (strOf k) t) (.ref (c.σ j).1)) Q E s) := by
 have e2 : (valueAt aF (strOf k)).isSome = (eC k es).isSome := by exact KR.isSome cC d.all
 intro Q E
 exact ⟨fun q => wpAny_in_of (strKind_is _ _ (strOf k) t) (cy G H hj) d.at_.mapOf (by refine ae e2 ?_; exact q), fun q => wpAny_notIn_of (strKind_is _ _ (strOf k) t) (cy G H hj) d.at_.mapOf (by refine ae e2 ?_; exact q)⟩
set_option tactic.hygienic true in
theorem kv {x : Bool} {us : List Value} : ∀ {xs : List V} {ws : List Value} {r : Bool}, isIn (.bool x) xs = some r → dq c xs ws → (ws.any fun y => y == .bool x) = r ∧ ∀ y ∈ ws, ∃ b, y = .bool b
 | [], _, r, h, r0 => by obtain rfl := r0.nil_inv; obtain rfl := aO h; exact ⟨rfl, fun J h => nomatch h⟩
 | v :: xs, ws, r, h, r0 => by
  obtain ⟨w, ws, rfl, r1, r2⟩ := r0.cons_inv
  cases v <;> first | exact no h | skip
  rename_i y
  have h : (isIn (.bool x) xs).map (fun t => (x == y) || t) = some r := h
  cases hi : isIn (.bool x) xs with
  | none => rw [hi] at h; cases h
  | some t =>
   rw [hi] at h
   obtain rfl := aO h
   obtain ⟨q1, q2⟩ := kv (us := us) hi r2
   obtain rfl : w = .bool y := r1
   refine ⟨?_, fun z hz => ?_⟩
   ·refine ae List.any_cons ?_; refine ae q1 ?_
    cases x <;> cases y <;> rfl
   ·rcases ff hz with rfl | hz
    ·exact ⟨_, rfl⟩
    ·exact q2 z hz
def KL (Z : aL) (Ar : Around) (s : Shared) (u v : Value) (r : Bool) : Prop := ∃ tk, ∀ (Q E : Value → Shared → Prop), (Q (.bool r) { s with toks := tk } → wpAny Z.M Ar (compareOp .In u v) Q E s) ∧ (Q (.bool (!r)) { s with toks := tk } → wpAny Z.M Ar (compareOp .NotIn u v) Q E s)
set_option tactic.hygienic true in
theorem u5 (H : St Z L cs c A s) {a : V} {u : Value} {r : Bool} {j : Nat} {xs : List V} (x : br Z c s.heap j (.list xs)) (h : isIn a xs = some r) (ra : VR c a u) : KL Z Ar s u (.ref (c.σ j).1) r := by
 obtain ⟨vs, ep, h1, h2⟩ := x
 have hl : s.heap.IsList (c.σ j).1 vs := ⟨_, h1, rfl, _, rfl⟩
 cases xs with
 | nil =>
  obtain rfl := aO h
  have e : vs = #[] := Array.toList_inj.mp h2.nil_inv
  subst e
  exact ⟨s.toks, fun Q E => ⟨fun q => in_listAt (fun J => false) hl (fun y hy => by simp at hy) (by simpa using q), fun q => notIn_listAt (fun J => false) hl (fun y hy => by simp at hy) (by simpa using q)⟩⟩
 | cons v xs =>
  cases a <;> first | exact no h | skip
  rename_i x
  obtain rfl := ra
  refine (kv (us := []) h h2).elim fun q1 q2 => ?_
  have he : ∀ y, y ∈ vs → EqAt Ar.in1 s y (.bool x) (y == .bool x) := fun y hy => by
   obtain ⟨b, rfl⟩ := q2 y (Array.mem_toList_iff.mpr hy)
   have := EqAt.bool_bool (A := Ar.in1) (s := s) b x
   have e : (b == x) = (Value.bool b == Value.bool x) := by cases b <;> cases x <;> rfl
   refine bK e ?_; exact this
  have Ej : vs.any (fun y => y == .bool x) = r := by refine bK Array.any_toList ?_; exact q1
  exact ⟨s.toks, fun Q E => ⟨fun q => in_listAt (fun y => y == .bool x) hl he (by refine ae Ej ?_; exact q), fun q => notIn_listAt (fun y => y == .bool x) hl he (by refine ae Ej ?_; exact q)⟩⟩
set_option tactic.hygienic true in
theorem mz (G : Z.Glob) (H : St Z L cs c A s) {a b : V} {u v : Value} {r : Bool} (h : inD A a b = some r) (ra : VR c a u) (rb : VR c b v) : KL Z Ar s u v r := by
 cases b <;> first | exact no h | skip
 rename_i j
 obtain ⟨hj, rfl⟩ := rb
 cases a <;> first | exact no h | skip
 case bool x =>
  obtain ⟨⟨xs, hb⟩, _, h⟩ := gc h
  exact u5 H (H.objs _ _ hb) h ra
 case int x =>
  cases x with
  | va => exact no h
  | lit k =>
  obtain ⟨_, t, rfl⟩ := ra
  obtain ⟨⟨es, hb⟩, _, h⟩ := gc h
  obtain rfl := aO h
  rcases hb with hb | ⟨hb, rfl⟩
  ·refine ((H.objs _ _ hb).ay).elim fun fs aj => (aj).elim fun aF ax => (ax).elim fun d aP => (aP).elim fun _ bG => (bG).elim fun _ hl => ?_
   exact hl k ▸ ⟨s.toks + 1, fun J J => mw G H hj d⟩
  ·exact ⟨s.toks + 1, fun J J => mw G H hj (H.objs _ _ hb).fq⟩
 case str k =>
  obtain ⟨t, rfl⟩ := ra
  obtain ⟨⟨es, hb⟩, _, h⟩ := gc h
  obtain rfl := aO h
  rcases hb with hb | ⟨hb, rfl⟩
  ·refine ((H.objs _ _ hb).aX).elim fun aF d => ?_
   exact ⟨s.toks + 1, fun J J => my G H hj d⟩
  ·exact ⟨s.toks + 1, fun J J => my G H hj (H.objs _ _ hb).nN⟩
set_option tactic.hygienic true in
theorem nP {vs : List VD} (hv : ∀ k d, vs[k]? = some d → VD.ok c.ρ k d) {a b : SI} {r : Bool} (h : ltI vs a b = some r) : decide (SI.den c.ρ a < SI.den c.ρ b) = r := by
 have plain : (match bnd vs a, bnd vs b with
  | some (al, ah), some (bl, bh) => if ah ≤ bl then some true else if bh ≤ al + 1 then some false else none
  | _, _ => none) = some r → decide (SI.den c.ρ a < SI.den c.ρ b) = r := fun h => by
  generalize ha : bnd vs a = x at h
  generalize hb : bnd vs b = y at h
  cases x with
  | none => exact no h
  | some x => cases y with
   | none => exact no h
   | some y =>
    have h1 := dw hv ha
    have h2 := dw hv hb
    dsimp only at h
    split at h
    ·obtain rfl := aO h; exact decide_eq_true (by omega)
    ·split at h
     ·obtain rfl := aO h; exact decide_eq_false (by omega)
     ·cases h
 cases a with
 | lit _ => cases b <;> exact plain h
 | va k o => cases b with
  | lit _ => exact plain h
  | va j p =>
   refine (?_ : decide (c.ρ.i k + o < c.ρ.i j + p) = r)
   delta ltI at h
   dsimp only at h
   split at h
   ·rename_i q
    obtain rfl := Nat.eq_of_beq_eq_true q
    obtain rfl := aO h
    by_cases q : o < p
    ·refine ae (decide_eq_true q) ?_; exact decide_eq_true (by omega)
    ·refine ae (decide_eq_false q) ?_; exact decide_eq_false (by omega)
   ·split at h
    ·rename_i q
     have := eO hv q
     obtain rfl := aO h; exact decide_eq_true this
    ·split at h
     ·rename_i q
      have := eO hv q
      obtain rfl := aO h; exact decide_eq_false (by omega)
     ·cases h
theorem VR.tN {a : V} {u : Value} {r : Bool} (h : VR c a u) (ha : isNone a .none = some r) : (r = true ∧ u = .none) ∨ (r = false ∧ u ≠ .none ∧ plainIs u .none = true) := by
 cases a with
 | none => exact .inl ⟨(aO ha).symm, h⟩
 | bool b => subst h; exact .inr ⟨(aO ha).symm, nofun, rfl⟩
 | int i => obtain ⟨_, t, rfl⟩ := h; exact .inr ⟨(aO ha).symm, nofun, rfl⟩
 | str l => obtain ⟨t, rfl⟩ := h; exact .inr ⟨(aO ha).symm, nofun, rfl⟩
 | bytes b => obtain ⟨_, t, rfl⟩ := h; exact .inr ⟨(aO ha).symm, nofun, rfl⟩
 | loc i => obtain ⟨_, rfl⟩ := h; exact .inr ⟨(aO ha).symm, nofun, rfl⟩
 | fn a => subst h; exact .inr ⟨(aO ha).symm, nofun, rfl⟩
 | cls a => subst h; exact .inr ⟨(aO ha).symm, nofun, rfl⟩
 | ty t => subst h; exact .inr ⟨(aO ha).symm, nofun, rfl⟩
 | bi b => cases ha
 | bb => cases ha
theorem isNone_none {a b : V} {r : Bool} (h : isNone a b = some r) : b = .none := by
 cases b <;> first | rfl | cases h
theorem mA (H : St Z L cs c A s) {a b : V} {u v : Value} {r : Bool} (h : Gb A.vars (lU a b) = some r) (ra : VR c a u) (rb : VR c b v) : ∃ x t y t', u = .int x t ∧ v = .int y t' ∧ decide (x < y) = r := by
 cases a with
 | int x =>
  cases b with
  | int y =>
   obtain ⟨_, t, rfl⟩ := ra; obtain ⟨_, t', rfl⟩ := rb
   exact ⟨_, _, _, _, rfl, rfl, nP H.vars h⟩
  | _ => cases h
 | _ => cases h
theorem mB (H : St Z L cs c A s) {a b : V} {u v : Value} {r : Bool} (h : Gd A.vars (lU a b) = some r) (ra : VR c a u) (rb : VR c b v) : ∃ x t y t', u = .int x t ∧ v = .int y t' ∧ decide (y < x) = r := by
 cases a with
 | int x =>
  cases b with
  | int y =>
   obtain ⟨_, t, rfl⟩ := ra; obtain ⟨_, t', rfl⟩ := rb
   exact ⟨_, _, _, _, rfl, rfl, nP H.vars h⟩
  | _ => cases h
 | _ => cases h
theorem hZ {x : Option Bool} {r : Bool} (h : x.map not = some r) : x = some (!r) := by
 cases x with
 | none => cases h
 | some b => obtain rfl := aO h; rw [Bool.not_not]
theorem mD {x y : Int} {r : Bool} (h : decide (x < y) = !r) : decide (y ≤ x) = r := by
 refine bK (Bool.not_not r) ?_; refine bK h ?_
 by_cases q : x < y
 ·refine ae (decide_eq_true q) ?_; exact decide_eq_false (Int.not_le.mpr q)
 ·refine ae (decide_eq_false q) ?_; exact decide_eq_true (Int.not_lt.mp q)
theorem rT (G : Z.Glob) (hr : Room 1 Ar cs) (H : St Z L cs c A s) {o : oJ} {a b : V} {u v : Value} (ra : VR c a u) (rb : VR c b v) : au Z L cs Ar (compareOp (D4 o) u v) CR (bA (ny A o a b) A) c s := by
 refine .opt fun r h => ?_
 cases o with
 | eq => exact .look H fun Q E k => (mv G hr H h ra rb).1 (k _ s.toks rfl)
 | ne => exact .look H fun Q E k => (mv G hr H (hZ h) ra rb).2 (k _ s.toks (by rw [Bool.not_not]; rfl))
 | lt =>
  obtain ⟨x, t, y, t', rfl, rfl, e⟩ := mA H h ra rb
  exact .look H fun Q E k => lt_int (k _ s.toks (by refine ae e ?_; rfl))
 | gt =>
  obtain ⟨x, t, y, t', rfl, rfl, e⟩ := mB H h ra rb
  exact .look H fun Q E k => gt_int (k _ s.toks (by refine ae e ?_; rfl))
 | le =>
  obtain ⟨x, t, y, t', rfl, rfl, e⟩ := mB H (hZ h) ra rb
  exact .look H fun Q E k => PyProof.Rows.le_int (k _ s.toks (by refine ae (mD e) ?_; rfl))
 | ge =>
  obtain ⟨x, t, y, t', rfl, rfl, e⟩ := mA H (hZ h) ra rb
  exact .look H fun Q E k => PyProof.Rows.ge_int (k _ s.toks (by refine ae (mD e) ?_; rfl))
 | is_ =>
  obtain rfl := isNone_none h
  subst rb
  rcases ra.tN h with ⟨rfl, rfl⟩ | ⟨rfl, h1, h2⟩
  ·exact .look H fun Q E k => wpAny_is_self rfl (k _ s.toks rfl)
  ·exact .look H fun Q E k => wpAny_is_other h2 h1 (k _ s.toks rfl)
 | lT =>
  have h := hZ h
  obtain rfl := isNone_none h
  subst rb
  rcases ra.tN h with ⟨e, rfl⟩ | ⟨e, h1, h2⟩
  ·cases r with
   | false => exact .look H fun Q E k => wpAny_isNot_self rfl (k _ s.toks rfl)
   | true => cases e
  ·cases r with
   | false => cases e
   | true => exact .look H fun Q E k => wpAny_isNot_other h2 h1 (k _ s.toks rfl)
 | in_ => refine (mz (Ar := Ar) G H h ra rb).elim fun tk f => ?_; exact .look H fun Q E k => (f _ _).1 (k _ tk rfl)
 | jL => refine (mz (Ar := Ar) G H (hZ h) ra rb).elim fun tk f => ?_; exact .look H fun Q E k => (f _ _).2 (k _ tk (by rw [Bool.not_not]; rfl))
theorem au.G7 {t : Sem Value} {r : Bool} (H : St Z L cs c A s) (h : ∀ {Q E}, Q (.bool r) s → wpAny Z.M Ar t Q E s) : au Z L cs Ar t CR (some (.many [(.ok true, A), (.ok false, A)])) c s := fun l e => by
 obtain rfl := aO e
 refine .of (h ?_)
 cases r
 ·exact ⟨false, A, c, .tail _ (.head _), Le.refl .., H, rfl⟩
 ·exact ⟨true, A, c, .head _, Le.refl .., H, rfl⟩
theorem u6 (G : Z.Glob) (hr : Room 1 Ar cs) (H : St Z L cs c A s) {o : oJ} {a b : V} {u v : Value} (ra : VR c a u) (rb : VR c b v) : au Z L cs Ar (compareOp (D4 o) u v) CR (eg A o a b) c s := by
 have base := rT (Ar := Ar) (o := o) G hr H ra rb
 delta eg
 generalize ny A o a b = x at base
 cases x with
 | some t => exact base
 | none =>
  cases o <;> first | exact .none | skip
  all_goals
   cases a <;> first | exact .none | skip
   cases b <;> first | exact .none | skip
   obtain ⟨_, t, rfl⟩ := ra; obtain ⟨_, t', rfl⟩ := rb
  ·exact .G7 H fun {Q E} q => xh (RcAt.int_int _ _ _ _) q
  ·exact .G7 H fun {Q E} q => nO (RcNeAt.int_int _ _ _ _) q
  ·exact .G7 H fun {Q E} q => lt_int q
theorem pI (H : St Z L cs c A s) {a : V} {u : Value} (ra : VR c a u) : au Z L cs Ar (truthy u) BR (bA (jM a) A) c s := by
 refine .opt fun r h => ?_
 cases a with
 | bool b => obtain rfl := aO h; subst ra; exact .look H fun Q E k => wpAny_truthy_bool (k _ s.toks rfl)
 | none => obtain rfl := aO h; subst ra; exact .look H fun Q E k => truthy_none (k _ s.toks rfl)
 | _ => cases h
theorem u7 (H : St Z L cs c A s) {i : Int} {u : Value} (r : VR c (.int (.lit i)) u) : au Z L cs Ar (unaryOp .USub u) VR (ok (.int (.lit (-i))) A) c s := by
 obtain ⟨_, t, rfl⟩ := r
 exact .gJ H fun h => neg_int h
end
section
variable {Z : aL} {L : Nat} {cs : Fm} {Ar : Around} {c : Cfg} {A : AS} {s : Shared}
theorem kx {x : Expr} {u v : Value} (hx : bT x = false) : subscripted x false u v = operate [u, v] (getItem u v) := by
 cases x <;> first | rfl | cases hx
theorem item_of {u v : Value} {x : Expr} {T id : String} {Q E : Value → Shared → Prop} (hx : bT x = false) (hl : typeLookup (.type T) "__getitem__" = pure (some (.builtin id))) (hT : s.TypeIs u T) (h : wpAny Z.M Ar (getItem u v) Q E s) :
 wpAny Z.M Ar (getitemInPython u >>= fun b => subscripted x b u v) Q E s := by
 refine wpAny_bind ?_
 refine ae (getitemInPython_of_ne hT.not_modules) ?_
 refine wpAny_bind (wpAny_specialOf hT hl ?_)
 refine wpAny_pure ?_
 refine ae (kx hx) ?_
 exact wpAny_operating h
theorem slice_of {u i : Value} {a b : Option Expr} {p : Pos} {T id : String} {Q E : Value → Shared → Prop} (hl : typeLookup (.type T) "__getitem__" = pure (some (.builtin id))) (hT : s.TypeIs u T) (h : wpAny Z.M Ar (getItem u i) Q E s) :
 wpAny Z.M Ar (getitemInPython u >>= fun b' => subscripted (.Slice a b none p) b' u i) Q E s := by
 refine wpAny_bind ?_
 refine ae (getitemInPython_of_ne hT.not_modules) ?_
 refine wpAny_bind (wpAny_specialOf hT hl ?_)
 refine wpAny_pure ?_
 exact wpAny_operating h
theorem dZ {a : Addr} {vs : Array Value} {ep : Nat} (h : s.heap.get? a = some { cls := .type "list", data := .seq vs ep }) : s.TypeIs (.ref a) "list" := ⟨_, h, rfl⟩
theorem xi {e : Int} (h1 : 0 ≤ e) (h2 : e < 256) : (((UInt8.ofNat e.toNat).toNat : Nat) : Int) = e := by
 obtain ⟨n, rfl⟩ := Int.eq_ofNat_of_zero_le h1
 rw [Int.toNat_natCast, UInt8.toNat_ofNat', Nat.mod_eq_of_lt (Int.ofNat_lt.mp h2)]
theorem pJ {b : BS} {k : Int} {t t' : Tok} {x : Expr} (hx : bT x = false) (H : St Z L cs c A s) (hb : BS.lt c.nv b) :
 au Z L cs Ar (getitemInPython (.bytes (BS.den c.ρ b).toArray t) >>= fun y => subscripted x y (.bytes (BS.den c.ρ b).toArray t) (.int k t')) VR (AV b k A) c s := by
 refine .dP fun hk => .bnd fun e he => .bnd fun p hp => .dP fun FF => ?_
 have hd := BS.Cf (ρ := c.ρ) he
 have hr := dw H.vars hp
 refine .look H fun Q E q => item_of hx FB.slot_bytes_getitem.lookup (typeIs_bytes s _ t) (getItem_bytes ?_ ?_ ?_ (q _ _ ⟨BS.Eg hb he, s.toks, ?_⟩))
 ·rw [BS.bq]; exact Nat.le_trans hk.2 (by decide)
 ·exact hk.1
 ·obtain ⟨n, rfl⟩ := Int.eq_ofNat_of_zero_le hk.1
  exact Int.ofNat_lt.mpr (yH hd).1
 ·refine ae (List.getD_eq_getElem?_getD) ?_; refine ae hd ?_; refine ae Option.getD_some ?_; refine ae (xi (Int.le_trans FF.1 hr.1) (Int.lt_of_lt_of_le hr.2 FF.2)) ?_; rfl
theorem pK (G : Z.Glob) {j : Nat} {k : Int} {t' : Tok} {x : Expr} (hx : bT x = false) (H : St Z L cs c A s) :
 au Z L cs Ar (getitemInPython (.ref (c.σ j).1) >>= fun y => subscripted x y (.ref (c.σ j).1) (.int k t')) VR (eX j k A) c s := by
 delta eX
 cases hm : A.heap.get j with
 | none => exact .none
 | some ob => cases ob with
  | list xs =>
   obtain ⟨us, ep, e1, r1⟩ := H.objs _ _ hm
   refine .dP fun hk => .opt fun w hw => ?_
   obtain ⟨u, h1, h2⟩ := r1.at (bF .. ▸ hw)
   obtain ⟨n, rfl⟩ := Int.eq_ofNat_of_zero_le hk.1
   exact .look H fun Q E q => item_of hx list_getitem_lookup (dZ e1) (getItem_listL (l := us.toList) ⟨_, e1, rfl, _, by refine ae Array.toArray_toList ?_; rfl⟩ hk.1 (Int.lt_of_le_of_lt hk.2 (by decide)) h1 (q _ s.toks h2))
  | aB es =>
   refine .opt fun w hw => ?_
   obtain ⟨aF, d⟩ := (H.objs _ _ hm).aB
   obtain ⟨u, h1, h2⟩ := KR.some id_eq d.all hw
   exact .look H fun Q E q => item_of hx slot_dict_getitem.lookup d.at_.typeIs (wpAny_getItem_of (intKind_is _ _ k t') d.at_.mapOf h1 (q _ (s.toks + 1) h2))
  | ay es =>
   refine .opt fun w hw => ?_
   refine ((H.objs _ _ hm).ay).elim fun fs aj => (aj).elim fun aF ax => (ax).elim fun d aP => (aP).elim fun _ bG => (bG).elim fun _ hl => ?_
   rw [← hl] at hw
   refine (KR.some id_eq d.all hw).elim fun u aj => (aj).elim fun h1 h2 => ?_
   exact .look H fun Q E q => item_of hx slot_dict_getitem.lookup d.at_.typeIs (wpAny_getItem_of (intKind_is _ _ k t') d.at_.mapOf h1 (q _ (s.toks + 1) h2))
  | cX n es =>
   refine .opt fun w hw => ?_
   refine ((H.objs _ _ hm).cX.aB).elim fun aF d => ?_
   refine (KR.some id_eq d.all hw).elim fun u aj => (aj).elim fun h1 h2 => ?_
   exact .look H fun Q E q => item_of hx slot_dict_getitem.lookup d.at_.typeIs (wpAny_getItem_of (intKind_is _ _ k t') d.at_.mapOf h1 (q _ (s.toks + 1) h2))
  | _ => exact .none
theorem rU (G : Z.Glob) {o i : V} {u v : Value} {x : Expr} (hx : bT x = false) (H : St Z L cs c A s) (ro : VR c o u) (ri : VR c i v) :
 au Z L cs Ar (getitemInPython u >>= fun b => subscripted x b u v) VR (gW o i A) c s := by
 cases o with
 | bytes b =>
  obtain ⟨hb, t, rfl⟩ := ro
  refine .bnd fun k hk => ?_
  obtain ⟨t', rfl⟩ := cB hk ri
  exact pJ hx H hb
 | loc j =>
  obtain ⟨hj, rfl⟩ := ro
  cases i with
  | int x => cases x with
   | lit k => obtain ⟨_, t', rfl⟩ := ri; exact pK G hx H
   | va _ _ => exact .none
  | str k =>
   obtain ⟨t', rfl⟩ := ri
   refine (?_ : au Z L cs Ar _ VR (wz j k A) c s)
   delta wz
   cases hm : A.heap.get j with
   | none => exact .none
   | some ob => cases ob with
    | aX es =>
     refine .opt fun w hw => ?_
     refine ((H.objs _ _ hm).aX).elim fun aF d => ?_
     refine (KR.some cC d.all hw).elim fun u aj => (aj).elim fun h1 h2 => ?_
     exact .look H fun Q E q => item_of hx slot_dict_getitem.lookup d.at_.typeIs (wpAny_getItem_of (strKind_is _ _ (strOf k) t') d.at_.mapOf h1 (q _ (s.toks + 1) h2))
    | _ => exact .none
  | _ => exact .none
 | _ => exact .none
theorem zt {K : Type} [DecidableEq K] {knd : KeyKind Z.prog Z.w K} {h : Heap} {a : Addr} {aF : List (K × Value)} (x : h.DictOf knd a aF) : Has h a := by refine (x).elim fun o aj => (aj).elim fun _ ax => (ax).elim fun _ aP => (aP).elim fun h _ => ?_; exact ⟨o, h⟩
theorem dr {K K' : Type} [DecidableEq K] [DecidableEq K'] {knd : KeyKind Z.prog Z.w K} {G8 : KeyKind Z.prog Z.w K'} {h h' : Heap} {a : Addr} {aF : List (K × Value)} {G9 : List (K' × Value)} (x : h.DictOf knd a aF) (y : h'.DictOf G8 a G9) (hs : Heap.SameBut a h h') : a6 h h' :=
 cR hs (zt y) (by refine (x).elim fun _ aj => (aj).elim fun _ ax => (ax).elim fun _ aP => (aP).elim fun e bG => (bG).elim fun ex _ => ?_; exact hK e (a7 ex.1 (by decide)))
theorem aS.set {α β : Type} {R : α → β → Prop} {l : List α} {m : List β} {a : α} {b : β} (x : aS R l m) (h : R a b) : ∀ k, aS R (l.set k a) (m.set k b) := by
 induction x with
 | nil => intro k; exact .nil
 | cons r t ih =>
  intro k
  cases k with
  | zero => exact .cons h t
  | succ k => exact .cons r (ih k)
set_option tactic.hygienic true in
theorem rV (G : Z.Glob) {o i v : V} {u j w : Value} (H : St Z L cs c A s) (ro : VR c o u) (ri : VR c i j) (rv : VR c v w) : au Z L cs Ar (setItem u j w) UR (eD o i v A) c s := by
 cases o <;> first | exact .none | skip
 rename_i j
 cases i <;> first | exact .none | skip
 case int x =>
  cases x with
  | va => exact .none
  | lit k =>
  obtain ⟨hj, rfl⟩ := ro; obtain ⟨_, t', rfl⟩ := ri
  have key : ∀ es aF, e8 Z c s.heap j es aF → aF.length ≤ 4096 → au Z L cs Ar (setItem (.ref (c.σ j).1) (.int k t') w) UR (ok () (A.put j (.aB (nr k v es)))) c s := by
   intro es aF d hl
   refine .done fun Q E q => wpAny_setItem_pairs (intKind_is _ _ k t') d.at_ (fun h' hd hs => ?_) (by refine ae sizeLine_eq ?_; exact Nat.le_trans ‹_› (by decide))
   have hk : ∀ b o, s.heap.get? b = some o → b ≠ (c.σ j).1 → b ≠ (c.σ j).2 → h'.get? b = some o := fun b o e q J => (hs.2 b q).trans e
   refine q _ _ c (Le.change (s' := { s with heap := h', toks := s.toks + 1 }) H.toHp hj hk (dr d.at_ hd hs)) (H.change (s' := { s with heap := h', toks := s.toks + 1 }) hj hk (dr d.at_ hd hs) ?_ rfl rfl) trivial
   exact br.hY hd (KR.set id_eq rv d.all d.nd)
  have Ha : ∀ es, br Z c s.heap j (.ay es) → es.length ≤ 4096 → au Z L cs Ar (setItem (.ref (c.σ j).1) (.int k t') w) UR (ok () (A.put j (.ay (yS k v es)))) c s := by
   intro es ho hl
   refine (ho.ay).elim fun fs aj => (aj).elim fun aF ax => (ax).elim fun d aP => (aP).elim fun p bG => (bG).elim fun nd _ => ?_
   refine .done fun Q E q => wpAny_setItem_pairs (intKind_is _ _ k t') d.at_ (fun h' hd hs => ?_) (by refine ae sizeLine_eq ?_; refine bK d.all.length ?_; refine ae p.length_eq ?_; exact Nat.le_trans ‹_› (by decide))
   have hk : ∀ b o, s.heap.get? b = some o → b ≠ (c.σ j).1 → b ≠ (c.σ j).2 → h'.get? b = some o := fun b o e q J => (hs.2 b q).trans e
   refine q _ _ c (Le.change (s' := { s with heap := h', toks := s.toks + 1 }) H.toHp hj hk (dr d.at_ hd hs)) (H.change (s' := { s with heap := h', toks := s.toks + 1 }) hj hk (dr d.at_ hd hs) ?_ rfl rfl) trivial
   exact br.pH hd (KR.set id_eq rv d.all d.nd) (uY p nd)
  refine (?_ : au Z L cs Ar _ UR (nz j k v A) c s)
  delta nz
  generalize hm : A.heap.get j = ob
  cases ob with
  | none => exact .none
  | some ob =>
  cases ob <;> first | exact .none | skip
  case aB es => exact .dP fun hl => by obtain ⟨aF, d⟩ := (H.objs _ _ hm).aB; exact key es aF d (d.all.length ▸ hl)
  case ay es => exact .dP fun hl => Ha es (H.objs _ _ hm) hl
  case a5 => exact key [] [] (H.objs _ _ hm).fq (by decide)
  case list xs =>
   refine .dP fun hk => ?_
   obtain ⟨vs, ep, e1, r1⟩ := H.objs _ _ hm
   have hz : vs.size = xs.length := by have := r1.length; simpa using this.symm
   refine .done fun Q E q => ki_setAt e1 hk.1 (by refine (?_ : k < 2 ^ 63); omega) (by refine (?_ : k < (vs.size : Int)); refine ae hz ?_; omega) ?_
   have e2 := get?_update_seq (c := "list") e1 (fun x => x.setIfInBounds k.toNat w)
   have Ek : ∀ b o, s.heap.get? b = some o → b ≠ (c.σ j).1 → b ≠ (c.σ j).2 → (s.heap.update (c.σ j).1 (Obj.mapSeq (·.setIfInBounds k.toNat w))).get? b = some o := fun b o e q J => by
    refine ae (Heap.get?_update_other _ _ (Ne.symm q)) ?_; exact e
   have hp : a6 s.heap (s.heap.update (c.σ j).1 (Obj.mapSeq (·.setIfInBounds k.toNat w))) := cR (.update ..) ⟨_, e2⟩ (hK e1 (a7 rfl (by decide)))
   refine q _ _ c (Le.change (s' := { s with heap := _ }) H.toHp hj Ek hp) (H.change (s' := { s with heap := _ }) hj Ek hp ⟨_, _, e2, ?_⟩ rfl rfl) trivial
   refine ae Array.toList_setIfInBounds ?_
   exact r1.set rv k.toNat
 case str k =>
  obtain ⟨hj, rfl⟩ := ro; obtain ⟨t', rfl⟩ := ri
  have key : ∀ es aF, kq Z c s.heap j es aF → aF.length ≤ 4096 → au Z L cs Ar (setItem (.ref (c.σ j).1) (.str (strOf k) t') w) UR (ok () (A.put j (.aX (rg k v es)))) c s := by
   intro es aF d hl
   refine .done fun Q E q => wpAny_setItem_pairs (strKind_is _ _ (strOf k) t') d.at_ (fun h' hd hs => ?_) (by refine ae sizeLine_eq ?_; exact Nat.le_trans ‹_› (by decide))
   have hk : ∀ b o, s.heap.get? b = some o → b ≠ (c.σ j).1 → b ≠ (c.σ j).2 → h'.get? b = some o := fun b o e q J => (hs.2 b q).trans e
   refine q _ _ c (Le.change (s' := { s with heap := h', toks := s.toks + 1 }) H.toHp hj hk (dr d.at_ hd hs)) (H.change (s' := { s with heap := h', toks := s.toks + 1 }) hj hk (dr d.at_ hd hs) ?_ rfl rfl) trivial
   exact br.kr hd (KR.set cC rv d.all d.nd)
  refine (?_ : au Z L cs Ar _ UR (rm j k v A) c s)
  delta rm
  generalize hm : A.heap.get j = ob
  cases ob with
  | none => exact .none
  | some ob =>
  cases ob <;> first | exact .none | skip
  case aX es => exact .dP fun hl => by obtain ⟨aF, d⟩ := (H.objs _ _ hm).aX; exact key es aF d (d.all.length ▸ hl)
  case a5 => exact key [] [] (H.objs _ _ hm).nN (by decide)
end
end aD
end
section
open PySem PySem.Calls PyProof.Rows PySem.W PySem.SeqAt PySem.Builtin
set_option backward.match.sparseCases false
namespace aD
section
variable {Z : aL} {L : Nat} {cs : Fm} {Ar : Around} {c : Cfg} {A : AS} {s : Shared}
structure Inst (Z : aL) (c : Cfg) (h : Heap) (i C : Nat) (fs : List (Nat × V)) (k : gU) (es : List DictEntry) (n : Nat) : Prop where
 at_ : h.get? (c.σ i).1 = some (instObj C (c.σ i).2)
 hk : af C Z.Γ.dv = some k
 nx : af C Z.Γ.cf = none
 fl : ∀ f ∈ fs, f.1 ∈ k.du
 d : h.get? (c.σ i).2 = some (dictOf es n)
 all : aS (fun (f : Nat × V) (p : DictEntry) => (∃ t, p.key = .str (Z.nm f.1) t) ∧ VR c f.2 p.val) fs es
theorem br.nQ {h : Heap} {i C : Nat} {fs : List (Nat × V)} (x : br Z c h i (.inst C fs)) : ∃ k es n, Inst Z c h i C fs k es n := by
 obtain ⟨h1, ⟨k, h2, MA, h3⟩, es, n, h4, h5⟩ := x
 exact ⟨k, es, n, h1, h2, MA, h3, h4, h5⟩
theorem Inst.obj {h : Heap} {i C : Nat} {fs : List (Nat × V)} {k es n} (x : Inst Z c h i C fs k es n) : br Z c h i (.inst C fs) := ⟨x.at_, ⟨k, x.hk, x.nx, x.fl⟩, es, n, x.d, x.all⟩
theorem Inst.ne {h : Heap} {i C : Nat} {fs : List (Nat × V)} {k es n} (x : Inst Z c h i C fs k es n) : (c.σ i).1 ≠ (c.σ i).2 := fun e => by
 have h1 := x.at_
 rw [e, x.d] at h1
 have := congrArg Obj.data (aO h1)
 cases this
theorem Inst.rW {h : Heap} {i C : Nat} {fs : List (Nat × V)} {k es n} (x : Inst Z c h i C fs k es n) : InstAt h (c.σ i).1 (instObj C (c.σ i).2) C (some (dictOf es n)) := ⟨x.at_, rfl, rfl, x.d⟩
theorem ky {a b : Str} {t : Tok} : (Value.str a t).isStr b = (a == b) := rfl
set_option tactic.hygienic true in
theorem mE (inj : ∀ x y, Z.nm x = Z.nm y → x = y) {f : Nat} {v : V} : ∀ {fs : List (Nat × V)} {es : List DictEntry}, aS (fun (f : Nat × V) (p : DictEntry) => (∃ t, p.key = .str (Z.nm f.1) t) ∧ VR c f.2 p.val) fs es →
 af f fs = some v → ∃ u, PySem.W.getL (Z.nm f) es = some (some u) ∧ VR c v u
 | [], _, _, e => no e
 | g :: fs, _, r, e => by
  obtain ⟨p, es, rfl, ⟨⟨t, ht⟩, hv⟩, r⟩ := r.cons_inv
  rw [aK] at e
  delta PySem.W.getL
  refine ae (List.find?_cons) ?_; refine ae ht ?_; refine ae ky ?_
  by_cases q : g.1 = f
  ·subst q
   rw [if_pos rfl] at e
   obtain rfl := aO e
   rw [beq_self_eq_true]
   exact ⟨_, rfl, hv⟩
  ·have hq : (Z.nm g.1 == Z.nm f) = false := wm fun z => q (inj _ _ z)
   refine ae hq ?_
   rw [if_neg q] at e
   obtain ⟨u, h1, h2⟩ := mE inj r e
   refine ⟨u, ?_, h2⟩
   delta PySem.W.getL at h1
   dsimp only
   split at h1
   ·rename_i en he
    refine ae he ?_; exact h1
   ·split at h1 <;> cases h1
theorem fx {f : Nat} : ∀ {fs : List (Nat × V)} {es : List DictEntry}, aS (fun (f : Nat × V) (p : DictEntry) => (∃ t, p.key = .str (Z.nm f.1) t) ∧ VR c f.2 p.val) fs es → es.any (·.refKey) = false
 | [], _, r => by refine ae r.nil_inv ?_; rfl
 | _ :: _, _, r => by
  obtain ⟨p, _, rfl, ⟨⟨t, ht⟩, hv⟩, r⟩ := r.cons_inv
  refine ae List.any_cons ?_; refine ae (fx (f := f) r) ?_
  delta DictEntry.refKey
  refine ae ht ?_; rfl
theorem xj (inj : ∀ x y, Z.nm x = Z.nm y → x = y) {f : Nat} {v : V} {u : Value} {hsh : Int} {tk : Tok} (hv : VR c v u) : ∀ {fs : List (Nat × V)} {es : List DictEntry}, aS (fun (f : Nat × V) (p : DictEntry) => (∃ t, p.key = .str (Z.nm f.1) t) ∧ VR c f.2 p.val) fs es →
 aS (fun (f : Nat × V) (p : DictEntry) => (∃ t, p.key = .str (Z.nm f.1) t) ∧ VR c f.2 p.val) (fi f v fs) (putL (Z.nm f) hsh (.str (Z.nm f) tk) u es) := by
 intro fs es r
 induction r with
 | nil => exact .cons ⟨⟨tk, rfl⟩, hv⟩ .nil
 | @cons g p fs es h r ih =>
  refine (h).elim fun aj hw => (aj).elim fun t ht => ?_
  rw [iH]
  dsimp only [putL]
  refine ae ht ?_; refine ae ky ?_
  by_cases q : g.1 = f
  ·subst q
   rw [beq_self_eq_true, if_pos rfl, if_pos rfl]
   exact .cons ⟨⟨t, rfl⟩, hv⟩ r
  ·have hq : (Z.nm g.1 == Z.nm f) = false := wm fun z => q (inj _ _ z)
   refine ae hq ?_; refine ae (if_neg q) ?_; refine ae (if_neg (by decide)) ?_
   exact .cons ⟨⟨t, ht⟩, hw⟩ ih
theorem fy {name : Str} {hsh : Int} {key v : Value} : ∀ es : List DictEntry, (putL name hsh key v es).length ≤ es.length + 1
 | [] => Nat.le_refl _
 | e :: r => by
  dsimp only [putL]
  split
  ·exact Nat.le_succ _
  ·have := fy (name := name) (hsh := hsh) (key := key) (v := v) r
   simp -iota only [List.length_cons]; exact Nat.lt_succ_of_le ‹_›
theorem VR.handed {v : V} {u : Value} (h : VR c v u) : handedIn u = true := by
 cases v with
 | none => subst h; rfl
 | bool b => subst h; rfl
 | int i => obtain ⟨_, t, rfl⟩ := h; rfl
 | str l => obtain ⟨t, rfl⟩ := h; rfl
 | bytes b => obtain ⟨_, t, rfl⟩ := h; rfl
 | loc i => obtain ⟨_, rfl⟩ := h; rfl
 | fn a => subst h; rfl
 | cls a => subst h; rfl
 | ty t => subst h; rfl
 | bi b => subst h; cases b <;> first | rfl | decide +kernel
 | bb => exact h
theorem xk {C : Nat} {k : gU} (O : g9 Z C k) : ∃ cd, clsIn Z.K C = some cd ∧ cd.hasDict = true := any_some O.hd
theorem rX (G : Z.Glob) (H : St Z L cs c A s) {o : V} {u : Value} {f : Nat} (ro : VR c o u) : au Z L cs Ar (getAttr u (Z.nm f) true) VR (tl o f A) c s := by
 refine .bnd fun i J => .bnd fun p J => ?_
 obtain ⟨i, rfl⟩ := i
 obtain ⟨⟨C, fs⟩, hm⟩ := p
 obtain ⟨hi, rfl⟩ := ro
 refine .opt fun v hv => ?_
 refine ((H.objs _ _ hm).nQ).elim fun k aj => (aj).elim fun es ax => (ax).elim fun n I => ?_
 have O := G.cls C k I.hk I.nx
 have hf : f ∈ k.du := by
  have : ∀ {fs : List (Nat × V)}, af f fs = some v → ∃ p ∈ fs, p.1 = f := by
   intro fs
   induction fs with
   | nil => intro e; cases e
   | cons p r ih =>
    intro e
    rw [aK] at e
    by_cases q : p.1 = f
    ·exact ⟨p, .head _, q⟩
    ·rw [if_neg q] at e
     refine (ih e).elim fun p' aj => (aj).elim fun h1 h2 => ?_
     exact ⟨p', .tail _ h1, h2⟩
  refine (this hv).elim fun p aj => (aj).elim fun h1 h2 => ?_
  exact h2 ▸ I.fl p h1
 refine (mE G.inj I.all hv).elim fun w aj => (aj).elim fun h1 h2 => ?_
 refine (xk O).elim fun cd aj => (aj).elim fun hc hd => ?_
 refine .look H fun Q E q => get_value (G.k.keeps H.base) I.rW O.ga (v := w) ?_ h2.handed (q _ (s.toks + 1) h2)
 dsimp only [findObj, PySem.W.ownOf]
 rw [hc, Option.bind_some, O.du f hf, Option.bind_some]
 dsimp only
 rw [Option.bind_some, Option.bind_some]
 rw [hd, if_pos rfl, lookIn_dict, h1]
 rfl
theorem pL {K : Frag} {h : Heap} {x C : Addr} {ox : Obj} {od : Option Obj} {name : Str} {tk : Tok} {v : Value} {prog : Program} {w : World} {B : Around} {g d t os} {R : Result → Shared → Prop} (X : K.In h) (I : InstAt h x ox C od) (hp : j0 K C = true) (hf : findIn K (.ref C) name = some none)
 (q : wpAny (model prog w) B.in1 (ObjectAttr.storeInOwnDict (.ref x) (.ref C) (.str name tk) name v false) (fun fin s' => match fin with | .done f => R (.ok f) s' | .again c' => c'.quiet = true ∧ codeAny (model prog w) B c' R s') (fun e s' => R (.error e) s') ⟨h, g, d, t, os⟩) :
 codeAny (model prog w) B (.call (.builtin "object.__setattr__") ⟨[.ref x, .str name tk, v], []⟩) R ⟨h, g, d, t, os⟩ := by
 refine (any_some hp).elim fun cd aj => (aj).elim fun hc ho => ?_
 refine (oX ho).elim fun o1 o2 => ?_
 have hm : Looks (model prog w) h (mroOf (.ref C)) cd.mro := (looks_clsIn X hc).andThen .now
 have sub : Looks (model prog w) h (isInstance (.ref x) (.type "object")) true := I.type.andThen (looks_mroIn X (by
  delta mroIn
  rw [hc, Option.bind_some, o1, if_neg fun e => by rw [te e] at o1; cases o1]))
 refine codeAny_call_builtin PySem.F.store_object.slot.plain PySem.F.store_object.entry (@check_slot (model prog w) _ _ ⟨h, g, d, t, os⟩ "object.__setattr__" "object" "__setattr__" (.ref x) [.str name tk, v] [] _ PySem.F.store_object.kind PySem.F.store_object.split sub (PySem.F.store_object.args ..) ?_)
 rw [osa_eq, refuse_eq]
 refine wpAny_bind (wpAny_bind (I.type.here (wpAny_bind (hm.here ?_))))
 rw [o2]
 refine wpAny_pure (wpAny_bind (I.type.here (wpAny_bind ((looks_findIn X hf).here (wpAny_bind (wpAny_pure (a := none) ?_))))))
 exact q
theorem xm (G : Z.Glob) {i C f : Nat} {ox : Obj} {es : List DictEntry} {n : Nat} {w : Value} (H : St Z L cs c A s) (I : InstAt s.heap (c.σ i).1 ox C (some (dictOf es n))) (FK : ox.dict = some (c.σ i).2) (hD : s.heap.get? (c.σ i).2 = some (dictOf es n))
 (sa : findIn Z.K (.ref C) "__setattr__" = some (some (.builtin "object.__setattr__"))) (over : j0 Z.K C = true) (hd : (clsIn Z.K C).any (·.hasDict) = true) (hf : findIn Z.K (.ref C) (Z.nm f) = some none) (hl : es.length ≤ 900) (hr : es.any (·.refKey) = false)
 {Q : Unit → Shared → Prop} {E : Value → Shared → Prop}
 (q : ∀ h' hsh tk El, h'.get? (c.σ i).2 = some (dictOf (putL (Z.nm f) hsh (.str (Z.nm f) tk) w es) (putN (Z.nm f) es n)) → Heap.SameBut (c.σ i).2 s.heap h' → Q () { s with heap := h', toks := El }) :
 wpAny Z.M Ar (setAttr (.ref (c.σ i).1) (Z.nm f) w) Q E s := by
 have X := G.k.keeps H.base
 obtain ⟨Hc, od, KN, u9⟩ := ox
 obtain rfl : Hc = .ref C := I.cls
 obtain rfl : od = some (c.σ i).2 := FK
 refine set_plain X I sa ?_
 refine pL X I over hf ?_
 refine (any_some hd).elim fun cd aj => (aj).elim fun hc hd => ?_
 refine wpAny_bind (wpAny_pure (wpAny_bind (wpAny_bind (wpAny_loadPart I.at_ (wpAny_bind (Looks.here (s := { s with toks := s.toks + 1 }) (looks_clsIn X hc) ?_))))))
 refine ae hd ?_
 refine wpAny_pure (a := some (c.σ i).2) (wpAny_bind (wpAny_pure (wpAny_bind ?_)))
 refine wpAny_bind (wpAny_bind (wpAny_askSetting (wpAny_pure (wpAny_bind (wpAny_mkText (wpAny_bind (wpAny_loadPart hD ?_)))))))
 have c0 : (!es.toArray.any (·.key.isStr (Z.nm f)) && es.toArray.any (·.refKey)) = false := by
  rw [← Array.any_toList, ← Array.any_toList, List.toList_toArray, hr, Bool.and_false]
 dsimp only
 rw [aRefKeyMayBeTheName_at, c0]
 refine wpAny_updatePart hD ?_
 have zu := Heap.get?_update_self (Obj.putName (Z.nm f) (PyData.keyHash Z.M.w.params (Z.nm f)) (.str (Z.nm f) (s.toks + 1)) w) hD (by rw [putName_dict]; rfl)
 rw [putName_dict] at zu
 refine wpAny_bind (wpAny_lookBehind zu (pastItsLine_dict (by have := fy (name := Z.nm f) (hsh := PyData.keyHash Z.M.w.params (Z.nm f)) (key := .str (Z.nm f) (s.toks + 1)) (v := w) es; refine ae List.size_toArray ?_; refine ae sizeLine_eq ?_; omega)) ?_)
 exact wpAny_pure (q _ _ _ _ zu (.update ..))
theorem zx (G : Z.Glob) {i C f : Nat} {ox : Obj} {vs : Array Value} {w : Value} (H : St Z L cs c A s) (h1 : s.heap.get? (c.σ i).1 = some ox) (h2 : ox.cls = .ref C) (h4 : ox.data = .fields vs) (FK : ox.dict = none)
 (sa : findIn Z.K (.ref C) "__setattr__" = some (some (.builtin "object.__setattr__"))) (over : j0 Z.K C = true) (hd : (clsIn Z.K C).any (·.hasDict) = true) (hf : findIn Z.K (.ref C) (Z.nm f) = some none)
 {Q : Unit → Shared → Prop} {E : Value → Shared → Prop}
 (q : ∀ h' El B7, h'.get? (c.σ i).1 = some B7 → B7.cls = ox.cls → B7.data = ox.data → (∀ b o, s.heap.get? b = some o → b ≠ (c.σ i).1 → h'.get? b = some o) → Q () { s with heap := h', toks := El }) :
 wpAny Z.M Ar (setAttr (.ref (c.σ i).1) (Z.nm f) w) Q E s := by
 have X := G.k.keeps H.base
 have I : InstAt s.heap (c.σ i).1 ox C none := ⟨h1, h2, by delta notCls; refine ae h4 ?_; rfl, by refine ae FK ?_; trivial⟩
 obtain ⟨Hc, od, KN, u9⟩ := ox
 obtain rfl : Hc = .ref C := h2
 obtain rfl : od = none := FK
 obtain rfl : KN = .fields vs := h4
 refine set_plain X I sa ?_
 refine pL X I over hf ?_
 refine (any_some hd).elim fun cd aj => (aj).elim fun hc hd => ?_
 refine wpAny_bind (wpAny_pure (wpAny_bind (wpAny_bind (wpAny_loadPart I.at_ (wpAny_bind (Looks.here (s := { s with toks := s.toks + 1 }) (looks_clsIn X hc) ?_))))))
 refine ae hd ?_
 have fh := Heap.lt_size h1
 have rG : (c.σ i).1 ≠ s.heap.objs.size := Nat.ne_of_lt fh
 have Dj : (s.heap.push emptyDict).get? (c.σ i).1 = some (⟨.ref C, none, .fields vs, u9⟩ : Obj) := Heap.get?_push_of_some _ h1
 have Bf : (s.heap.push emptyDict).get? s.heap.objs.size = some emptyDict := Heap.get?_push_size _ rfl
 have MB := Heap.get?_update_self (fun o : Obj => { o with dict := some s.heap.objs.size }) Dj rfl
 have Hd : ((s.heap.push emptyDict).update (c.σ i).1 (fun o : Obj => { o with dict := some s.heap.objs.size })).get? s.heap.objs.size = some emptyDict := (Heap.get?_update_other _ _ rG).trans Bf
 refine (?_ : wpAny _ _ ((alloc emptyDict >>= fun d => update (c.σ i).1 (fun o : Obj => { o with dict := some d }) >>= fun J => dictMade (.ref C) (c.σ i).1 d)) _ _ _)
 refine wpAny_bind (wpAny_alloc (wpAny_bind (wpAny_update Dj ?_)))
 refine wpAny_pure (a := some s.heap.objs.size) (wpAny_bind (wpAny_pure (wpAny_bind ?_)))
 dsimp only [nsSet]
 refine wpAny_bind (wpAny_bind (wpAny_askSetting (wpAny_pure (wpAny_bind (wpAny_mkText (wpAny_bind (wpAny_loadPart Hd ?_)))))))
 have Ci : ∀ n : Str, aRefKeyMayBeTheName n #[] = false := fun n => rfl
 dsimp only [emptyDict]
 rw [Ci, if_neg (by decide)]
 refine wpAny_updatePart Hd ?_
 have zu := Heap.get?_update_self (Obj.putName (Z.nm f) (PyData.keyHash Z.M.w.params (Z.nm f)) (.str (Z.nm f) (s.toks + 1)) w) Hd (by rw [show emptyDict = dictOf [] 0 from rfl, putName_dict]; rfl)
 rw [show emptyDict = dictOf [] 0 from rfl, putName_dict] at zu
 refine wpAny_bind (wpAny_lookBehind zu (pastItsLine_dict (by have := fy (name := Z.nm f) (hsh := PyData.keyHash Z.M.w.params (Z.nm f)) (key := .str (Z.nm f) (s.toks + 1)) (v := w) []; refine ae List.size_toArray ?_; refine ae sizeLine_eq ?_; simp -iota only [List.length_nil] at this; exact Nat.succ_pos _)) ?_)
 refine wpAny_pure (q _ _ _ ((Heap.get?_update_other _ _ (Ne.symm rG)).trans MB) rfl rfl fun b o e hb => ?_)
 have Cj : b ≠ s.heap.objs.size := Nat.ne_of_lt (Heap.lt_size e)
 refine ae (Heap.get?_update_other _ _ (Ne.symm Cj)) ?_; refine ae (Heap.get?_update_other _ _ (Ne.symm hb)) ?_
 exact Heap.get?_push_of_some _ e
theorem mF {k : gU} {f : Nat} {v : V} (Dk : f ∈ k.du) : ∀ {fs : List (Nat × V)}, (∀ p ∈ fs, p.1 ∈ k.du) → ∀ p ∈ fi f v fs, p.1 ∈ k.du
 | [], _, p, hp => by cases msg hp; exact Dk
 | a :: r, h, p, hp => by
  rw [iH] at hp
  split at hp
  ·rcases ff hp with rfl | hp
   ·exact Dk
   ·exact h _ (.tail _ hp)
  ·rcases ff hp with rfl | hp
   ·exact h _ (.head _)
   ·exact mF Dk (fun q hq => h q (.tail _ hq)) p hp
set_option tactic.hygienic true in
theorem rY (G : Z.Glob) {o v : V} {u w : Value} {f : Nat} (H : St Z L cs c A s) (ro : VR c o u) (rv : VR c v w) : au Z L cs Ar (setAttr u (Z.nm f) w) UR (gX Z.Γ o f v A) c s := by
 cases o <;> first | exact .none | skip
 rename_i i
 obtain ⟨hi, rfl⟩ := ro
 refine (?_ : au Z L cs Ar _ UR (match A.heap.get i with
  | some (.qZ c) => (match af c Z.Γ.dv with
   | some k => (match af c Z.Γ.cf with
    | some _ => if k.du.contains f then ok () (A.put i (.exc c)) else none
    | none => none)
   | none => none)
  | some (.inst c fs) => (match af c Z.Γ.dv with
   | some k => Bool.rec (motive := fun J => Res Unit) none (ok () (A.put i (.inst c (fi f v fs)))) (lA (BI f k.du) (Nat.ble (yQ fs) 900))
   | none => none)
  | _ => none) c s)
 cases hm : A.heap.get i with
 | none => exact .none
 | some ob =>
 cases ob <;> first | exact .none | skip
 ·rename_i C fs
  dsimp only
  refine ((H.objs _ _ hm).nQ).elim fun k aj => (aj).elim fun es ax => (ax).elim fun n I => ?_
  refine ae I.hk ?_
  refine .Ms fun hf => ?_
  have hf := lG hf
  have O := G.cls C k I.hk I.nx
  have Dk : f ∈ k.du := zo hf.1
  refine .done fun Q E q => xm G H I.rW rfl I.d O.sa O.over O.hd (O.du f Dk) (I.all.length ▸ tf (l := fs) ▸ Nat.le_of_ble_eq_true hf.2) (fx (f := f) I.all) fun h' hsh tk El zu hs => ?_
  have Dm : ∀ b o, s.heap.get? b = some o → b ≠ (c.σ i).1 → b ≠ (c.σ i).2 → h'.get? b = some o := fun b o e J hb => (hs.2 b hb).trans e
  have hz : a6 s.heap h' := cR hs ⟨_, zu⟩ (hK I.d (bD fun J q => Data.noConfusion q))
  refine q _ _ c (Le.change (s' := { s with heap := _, toks := _ }) H.toHp hi Dm hz) (H.change (s' := { s with heap := _, toks := _ }) hi Dm hz ?_ rfl rfl) trivial
  exact Inst.obj (k := k) ⟨(hs.2 _ I.ne).trans I.at_, I.hk, I.nx, mF Dk I.fl, zu, xj G.inj rv I.all⟩
 ·rename_i C
  dsimp only
  obtain ⟨oe, vs, h1, h2, h4, h5, h6, h7⟩ := H.objs _ _ hm
  cases hk : af C Z.Γ.dv with
  | none => exact .none
  | some k =>
  cases hx : af C Z.Γ.cf with
  | none => exact .none
  | some bs =>
  refine .dP fun hg => ?_
  have O := G.o5 C k bs hk hx
  refine .done fun Q E q => zx G H h1 h2 h4 h7 O.sa O.over O.hd (O.du f (List.contains_iff_mem.mp hg)) fun h' tk B7 e' ec ed Dm => ?_
  have hz : a6 s.heap h' := a6.mk' fun b o e => by
   by_cases q : b = (c.σ i).1
   ·rw [q, h1] at e; obtain rfl := aO e
    exact ⟨B7, q ▸ e', a9.same ec ed, dU.same ec ed, bc.same ec ed, fun w => (by have := w.1; rw [h2] at this; cases this)⟩
   ·exact ⟨o, Dm b o e q, id, id, id, fun J => rfl⟩
  refine q _ _ c (Le.change (s' := { s with heap := _, toks := _ }) H.toHp hi (fun b o e q J => Dm b o e q) hz) (H.change (s' := { s with heap := _, toks := _ }) hi (fun b o e q J => Dm b o e q) hz ?_ rfl rfl) trivial
  exact ⟨B7, vs, e', ec.trans h2, ed.trans h4, h5, h6.keep hz.tb⟩
theorem iO {K : Type} [DecidableEq K] {kd : KeyKind Z.prog Z.w K} {d : Addr} {x : Value} {k : K} {aF : List (K × Value)} {s : Shared} {Q : Unit → Shared → Prop} {E : Value → Shared → Prop} (is : kd.is k x = true) (h : s.heap.DictOf kd d aF) (hl : aF.length ≤ sizeLine) (hs : (valueAt aF k).isSome = true)
 (q : ∀ h', h'.DictOf kd d (without aF k) → Heap.SameBut d s.heap h' → Q () { s with heap := h', toks := s.toks + 1 }) : wpAny Z.M Ar (delItem (.ref d) x) Q E s := by
 delta delItem
 try with_reducible refine wpAny_holding ?_
 refine wpAny_bind (wpAny_sequenceKey h.typeIs (by decide) ?_)
 exact wpAny_bind (wpAny_callSpecial?_slot (name := Str.ofString "__delitem__") h.typeIs PySem.F.slot_dict_delitem
  (call_meetsIn PySem.F.slot_dict_delitem h.typeIs PySem.F.entry_dict_delitem (PySem.F.args_dict_delitem_2 _ _) (meets_dict_delitem_pairs kd d is) ⟨aF, h, hl, hs, fun h' hm hs => wpAny_pure (q h' hm hs)⟩))
set_option tactic.hygienic true in
theorem rZ (G : Z.Glob) {o i : V} {u j : Value} (H : St Z L cs c A s) (ro : VR c o u) (ri : VR c i j) : au Z L cs Ar (delItem u j) UR (jN o i A) c s := by
 cases o <;> first | exact .none | skip
 rename_i j
 have hk : ∀ h', Heap.SameBut (c.σ j).1 s.heap h' → ∀ b o, s.heap.get? b = some o → b ≠ (c.σ j).1 → b ≠ (c.σ j).2 → h'.get? b = some o := fun h' hs b o e q J => (hs.2 b q).trans e
 cases i <;> first | exact .none | skip
 case int x =>
  cases x with
  | va => exact .none
  | lit k =>
  obtain ⟨hj, rfl⟩ := ro; obtain ⟨_, t', rfl⟩ := ri
  refine (?_ : au Z L cs Ar _ UR (wA j k A) c s)
  delta wA
  generalize hm : A.heap.get j = ob
  cases ob with
  | none => exact .none
  | some ob =>
  cases ob <;> first | exact .none | skip
  case aB es =>
   refine .dP fun hl => ?_
   refine ((H.objs _ _ hm).aB).elim fun aF d => ?_
   refine .done fun Q E q => iO (intKind_is _ _ k t') d.at_ (by refine ae sizeLine_eq ?_; refine bK d.all.length ?_; omega) (by refine ae (show k = id k from rfl) ?_; refine ae (KR.isSome id_eq d.all) ?_; exact hl.1) fun h' xn hs => ?_
   refine q _ _ c (Le.change (s' := { s with heap := h', toks := s.toks + 1 }) H.toHp hj (hk h' hs) (dr d.at_ xn hs)) (H.change (s' := { s with heap := h', toks := s.toks + 1 }) hj (hk h' hs) (dr d.at_ xn hs) ?_ rfl rfl) trivial
   exact br.hY xn (KR.del id_eq d.all d.nd)
  case ay es =>
   refine .dP fun hl => ?_
   refine ((H.objs _ _ hm).ay).elim fun fs aj => (aj).elim fun aF ax => (ax).elim fun d aP => (aP).elim fun p bG => (bG).elim fun nd MC => ?_
   refine .done fun Q E q => iO (intKind_is _ _ k t') d.at_ (by refine ae sizeLine_eq ?_; refine bK d.all.length ?_; refine ae p.length_eq ?_; omega) (by rw [show k = id k from rfl, KR.isSome id_eq d.all]; exact (congrArg Option.isSome (MC k)).trans hl.1) fun h' xn hs => ?_
   refine q _ _ c (Le.change (s' := { s with heap := h', toks := s.toks + 1 }) H.toHp hj (hk h' hs) (dr d.at_ xn hs)) (H.change (s' := { s with heap := h', toks := s.toks + 1 }) hj (hk h' hs) (dr d.at_ xn hs) ?_ rfl rfl) trivial
   exact br.pH xn (KR.del id_eq d.all d.nd) (uZ p nd)
 case str k =>
  obtain ⟨hj, rfl⟩ := ro; obtain ⟨t', rfl⟩ := ri
  refine (?_ : au Z L cs Ar _ UR (wB j k A) c s)
  delta wB
  generalize hm : A.heap.get j = ob
  cases ob with
  | none => exact .none
  | some ob =>
  cases ob <;> first | exact .none | skip
  refine .dP fun hl => ?_
  obtain ⟨aF, d⟩ := (H.objs _ _ hm).aX
  refine .done fun Q E q => iO (strKind_is _ _ (strOf k) t') d.at_ (by refine ae sizeLine_eq ?_; refine bK d.all.length ?_; omega) (by refine ae (KR.isSome cC d.all) ?_; exact hl.1) fun h' xn hs => ?_
  refine q _ _ c (Le.change (s' := { s with heap := h', toks := s.toks + 1 }) H.toHp hj (hk h' hs) (dr d.at_ xn hs)) (H.change (s' := { s with heap := h', toks := s.toks + 1 }) hj (hk h' hs) (dr d.at_ xn hs) ?_ rfl rfl) trivial
  exact br.kr xn (KR.del cC d.all d.nd)
theorem sd (hr : Room 1 Ar cs) {i : Nat} {xs : List V} (H : St Z L cs c A s) (hh : A.hd = none) (hm : A.heap.get i = some (.tup xs) ∨ A.heap.get i = some (.list xs)) : au Z L cs Ar (unpackItems (.ref (c.σ i).1) xs.length none) dq (ok xs A) c s := by
 have fin : ∀ us : Array Value, dq c xs us.toList → ∀ Q : List Value → Shared → Prop, (∀ u s' c', Le Z L c s c' s' → St Z L cs c' A s' → dq c' xs u → Q u s') → ∀ h', Heap.ExtBut s.heap.objs.size s.heap h' → Q us.toList { s with heap := h' } := fun us r Q q h' hx => by
  have hk : ∀ b o, s.heap.get? b = some o → h'.get? b = some o := fun b o e => hx b o (Nat.ne_of_lt (Heap.lt_size e)) e
  exact q _ _ c (Le.bk (s' := { s with heap := h' }) hk) (H.bk (s' := { s with heap := h' }) hk rfl rfl) r
 rcases hm with hm | hm
 ·refine (H.objs _ _ hm).elim fun us aj => (aj).elim fun e1 r1 => ?_
  refine ae (show xs.length = us.size by have := r1.length; simpa using this) ?_
  exact .done fun Q E q => PyProof.Rows.unpackItems_tuple (hr.quiet H hh) ⟨_, e1, rfl, _, rfl⟩ (fin us r1 Q q)
 ·obtain ⟨us, ep, e1, r1⟩ := H.objs _ _ hm
  refine ae (show xs.length = us.size by have := r1.length; simpa using this) ?_
  exact .done fun Q E q => kun_itemsOf (hr.quiet H hh) ⟨_, e1, rfl, _, rfl⟩ (fin us r1 Q q)
theorem vb (H : St Z L cs c A s) : au Z L cs Ar (dictDisplay []) VR (ok (V.loc (A.alloc .a5).1) (A.alloc .a5).2) c s := by
 refine .newObj H (ob := { cls := .type "dict", data := .dict #[] }) rfl (fun h p e J => ⟨_, by rw [c.aI]; exact e, ⟨rfl, rfl, rfl⟩, _, rfl⟩) fun h => ?_
 refine (?_ : wpAny _ _ (newDict) _ _ _)
 exact wpAny_bind (wpAny_alloc (wpAny_pure (h s.toks)))
end
end aD
end
section
open PySem PySem.Calls PyProof.Rows PySem.W PySem.SeqAt PySem.Builtin
set_option backward.match.sparseCases false
set_option maxRecDepth 100000
namespace aD
namespace BA
theorem MD : typeLookup (.type "bytearray") "__release_buffer__" = pure (some (.builtin "bytearray.__release_buffer__")) := by rw [typeLookup_type, builtinLookup_eq_fast]; kernel_rfl
theorem ia : Slot "bytearray" "__getitem__" "bytearray.__getitem__" :=
 .of (owner := "bytearray") (n := "__getitem__") (by rw [typeLookup_type, builtinLookup_eq_fast]; kernel_rfl) (by decide +kernel) (by decide +kernel) (by decide +kernel)
  (by first | exact .inl (by decide +kernel) | exact .inr (by decide +kernel)) (by rw [isSubtype_type]; kernel_rfl)
theorem lH : entryFor table "bytearray.__getitem__" = some Builtin.«bytearray.__getitem__» := entryFor_of_tree (by kernel_rfl)
theorem nR (a b : Value) : argsOk "bytearray.__getitem__" ⟨[a, b], []⟩ := by skip; kernel_rfl
theorem meets_slice (x : Addr) (b : Array UInt8) (a : Addr) {l u : Value} {lo hi : Option Int} (hl : IsPart l lo) (hu : IsPart u hi) :
 Meets («bytearray.__getitem__» ⟨[.ref x, .ref a], []⟩) (fun J R s => s.heap.get? x = some { cls := .type "bytearray", data := .bytearray b } ∧ s.heap.IsSliceOf a l u .none ∧ (KBy.picked b lo hi).size ≤ sizeLine ∧
  R (.ok (.ret (.ref s.heap.objs.size))) { s with heap := s.heap.push { cls := .type "bytearray", data := .bytearray (KBy.picked b lo hi) } }) := by
 refine .of_wp fun prog w A R s hS => ?_
 obtain ⟨hx, ⟨o, ho, hc, hd⟩, rD, h⟩ := hS
 have hT : s.TypeIs (.ref a) "slice" := ⟨o, ho, hc⟩
 refine (?_ : wpAny _ _ (Bytes.subscript? (.ref a) >>= fun r => _) _ _ s)
 refine wpAny_bind ?_
 dsimp only [Bytes.subscript?]
 refine wpAny_bind (wpAny_specialOf hT slice_no_index (wpAny_pure ?_))
 refine wpAny_bind (wpAny_typeOf hT ?_)
 refine wpAny_bind ?_
 refine wpAny_bind (wpAny_field (x := .none) ho hd rfl ?_)
 kby_none
 refine wpAny_ite (KBy.ite_no (show ¬ ((Value.none == rawInt 0) = true) from Bool.false_ne_true) ?_)
 refine wpAny_bind (wpAny_field (x := l) ho hd rfl ?_)
 have go : wpAny (model prog w) A.in1 (sliceIndices (rawPart lo) (rawPart hi) (rawPart none) b.size) (fun r s' => r = sliceBounds lo hi none b.size ∧ s' = s) (fun J J => False) s :=
  wpAny_of_eq (sliceIndices_raw lo hi none b.size (fun e => nomatch e)) ⟨rfl, rfl⟩
 cases hl <;> cases hu <;> (first
  | (kby_none; (refine wpAny_bind (wpAny_field (x := .none) ho hd rfl ?_)); kby_none)
  | (kby_none; (refine wpAny_bind (wpAny_field (x := .int _ _) ho hd rfl ?_)); kby_int)
  | (kby_int; (refine wpAny_bind (wpAny_field (x := .none) ho hd rfl ?_)); kby_none)
  | (kby_int; (refine wpAny_bind (wpAny_field (x := .int _ _) ho hd rfl ?_)); kby_int)) <;> refine wpAny_pure ?_
 all_goals
  refine wpAny_bind ?_
  refine wpAny_bind (wpAny_bind (wpAny_load hx (wpAny_pure (wpAny_pure ?_))))
  refine wpAny_bind (wpAny_mono go (fun r s' hr => ?_) fun J J e => e.elim)
  obtain ⟨ME, MF⟩ := hr
  subst ME MF
  exact wpAny_bind (wpAny_newObj_type (wpAny_pure ⟨_, rfl, h⟩) rD)
end BA
section
variable {Z : aL} {L : Nat} {cs : Fm} {Ar : Around} {c : Cfg} {A : AS} {s : Shared}
theorem zy (a b : Nat) : b - a = max a b - a := by
 rcases Nat.le_total a b with h | h
 ·refine ae (Nat.max_eq_right h) ?_; rfl
 ·rw [Nat.max_eq_left h, Nat.sub_self, Nat.sub_eq_zero_of_le h]
theorem kz {n d r : Nat} {v : V} {u : Value} (rv : VR c v u) (e : BN n v d = some r) : ∃ p, IsPart u p ∧ p.elim d (clipAt n) = r := by
 cases v with
 | none => subst rv; exact ⟨none, .none, aO e⟩
 | int x =>
  cases x with
  | lit i =>
   obtain ⟨_, t, rfl⟩ := rv
   by_cases hi : 0 ≤ i
   ·refine ⟨some i, .int i t, (?_ : clipAt n i = r)⟩
    obtain rfl := aO ((if_pos hi).symm.trans e)
    obtain ⟨k, rfl⟩ := Int.eq_ofNat_of_zero_le hi
    exact clipAt_nat n k
   ·exact no ((if_neg hi).symm.trans e)
  | va => exact no e
 | _ => exact no e
theorem fU {n : Nat} {lo hi : V} {l h : Value} {p : Nat × Nat} (e : cut n lo hi = some p) (rl : VR c lo l) (rh : VR c hi h) :
 ∃ xo cP, IsPart l xo ∧ IsPart h cP ∧ xo.elim 0 (clipAt n) = p.1 ∧ cP.elim n (clipAt n) - p.1 = p.2 - p.1 ∧ max p.1 (cP.elim n (clipAt n)) = p.2 := by
 obtain ⟨a, ha, e⟩ := gc e
 obtain ⟨b, hb, e⟩ := gc e
 obtain rfl := aO e
 obtain ⟨p, h1, h2⟩ := kz rl ha
 obtain ⟨q, h3, h4⟩ := kz rh hb
 exact ⟨p, q, h1, h3, h2, by refine ae h4 ?_; exact zy .., by refine ae h4 ?_; rfl⟩
theorem xp {k : Value → Sem Value} {l h : Value} {Q E : Value → Shared → Prop} (q : wpAny Z.M Ar (k (.ref s.heap.objs.size)) Q E { s with heap := s.heap.push { cls := .type "slice", data := .fields #[l, h, .none] } }) :
 wpAny Z.M Ar (newFields "slice" [l, h, .none] >>= k) Q E s := wpAny_bind (wpAny_newObj_type q)
theorem iP {β : Type} {k : Value → Sem β} {l h : Value} {Q : β → Shared → Prop} {E : Value → Shared → Prop} (q : bt Z.M Ar (k (.ref s.heap.objs.size)) Q E { s with heap := s.heap.push { cls := .type "slice", data := .fields #[l, h, .none] } }) :
 bt Z.M Ar (newFields "slice" [l, h, .none] >>= k) Q E s := wO (wpAny_newObj_type q)
theorem pM {o lo hi : V} {u l h : Value} {x y : Option Expr} {p : Pos} (H : St Z L cs c A s) (ro : VR c o u) (rl : VR c lo l) (rh : VR c hi h)
 {k : Value → Sem Value} {pos : Pos} (hk : ∀ i, k i = (standAt pos >>= fun J => getitemInPython u >>= fun b => subscripted (.Slice x y none p) b u i)) : au Z L cs Ar (newFields "slice" [l, h, .none] >>= k) VR (rk o lo hi A) c s := by
 have wj : ∀ b o', s.heap.get? b = some o' → (s.heap.push { cls := .type "slice", data := .fields #[l, h, .none] }).get? b = some o' := fun b o' e => Heap.get?_push_of_some _ e
 have H1 : St Z L cs c A { s with heap := s.heap.push { cls := .type "slice", data := .fields #[l, h, .none] } } := H.bk wj rfl rfl
 have a0 : Le Z L c s c { s with heap := s.heap.push { cls := .type "slice", data := .fields #[l, h, .none] } } := Le.bk wj
 cases o with
 | bytes b =>
  obtain ⟨hb, t, rfl⟩ := ro
  refine .dP fun hlen => .bnd fun p hc => ?_
  obtain ⟨xo, cP, pl, pu, e1, e2, _⟩ := fU hc rl rh
  have hz : (BS.den c.ρ b).toArray.size = BS.len b := by rw [List.size_toArray, BS.bq]
  have pk : KBy.picked (BS.den c.ρ b).toArray xo cP = (BS.den c.ρ (BS.slice p.1 p.2 b)).toArray := by
   rw [KBc.picked_eq, hz, e1, e2, BS.iM]
  refine .done fun Q E q => xp ?_
  rw [hk]
  with_reducible refine wpAny_bind (wpAny_standAt (slice_of FB.slot_bytes_getitem.lookup (typeIs_bytes _ _ t) ?_))
  refine getItem_meets (typeIs_bytes _ _ _) (by decide) FB.slot_bytes_getitem FB.entry_bytes_getitem (FB.args_bytes_getitem_2 _ _) (KBc.meets_slice2 _ t _ pl pu) ⟨Heap.IsSliceOf.new _ _ _ _, ?_, fun t' k' => ?_⟩
  ·refine Nat.le_trans (KBc.size_picked_le _ xo cP) ?_
   refine ae hz ?_; refine ae sizeLine_eq ?_; exact Nat.le_trans hlen (by decide)
  ·exact q _ _ c (a0.trans (Le.toks k')) (H1.toks k') ⟨BS.pA hb, t', by refine ae pk ?_; rfl⟩
 | loc i =>
  obtain ⟨Ky, rfl⟩ := ro
  refine (?_ : au Z L cs Ar _ VR (match dD (A.heap.get i) with
   | some xs => _
   | none => _) c s)
  cases dD (A.heap.get i) with
  | some xs =>
   obtain ⟨xs, hm⟩ := xs
   refine .dP fun hlen => .bnd fun p hc => ?_
   obtain ⟨us, ep, e0, r0⟩ := H1.objs _ _ hm
   obtain ⟨xo, cP, pl, pu, e1, e2, _⟩ := fU hc rl rh
   have hz : us.size = xs.length := Eq.symm r0.length
   have pk : slicePick us xo cP none = ((us.toList.drop p.1).take (p.2 - p.1)).toArray := by rw [slicePick_plain, hz, e1, e2]
   intro r er
   refine iP ?_
   rw [hk]
   refine au.from H.bw a0 (r := _) ?_ r er
   refine .at ?_
   refine .newObj H1 (ob := { cls := .type "list", data := .seq ((us.toList.drop p.1).take (p.2 - p.1)).toArray }) rfl (fun h' p' e J => ⟨_, 0, by rw [c.aI]; exact e, ?_⟩) fun q => ?_
   ·refine ae List.toList_toArray ?_; exact ((r0.drop p.1).take (p.2 - p.1)).imp fun J J y => y.mono (c.aJ p')
   ·refine slice_of list_getitem_lookup (dZ e0) (wpAny_getItem_list_slice (s := { s with heap := _ }) ⟨_, e0, rfl, _, rfl⟩ (Heap.IsSliceOf.new _ _ _ _) pl pu .none (fun e => nomatch e) ?_ ?_)
    ·refine ae pk ?_; exact q _
    ·refine ae hz ?_; refine ae sizeLine_eq ?_; exact Nat.le_trans hlen (by decide)
  | none =>
   refine .bnd fun b J => .dP fun hlen => .bnd fun p hc => ?_
   obtain ⟨b, hm⟩ := b
   obtain ⟨hb, e0⟩ := H1.objs _ _ hm
   obtain ⟨xo, cP, pl, pu, e1, e2, _⟩ := fU hc rl rh
   have hz : (BS.den c.ρ b).toArray.size = BS.len b := by rw [List.size_toArray, BS.bq]
   have pk : KBy.picked (BS.den c.ρ b).toArray xo cP = (BS.den c.ρ (BS.slice p.1 p.2 b)).toArray := by
    rw [KBc.picked_eq, hz, e1, e2, BS.iM]
   intro r er
   refine iP ?_
   rw [hk]
   refine au.from H.bw a0 (r := _) ?_ r er
   refine .at ?_
   refine .newObj H1 (ob := { cls := .type "bytearray", data := .bytearray (BS.den c.ρ (BS.slice p.1 p.2 b)).toArray }) rfl (fun h' p' e J => ⟨BS.pA hb, by rw [c.aI]; exact e⟩) fun q => ?_
   refine slice_of BA.ia.lookup ⟨_, e0, rfl⟩ (getItem_meets ⟨_, e0, rfl⟩ (by decide) BA.ia BA.lH (BA.nR _ _) (BA.meets_slice _ _ _ pl pu) ⟨e0, Heap.IsSliceOf.new _ _ _ _, ?_, ?_⟩)
   ·refine Nat.le_trans (KBc.size_picked_le _ xo cP) ?_
    refine ae hz ?_; refine ae sizeLine_eq ?_; exact Nat.le_trans hlen (by decide)
   ·refine ae pk ?_; exact q _
 | _ => exact .none
end
end aD
end
section
open PySem PySem.Calls PyProof.Rows PySem.W
set_option backward.match.sparseCases false
namespace aD
theorem lookup_isSome : ∀ {l : List (Str × Value)} {n : Str}, (l.lookup n).isSome = decide (n ∈ l.map (·.1))
 | [], _ => rfl
 | x :: l, n => by
  refine ae List.lookup_cons ?_; refine ae List.map_cons ?_
  by_cases h : n = x.1
  ·subst h; simp
  ·refine ae (wm h) ?_
   refine ae (lookup_isSome (l := l)) ?_
   simp [h]
noncomputable def fz (r : List (Str × Value)) (x : Str × Value) : List (Str × Value) := if (r.lookup x.1).isNone = true then r ++ [(x.1, x.2)] else r
theorem gK : ∀ (l : List (Str × Value)) (slots : List (Str × Value)),
 (forIn (m := Sem) l slots fun x r => if (r.lookup x.1).isNone = true then pure (.yield (r ++ [(x.1, x.2)])) else pure (.yield r)) = pure (l.foldl fz slots)
 | [], slots => rfl
 | x :: l, slots => by
  rw [List.forIn_cons, List.foldl_cons]
  dsimp only [fz]
  split
  ·rw [pure_bind]; exact gK l _
  ·rw [pure_bind]; exact gK l _
theorem tO : ∀ {l slots : List (Str × Value)}, (∀ x ∈ l, x.1 ∈ slots.map (·.1)) → l.foldl fz slots = slots
 | [], _, _ => rfl
 | x :: l, slots, h => by
  have hx : (slots.lookup x.1).isNone = false := by
   rw [Option.isNone_eq_false_iff, lookup_isSome]; exact decide_eq_true (h x (.head _))
  refine ae List.foldl_cons ?_; refine ae (show fz slots x = slots by delta fz; rw [hx]; rfl) ?_
  exact tO fun y hy => h y (.tail _ hy)
theorem pN : ∀ {l slots : List (Str × Value)}, (slots.map (·.1) ++ l.map (·.1)).Nodup → l.foldl fz slots = slots ++ l
 | [], _, _ => (List.append_nil _).symm
 | x :: l, slots, h => by
  have hn : x.1 ∉ slots.map (·.1) := fun hm => by
   have := (List.nodup_append.mp h).2.2 x.1 hm x.1 (by simp)
   exact this rfl
  have hx : (slots.lookup x.1).isNone = true := by
   rw [Option.isNone_iff_eq_none, ← Option.not_isSome_iff_eq_none, lookup_isSome]; simpa using hn
  rw [List.foldl_cons, show fz slots x = slots ++ [x] by delta fz; rw [hx]; rfl, pN (l := l) (slots := slots ++ [x]) (by simpa [List.append_assoc] using h), List.append_assoc]; rfl
theorem pO : ∀ {names : List Str} {vals : List Value}, names.Nodup → vals.length = names.length → ∀ pre : List (Str × Value), (∀ n ∈ names, n ∉ pre.map (·.1)) →
 names.filterMap (fun n => ((pre ++ names.zip vals).lookup n).map (n, ·)) = names.zip vals
 | [], [], _, _, _, _ => rfl
 | [], _ :: _, _, h, _, _ => by cases h
 | _ :: _, [], _, h, _, _ => by cases h
 | n :: names, v :: vals, hn, hl, pre, hp => by
  refine (List.nodup_cons.mp hn).elim fun h1 h2 => ?_
  have e0 : pre.lookup n = none := by
   rw [← Option.not_isSome_iff_eq_none, lookup_isSome]; simpa using hp n (.head _)
  have e : (pre ++ (n :: names).zip (v :: vals)).lookup n = some v := by
   rw [List.lookup_append, e0, List.zip_cons_cons, List.lookup_cons, beq_self_eq_true]; rfl
  refine ae List.filterMap_cons ?_; refine ae e ?_; refine ae List.zip_cons_cons ?_
  dsimp only [Option.map_some]
  have := pO h2 (by simpa using hl) (pre ++ [(n, v)]) (fun m hm => by
   rw [List.map_append, List.mem_append, not_or]
   refine ⟨hp m (.tail _ hm), ?_⟩
   simp -iota only [List.map_cons, List.map_nil, List.mem_singleton]
   intro e; exact h1 (e ▸ hm))
  rw [List.append_assoc] at this
  refine ae (show pre ++ (n, v) :: names.zip vals = pre ++ ([(n, v)] ++ names.zip vals) from rfl) ?_; refine ae this ?_; rfl
theorem pP {n1 n2 n3 : List Str} {us d2 d3 : List Value} (hn : (n1 ++ n2 ++ n3).Nodup) (h1 : us.length = (n1 ++ n2).length) (h2 : d2.length = n2.length) (h3 : d3.length = n3.length) :
 ((n2 ++ n3).zip (d2 ++ d3)).foldl fz ((n1 ++ n2 ++ n3).zip us) = (n1 ++ n2 ++ n3).zip (us ++ d3) := by
 have e0 : (n1 ++ n2 ++ n3).zip us = (n1 ++ n2).zip us := by
  have := List.zip_append (l₁ := n1 ++ n2) (r₁ := n3) (l₂ := us) (r₂ := []) h1.symm
  rw [List.append_nil, List.zip_nil_right, List.append_nil] at this
  exact this
 have hs : ((n1 ++ n2).zip us).map (·.1) = n1 ++ n2 := List.map_fst_zip (Nat.le_of_eq h1.symm)
 have MG : (n3.zip d3).map (·.1) = n3 := List.map_fst_zip (Nat.le_of_eq h3.symm)
 refine ae e0 ?_; refine ae (List.zip_append h2.symm) ?_; refine ae (List.zip_append h1.symm) ?_; refine ae List.foldl_append ?_
 have a : List.foldl fz ((n1 ++ n2).zip us) (n2.zip d2) = (n1 ++ n2).zip us := by
  refine tO fun x hx => ?_
  refine ae hs ?_
  exact List.mem_append_right _ (List.of_mem_zip hx).1
 refine ae a ?_
 refine pN ?_
 refine ae hs ?_; refine ae MG ?_
 exact hn
theorem vc {names : List Str} {us ds : List Value} (hle : us.length ≤ names.length) (Ck : names.length ≤ us.length + ds.length) (hd : ds.length ≤ names.length) :
 ∃ n1 n2 n3 : List Str, ∃ d2 d3 : List Value, names = n1 ++ n2 ++ n3 ∧ ds = d2 ++ d3 ∧ us.length = (n1 ++ n2).length ∧ d2.length = n2.length ∧ d3.length = n3.length := by
 refine (Nat.le.dest hd).elim fun k hk => ?_
 refine (Nat.le.dest Ck).elim fun i hi => ?_
 have hu : k + i = us.length := Nat.add_left_cancel (n := ds.length) (by rw [← Nat.add_assoc, hk, hi, Nat.add_comm])
 have cP : i ≤ ds.length := Nat.le_of_add_le_add_left (a := names.length) (hi ▸ Nat.add_le_add_right hle _)
 have hl : (names.drop k).length = ds.length := by rw [List.length_drop, ← hk, Nat.add_sub_cancel]
 have h2 : ((names.drop k).take i).length = i := List.length_take_of_le (hl ▸ cP)
 refine ⟨names.take k, (names.drop k).take i, names.drop us.length, ds.take i, ds.drop i, ?_, (List.take_append_drop ..).symm, ?_, (List.length_take_of_le cP).trans h2.symm, ?_⟩
 ·rw [← hu, ← List.drop_drop, List.append_assoc, List.take_append_drop, List.take_append_drop]
 ·refine ae List.length_append ?_; refine ae h2 ?_; refine ae (List.length_take_of_le (hk ▸ Nat.le_add_left ..)) ?_; refine ae hu ?_; rfl
 ·rw [List.length_drop, List.length_drop, ← Nat.add_sub_add_right names.length i us.length, hi, Nat.add_sub_add_left]
theorem vd {n1 n3 : List Str} {us : List Value} (h1 : us.length = n1.length) : (n1 ++ n3).zip us = n1.zip us := by
 have := List.zip_append (l₁ := n1) (r₁ := n3) (l₂ := us) (r₂ := []) h1.symm
 rw [List.append_nil, List.zip_nil_right, List.append_nil] at this
 exact this
theorem ve {n1 n2 n3 : List Str} {us : List Value} (h1 : us.length = (n1 ++ n2).length) : (n1.filter fun n => (((n1 ++ n2 ++ n3).zip us).lookup n).isNone) = [] := by
 rw [List.filter_eq_nil_iff]
 intro n hn
 rw [Option.isNone_iff_eq_none, ← Option.not_isSome_iff_eq_none, lookup_isSome, vd h1, List.map_fst_zip (Nat.le_of_eq h1.symm), decide_eq_true (List.mem_append_left _ hn)]
 exact fun h => h rfl
theorem lI {M : Model} {A : Around} {E : Value → Shared → Prop} {s : Shared} {fd : FuncData} {names n1 n2 n3 : List Str} {us ds d2 d3 : List Value} {Q : List (Str × Value) → Shared → Prop}
 (hp : fd.params.posonlyargs = []) (hk : fd.params.kwonlyargs = []) (hv : fd.params.vararg = none) (hw : fd.params.kwarg = none) (hm : fd.params.args.map (·.arg) = names)
 (hn : names.Nodup) (en : names = n1 ++ n2 ++ n3) (ed : ds = d2 ++ d3) (h1 : us.length = (n1 ++ n2).length) (h2 : d2.length = n2.length) (h3 : d3.length = n3.length)
 (hD : ∀ Q' : Option (Array Value) → Shared → Prop, (∀ o : Option (Array Value), (o.getD #[]).toList = ds → Q' o s) → wpAny M A (seqItems? fd.defaults) Q' E s)
 (hq : Q (names.zip (us ++ d3)) s) : wpAny M A (bindArgs fd ⟨us, []⟩) Q E s := by
 have hl : ds.length = (n2 ++ n3).length := by refine ae ed ?_; refine ae List.length_append ?_; refine ae List.length_append ?_; refine ae h2 ?_; refine ae h3 ?_; rfl
 have hN : names.length = n1.length + ds.length := by rw [en, hl, List.append_assoc, List.length_append]
 have c0 : names.length - ds.length = n1.length := by rw [hN, Nat.add_sub_cancel]
 have c1 : (decide (us.length > names.length) && (none : Option Arg).isNone) = false := by
  refine ae (decide_eq_false (Nat.not_lt_of_le (by rw [h1, en, List.length_append (bs := n3)]; exact Nat.le_add_right ..))) ?_; rfl
 have c2 : ds.length - names.length = 0 := Nat.sub_eq_zero_of_le (hN ▸ Nat.le_add_left ..)
 have dn : names.drop n1.length = n2 ++ n3 := by rw [en, List.append_assoc, List.drop_left]
 have tn : names.take n1.length = n1 := by rw [en, List.append_assoc, List.take_left]
 have e1 : (n1.filter fun n => ((names.zip us).lookup n).isNone) = [] := by refine ae en ?_; exact ve h1
 have e2 : ((n2 ++ n3).zip ds).foldl fz (names.zip us) = names.zip (us ++ d3) := by
  refine ae en ?_; refine ae ed ?_; exact pP (en ▸ hn) h1 h2 h3
 have e3 : (names ++ []).filterMap (fun n => ((names.zip (us ++ d3)).lookup n).map (n, ·)) = names.zip (us ++ d3) := by
  rw [List.append_nil]
  exact pO hn (by refine ae en ?_; refine ae List.length_append ?_; refine ae (List.length_append (as := n1 ++ n2)) ?_; refine ae h1 ?_; refine ae h3 ?_; rfl) [] fun J J h => nomatch h
 have c3 : (!((names.take (names.length - (ds.drop (ds.length - names.length)).length)).filter fun n => ((names.zip us).lookup n).isNone).isEmpty) = false := by
  refine ae c2 ?_; refine ae List.drop_zero ?_; refine ae c0 ?_; refine ae tn ?_; refine ae e1 ?_; rfl
 have c4 : (forIn (m := Sem) ((names.drop (names.length - (ds.drop (ds.length - names.length)).length)).zip (ds.drop (ds.length - names.length))) (names.zip us) fun x r => if (r.lookup x.1).isNone = true then pure (.yield (r ++ [(x.1, x.2)])) else pure (.yield r)) = pure (names.zip (us ++ d3)) := by
  rw [c2, List.drop_zero, c0, dn, gK, e2]
 obtain ⟨fn, qn, ⟨po, ar, va, ko, kd, kw, dx⟩, bd, sc, gl, cl, df, kdf, doc, pm, an, co, ct⟩ := fd
 obtain rfl : po = [] := hp
 obtain rfl : ko = [] := hk
 obtain rfl : va = none := hv
 obtain rfl : kw = none := hw
 have hm : ar.map (·.arg) = names := hm
 delta bindArgs
 dsimp only
 refine ae hm ?_
 refine wpAny_bind (wpAny_pure ?_)
 refine wpAny_bind (hD _ fun o ho => ?_)
 refine ae ho ?_
 refine bm_if_false c1 ?_
 refine wpAny_bind (wpAny_pure ?_)
 refine bm_if_false c3 ?_
 refine wpAny_bind (wpAny_of_eq c4 ?_)
 refine wpAny_bind (wpAny_pure ?_)
 exact wpAny_of_eq (congrArg pure e3) hq
theorem je {M : Model} {A : Around} {E : Value → Shared → Prop} {s : Shared} {fd : FuncData} {names : List Str} {us ds : List Value} {Q : List (Str × Value) → Shared → Prop}
 (hp : fd.params.posonlyargs = []) (hk : fd.params.kwonlyargs = []) (hv : fd.params.vararg = none) (hw : fd.params.kwarg = none) (hm : fd.params.args.map (·.arg) = names)
 (hn : names.Nodup) (hle : us.length ≤ names.length) (Ck : names.length ≤ us.length + ds.length) (hd : ds.length ≤ names.length)
 (hD : ∀ Q' : Option (Array Value) → Shared → Prop, (∀ o : Option (Array Value), (o.getD #[]).toList = ds → Q' o s) → wpAny M A (seqItems? fd.defaults) Q' E s)
 (hq : Q (names.zip (us ++ ds.drop (us.length + ds.length - names.length))) s) : wpAny M A (bindArgs fd ⟨us, []⟩) Q E s := by
 refine (vc hle Ck hd).elim fun n1 aj => (aj).elim fun n2 ax => (ax).elim fun n3 aP => (aP).elim fun d2 bG => (bG).elim fun d3 dc => (dc).elim fun en ib => (ib).elim fun ed pQ => (pQ).elim fun h1 se => (se).elim fun h2 h3 => ?_
 refine lI hp hk hv hw hm hn en ed h1 h2 h3 hD ?_
 have e : us.length + ds.length - names.length = d2.length := by
  rw [en, ed, h1, List.length_append, List.length_append, List.length_append, List.length_append, h2, h3, Nat.add_comm n2.length n3.length, ← Nat.add_assoc, Nat.add_sub_cancel_left]
 rw [e, ed, List.drop_left] at hq
 exact hq
end aD
end
section
open PySem PySem.Calls PyProof.Rows PySem.W PySem.SeqAt PySem.Builtin
namespace aD
section
variable {prog : Program} {w : World} {A : Around} {s : Shared} {R : Result → Shared → Prop}
theorem sf {body : List Stmt} {env : Env}
 (h : bt (model prog w) (A.deeper env) (execs body env) (fun f s' => R (.ok (.ret (match f with | .ret v => v | _ => .none))) s') (fun e s' => bt (model prog w) (A.deeper env) (leaving env e) (fun J eB => R (.error e) eB) (fun e s' => R (.error e) s') s') s) :
 bj (model prog w) A (.func body env) R s := by
 refine aZ rfl ?_
 refine (?_ : bt _ (A.deeper env) (do point; match ← (execs body env).onRaise (leaving env) with | .ret v => ret v | _ => ret .none) _ _ s)
 refine aa (lZ (aa (aT (az h (fun f s' h' => ?_) fun J J h' => h'))))
 cases f <;> exact aq h'
theorem gd {a : Addr} {args : Args} {o : Obj} {fd : FuncData} {body : List Stmt} (xq : A.depth < recursionLimit)
 (ho : s.heap.get? a = some o)
 (B8 : o.data = .func fd) (He : fd.scope.isCoroutine = false) (Cm : fd.scope.isGenerator = false) (xr : fd.body = .stmts body) (Dn : s.heap.CodeRec fd.code fd.qualname)
 (h : wpAny (model prog w) A.in1 (bindArgs fd args) (fun binds aU =>
  wpAny (model prog w) A.in1 (newFunctionEnv fd.scope fd.globals fd.closure binds (fd.qualname ++ ".<locals>.") (some a) fd.code none fd.builtins)
   (fun env gf => gf.heap.NoLimit ∧ bj (model prog w) A (.func body env) R gf) (fun e s' => R (.error e) s') aU) (fun e s' => R (.error e) s') s) :
 bj (model prog w) A (.call (.ref a) args) R s := by
 refine cj rfl ?_
 refine (?_ : wpAny _ A.in1 (callAny (.ref a) args) _ _ s)
 refine (Dn).elim fun c aj => (aj).elim fun oc ax => (ax).elim fun vs aP => (aP).elim fun tq bG => (bG).elim fun hc dc => (dc).elim fun Hf ib => (ib).elim fun Hg hq => ?_
 refine nd_load ho ?_
 obtain ⟨k1, k2, k3, k4⟩ := o
 obtain rfl : k3 = .func fd := B8
 refine (?_ : wpAny _ A.in1 (callFunction a fd args) _ _ s)
 delta callFunction
 refine ae hc ?_; refine ae xr ?_; refine ae Cm ?_; refine ae He ?_
 rw [hc] at h
 refine wpAny_bind (m := field (.ref c) 1) (wpAny_field Hf Hg hq (wpAny_bind (wpAny_pure ?_)))
 exact wpAny_bind (wpAny_mono h (fun binds aU bZ => wpAny_bind (wpAny_mono bZ (fun env gf xt => wpAny_bind (wpAny_enterFrame xt.1 xq
  (wpAny_pure (And.intro rfl xt.2)))) fun J J h' => h')) fun J J h' => h')
end
section
variable {Z : aL} {L : Nat} {cs : Fm} {c c' : Cfg} {A : AS} {s s' : Shared}
theorem Hp.adopt (H : Hp Z c A s) {o : aw} {p : Nat} (hp : Has s.heap p) (hb : Z.h₀.get? p = none) (hn : ∀ i, i < c.n → p ≠ (c.σ i).1 ∧ p ≠ (c.σ i).2) (ho : br Z (c.push (p, p)) s.heap c.n o) :
 Hp Z (c.push (p, p)) (A.alloc o).2 s where
 base := H.base
 gens := H.gens
 os := H.os
 n := congrArg Nat.succ H.n
 nv := H.nv
 vars := H.vars
 objs := fun i ob e => by
  have e : (A.heap.put A.n o).get i = some ob := e
  rw [Tr.ba] at e
  by_cases q : i = A.n
  ·subst q
   rw [if_pos rfl] at e
   obtain rfl := aO e; refine bK H.n ?_; exact ho
  ·rw [if_neg q] at e
   exact (H.objs i ob e).keep (c.aJ _) (H.lt i ob e) (fun J r J => r) (fun J r J => r) (a6.of fun J J e => e).l
 lt := fun i ob e => by
  have e : (A.heap.put A.n o).get i = some ob := e
  rw [Tr.ba] at e
  by_cases q : i = A.n
  ·subst q; refine bK H.n ?_; exact Nat.lt_succ_self _
  ·rw [if_neg q] at e; exact Nat.lt_succ_of_lt (H.lt i ob e)
 lo := fun i hi => by
  by_cases q : i = c.n
  ·subst q; rw [c.aI]; exact ⟨hb, hb⟩
  ·have cP : i < c.n := Nat.lt_of_le_of_ne (Nat.le_of_lt_succ hi) q
   refine ae ((c.aJ _).σ i cP) ?_; exact H.lo i cP
 up := fun i hi => by
  by_cases q : i = c.n
  ·subst q; rw [c.aI]; exact ⟨hp, hp⟩
  ·have cP : i < c.n := Nat.lt_of_le_of_ne (Nat.le_of_lt_succ hi) q
   refine ae ((c.aJ _).σ i cP) ?_; exact H.up i cP
 apart := fun i j hi hj wW => by
  have Ky : i < c.n + 1 := hi
  have Mr : j < c.n + 1 := hj
  by_cases q : i = c.n
  ·by_cases r : j = c.n
   ·exact absurd (q.trans r.symm) wW
   ·have wX : j < c.n := by omega
    subst q
    rw [c.aI, (c.aJ _).σ j wX]
    have := hn j wX
    exact ⟨this.1, this.2, this.1, this.2⟩
  ·have cP : i < c.n := by omega
   refine ae ((c.aJ _).σ i cP) ?_
   by_cases r : j = c.n
   ·subst r
    rw [c.aI]
    have := hn i cP
    exact ⟨this.1.symm, this.1.symm, this.2.symm, this.2.symm⟩
   ·have wX : j < c.n := by omega
    refine ae ((c.aJ _).σ j wX) ?_
    exact H.apart i j cP wX wW
theorem Le.adopt (x : Le Z L c s c' s') {p : Nat} (hp : s.heap.get? p = none) : Le Z L c s (c'.push (p, p)) s' where
 n := Nat.le_succ_of_le x.n
 nv := x.nv
 σ := fun i h => ((c'.aJ _).σ i (Nat.lt_of_lt_of_le h x.n)).trans (x.σ i h)
 ρ := x.ρ
 ck := x.ck
 old := x.old
 keep := x.keep
 new := fun i h1 h2 => by
  by_cases q : i = c'.n
  ·subst q; rw [c'.aI]; exact ⟨hp, hp⟩
  ·have : i < c'.n + 1 := h2
   have cP : i < c'.n := by omega
   refine ae ((c'.aJ _).σ i cP) ?_; exact x.new i h1 cP
end
structure KO (K : Frag) (nm : Nat → Str) (fn : Fn) (fd : FuncData) (body : List Stmt) : Prop where
 glob : fd.globals = mainGlobals
 xu : fd.closure = []
 blt : fd.builtins = builtinsNs
 MH : fd.body = .stmts body
 code : codeIn K fd.code fd.qualname = true
 co : fd.scope.isCoroutine = false
 gen : fd.scope.isGenerator = false
 kind : fd.scope.kind = .function
 po : fd.params.posonlyargs = []
 ko : fd.params.kwonlyargs = []
 va : fd.params.vararg = none
 kw : fd.params.kwarg = none
 names : fd.params.args.map (·.arg) = fn.params.map nm
 ps : ∀ p ∈ fn.params, (fn.cells.contains p = false ∧ fd.scope.names.lookup (nm p) = some .local) ∨ (fn.cells.contains p = true ∧ fd.scope.names.lookup (nm p) = some .cell)
 cl : ∀ p ∈ fn.cells, fd.scope.names.lookup (nm p) = some .cell
 free : ∀ n, fd.scope.names.lookup n ≠ some .free
 df : (fd.defaults = .none ∧ fn.dflts = []) ∨ ∃ T o xs n, fd.defaults = .ref T ∧ K.lookup T = some o ∧ o.data = .seq xs n ∧ ∀ c, aS (VR c) fn.dflts xs.toList
 nd : fn.params.Nodup
 MI : fn.cells.Nodup
 dl : fn.dflts.length ≤ fn.params.length
structure iQ (Z : aL) (a : Nat) (fn : Fn) : Prop where
 ex : ∃ (oc : Value) (od : Option Addr) (u9 : Array (Option Value)) (fd : FuncData) (body : List Stmt) (m : Nat),
  Z.K.lookup a = some ⟨oc, od, .func fd, u9⟩ ∧ encL (cG Z.nm m fd.scope.names) fn.body body = true ∧ KO Z.K Z.nm fn fd body ∧ (fO fd.scope.names = true → rB Z fd.code)
theorem sh {ds : List V} {ps : List Nat} {as : List V} {binds : List (Nat × V)} (h : fj ps ps.length ds as = some binds) :
 as.length ≤ ps.length ∧ ps.length ≤ as.length + ds.length ∧ binds = ps.zip (as ++ ds.drop (as.length + ds.length - ps.length)) := by
 induction ps generalizing as binds with
 | nil => cases as with
  | nil => obtain rfl := aO h; exact ⟨Nat.le_refl _, Nat.zero_le _, rfl⟩
  | cons => exact no h
 | cons p ps ih => cases as with
  | cons a as =>
   obtain ⟨b, hb, rfl⟩ := Kk (f := fun l => (p, a) :: l) (o := fj ps ps.length ds as) h
   obtain ⟨h1, h2, h3⟩ := ih hb
   refine ⟨Nat.succ_le_succ h1, by rw [List.length_cons, List.length_cons, Nat.add_right_comm]; exact Nat.succ_le_succ h2, ?_⟩
   refine ae h3 ?_; refine ae (show (a :: as).length + ds.length - (p :: ps).length = as.length + ds.length - ps.length by rw [List.length_cons, List.length_cons, Nat.add_right_comm, Nat.add_sub_add_right]) ?_
   rfl
  | nil =>
   by_cases hle : (p :: ps).length ≤ ds.length
   ·obtain ⟨d, hd, h⟩ := gc ((if_pos hle).symm.trans h)
    obtain ⟨b, hb, rfl⟩ := Dw h
    obtain ⟨h1, h2, h3⟩ := ih hb
    refine (yH hd).elim fun fh hd => ?_
    refine ⟨Nat.zero_le _, (Nat.zero_add _).symm ▸ hle, ?_⟩
    rw [h3, List.nil_append, List.nil_append, List.length_nil, Nat.zero_add, List.drop_eq_getElem_cons fh, hd, List.length_cons, ← Nat.sub_sub, Nat.sub_add_cancel (Nat.le_sub_of_add_le (Nat.add_comm 1 _ ▸ hle))]
    rfl
   ·exact no ((if_neg hle).symm.trans h)
def Em (Z : aL) (c : Cfg) (x : Nat × V) (y : Str × Value) : Prop := y.1 = Z.nm x.1 ∧ VR c x.2 y.2
section
variable {Z : aL} {L : Nat} {cs : Fm} {Ar : Around} {c c' : Cfg} {A : AS} {s s' : Shared}
theorem mG : ∀ {ps : List Nat} {vs : List V} {us : List Value}, dq c vs us → aS (Em Z c) (ps.zip vs) ((ps.map Z.nm).zip us)
 | [], _, _, _ => by refine ae List.zip_nil_left ?_; exact .nil
 | _ :: _, _, _, .nil => .nil
 | p :: ps, _, _, .cons h r => .cons ⟨rfl, h⟩ (mG r)
theorem jf {kf : Str → Option NameKind} {n : Str} : ∀ {b : List (Str × Value)} {m : Str → Option Value}, n ∉ b.map (·.1) → bindL kf b m n = m n
 | [], _, _ => rfl
 | x :: r, m, h => by
  obtain ⟨k, v⟩ := x
  rw [List.map_cons, List.mem_cons, not_or] at h
  refine ae (jf h.2) ?_
  split
  ·exact if_neg h.1
  ·rfl
theorem jg {kf : Str → Option NameKind} {n : Str} : ∀ {b : List (Str × Value)} {m : Str → Option Value}, n ∉ b.map (·.1) → bindC kf b m n = m n
 | [], _, _ => rfl
 | x :: r, m, h => by
  obtain ⟨k, v⟩ := x
  rw [List.map_cons, List.mem_cons, not_or] at h
  refine ae (jg h.2) ?_
  split
  ·rfl
  ·exact if_neg h.1
theorem pR {ab : List (Nat × V)} {b : List (Str × Value)} (h : aS (Em Z c) ab b) : b.map (·.1) = ab.map fun x => Z.nm x.1 := by
 induction h with
 | nil => rfl
 | cons r _ ih => (refine ae List.map_cons ?_; refine ae List.map_cons ?_; refine ae ih ?_; refine ae r.1 ?_; rfl)
theorem kA (inj : ∀ x y, Z.nm x = Z.nm y → x = y) {kf : Str → Option NameKind} {x : Nat} {v : V} : ∀ {ab : List (Nat × V)} {b : List (Str × Value)} {m : Str → Option Value}, aS (Em Z c) ab b → (ab.map (·.1)).Nodup → af x ab = some v →
 kf (Z.nm x) = some .local → ∃ u, bindL kf b m (Z.nm x) = some u ∧ VR c v u
 | [], _, _, _, _, h, _ => no h
 | p :: l, _, m, r, nd, h, hk => by
  obtain ⟨⟨k, u⟩, l', rfl, r, t⟩ := r.cons_inv
  rw [List.map_cons, List.nodup_cons] at nd
  rw [aK] at h
  dsimp only [bindL]
  by_cases e : p.1 = x
  ·rw [if_pos e] at h
   obtain rfl := aO h
   have hn : Z.nm x ∉ l'.map (·.1) := by
    refine ae (pR t) ?_
    intro hm
    refine (yN hm).elim fun y aj => (aj).elim fun hy ey => ?_
    have := inj _ _ ey
    exact nd.1 (e ▸ this ▸ List.mem_map_of_mem hy)
   have ek : k = Z.nm x := by refine bK e ?_; exact r.1
   refine ae (jf hn) ?_; refine ae ek ?_; refine ae (if_pos hk) ?_
   exact ⟨u, if_pos rfl, r.2⟩
  ·rw [if_neg e] at h
   exact kA inj t nd.2 h hk
theorem kB (inj : ∀ x y, Z.nm x = Z.nm y → x = y) {kf : Str → Option NameKind} {x : Nat} (hk : kf (Z.nm x) ≠ some .local) : ∀ {ab : List (Nat × V)} {b : List (Str × Value)} {m : Str → Option Value}, m (Z.nm x) = none → aS (Em Z c) ab b → (ab.map (·.1)).Nodup →
 yZ c (af x ab) (bindC kf b m (Z.nm x))
 | [], _, m, hm, r, _ => by obtain rfl := r.nil_inv; refine (?_ : yZ c none (m (Z.nm x))); refine ae hm ?_; trivial
 | p :: l, _, m, hm, r, nd => by
  obtain ⟨⟨k, u⟩, l', rfl, r, t⟩ := r.cons_inv
  rw [List.map_cons, List.nodup_cons] at nd
  rw [aK]
  dsimp only [bindC]
  have ek : k = Z.nm p.1 := r.1
  by_cases e : p.1 = x
  ·have hn : Z.nm x ∉ l'.map (·.1) := by
    refine ae (pR t) ?_
    intro hm
    refine (yN hm).elim fun y aj => (aj).elim fun hy ey => ?_
    have := inj _ _ ey
    exact nd.1 (e ▸ this ▸ List.mem_map_of_mem hy)
   refine ae (if_pos e) ?_
   have ek : k = Z.nm x := by refine bK e ?_; exact r.1
   rw [jg hn, ek, if_neg hk, if_pos rfl]
   exact r.2
  ·refine ae (if_neg e) ?_
   refine kB inj hk ?_ t nd.2
   split
   ·exact hm
   ·exact (if_neg fun z => e (inj _ _ (ek ▸ z)).symm).trans hm
theorem a8 {n : Str} : ∀ {names : List (Str × NameKind)} {lo : Nat} {acc : List (Str × Addr)}, (names.lookup n = some .cell ∨ (acc.lookup n).isSome = true) → ((cellsFrom lo names acc).lookup n).isSome = true
 | [], _, _, h => by
  rcases h with h | h
  ·cases h
  ·exact h
 | (k, kind) :: r, lo, acc, h => by
  dsimp only [cellsFrom]
  by_cases e : n = k
  ·subst e
   rcases h with h | h
   ·rw [List.lookup_cons, beq_self_eq_true] at h
    obtain rfl := aO h
    refine ae (if_pos (by decide)) ?_
    exact a8 (.inr (by rw [List.lookup_cons, beq_self_eq_true]; rfl))
   ·split
    ·exact a8 (.inr (by rw [List.lookup_cons, beq_self_eq_true]; rfl))
    ·exact a8 (.inr h)
  ·have h' : r.lookup n = some .cell ∨ (acc.lookup n).isSome = true := by
    rcases h with h | h
    ·rw [List.lookup_cons, wm e] at h; exact .inl h
    ·exact .inr h
   split
   ·refine a8 (h'.imp id fun q => ?_)
    refine ae List.lookup_cons ?_; refine ae (wm e) ?_; exact q
   ·exact a8 h'
set_option tactic.hygienic true in
theorem eP {x : Nat} {v : V} {f : Nat → Bool} : ∀ {l : List (Nat × V)}, af x (l.filter fun b => f b.1) = some v → af x l = some v ∧ f x = true
 | [], h => by cases h
 | p :: r, h => by
  rw [List.filter_cons] at h
  rw [aK]
  split at h
  ·rename_i hf
   rw [aK] at h
   by_cases e : p.1 = x
   ·rw [if_pos e] at h ⊢
    exact ⟨h, e ▸ hf⟩
   ·rw [if_neg e] at h ⊢
    exact eP h
  ·rename_i hf
   refine (eP h).elim fun h1 h2 => ?_
   by_cases e : p.1 = x
   ·exact absurd (e ▸ h2) hf
   ·refine ae (if_neg e) ?_
    exact ⟨h1, h2⟩
theorem jh {H₀' : Cfg} {H₀ : Shared} {ab : List (Nat × V)} {ec : List (Str × Addr)} {cm : Str → Option Value} (FL : ec.Pairwise fun x y => x.2 ≠ y.2) (Bg : ∀ n a, ec.lookup n = some a → s'.heap.IsCell a (cm n))
 (xv : ∀ n a, ec.lookup n = some a → H₀.heap.get? a = none) (kC : ∀ b o, Z.h₀.get? b = some o → H₀.heap.get? b = some o) (inj : ∀ x y, Z.nm x = Z.nm y → x = y) :
 ∀ {cl : List Nat} {c₀ c : Cfg} {A : AS}, cl.Nodup → (∀ x ∈ cl, (ec.lookup (Z.nm x)).isSome = true) → (∀ x ∈ cl, ∀ c', bu c₀ c' → yZ c' (af x ab) (cm (Z.nm x))) → bu c₀ c → Hp Z c A s' → Le Z L H₀' H₀ c s' →
  (∀ x ∈ cl, ∀ a, ec.lookup (Z.nm x) = some a → ∀ i, i < c.n → a ≠ (c.σ i).1 ∧ a ≠ (c.σ i).2) →
  ∃ c', Hp Z c' (bV ab cl A).1 s' ∧ Le Z L H₀' H₀ c' s' ∧ bu c c' ∧ (∀ x i, af x (bV ab cl A).2 = some i → i < c'.n ∧ ec.lookup (Z.nm x) = some (c'.σ i).1) ∧
   (∀ i, i < c'.n → i < c.n ∨ ∃ x, ec.lookup (Z.nm x) = some (c'.σ i).1 ∧ (c'.σ i).2 = (c'.σ i).1)
 | [], c₀, c, A, _, _, _, _, H, le, _ => ⟨c, H, le, bu.refl c, (fun J J h => by cases h), fun i hi => .inl hi⟩
 | x :: cl, c₀, c, A, nd, hs, hv, g, H, le, ej => by
  rw [List.nodup_cons] at nd
  refine (Option.isSome_iff_exists.mp (hs x (.head _))).elim fun a ha => ?_
  have hc := Bg _ _ ha
  have nI := xv _ _ ha
  have hb : Z.h₀.get? a = none := by
   cases e : Z.h₀.get? a with
   | none => rfl
   | some o => have := kC _ _ e; rw [nI] at this; cases this
  have Hh : Has s'.heap a := by refine (hc).elim fun o aj => (aj).elim fun h _ => ?_; exact ⟨o, h⟩
  have gp := c.aJ (a, a)
  have H1 := H.adopt (o := .cell (af x ab)) Hh hb (ej x (.head _) a ha) (by
   refine ⟨cm (Z.nm x), ?_, hv x (.head _) _ (g.trans gp)⟩
   rw [c.aI]; exact hc)
  refine (jh (A := (A.alloc (.cell (af x ab))).2) FL Bg xv kC inj nd.2 (fun y hy => hs y (.tail _ hy)) (fun y hy => hv y (.tail _ hy)) (g.trans gp) H1 (le.adopt nI) (fun y hy b qY i hi => by
   have hi : i < c.n + 1 := hi
   by_cases q : i = c.n
   ·subst q
    rw [c.aI]
    have rG : b ≠ a := fun e => by
     have := name_of_addr FL (mem_of_lookup qY) (e ▸ mem_of_lookup ha)
     exact nd.1 (inj _ _ this ▸ hy)
    exact ⟨rG, rG⟩
   ·refine ae (gp.σ i (by omega)) ?_
    exact ej y (.tail _ hy) b qY i (by omega))).elim fun c' aj => (aj).elim fun q1 ax => (ax).elim fun q2 aP => (aP).elim fun q3 bG => (bG).elim fun q4 q5 => ?_
  refine ⟨c', q1, q2, gp.trans q3, fun y i h => ?_, fun i hi => ?_⟩
  ·have h : af y ((x, A.n) :: (bV ab cl (A.alloc (.cell (af x ab))).2).2) = some i := h
   rw [aK] at h
   by_cases e : x = y
   ·subst e
    rw [if_pos rfl] at h
    obtain rfl := aO h
    have fh : A.n < c'.n := Nat.lt_of_lt_of_le (by refine bK H.n ?_; exact Nat.lt_succ_self _) q3.n
    refine ⟨fh, ?_⟩
    rw [q3.σ A.n (by rw [← H.n]; exact Nat.lt_succ_self _), ← H.n, c.aI]; exact ha
   ·rw [if_neg e] at h
    exact q4 y i h
  ·rcases q5 i hi with h | h
   ·have h : i < c.n + 1 := h
    by_cases q : i = c.n
    ·subst q
     refine .inr ⟨x, ?_⟩
     rw [q3.σ c.n (Nat.lt_succ_self _), c.aI]; exact ⟨ha, rfl⟩
    ·exact .inl (by omega)
   ·exact .inr h
end
end aD
end
section
open PySem PySem.Calls PyProof.Rows PySem.W PySem.SeqAt PySem.Builtin
set_option maxRecDepth 100000
namespace aD
structure xw (Z : aL) : Prop where
 run : ∀ a, Z.Γ.take = some a → ∀ {Ar : Around} {L cs c A s} {as : List V} {us : List Value}, Room 20 Ar cs → St Z L cs c A s → dq c as us → au Z L cs Ar (call (.ref a) us) VR (tx as A) c s
structure tP (Z : aL) : Prop where
 fn : ∀ a fn, cu a Z.Γ.fns = some fn → iQ Z a fn
 take : xw Z
 Bh : ∀ a, Z.Γ.take = some a → fnIn Z.K a = true
section
variable {Z : aL} {n : Nat} {ih : bM} {L : Nat} {cs : Fm} {Ar : Around} {c c' : Cfg} {A : AS} {s s' : Shared}
def vf (n : Nat) (Ar : Around) (cs : Fm) : Prop := Ar.depth + 1 + 2 * n < recursionLimit ∧ Ar.units + 3 + 8 * n + 64 < cLine ∧ Ar.handled = cs.hd.map Value.ref ∧ Ar.frames = some cs.frs ∧ ∀ e ∈ cs.frs, e.scope.kind ≠ .module ∧ ∃ b, e.frame = some b
theorem Room.deep (h : Room (n + 1) Ar cs) : vf n Ar cs := ⟨by have := h.1; omega, by have := h.2.1; omega, h.2.2⟩
theorem vf.deeper {env : Env} {cl : List (Nat × Nat)} (h : vf n Ar cs) (h1 : env.scope.kind ≠ .module) (h2 : ∃ b, env.frame = some b) : Room n (Ar.deeper env) ⟨cl, cs.hd, env :: cs.frs⟩ :=
 ⟨h.1, h.2.1, h.2.2.1, by refine (?_ : Ar.frames.map _ = _); refine ae h.2.2.2.1 ?_; rfl, fun e he => by
  rcases ff he with rfl | he
  ·exact ⟨h1, h2⟩
  ·exact h.2.2.2.2 e he⟩
theorem back_mem {α β : Type} {f : α → β} {a : α} {A' : AS} : ∀ {l : List (Except Nat α × AS)}, (Except.ok a, A') ∈ l → (Except.ok (f a), { A' with locs := A.locs, cells := A.cells }) ∈ back A f l
 | (r, B) :: l, h => by
  rcases ff h with e | h
  ·cases e; exact .head _
  ·exact .tail _ (back_mem h)
theorem pS {α β : Type} {f : α → β} {i : Nat} {A' : AS} : ∀ {l : List (Except Nat α × AS)}, (Except.error i, A') ∈ l → (Except.error i, { A' with locs := A.locs, cells := A.cells }) ∈ back A f l
 | (r, B) :: l, h => by
  rcases ff h with e | h
  ·cases e; exact .head _
  ·exact .tail _ (pS h)
theorem iR {α β : Type} {f : α → β} {a : α} {A' : AS} {l : bC α} (h : (Except.ok a, A') ∈ l.list) : (Except.ok (f a), { A' with locs := A.locs, cells := A.cells }) ∈ (eE A f l).list := by
 cases l with
 | one b B => cases msg h; exact .head _
 | many l => exact back_mem h
theorem mH {α β : Type} {f : α → β} {i : Nat} {A' : AS} {l : bC α} (h : (Except.error i, A') ∈ l.list) : (Except.error i, { A' with locs := A.locs, cells := A.cells }) ∈ (eE A f l).list := by
 cases l with
 | one b B => cases msg h
 | many l => exact pS h
theorem Le.re {c₁ : Cfg} {aU : Shared} {L' : Nat} (x : Le Z L' c s c₁ aU) (hL : s.heap.get? L' = none) : Le Z L c s c₁ aU :=
 ⟨x.n, x.nv, x.σ, x.ρ, x.ck, x.old, fun b o e J hn => x.keep b o e (Has.ne ⟨o, e⟩ hL) hn, x.new⟩
theorem Hp.re {B : AS} (H : Hp Z c A s) (h1 : B.heap = A.heap) (h2 : B.vars = A.vars) (h3 : B.n = A.n) : Hp Z c B s :=
 ⟨H.base, H.gens, H.os, by refine ae h3 ?_; exact H.n, by refine ae h2 ?_; exact H.nv, by refine ae h2 ?_; exact H.vars, by refine ae h1 ?_; exact H.objs, by refine ae h1 ?_; exact H.lt, H.lo, H.up, H.apart⟩
theorem Ns.stays {h h' : Heap} {a : Addr} {m : Str → Option Value} (x : h.Ns a m) (k : ∀ o, h.get? a = some o → ∃ o', h'.get? a = some o' ∧ gZ o o') : h'.Ns a m := by
 obtain ⟨o, es, ep, h1, h2, h3⟩ := x
 obtain ⟨o', e', w⟩ := k o h1
 rcases w with rfl | ⟨_, sl, rfl⟩ | ⟨t, _⟩
 ·exact ⟨_, es, ep, e', h2, h3⟩
 ·exact ⟨_, es, ep, e', h2, h3⟩
 ·exact (t.notDict ⟨es, ep, h2⟩).elim
theorem St.back {L' : Nat} {Ca : Fm} {A' : AS} (H : St Z L cs c A s) (x : Le Z L' c s c' s') (hL : s.heap.get? L' = none) (hh : Ca.hd = cs.hd) (H' : St Z L' Ca c' A' s') : St Z L cs c' { A' with locs := A.locs, cells := A.cells } s' := by
 have le : Le Z L c s c' s' := x.re hL
 have hk : ∀ o, s.heap.get? L = some o → ∃ o', s'.heap.get? L = some o' ∧ gZ o o' := fun o e => x.keep L o e (Has.ne ⟨o, e⟩ hL) H.off
 refine (H.ns).elim fun m aj => (aj).elim fun h1 h2 => ?_
 have n' := Ns.stays h1 hk
 refine ⟨H'.toHp.re rfl rfl rfl, ⟨H.oS, x.ck.has H.bw, fun i hi => ?_, m, n', fun y v e => by refine (h2 y v e).elim fun u aj => (aj).elim fun h3 h4 => ?_; exact ⟨u, h3, h4.mono x.grown⟩⟩, H.cells, hh ▸ H'.hd, fun b hb => (H.outs b hb).le le (Ns.data n'), H'.tabs⟩
 by_cases q : i < c.n
 ·refine ae (x.σ i q) ?_; exact H.off i q
 ·have := x.new i (Nat.le_of_not_lt q) hi
  exact ⟨H.bw.ne this.1, H.bw.ne this.2⟩
theorem mI {y : Nat} {v : V} : ∀ {ab : List (Nat × V)}, af y ab = some v → y ∈ ab.map (·.1)
 | [], h => by cases h
 | p :: r, h => by
  rw [aK] at h
  by_cases e : p.1 = y
  ·refine ae List.map_cons ?_; refine ae e ?_; exact .head _
  ·rw [if_neg e] at h
   exact .tail _ (mI h)
theorem kD {b : List (Nat × V)} : ∀ {l : List Nat} {A : AS}, (bV b l A).1.hd = A.hd
 | [], _ => rfl
 | _ :: l, _ => kD (l := l)
theorem kF (G : Z.Glob) (hd : Ar.depth < recursionLimit) (H : Hp Z c A s) {hx : Option Nat} {frs : List Env} (Ed : De c s.heap A.hd hx) (nI : ∀ b ∈ frs.filterMap (·.frame), uq Z c s b) (En : ∀ P ∈ Z.tabs, TabAt s.heap P) {a : Nat} {fn : Fn} (F : iQ Z a fn) {as : List V} {us : List Value} (r : dq c as us) {ab : List (Nat × V)} (tM : fj fn.params fn.params.length fn.dflts as = some ab) {R : Result → Shared → Prop}
 (k : ∀ {env aU c₁ m sc body}, encL (cG Z.nm m sc) fn.body body = true → env.scope.kind ≠ .module → env.frame = some s.heap.objs.size → Le Z s.heap.objs.size c s c₁ aU →
  St Z s.heap.objs.size ⟨(bV ab fn.cells A).2, hx, env :: frs⟩ c₁ { (bV ab fn.cells A).1 with locs := ab.filter fun b => !fn.cells.contains b.1, cells := (bV ab fn.cells A).2 } aU → aR Z sc c₁ s.heap.objs.size ⟨(bV ab fn.cells A).2, hx, env :: frs⟩ env →
  bt Z.M (Ar.deeper env) (execs body env) (fun f s' => R (.ok (.ret (match f with | .ret v => v | _ => .none))) s') (fun e s' => bt Z.M (Ar.deeper env) (leaving env e) (fun J eB => R (.error e) eB) (fun e s' => R (.error e) s') s') aU) :
 bj Z.M Ar (.call (.ref a) ⟨us, []⟩) R s := by
 refine (F.ex).elim fun oc aj => (aj).elim fun od ax => (ax).elim fun u9 aP => (aP).elim fun fd bG => (bG).elim fun body dc => (dc).elim fun m ib => (ib).elim fun k1 pQ => (pQ).elim fun k3 se => (se).elim fun D CO => ?_
 obtain ⟨b1, b2, b3⟩ := sh tM
 have X := G.k.keeps H.base
 have hlen : us.length = as.length := r.length.symm
 -- the defaults
 obtain ⟨ds, MJ, Hi, hD⟩ : ∃ ds : List Value, aS (VR c) fn.dflts ds ∧ ds.length = fn.dflts.length ∧ ∀ Q' : Option (Array Value) → Shared → Prop, (∀ o : Option (Array Value), (o.getD #[]).toList = ds → Q' o s) → ∀ E, wpAny Z.M Ar.in1 (seqItems? fd.defaults) Q' E s := by
  rcases D.df with ⟨Hj, KP⟩ | ⟨T, o, xs, nn, Hj, hT, hx, Cn⟩
  ·refine ⟨[], by refine ae KP ?_; exact .nil, by refine ae KP ?_; rfl, fun Q' q E => ?_⟩
   refine ae Hj ?_
   exact wpAny_bind (wpAny_pure (wpAny_pure (q none rfl)))
  ·refine ⟨xs.toList, Cn c, (Cn c).length.symm, fun Q' q E => ?_⟩
   refine ae Hj ?_
   exact wpAny_bind (wpAny_load (X _ _ hT) (by refine ae hx ?_; exact wpAny_pure (q (some xs) rfl)))
 have rel : aS (Em Z c) ab ((fn.params.map Z.nm).zip (us ++ ds.drop (us.length + ds.length - (fn.params.map Z.nm).length))) := by
  rw [b3, List.length_map, hlen, Hi]
  exact mG (aS.append r (MJ.drop _))
 have Bj : ab.map (·.1) = fn.params := by
  refine ae b3 ?_
  refine List.map_fst_zip ?_
  refine ae List.length_append ?_; refine ae List.length_drop ?_; omega
 refine gd hd (X _ _ k1) rfl D.co D.gen D.MH (codeRec_of X D.code) ?_
 refine je (names := fn.params.map Z.nm) (ds := ds) D.po D.ko D.va D.kw D.names ?_ ?_ ?_ ?_ (fun Q' q => hD Q' q _) ?_
 ·exact List.pairwise_map.mpr (D.nd.imp fun h e => h (G.inj _ _ e))
 ·rw [List.length_map, hlen]; exact b1
 ·rw [List.length_map, hlen, Hi]; exact b2
 ·rw [List.length_map, Hi]; exact D.dl
 have kinds : ∀ y ∈ (fn.params.map Z.nm).zip (us ++ ds.drop (us.length + ds.length - (fn.params.map Z.nm).length)), fd.scope.names.lookup y.1 = some .local ∨ (fd.scope.names.lookup y.1 = some .cell ∧ ((cellsFrom (s.heap.objs.size + 1) fd.scope.names []).lookup y.1).isSome = true) := fun y hy => by
  have hy := (List.of_mem_zip hy).1
  refine (yN hy).elim fun p aj => (aj).elim fun hp MK => ?_
  refine bK MK ?_
  rcases D.ps p hp with h | h
  ·exact .inl h.2
  ·exact .inr ⟨h.2, a8 (.inl h.2)⟩
 refine ae D.glob ?_; refine ae D.xu ?_; refine ae D.blt ?_
 refine wpAny_newFunctionEnv_cells D.kind kinds fun env he aU x => ?_
 subst he
 have hk := x.toInCall.keep
 refine ⟨G.lim.keeps (fun b o e => hk b o (H.base b o e)), sf ?_⟩
 refine (x.toInCall.same).elim fun h1 aj => (aj).elim fun tk FN => ?_
 have hg : aU.gens = s.gens := by refine ae FN ?_; rfl
 have oU : aU.os = s.os := by refine ae FN ?_; rfl
 have lJ : s.heap.get? s.heap.objs.size = none := get_size _
 have zB : Le Z s.heap.objs.size c s c aU := Le.bk hk
 have Co : Z.h₀.get? s.heap.objs.size = none := by
  cases e : Z.h₀.get? s.heap.objs.size with
  | none => rfl
  | some o => have := H.base _ _ e; rw [lJ] at this; cases this
 have H0 : Hp Z c A aU := H.still (L := s.heap.objs.size) (fun b o e J => hk b o e) (a6.of hk) (hg.trans H.gens) oU Co fun i hi => ⟨((H.up i hi).1.ne lJ).symm, ((H.up i hi).2.ne lJ).symm⟩
 have above : ∀ n a, (cellsFrom (s.heap.objs.size + 1) fd.scope.names []).lookup n = some a → s.heap.objs.size < a := fun n a h => x.above n a (mem_of_lookup h)
 have fresh : ∀ n a, (cellsFrom (s.heap.objs.size + 1) fd.scope.names []).lookup n = some a → s.heap.get? a = none := fun n a h => by
  cases e : s.heap.get? a with
  | none => rfl
  | some o => exact absurd (Nat.lt_trans (above n a h) (Heap.lt_size e)) (Nat.lt_irrefl _)
 have KQ : (ab.map (·.1)).Nodup := by refine ae Bj ?_; exact D.nd
 refine (jh (L := s.heap.objs.size) (H₀' := c) (H₀ := s) (ab := ab) x.apart x.cell fresh H.base G.inj (c₀ := c) (c := c) (A := A) D.MI (fun y hy => a8 (.inl (D.cl y hy)))
  (fun y hy c' g => (kB G.inj (by refine (?_ : fd.scope.names.lookup (Z.nm y) ≠ _); refine ae (D.cl y hy) ?_; decide) rfl rel KQ).mono g) (bu.refl c) H0 zB
  (fun y hy b hb i hi => ⟨((H.up i hi).1.ne (fresh _ b hb)).symm, ((H.up i hi).2.ne (fresh _ b hb)).symm⟩)).elim fun c₁ aj => (aj).elim fun q1 ax => (ax).elim fun q2 aP => (aP).elim fun q3 bG => (bG).elim fun q4 q5 => ?_
 have ej : ∀ i, i < c₁.n → s.heap.objs.size ≠ (c₁.σ i).1 ∧ s.heap.objs.size ≠ (c₁.σ i).2 := fun i hi => by
  rcases q5 i hi with h | ⟨y, h2, h3⟩
  ·refine ae (q3.σ i h) ?_
   exact ⟨((H.up i h).1.ne lJ).symm, ((H.up i h).2.ne lJ).symm⟩
  ·refine ae h3 ?_
   exact ⟨Nat.ne_of_lt (above _ _ h2), Nat.ne_of_lt (above _ _ h2)⟩
 refine k k3 (by skip; refine ae D.kind ?_; decide) rfl q2 ⟨q1.re rfl rfl rfl, ⟨Co, Ns.has x.toInCall.ns, ej, _, x.toInCall.ns, fun y v hv => ?_⟩, rfl, (show De c₁ aU.heap (bV ab fn.cells A).1.hd hx by rw [kD]; exact Ed.le q2), fun b hb => ?_, fun P m => (En P m).ck q2.ck⟩ ?_
 ·refine (eP (f := fun b => !fn.cells.contains b) hv).elim fun h1 h2 => ?_
  have Hk : fd.scope.names.lookup (Z.nm y) = some .local := by
   have hy : y ∈ fn.params := by refine bK Bj ?_; exact mI h1
   rcases D.ps y hy with h | h
   ·exact h.2
   ·rw [h.1] at h2; cases h2
  obtain ⟨u, z1, z2⟩ := kA (m := fun J => none) (kf := (newEnv fd.scope s.heap.objs.size mainGlobals (cellsFrom (s.heap.objs.size + 1) fd.scope.names []) (fd.qualname ++ ".<locals>.") (some a) fd.code none builtinsNs).kindOf) G.inj rel KQ h1 Hk
  exact ⟨u, z1, z2.mono q3⟩
 ·have hb : b ∈ s.heap.objs.size :: frs.filterMap (·.frame) := hb
  rcases ff hb with rfl | hb
  ·obtain ⟨o, e⟩ := Ns.has x.toInCall.ns
   exact ⟨Co, ⟨o, e, Ns.data x.toInCall.ns o e⟩, ej⟩
  ·exact (nI b hb).le q2 (Ns.data x.toInCall.ns)
 ·exact ⟨D.kind, fun J J h => .inl h, rfl, rfl, rfl, fun J => ⟨frs, rfl⟩, fun n h => Option.isSome_iff_exists.mp (a8 (.inl (by
   delta cM at h
   rcases yG h with h | h
   ·exact kind_of h
   ·exact absurd (kind_of h) (D.free n)))), fun b hb => (by obtain rfl := aO hb; exact .head _), CO, fun y i J h => q4 y i h⟩
theorem iS {Γ : Ctx} {a : Nat} (h : Γ.take ≠ some a) : iG Γ a = false := by
 delta iG
 cases q : Γ.take with
 | none => rfl
 | some b => exact Bool.eq_false_iff.mpr fun z => h (q.trans (congrArg some (Nat.eq_of_beq_eq_true z)))
theorem si {Γ : Ctx} {a : Nat} (h : Γ.take = some a) : iG Γ a = true := by
 delta iG
 rw [h]; exact Nat.beq_refl a
theorem pT {Γ : Ctx} {a : Nat} {fn : Fn} {as : List V} {ab : List (Nat × V)} {l : bC Fl} (ht : Γ.take ≠ some a) (h1 : cu a Γ.fns = some fn) (h2 : fj fn.params fn.params.length fn.dflts as = some ab) (hc : fn.cells = []) (h3 : aW ih fn.body (A.env ab []) = some l) : dT Γ ih a as A = some (eE A A0 l) := by
 refine (mj (iS ht)).trans ?_
 rw [h1]
 refine (?_ : Option.rec (motive := fun _ => Res V) none (fun binds => Option.rec (motive := fun _ => Res V) none (fun l => some (eE A A0 l)) (jQ ih fn A binds)) (fj fn.params fn.params.length fn.dflts as) = _)
 rw [h2]
 refine (?_ : Option.rec (motive := fun _ => Res V) none (fun l => some (eE A A0 l)) (jQ ih fn A ab) = _)
 have e : jQ ih fn A ab = some l := by
  delta jQ
  rw [hc]; exact h3
 rw [e]
theorem vg {a : Nat} (ha : Z.Γ.take ≠ some a) {as : List V} {l : bC V} (e : dT Z.Γ ih a as A = some l) : ∃ fn ab l0, cu a Z.Γ.fns = some fn ∧ fj fn.params fn.params.length fn.dflts as = some ab ∧
 aW ih fn.body { (bV ab fn.cells A).1 with locs := ab.filter fun b => !fn.cells.contains b.1, cells := (bV ab fn.cells A).2 } = some l0 ∧ l = eE A A0 l0 := by
 have ht : iG Z.Γ a = false := iS ha
 delta dT at e
 have e := (F5 ht).symm.trans e
 cases Cp : cu a Z.Γ.fns with
 | none => rw [Cp] at e; exact no e
 | some fn =>
 rw [Cp] at e
 have e : Option.rec (motive := fun _ => Res V) none (fun binds => Option.rec (motive := fun _ => Res V) none (fun l => some (eE A A0 l)) (jQ ih fn A binds)) (fj fn.params fn.params.length fn.dflts as) = some l := e
 cases tM : fj fn.params fn.params.length fn.dflts as with
 | none => rw [tM] at e; exact no e
 | some ab =>
 rw [tM] at e
 have e : Option.rec (motive := fun _ => Res V) none (fun l => some (eE A A0 l)) (jQ ih fn A ab) = some l := e
 refine (Kk e).elim fun l0 q => ?_
 obtain ⟨h, rfl⟩ := q
 refine ⟨fn, ab, l0, rfl, tM, ?_, rfl⟩
 obtain ⟨ps, ds, cl, body⟩ := fn
 cases cl with
 | nil =>
  have hf : ab.filter (fun b => !([] : List Nat).contains b.1) = ab := List.filter_eq_self.mpr fun J J => rfl
  refine ae hf ?_; exact h
 | cons _ _ => exact h
theorem kG (G : Z.Glob) (Fs : tP Z) (I : aC Z n ih) (hn : vf n Ar cs) (H : St Z L cs c A s) {a : Nat} (ha : Z.Γ.take ≠ some a) {as : List V} {us : List Value} (r : dq c as us) {l : bC V} (e : dT Z.Γ ih a as A = some l) :
 bj Z.M Ar (.call (.ref a) ⟨us, []⟩) (fun r s' => match r with | .ok (.ret v) => QO Z L cs VR l.list c s v s' | .error e => EO Z L cs l.list c s e s' | _ => False) s := by
 obtain ⟨fn, ab, l0, Cp, tM, Bk, rfl⟩ := vg ha e
 have lJ : s.heap.get? s.heap.objs.size = none := get_size _
 refine kF G (by have := hn.1; omega) H.toHp H.hd H.outs H.tabs (Fs.fn a fn Cp) r tM fun k3 hk hf q2 H1 N1 => ?_
 have cx := hn.deeper (cl := (bV ab fn.cells A).2) hk ⟨_, hf⟩
 refine az (bN I hf cx fn.body k3 H1 N1 l0 Bk) (fun fl gf q => ?_) fun ev gf q => ?_
 ·obtain ⟨fa, A', c', z1, z2, z3, z4⟩ := q
  refine ⟨A0 fa, _, c', iR z1, (q2.trans z2).re lJ, H.back (q2.trans z2) lJ (by rfl) z3, ?_⟩
  cases fa with
  | next => subst z4; exact rfl
  | brk => subst z4; exact rfl
  | cont => subst z4; exact rfl
  | ret v => obtain ⟨u, rfl, hu⟩ := z4; exact hu
 ·obtain ⟨i, A', c', z1, z2, z3, ⟨fh, rfl⟩, D, z4⟩ := q
  exact .of (gq cx rfl hf z3 z4 fun s3 dY H3 J => ⟨i, _, c', mH z1, ((q2.trans z2).trans dY).re lJ, H.back ((q2.trans z2).trans dY) lJ (by rfl) H3, ⟨fh, rfl⟩, D, z4⟩)
set_option tactic.hygienic true in
theorem d9 (G : Z.Glob) (Fs : tP Z) (I : aC Z n ih) (hn : Room (n + 1) Ar cs) (H : St Z L cs c A s) {a : Nat} {as : List V} {us : List Value} (r : dq c as us) : au Z L cs Ar (call (.ref a) us) VR (dT Z.Γ ih a as A) c s := by
 by_cases ha : Z.Γ.take = some a
 ·refine ae (show dT Z.Γ ih a as A = if 20 ≤ ih.fuel then tx as A else none from pC (si ha)) ?_
  split
  ·rename_i hf
   exact Fs.take.run a ha (hn.le (by have := I.fuel; omega)) H r
  ·exact .none
 ·intro l e
  refine cz (bg (kG G Fs I hn.deep H ha r e) fun r s' q => ?_)
  cases r with
  | ok fl => cases fl <;> first | exact q | exact q.elim
  | error e => exact q
theorem gv {prog : Program} {w : World} {A : Around} {s : Shared} {R : Result → Shared → Prop} {id : String} {args : Args} {b : Builtin} (hd : lX id = false) (hb : entryFor table id = some b)
 (h : bt (model prog w) (A.under (.builtin id args)) (b args)
  (fun fin s' => match fin with | .done f => R (.ok f) s' | .again c' => c'.quiet = true ∧ bj (model prog w) A c' R s') (fun e s' => R (.error e) s') s) :
 bj (model prog w) A (.builtin id args) R s := by
 refine aZ hd ?_
 refine (?_ : bt _ _ (match entryFor table id with | some b => b args | none => unsupported ((withoutEnding? id "#data").getD id)) _ _ s)
 refine ae hb ?_; exact h
theorem bS {prog : Program} {w : World} {A : Around} {s : Shared} {R : Result → Shared → Prop} {id : String} {args : Args} {b : Builtin} (hq : (Code.builtin id args).quiet = true) (hd : lX id = false) (hb : entryFor table id = some b)
 (h : wpAny (model prog w) A.in1 (checkBuiltinCall id args) (fun J aU => bt (model prog w) (A.under (.builtin id args)) (b args)
  (fun fin s' => match fin with | .done f => R (.ok f) s' | .again c' => c'.quiet = true ∧ bj (model prog w) A c' R s') (fun e s' => R (.error e) s') aU)
  (fun e s' => R (.error e) s') s) : bj (model prog w) A (.call (.builtin id) args) R s := by
 refine cj rfl ?_
 refine (?_ : wpAny _ A.in1 (do checkBuiltinCall id args; again (.builtin id args)) _ _ s)
 exact wpAny_bind (wpAny_mono h (fun J aU bZ => wpAny_pure (And.intro hq (gv hd hb bZ))) fun J J h' => h')
theorem Cq {prog : Program} {w : World} {Ar : Around} {C : Addr} {rest : List Value} {init : Value} {h : Heap} {g : Array GenState} {d : Drawn} {t : Nat} {os : OsState} {R : Result → Shared → Prop}
 (Y : Makes (model prog w) h C) (hi : Looks (model prog w) h (typeLookup (.ref C) "__init__") (some init))
 (hb : ∀ self, Looks (model prog w) h (bindSpecial init self) (init, [self])) (rG : (some init != some (Value.builtin "object.__init__")) = true)
 (hq : bj (model prog w) (Ar.under (.builtin "type.__call__" ⟨.ref C :: rest, []⟩)) (.call init ⟨.ref (h.objs.size + 1) :: rest, []⟩) (InitBack (h.objs.size + 1) R) ⟨(h.push emptyDict).push (instObj C h.objs.size), g, d, t, os⟩) :
 bj (model prog w) Ar (.call (.ref C) ⟨rest, []⟩) R ⟨h, g, d, t, os⟩ := by
 have Y' := Y
 obtain ⟨⟨oc, od, cd, sl, hC, e1, e2, e4⟩, made, base, self, top, call, typ⟩ := Y
 refine cj rfl ?_
 refine nd_load hC ?_
 refine (?_ : wpAny _ _ (callAny.viaDunder (.ref C) _) _ _ _)
 dsimp only [callAny.viaDunder]
 refine wpAny_bind (call.at ?_)
 dsimp only
 rw [tc_bind]
 refine wpAny_bind (wpAny_pure (wpAny_bind (wpAny_pure ?_)))
 refine wpAny_pure (a := Fin.again (.call (.builtin "type.__call__") ⟨.ref C :: rest, []⟩)) (And.intro rfl ?_)
 refine bS (Code.quiet_builtin _ (by decide +kernel)) (by decide +kernel) entry_typeCall ?_
 with_reducible refine check_slot tc_kind tc_split typ (tc_args _ _ _) ?_
 delta Builtin.«type.__call__»
 have hm : Looks (model prog w) h (mroOf (.ref C)) cd.mro := ((Looks.ld (part := none) hC).andThen .now).andThen .now
 refine aa (.of (Looks.at hm ?_))
 refine bP (by refine ae e4 ?_; decide) ?_
 refine aa (.of (Looks.at made ?_))
 refine aa (aq ?_)
 have k : ∀ b o, h.get? b = some o → ((h.push emptyDict).push (instObj C h.objs.size)).get? b = some o := fun b o e => Heap.get?_push_of_some _ (Heap.get?_push_of_some _ e)
 have hx : ((h.push emptyDict).push (instObj C h.objs.size)).get? (h.objs.size + 1) = some (instObj C h.objs.size) := by heap_get
 have t1 : Looks (model prog w) ((h.push emptyDict).push (instObj C h.objs.size)) (typeOf (.ref (h.objs.size + 1))) (.ref C) := (Looks.ld hx).andThen .now
 have s1 := self.keeps k
 have i1 := hi.keeps k
 have b1 := (hb (.ref (h.objs.size + 1))).keeps k
 refine aa (aA (.of (wpAny_call (new_K Y' hi (.inl rG) ?_))))
 refine aa (.of (Looks.at (t1.andThen s1) ?_))
 refine bP (by decide) ?_
 refine aa (aA ?_)
 refine aa (.of (Looks.at (t1.andThen i1) ?_))
 refine aA (aa (.of (Looks.at b1 ?_)))
 refine aa (cz (bg hq fun r s' z => ?_))
 rcases r with e | (v | _ | _ | _) <;> first | exact z | exact z.elim | skip
 obtain ⟨rfl, z⟩ := z
 exact aq (aq z)
end
section
variable {Z : aL} {n : Nat} {ih : bM} {L : Nat} {cs : Fm} {Ar : Around} {c c' : Cfg} {A : AS} {s s' : Shared}
theorem pU {f : Value} : ∀ {ts : List (Sem Value)}, evalArgs f true (ts.map fun t => (false, t)) [] = (spliced (ts.map fun t => (false, t)) >>= fun vs => holding vs (pure ⟨vs, []⟩))
 | [] => by
  rfl
 | [t] => by
  dsimp only [evalArgs]
  show (_ >>= _) = _
  simp -iota only [bind_assoc, pure_bind]
  congr 1
  funext vs
  simp [evalAll]
 | t :: t2 :: r => by
  dsimp only [evalArgs]
  simp only [List.map_cons, bind_assoc, pure_bind]
  congr 1
  funext vs
  simp [evalAll]
theorem au.keep {α β : Type} {R : Cfg → α → β → Prop} {vs : List Value} {t : Sem β} {r : Res α} (h : au Z L cs Ar t R r c s) : au Z L cs Ar (t.keep vs) R r c s := fun l e Γ p fg hC => by
 have := h l e Γ p fg hC
 rw [Sem.wp_keep]; exact this
theorem gL {f : Value} {first : List Value} {pos : Pos} {ts : List (Sem Value)} {r : Res (List V)} {g : List V → AS → Res V} (H : St Z L cs c A s) (hr : au Z L cs Ar (spliced (ts.map fun t => (false, t))) dq r c s)
 (hk : ∀ vs c' A' s', Le Z L c s c' s' → St Z L cs c' A' s' → g vs A' = none ∨ ∃ k, Looks Z.M s'.heap (keeperOf f) k)
 (h : ∀ vs A' c' s' us, Le Z L c s c' s' → St Z L cs c' A' s' → dq c' vs us → au Z L cs Ar (call f (first ++ us) []) VR (g vs A') c' s') :
 au Z L cs Ar (callWith pos f first (ts.map fun t => (false, t)) []) VR (Res.bind r g) c s := by
 delta callWith
 refine ae pU ?_
 have ha : au Z L cs Ar (spliced (ts.map fun t => (false, t)) >>= fun vs => holding vs (pure (⟨vs, []⟩ : Args))) (fun c vs (a : Args) => dq c vs a.pos ∧ a.kw = []) r c s :=
  hr.map fun vs c' s' u q Q E k => wpAny_holding (wpAny_pure (k _ ⟨q, rfl⟩))
 refine au.bind H.bw (.hold ha) fun vs A' c' s' a le H' q => .at ?_
 rcases hk vs c' A' s' le H' with hk | hk
 ·refine ae hk ?_; exact .none
 obtain ⟨q, e⟩ := q
 obtain ⟨ap, ak⟩ := a
 subst e
 have KG : ((ts.map fun t => ((false, t) : Bool × Sem Value)).any (·.1) || ([] : List (Option Str × Sem Value)).any (·.1.isNone)) = false := by
  refine ae List.any_map ?_
  simp
 rw [KG]
 refine (hk).elim fun k hk => ?_
 have hc := h vs A' c' s' ap le H' q
 have tail : ∀ {t : Sem Value}, au Z L cs Ar t VR (g vs A') c' s' → au Z L cs Ar (t >>= fun r => holding [r] point >>= fun J => pure r) VR (g vs A') c' s' := fun ht =>
  ht.map fun v wV eB u r Q E k => wpAny_bind (wpAny_holding (wpAny_point (wpAny_pure (k _ r))))
 have marked (mk : Value) : au Z L cs Ar (callMarked mk f (first ++ ap) []) VR (g vs A') c' s' := by skip; exact hc.keep
 intro l e
 refine aa (.of (hk.here ?_))
 cases k <;> first | exact tail hc l e | exact tail (.w6 hc) l e | exact yY (tail hc l e) (tail (marked _) l e)
theorem jE {f : Value} (G : Z.Glob) (hk : keepIn Z.K f = true) : ∀ s' : Shared, (∀ b o, Z.h₀.get? b = some o → s'.heap.get? b = some o) → ∃ k, Looks Z.M s'.heap (keeperOf f) k := fun s' hb => by
 refine (looks_keep (M := Z.M) hk (G.k.keeps hb)).elim fun k aj => (aj).elim fun _ h => ?_
 exact ⟨k, h⟩
end
noncomputable def ew (C a : Nat) : Obj := { cls := .ref C, data := .fields #[.ref a, .none, .none, .none, .bool false, .none] }
section
variable {prog : Program} {w : World} {R : Result → Shared → Prop} {h : Heap} {g : Array GenState} {d : Drawn} {t : Nat} {os : OsState} {C : Nat} {rest : List Value}
theorem sj {nm q : Str} {N : Addr} {bs bm : List Value} {hd : Bool} {sn : List Str} {sub : List Value} {ab : Bool} {col : Option Bool} {dd : Option Addr} {k0 k1 k2 k3 k5 : Option Value} {nw b : String} {r : Bool} {M : Model} {Ar : Around} {Q : Bool → Shared → Prop} {E : Value → Shared → Prop}
 (hC : h.get? C = some (excClassObj nm q C N bs bm hd sn sub ab col dd k0 k1 k2 k3 k5 nw)) (e : (Value.ref C :: bm).contains (.type b) = r) (hq : Q r ⟨h, g, d, t, os⟩) : wpAny M Ar (isSubtype (.ref C) (.type b)) Q E ⟨h, g, d, t, os⟩ := wpAny_isSubtype_exc hC (by refine ae e ?_; exact hq)
theorem Cr {Ar : Around} (Y : nG h C) (hr : rest.length ≤ sizeLine) (hq : R (.ok (.ret (.ref (h.objs.size + 1)))) ⟨(h.push { cls := .type "tuple", data := .seq rest.toArray }).push (ew C h.objs.size), g, d, t, os⟩) :
 codeAny (model prog w) Ar (.call (.builtin "Exception.__new__") ⟨.ref C :: rest, []⟩) R ⟨h, g, d, t, os⟩ := by
 obtain ⟨⟨nm, q, N, bs, bm, B4, sn, sub, col, dd, k0, k1, k2, k3, k5, hC, b1, b2, b3⟩, _, _⟩ := Y
 have F := PySem.F.excBase_Exception
 have Eo : (Value.ref C :: bm).contains (.type "Exception") = true := by rw [List.contains_cons, b1, Bool.or_true]
 have ML : (Value.ref C :: bm).contains (.type "AttributeError") = false := by refine ae List.contains_cons ?_; refine ae b2 ?_; rfl
 have MM : (Value.ref C :: bm).contains (.type "NameError") = false := by refine ae List.contains_cons ?_; refine ae b3 ?_; rfl
 refine codeAny_call_builtin_code (Code.quiet_builtin _ F.quiet) (wpAny_check_new_subU F b1 .base hC ?_)
 have KS := F.ends
 refine codeAny_builtinAt F.entry ?_
 refine PySem.wpAt_bind ?_
 refine PySem.wpAt_bind (PySem.wpAt_stack fun p below => PySem.wpAt_of_wpAny ?_)
 wp_walk
 refine PySem.wpAt_of_wpAny ?_
 refine ae F.owner ?_
 repeat (first | with_reducible refine wpAny_madeHere_exc F.canon hC ?_ | with_reducible refine wpAny_loadPart_at hC ?_ | with_reducible refine sj hC Eo ?_ | with_reducible refine sj hC ML ?_ | with_reducible refine sj hC MM ?_ | wp_delta | wp_step)
 refine (?_ : R _ _)
 rw [Heap.size_push]
 exact hq
theorem zC {Ar : Around} {init : Value} (Y : nG h C) (hr : rest.length ≤ sizeLine) (hi : Looks (model prog w) h (typeLookup (.ref C) "__init__") (some init))
 (hb : ∀ self, Looks (model prog w) h (bindSpecial init self) (init, [self]))
 (hq : bj (model prog w) (Ar.under (.builtin "type.__call__" ⟨.ref C :: rest, []⟩)) (.call init ⟨.ref (h.objs.size + 1) :: rest, []⟩) (InitBack (h.objs.size + 1) R) ⟨(h.push { cls := .type "tuple", data := .seq rest.toArray }).push (ew C h.objs.size), g, d, t, os⟩) :
 bj (model prog w) Ar (.call (.ref C) ⟨rest, []⟩) R ⟨h, g, d, t, os⟩ := by
 have Y' := Y
 obtain ⟨⟨nm, q, N, bs, bm, B4, sn, sub, col, dd, k0, k1, k2, k3, k5, hC, b1, b2, b3⟩, call, typ⟩ := Y
 have made : Looks (model prog w) h (Bind.madeBy (.ref C)) (some "Exception.__new__") := fun A Q E s k q => by
  obtain ⟨hh, g, d, t, os⟩ := s
  exact wpAny_madeBy_exc (k _ _ hC) q
 have self : Looks (model prog w) h (isSubtype (.ref C) (.ref C)) true := fun A Q E s k q => by
  obtain ⟨hh, g, d, t, os⟩ := s
  refine wpAny_isSubtype_exc (k _ _ hC) ?_
  rw [List.contains_cons, beq_self_eq_true, Bool.true_or]; exact q
 refine cj rfl ?_
 refine nd_load hC ?_
 refine (?_ : wpAny _ _ (callAny.viaDunder (.ref C) _) _ _ _)
 dsimp only [callAny.viaDunder]
 refine wpAny_bind ((call _).at ?_)
 dsimp only
 rw [tc_bind]
 refine wpAny_bind (wpAny_pure (wpAny_bind (wpAny_pure ?_)))
 refine wpAny_pure (a := Fin.again (.call (.builtin "type.__call__") ⟨.ref C :: rest, []⟩)) (And.intro rfl ?_)
 refine bS (Code.quiet_builtin _ (by decide +kernel)) (by decide +kernel) entry_typeCall ?_
 with_reducible refine check_slot tc_kind tc_split (typ _) (tc_args _ _ _) ?_
 have hm : Looks (model prog w) h (mroOf (.ref C)) (.ref C :: bm) := ((Looks.ld (part := none) hC).andThen .now).andThen .now
 refine aa (.of (Looks.at hm ?_))
 refine bP (show ¬ ((Value.ref C :: bm).isEmpty = true) from Bool.false_ne_true) ?_
 refine aa (.of (Looks.at made ?_))
 refine aa (aq ?_)
 have k : ∀ b o, h.get? b = some o → ((h.push { cls := .type "tuple", data := .seq rest.toArray }).push (ew C h.objs.size)).get? b = some o := fun b o e => Heap.get?_push_of_some _ (Heap.get?_push_of_some _ e)
 have hx : ((h.push { cls := .type "tuple", data := .seq rest.toArray }).push (ew C h.objs.size)).get? (h.objs.size + 1) = some (ew C h.objs.size) := by skip; heap_get
 have t1 : Looks (model prog w) ((h.push { cls := .type "tuple", data := .seq rest.toArray }).push (ew C h.objs.size)) (typeOf (.ref (h.objs.size + 1))) (.ref C) := (Looks.ld hx).andThen .now
 have s1 := self.keeps k
 have i1 := hi.keeps k
 have b1 := (hb (.ref (h.objs.size + 1))).keeps k
 refine aa (aA (.of (wpAny_call (Cr Y' hr ?_))))
 refine aa (.of (Looks.at (t1.andThen s1) ?_))
 refine bP (by decide) ?_
 refine aa (aA ?_)
 refine aa (.of (Looks.at (t1.andThen i1) ?_))
 refine aA (aa (.of (Looks.at b1 ?_)))
 refine aa (cz (bg hq fun r s' z => ?_))
 rcases r with e | (v | _ | _ | _) <;> first | exact z | exact z.elim | skip
 obtain ⟨rfl, z⟩ := z
 exact aq (aq z)
end
def kH {α : Type} (l : List (Except Nat α × AS)) : Prop := ∀ x ∈ l, ∃ a, x.1 = .ok a
theorem fA {α : Type} {r : Res α} {l : bC α} (e : ei r = some l) : r = some l ∧ kH l.list := by
 cases r with
 | none => exact no e
 | some o => cases o with
  | one a A =>
   obtain rfl := aO e
   exact ⟨rfl, fun x hx => by cases msg hx; exact ⟨a, rfl⟩⟩
  | many k =>
   have e : (if k.all (fun x => match x.1 with | .ok _ => true | .error _ => false) then some (bC.many k) else none) = some l := e
   by_cases h : k.all (fun x => match x.1 with | .ok _ => true | .error _ => false) = true
   ·rw [if_pos h] at e
    obtain rfl := aO e
    refine ⟨rfl, fun x hx => ?_⟩
    have := lx h x hx
    obtain ⟨r, B⟩ := x
    cases r with
    | ok a => exact ⟨a, rfl⟩
    | error i => cases this
   ·rw [if_neg h] at e; exact no e
theorem kH.no {α : Type} {l : List (Except Nat α × AS)} (h : kH l) {i : Nat} {A : AS} (hm : (Except.error i, A) ∈ l) : False := by
 refine (h _ hm).elim fun a e => ?_
 cases e
theorem vh {Γ : Ctx} {C : Nat} {as : List V} {l : bC V} (e : callC Γ ih C as A = some l) : ∃ k f l0, af C Γ.dv = some k ∧ af N.init k.meths = some (false, f) ∧ as.length < 30 ∧ Γ.take ≠ some f ∧
 dT Γ ih f (.loc A.n :: as) (A.alloc (if (af C Γ.cf).isSome then .qZ C else .inst C [])).2 = some l0 ∧ kH l0.list ∧
 ∀ a A', (Except.ok a, A') ∈ l0.list → a = .none ∧ (Except.ok (.loc A.n), A') ∈ l.list := by
 dsimp only [callC] at e
 cases hk : af C Γ.dv with
 | none => rw [hk] at e; exact no e
 | some k =>
 rw [hk] at e
 dsimp only at e
 by_cases hl : Nat.blt as.length 30 = true
 case neg => rw [if_neg hl] at e; exact no e
 rw [if_pos hl] at e
 replace hl := Nat.blt_eq.mp hl
 cases hf : af N.init k.meths with
 | none => rw [hf] at e; exact no e
 | some p =>
 obtain ⟨b, f⟩ := p
 cases b with
 | true => rw [hf] at e; exact no e
 | false =>
 rw [hf] at e
 dsimp only at e
 by_cases ht : Γ.take = some f
 ·rw [if_pos ht] at e; exact no e
 ·rw [if_neg ht] at e
  refine (eF e).elim fun l0 aj => (aj).elim fun h0 ax => (ax).elim fun m1 _ => ?_
  refine (fA h0).elim fun h1 h2 => ?_
  refine ⟨k, f, l0, rfl, hf, hl, ht, h1, h2, fun a A' hm => ?_⟩
  obtain ⟨r', q1, q2⟩ := m1 a A' hm
  cases a <;> first | exact no q1 | skip
  obtain rfl := aO q1
  exact ⟨rfl, q2 _ (.head _)⟩
theorem iT (h : Heap) : h.get? (h.objs.size + 1) = none := by
 cases e : h.get? (h.objs.size + 1) with
 | none => rfl
 | some o => exact absurd (Nat.lt_of_succ_lt (Heap.lt_size e)) (Nat.lt_irrefl _)
section
variable {Z : aL} {n : Nat} {ih : bM} {L : Nat} {cs : Fm} {Ar : Around} {c c' : Cfg} {A : AS} {s s' : Shared}
theorem mJ (G : Z.Glob) (Fs : tP Z) (I : aC Z n ih) (hn : Room (n + 1) Ar cs) (H : St Z L cs c A s) {C f : Nat} {as : List V} {us : List Value} (r : dq c as us) {l l0 : bC V} {X : aw} {h' : Heap} {p : Nat × Nat} (ht : Z.Γ.take ≠ some f) (h1 : dT Z.Γ ih f (.loc A.n :: as) (A.alloc X).2 = some l0) (h2 : kH l0.list) (h3 : ∀ a A', (Except.ok a, A') ∈ l0.list → a = .none ∧ (Except.ok (.loc A.n), A') ∈ l.list)
 (wj : ∀ b o, s.heap.get? b = some o → h'.get? b = some o) (n1 : s.heap.get? p.1 = none ∧ Has h' p.1) (n0 : s.heap.get? p.2 = none ∧ Has h' p.2) (ho : br Z (c.push p) h' c.n X) :
 bj Z.M (Ar.under (.builtin "type.__call__" ⟨.ref C :: us, []⟩)) (.call (.ref f) ⟨.ref p.1 :: us, []⟩) (InitBack p.1 fun r s' => match r with | .ok (.ret v) => QO Z L cs VR l.list c s v s' | .error e => EO Z L cs l.list c s e s' | _ => False) { s with heap := h' } := by
 have H1 : St Z L cs (c.push p) (A.alloc X).2 { s with heap := h' } := H.alloc (s' := { s with heap := h' }) wj n1 n0 ho rfl rfl
 have a0 : Le Z L c s (c.push p) { s with heap := h' } := Le.alloc (s' := { s with heap := h' }) wj n1.1 n0.1
 have Bl : VR (c.push p) (.loc A.n) (.ref p.1) := by
  refine ⟨?_, ?_⟩
  ·refine (?_ : A.n < c.n + 1); refine ae H.n ?_; exact Nat.lt_succ_self _
  ·rw [← H.n, c.aI]
 have cx : vf n (Ar.under (.builtin "type.__call__" ⟨.ref C :: us, []⟩)) cs := ⟨by refine (?_ : Ar.depth + 1 + 1 + 2 * n < _); have := hn.1; omega, by refine (?_ : Ar.units + 1 + 3 + 8 * n + 64 < _); have := hn.2.1; omega, hn.2.2⟩
 refine bg (kG G Fs I cx H1 ht (.cons Bl (r.imp fun J J y => y.mono a0.grown)) h1) fun rr s2 q => ?_
 cases rr with
 | error e => obtain ⟨i, A', c', m, _⟩ := q; exact (h2.no m).elim
 | ok fl =>
  cases fl <;> first | exact q.elim | skip
  obtain ⟨va, A', c', z1, z2, z3, z4⟩ := q
  obtain ⟨rfl, m⟩ := h3 va A' z1
  subst z4
  exact ⟨rfl, _, A', c', m, a0.trans z2, z3, Bl.mono z2.grown⟩
theorem pV (G : Z.Glob) (Fs : tP Z) (I : aC Z n ih) (hn : Room (n + 1) Ar cs) (H : St Z L cs c A s) {C : Nat} {as : List V} {us : List Value} (r : dq c as us) : au Z L cs Ar (call (.ref C) us) VR (callC Z.Γ ih C as A) c s := by
 intro l e
 refine (vh e).elim fun k aj => (aj).elim fun f ax => (ax).elim fun l0 aP => (aP).elim fun hk bG => (bG).elim fun hf dc => (dc).elim fun hl ib => (ib).elim fun ht pQ => (pQ).elim fun h1 se => (se).elim fun h2 h3 => ?_
 rw [r.length] at hl
 have X := G.k.keeps H.base
 have fin : ∀ (r : Result) (s' : Shared), (match r with | .ok (.ret v) => QO Z L cs VR l.list c s v s' | .error e => EO Z L cs l.list c s e s' | _ => False) → (match r with | .ok (.ret v) => QO Z L cs VR l.list c s v s' | .ok _ => False | .error e => EO Z L cs l.list c s e s') := fun r s' q => by
  rcases r with e | (v | _ | _ | _) <;> exact q
 cases hx : af C Z.Γ.cf with
 | none =>
  have O := G.cls C k hk hx
  refine (O.meth N.init f hf).elim fun m1 m2 => ?_
  rw [G.y6] at m1
  have back := mJ (C := C) (X := .inst C []) (h' := (s.heap.push emptyDict).push (instObj C s.heap.objs.size)) (p := (s.heap.objs.size + 1, s.heap.objs.size)) G Fs I hn H r ht (by rw [hx] at h1; exact h1) h2 h3
   (fun b o e => Heap.get?_push_of_some _ (Heap.get?_push_of_some _ e)) ⟨iT _, _, show _ = some (instObj C s.heap.objs.size) by heap_get⟩ ⟨get_size _, _, show _ = some emptyDict by heap_get⟩ (by
    refine ⟨?_, ⟨k, hk, hx, fun f hf => by cases hf⟩, [], 0, ?_, .nil⟩
    ·rw [c.aI]; heap_get
    ·rw [c.aI]; heap_get)
  obtain ⟨hh, gg, dd, tt, oo⟩ := s
  exact cz (bg (Cq (makes_of X O.B3) (looks_findIn X m1) (fun self => bind_fn X self m2) rfl back) fin)
 | some bs =>
  have O := G.o5 C k bs hk hx
  refine (O.meth N.init f hf).elim fun m1 m2 => ?_
  rw [G.y6] at m1
  have back := mJ (C := C) (X := .qZ C) (h' := (s.heap.push { cls := .type "tuple", data := .seq us.toArray }).push (ew C s.heap.objs.size)) (p := (s.heap.objs.size + 1, s.heap.objs.size + 1)) G Fs I hn H r ht (by rw [hx] at h1; exact h1) h2 h3
   (fun b o e => Heap.get?_push_of_some _ (Heap.get?_push_of_some _ e)) ⟨iT _, _, show _ = some (ew C s.heap.objs.size) by skip; heap_get⟩ ⟨iT _, _, show _ = some (ew C s.heap.objs.size) by skip; heap_get⟩ (by
    refine ⟨ew C s.heap.objs.size, #[.ref s.heap.objs.size, .none, .none, .none, .bool false, .none], ?_, rfl, rfl, Nat.lt_succ_of_le (Nat.le_succ 4), .inl rfl, rfl⟩
    rw [c.aI]; heap_get)
  obtain ⟨hh, gg, dd, tt, oo⟩ := s
  exact cz (bg (zC (O.B3 _ X) (Nat.le_trans (Nat.le_of_lt hl) (by refine ae sizeLine_eq ?_; decide)) (looks_findIn X m1) (fun self => bind_fn X self m2) back) fin)
end
namespace BA
theorem xx : Slot "bytearray" "__len__" "bytearray.__len__" :=
 .of (owner := "bytearray") (n := "__len__") (by rw [typeLookup_type, builtinLookup_eq_fast]; kernel_rfl) (by decide +kernel) (by decide +kernel) (by decide +kernel)
  (by first | exact .inl (by decide +kernel) | exact .inr (by decide +kernel)) (by rw [isSubtype_type]; kernel_rfl)
theorem entry_len : entryFor table "bytearray.__len__" = some Builtin.«bytearray.__len__» := entryFor_of_tree (by kernel_rfl)
theorem xy (a : Value) : argsOk "bytearray.__len__" ⟨[a], []⟩ := by skip; kernel_rfl
theorem vi (x : Addr) (b : Array UInt8) : Meets («bytearray.__len__» ⟨[.ref x], []⟩) (fun J R s => s.heap.get? x = some { cls := .type "bytearray", data := .bytearray b } ∧
 R (.ok (.ret (.int b.size s.toks))) { s with toks := s.toks + 1 }) := by
 refine .of_wp fun prog w A R s hS => ?_
 refine (hS).elim fun hx h => ?_
 refine (?_ : wpAny _ _ (Bytes.payload (.ref x) >>= fun r => _) _ _ s)
 refine wpAny_bind ?_
 refine wpAny_bind (wpAny_bind (wpAny_load hx (wpAny_pure (wpAny_pure ?_))))
 exact wpAny_bind (wpAny_mkInt (wpAny_pure ⟨_, rfl, h⟩))
end BA
section
variable {Z : aL} {n : Nat} {ih : bM} {L : Nat} {cs : Fm} {Ar : Around} {c c' : Cfg} {A : AS} {s s' : Shared}
set_option tactic.hygienic true in
theorem vj (G : Z.Glob) (H : St Z L cs c A s) {as : List V} {us : List Value} (r : dq c as us) : au Z L cs Ar (call (.builtin "len") us) VR (yU as A) c s := by
 cases r with
 | nil => exact .none
 | cons r0 r1 =>
  rename_i a u as us
  cases r1 with
  | cons => cases a <;> exact .none
  | nil =>
   cases a <;> first | exact .none | skip
   ·rename_i x
    obtain ⟨hb, t, rfl⟩ := r0
    dsimp only [yU]
    split
    ·rename_i hl
     have hz : (BS.den c.ρ x).toArray.size = BS.len x := by rw [List.size_toArray, BS.bq]
     refine .look H fun Q E q => len_bytes (by refine ae hz ?_; exact Nat.le_trans ‹_› (by decide)) (q _ (s.toks + 1 + 1) ⟨trivial, s.toks + 1, ?_⟩)
     refine ae hz ?_; rfl
    ·exact .none
   ·rename_i i
    obtain ⟨hi, rfl⟩ := r0
    dsimp only [yU]
    generalize hm : A.heap.get i = ob
    cases ob with
    | none => exact .none
    | some ob =>
    cases ob <;> first | exact .none | skip
    case list xs =>
     refine .dP fun hl => ?_
     obtain ⟨vs, ep, e1, r1⟩ := H.objs _ _ hm
     have hz : vs.size = xs.length := by have := r1.length; simpa using this.symm
     refine .look H fun Q E q => call_len_list ⟨_, e1, rfl, _, rfl⟩ (by refine ae hz ?_; omega) (q _ (s.toks + 1 + 1) ⟨trivial, s.toks + 1, ?_⟩)
     refine ae hz ?_; rfl
    case bW x =>
     refine .dP fun hl => ?_
     refine (H.objs _ _ hm).elim fun hb e1 => ?_
     have hz : (BS.den c.ρ x).toArray.size = BS.len x := by rw [List.size_toArray, BS.bq]
     refine .look H fun Q E q => call_len_meets (v := .ref (c.σ i).1) (n := ((BS.den c.ρ x).toArray.size : Nat)) (show s.TypeIs (.ref (c.σ i).1) "bytearray" from ⟨_, e1, rfl⟩) BA.xx BA.entry_len (BA.xy _) (BA.vi _ _) (by omega) (by refine ae hz ?_; omega) (fun Q' h' => ⟨e1, h'⟩) (q _ (s.toks + 1 + 1) ⟨trivial, s.toks + 1, ?_⟩)
     refine ae hz ?_; rfl
set_option tactic.hygienic true in
theorem vk (hr : Room 1 Ar cs) (H : St Z L cs c A s) {as : List V} {us : List Value} (r : dq c as us) : au Z L cs Ar (call (.builtin "max") us) VR (DN as A) c s := by
 refine .dP fun hh => .bnd fun p hp => .bnd fun a ha => ?_
 have hh := hr.quiet H (yF hh)
 obtain ⟨u, w, rfl, r0, r1⟩ := dJ hp r
 obtain ⟨t, rfl⟩ := cB ha r0
 cases hb : jv p.2 with
 | some b =>
  obtain ⟨t', rfl⟩ := cB hb r1
  refine .done fun Q E q => Flt.max_two_num hh (.int _ _) (.int _ _) fun h' tk hk => q _ _ c (Le.bk (s' := { s with heap := h', toks := tk }) hk) (H.bk (s' := { s with heap := h', toks := tk }) hk rfl rfl) ⟨trivial, ?_⟩
  refine (?_ : ∃ t_1, (if decide (a < b) = true then Value.int b t' else Value.int a t) = Value.int (if a < b then b else a) t_1)
  by_cases h : a < b
  ·refine ae (decide_eq_true h) ?_; refine ae (if_pos rfl) ?_; refine ae (if_pos h) ?_; exact ⟨_, rfl⟩
  ·refine ae (decide_eq_false h) ?_; refine ae (if_neg (by decide)) ?_; refine ae (if_neg h) ?_; exact ⟨_, rfl⟩
 | none =>
  dsimp only
  cases hv : p.2 <;> first | exact .none | skip
  rename_i x
  rw [hv] at r1
  refine .bnd fun q hq => .dP fun hle => ?_
  obtain ⟨hx, t', rfl⟩ := r1
  have hd := nL H.toHp hq
  refine .done fun Q E k => Flt.max_two_num hh (.int _ _) (.int _ _) fun h' tk hk => k _ _ c (Le.bk (s' := { s with heap := h', toks := tk }) hk) (H.bk (s' := { s with heap := h', toks := tk }) hk rfl rfl) ⟨hx, ?_⟩
  refine (?_ : ∃ t_1, (if decide (a < SI.den c.ρ x) = true then Value.int (SI.den c.ρ x) t' else Value.int a t) = Value.int (SI.den c.ρ x) t_1)
  by_cases h : a < SI.den c.ρ x
  ·refine ae (decide_eq_true h) ?_; refine ae (if_pos rfl) ?_; exact ⟨_, rfl⟩
  ·refine ae (decide_eq_false h) ?_; refine ae (if_neg (by decide)) ?_
   exact ⟨t, by refine ae (show a = SI.den c.ρ x by omega) ?_; rfl⟩
theorem sk {c : Cfg} {as : List V} {p : V × V × V} {us : List Value} (h : wF as = some p) (r : dq c as us) : ∃ u w x, us = [u, w, x] ∧ VR c p.1 u ∧ VR c p.2.1 w ∧ VR c p.2.2 x := by
 refine Classical.byContradiction fun bad => ?_
 cases as with
 | nil => exact no h
 | cons _ as => cases as with
 | nil => exact no h
 | cons _ as => cases as with
 | nil => exact no h
 | cons _ as => cases as with
 | cons => exact no h
 | nil =>
  obtain rfl := aO h
  obtain ⟨u, t, rfl, r1, q2⟩ := r.cons_inv
  obtain ⟨w, t, rfl, r2, q3⟩ := q2.cons_inv
  obtain ⟨x, t, rfl, r3, r4⟩ := q3.cons_inv
  exact bad ⟨u, w, x, by refine ae r4.nil_inv ?_; rfl, r1, r2, r3⟩
theorem pW (H : St Z L cs c A s) {as : List V} {us : List Value} (r : dq c as us) : au Z L cs Ar (call (.type "range") us) VR (rq as A) c s := by
 delta rq
 cases h1 : lB as with
 | some v =>
  refine .bnd fun b hb => ?_
  obtain ⟨u, rfl, r0⟩ := dI h1 r
  obtain ⟨t, rfl⟩ := cB hb r0
  exact .newObj H (ob := { cls := .type "range", data := .fields #[.int 0 s.toks, .int b t, .int 1 (s.toks + 1)] }) rfl (fun h p e J => ⟨_, _, _, by rw [c.aI]; exact e⟩) fun q => call_range_1 (q _)
 | none =>
  dsimp only
  cases h2 : lC as with
  | none =>
   refine .bnd fun p hp => .bnd fun a ha => .bnd fun b hb => .bnd fun d hd => ?_
   obtain ⟨u, w, x, rfl, r0, r1, r2⟩ := sk hp r
   obtain ⟨t, rfl⟩ := cB ha r0
   obtain ⟨t', rfl⟩ := cB hb r1
   obtain ⟨Dd, rfl⟩ := cB hd r2
   by_cases hz : d = 0 ∨ 1073741824 ≤ d.natAbs
   ·refine ae (if_pos hz) ?_; exact .none
   ·refine ae (if_neg hz) ?_
    have hz := not_or.mp hz
    exact .newObj H (ob := { cls := .type "range", data := .fields #[.int a t, .int b t', .int d Dd] }) rfl (fun h p e J => ⟨_, _, _, by rw [c.aI]; exact e⟩) fun q => call_range_3 hz.1 (q s.toks) (.inl (PyProof.noPylong_small (by have := hz.2; exact Nat.lt_of_not_le ‹_›)))
  | some p =>
  refine .bnd fun a ha => .bnd fun b hb => ?_
  obtain ⟨u, w, rfl, r0, r1⟩ := dJ h2 r
  obtain ⟨t, rfl⟩ := cB ha r0
  obtain ⟨t', rfl⟩ := cB hb r1
  exact .newObj H (ob := { cls := .type "range", data := .fields #[.int a t, .int b t', .int 1 s.toks] }) rfl (fun h p e J => ⟨_, _, _, by rw [c.aI]; exact e⟩) fun q => call_range_2 (q _)
end
section
variable {prog : Program} {w : World} {A : Around} {E : Value → Shared → Prop} {s : Shared}
theorem gM {x : Value} {r : Array UInt8} {Q : Value → Shared → Prop}
 (hs : ∀ (A' : Around) (R : Fin → Shared → Prop) (E' : Value → Shared → Prop), (∀ t k, R (.done (.ret (.bytes r t))) { s with toks := k }) → wpAny (model prog w) A' («bytes.__new__» ⟨[.type "bytes", x], []⟩) R E' s)
 (hQ : ∀ t k, Q (.bytes r t) { s with toks := k }) : wpAny (model prog w) A (call (.type "bytes") [x]) Q E s := by
 refine callType_codes (Q₁ := fun obj aU => aU.TypeIs obj "bytes" ∧ Q obj aU) F.bm_called (F.bm_typeCall _) F.entry_object_init ?_ fun obj aU bZ => ?_
 ·refine codeAny_of_tree ?_
  refine wpAny_bind (wpAny_of_eq (F.bm_newCall _) (wpAny_pure ⟨plainId_quiet F.bm_plain _, codeAny_builtin F.bm_entry ?_⟩))
  exact hs _ _ _ fun t k => ⟨PySem.W.typeIs_bytes _ _ _, hQ t k⟩
 ·exact ⟨bZ.1, F.args_object_init_2 obj _, object_init_meets F.bm_called.init.lookup F.bm_called.made (by decide) prog w A.in1 _ aU ⟨bZ.1, rfl, bZ.2⟩⟩
theorem xA : typeLookup (.type "bytes") "__bytes__" = pure (some (.builtin "bytes.__bytes__")) := by rw [typeLookup_type, builtinLookup_eq_fast]; kernel_rfl
theorem Cs : typeLookup (.type "int") "__bytes__" = pure none := by rw [typeLookup_type, builtinLookup_eq_fast]; kernel_rfl
theorem zE : typeLookup (.type "bytearray") "__bytes__" = pure none := by rw [typeLookup_type, builtinLookup_eq_fast]; kernel_rfl
theorem zI : typeLookup (.type "bytearray") "__index__" = pure none := by rw [typeLookup_type, builtinLookup_eq_fast]; kernel_rfl
theorem nS : typeLookup (.type "bytearray") "__buffer__" = pure (some (.builtin "bytearray.__buffer__")) := by rw [typeLookup_type, builtinLookup_eq_fast]; kernel_rfl
theorem kI {b : Array UInt8} {t : Tok} {Q : Value → Shared → Prop} (h : ∀ t' k, Q (.bytes b t') { s with toks := k }) : wpAny (model prog w) A (call (.type "bytes") [.bytes b t]) Q E s := by
 refine gM (r := b) (fun A' R E' h => ?_) h
 refine (wpAny_bind (wpAny_of_eq (a := true) rfl ?_) :)
 refine bm_if_false rfl ?_
 refine wpAny_bind (wpAny_of_eq F.bm_sub ?_)
 refine bm_if_false rfl ?_
 refine wpAny_bind (wpAny_of_eq (F.bm_bind _) ?_)
 refine wpAny_bind (wpAny_of_eq (a := ()) rfl ?_)
 refine wpAny_bind (wpAny_of_eq (a := ()) rfl ?_)
 refine bm_if_false rfl ?_
 refine wpAny_bind (wpAny_specialOf (T := "bytes") (PySem.W.typeIs_bytes _ _ _) xA ?_)
 refine wpAny_bind (wpAny_rule (wpAny_bind (wpAny_typeOf (T := "bytes") (PySem.W.typeIs_bytes _ _ _) ?_)))
 refine bm_if_true (by decide) ?_
 refine bm_if_true (by decide) ?_
 exact wpAny_pure (h t s.toks)
theorem nT {n : Int} {t : Tok} {Q : Value → Shared → Prop} (h0 : 0 ≤ n) (h1 : n ≤ 65536) (h : ∀ t' k, Q (.bytes (Array.replicate n.toNat 0) t') { s with toks := k }) : wpAny (model prog w) A (call (.type "bytes") [.int n t]) Q E s := by
 refine gM (r := Array.replicate n.toNat 0) (fun A' R E' h => ?_) h
 refine (wpAny_bind (wpAny_of_eq (a := true) rfl ?_) :)
 refine bm_if_false rfl ?_
 refine wpAny_bind (wpAny_of_eq F.bm_sub ?_)
 refine bm_if_false rfl ?_
 refine wpAny_bind (wpAny_of_eq (F.bm_bind _) ?_)
 refine wpAny_bind (wpAny_of_eq (a := ()) rfl ?_)
 refine wpAny_bind (wpAny_of_eq (a := ()) rfl ?_)
 refine bm_if_false rfl ?_
 with_reducible refine wpAny_bind (wpAny_specialOf (T := "int") (typeIs_int _ _ _) Cs ?_)
 refine wpAny_bind (wpAny_of_eq (a := false) rfl ?_)
 refine bm_if_false rfl ?_
 with_reducible refine wpAny_bind (wpAny_specialOf (T := "int") (typeIs_int _ _ _) F.slot_int_index.lookup ?_)
 refine bm_if_false rfl ?_
 refine wpAny_bind (wpAny_attempt (wpAny_of_eq (a := n) rfl ?_))
 have c1 : Bytes.fitsIndex n = true := by simp -iota only [Bytes.fitsIndex, Bool.and_eq_true, decide_eq_true_eq]; omega
 refine bm_if_false (by refine ae c1 ?_; rfl) ?_
 refine wpAny_ite (KBy.ite_no (Int.not_lt.mpr ‹_›) ?_)
 refine wpAny_ite (KBy.ite_no (by omega) ?_)
 refine bm_if_false (by delta Bytes.tooLong; refine ae sizeLine_eq ?_; exact decide_eq_false (by omega)) ?_
 refine wpAny_bind (wpAny_rule (wpAny_bind (wpAny_mkBytes ?_ (by refine ae Array.size_replicate ?_; refine ae sizeLine_eq ?_; omega))))
 refine bm_if_true (by decide) ?_
 exact wpAny_pure (h _ _)
theorem zK : isSubtype (.type "bytearray") (.type "bytearray") = pure true := by rw [isSubtype_type]; kernel_rfl
theorem pX {x : Value} {name id : String} {Q : Bool → Shared → Prop} (hT : s.TypeIs x "bytearray") (hl : typeLookup (.type "bytearray") (Str.ofString name) = pure (some (.builtin id))) (he : id.endsWith ("." ++ name) = true) (hd : id.dropRight (name.length + 1) = "bytearray")
 (h : Q true s) : wpAny (model prog w) A (Bytes.slotIsOwn x name) Q E s := by
 refine wpAny_bind (wpAny_specialOf hT hl ?_)
 refine bm_if_false (by refine ae he ?_; rfl) ?_
 refine ae hd ?_
 exact wpAny_isInstance hT zK h
theorem own_buffer {x : Value} {Q : Bool → Shared → Prop} (hT : s.TypeIs x "bytearray") (h : Q true s) : wpAny (model prog w) A (Bytes.slotIsOwn x "__buffer__") Q E s :=
 pX hT nS (by decide +kernel) (by decide +kernel) h
theorem own_release {x : Value} {Q : Bool → Shared → Prop} (hT : s.TypeIs x "bytearray") (h : Q false s) : wpAny (model prog w) A (Bytes.ownRelease x) Q E s := by
 exact wpAny_bind (pX hT BA.MD (by decide +kernel) (by decide +kernel) (wpAny_pure h))
theorem eQ {x : Addr} {b : Array UInt8} {Q : Array UInt8 → Shared → Prop} (hx : s.heap.get? x = some { cls := .type "bytearray", data := .bytearray b }) (h : Q b s) : wpAny (model prog w) A (Bytes.payload (.ref x)) Q E s := by
 exact wpAny_bind (wpAny_bind (wpAny_load hx (wpAny_pure (wpAny_pure h))))
theorem lK {b : Array UInt8} {x : Addr} {Q : Value → Shared → Prop} (hx : s.heap.get? x = some { cls := .type "bytearray", data := .bytearray b }) (hz : b.size ≤ 65536) (h : ∀ t' k, Q (.bytes b t') { s with toks := k }) : wpAny (model prog w) A (call (.type "bytes") [.ref x]) Q E s := by
 have hT : s.TypeIs (.ref x) "bytearray" := ⟨_, hx, rfl⟩
 refine gM (r := b) (fun A' R E' h => ?_) h
 refine (wpAny_bind (wpAny_of_eq (a := true) rfl ?_) :)
 refine bm_if_false rfl ?_
 refine wpAny_bind (wpAny_of_eq F.bm_sub ?_)
 refine bm_if_false rfl ?_
 refine wpAny_bind (wpAny_of_eq (F.bm_bind _) ?_)
 refine wpAny_bind (wpAny_of_eq (a := ()) rfl ?_)
 refine wpAny_bind (wpAny_of_eq (a := ()) rfl ?_)
 refine bm_if_false rfl ?_
 refine wpAny_bind (wpAny_specialOf hT zE ?_)
 refine wpAny_bind (wpAny_bind ?_)
 refine wpAny_bind (wpAny_load hx (wpAny_pure (wpAny_pure ?_)))
 refine bm_if_false rfl ?_
 refine wpAny_bind (wpAny_specialOf hT zI ?_)
 refine bm_if_true rfl ?_
 refine wpAny_bind ?_
 refine wpAny_bind (wpAny_specialOf hT nS ?_)
 refine wpAny_bind (own_buffer hT ?_)
 refine bm_if_false rfl ?_
 refine wpAny_bind (wpAny_specialOf hT nS ?_)
 refine wpAny_bind (own_release hT ?_)
 refine bm_if_false rfl ?_
 refine wpAny_bind (eQ hx (wpAny_pure ?_))
 refine wpAny_bind (wpAny_rule (wpAny_bind (wpAny_mkBytes ?_ (by refine ae sizeLine_eq ?_; exact Nat.le_trans ‹_› (by decide)))))
 refine bm_if_true (by decide) ?_
 exact wpAny_pure (h _ _)
end
end aD
end
section
open PySem PySem.Calls PyProof.Rows PySem.W PySem.SeqAt PySem.Builtin
set_option maxRecDepth 1000000
set_option maxHeartbeats 4000000
namespace aD
namespace BA
theorem mro : mroOf (.type "bytearray") = pure [.type "bytearray", .type "object"] := by rw [mroOf_type]; kernel_rfl
theorem xB : typeLookup (.type "bytearray") "__new__" = pure (some (.builtin "bytearray.__new__")) := by rw [typeLookup_type, builtinLookup_eq_fast]; kernel_rfl
theorem eI : Slot "bytearray" "__init__" "bytearray.__init__" :=
 .of (owner := "bytearray") (n := "__init__") (by rw [typeLookup_type, builtinLookup_eq_fast]; kernel_rfl) (by decide +kernel) (by decide +kernel) (by decide +kernel)
  (by first | exact .inl (by decide +kernel) | exact .inr (by decide +kernel)) (by rw [isSubtype_type]; kernel_rfl)
theorem called : TypeCalled "bytearray" "bytearray.__new__" "bytearray.__init__" :=
 ⟨by decide +kernel, by decide +kernel, ⟨_, _, mro⟩, madeBy_type mro xB (by decide +kernel), by decide +kernel, zK, eI⟩
theorem vl : entryFor table "bytearray.__new__" = some Builtin.«list.__new__» := entryFor_alias (id' := "list.__new__") (by rw [fastTable_eq_tree]; kernel_rfl) (by decide +kernel) (by decide +kernel) (by rw [fastTable_eq_tree]; kernel_rfl)
theorem sm : entryFor table "bytearray.__init__" = some Builtin.«bytearray.__init__» := entryFor_of_tree (by kernel_rfl)
theorem owner : ("bytearray.__new__".splitOn ".__new__").headD "" = "bytearray" := by simp +decide [String.splitOn, String.splitOnAux]
theorem Ct (x a b : Value) : (checkTypeCall "bytearray" ⟨[], []⟩ = pure () ∧ checkTypeCall "bytearray" ⟨[a], []⟩ = pure ()) ∧ (checkBuiltinCall "bytearray.__new__" ⟨[.type "bytearray"], []⟩ = pure () ∧ checkBuiltinCall "bytearray.__new__" ⟨[.type "bytearray", a], []⟩ = pure ()) ∧ (argsOk "bytearray.__init__" ⟨[x], []⟩ ∧ argsOk "bytearray.__init__" ⟨[x, a], []⟩) ∧ argsOk "bytearray.__setitem__" ⟨[x, a, b], []⟩ :=
 ⟨⟨by kernel_rfl, by kernel_rfl⟩, ⟨by kernel_rfl, by kernel_rfl⟩, ⟨by skip; kernel_rfl, by skip; kernel_rfl⟩, by skip; kernel_rfl⟩
end BA
section
variable {prog : Program} {w : World} {A : Around} {E : Value → Shared → Prop} {s : Shared}
theorem lL (rest : List Value) (hc : checkBuiltinCall "bytearray.__new__" ⟨.type "bytearray" :: rest, []⟩ = pure ()) {Q₁ : Value → Shared → Prop}
 (h : Q₁ (.ref s.heap.objs.size) { s with heap := s.heap.push { cls := .type "bytearray", data := .bytearray #[] } }) :
 codeAny (model prog w) A (.call (.builtin "bytearray.__new__") ⟨.type "bytearray" :: rest, []⟩) (wants Q₁ E) s := by
 refine codeAny_of_tree ?_
 refine (?_ : wpAny _ A.in1 (do checkBuiltinCall "bytearray.__new__" ⟨.type "bytearray" :: rest, []⟩; again (.builtin "bytearray.__new__" ⟨.type "bytearray" :: rest, []⟩)) _ _ s)
 refine wpAny_bind (wpAny_of_eq hc (wpAny_pure ⟨plainId_quiet BA.called.plain _, codeAny_builtin_stack BA.vl rfl fun p st => ?_⟩))
 refine ae (Around.under_plainId BA.called.plain _) ?_
 have MN := zK
 have Hl := BA.owner
 obtain ⟨hp, g, d, tk, os⟩ := s
 simp only [Hl]
 repeat (first | wp_delta | wp_step)
 exact h
theorem mK {rest : List Value} {Q : Value → Shared → Prop} (MO : checkTypeCall "bytearray" ⟨rest, []⟩ = pure ()) (MP : checkBuiltinCall "bytearray.__new__" ⟨.type "bytearray" :: rest, []⟩ = pure ())
 (vm : ∀ x, argsOk "bytearray.__init__" ⟨x :: rest, []⟩)
 (hi : ∀ A' : Around, bt (model prog w) A' («bytearray.__init__» ⟨.ref s.heap.objs.size :: rest, []⟩) (fun fin s' => fin = .done (.ret .none) ∧ Q (.ref s.heap.objs.size) s') (fun J J => False)
  { s with heap := s.heap.push { cls := .type "bytearray", data := .bytearray #[] } }) : bt (model prog w) A (call (.type "bytearray") rest) Q E s := by
 have ft := BA.called
 refine cz (cj rfl ?_)
 refine wpAny_pure ⟨Code.quiet_builtin _ (by decide +kernel), gv (by decide +kernel) F.entry_type_call ?_⟩
 delta Builtin.«type.__call__»
 dsimp only
 refine ae (if_neg (by rw [ft.notType]; decide)) ?_; refine ae (if_neg (show ¬ _ = true by rw [show ((Manifest.find? "bytearray").bind _).getD false = false from ft.canCreate]; decide)) ?_
 refine ae MO ?_
 refine aa (aq ?_)
 refine aa (.of (wpAny_of_eq BA.mro ?_))
 refine bP (by decide) ?_
 refine aa (.of (wpAny_of_eq ft.made ?_))
 refine aa (aq ?_)
 refine aa (aA (.of (wpAny_call (lL rest MP ?_))))
 have hx : (s.heap.push { cls := .type "bytearray", data := .bytearray #[] }).get? s.heap.objs.size = some { cls := .type "bytearray", data := .bytearray #[] } := Heap.get?_push_size _ rfl
 have hT : ({ s with heap := s.heap.push { cls := .type "bytearray", data := .bytearray #[] } } : Shared).TypeIs (.ref s.heap.objs.size) "bytearray" := ⟨_, hx, rfl⟩
 refine aa (.of (wpAny_isInstance hT zK ?_))
 refine bP (by decide) ?_
 refine aa (aA ?_)
 refine aa (.of (wpAny_specialOf hT BA.eI.lookup ?_))
 refine aA (aa ?_)
 rw [BA.eI.bind]
 with_reducible refine aq (aa (cz (bS (plainId_quiet BA.eI.plain _) (by decide +kernel) BA.sm (BA.eI.check _ _ _ _ _ _ _ _ hT (vm _) ?_))))
 refine az (hi _) (fun fin s' q => ?_) fun J J q => q.elim
 obtain ⟨rfl, q⟩ := q
 exact aq (aq q)
theorem fB {id t : String} (hc : lX id = false) (ht : lX t = true) : id ≠ t := fun e => Bool.false_ne_true (hc.symm.trans (e ▸ ht))
theorem so {x : Value} {M : Model} {Q : Bool → Shared → Prop} {E : Value → Shared → Prop} (h : Q false s) : bt M A (Bytes.exported x) Q E s := by
 refine nB (fun c p hc => ?_) h
 cases c with
 | builtin id args =>
  obtain ⟨pos, kw⟩ := args
  have hc : lX id = false := hc
  delta PySem.Builtin.Bytes.exported.match_1
  refine (dif_neg (fB hc (t := "bytearray.__contains__") (by decide +kernel))).trans ?_
  refine (dif_neg (fB hc (t := "bytearray.__mod__") (by decide +kernel))).trans ?_
  refine (dif_neg (fB hc (t := "bytearray.__rmod__") (by decide +kernel))).trans ?_
  refine (dif_neg (fB hc (t := "_struct.pack_into.held") (by decide +kernel))).trans ?_
  refine (dif_neg (fB hc (t := "bytearray.find.held") (by decide +kernel))).trans ?_
  cases pos with
  | nil => rfl
  | cons v r =>
   refine (?_ : (Bytes.sameRef v x && Bytes.decodersThatHold.contains id) = false)
   rw [(Bool.or_eq_false_iff.mp hc).1, Bool.and_false]
 | _ => rfl
theorem kJ {x : Addr} {b : Array UInt8} {M : Model} {Q : Nat → Shared → Prop} {E : Value → Shared → Prop} (hx : s.heap.get? x = some { cls := .type "bytearray", data := .bytearray b }) (h : Q 0 s) : wpAny M A (Bytes.exportsOf (.ref x)) Q E s := by
 exact wpAny_bind (wpAny_load hx (wpAny_pure h))
theorem sq {x : Addr} {b : Array UInt8} {M : Model} {Q : Bool → Shared → Prop} {E : Value → Shared → Prop} (hx : s.heap.get? x = some { cls := .type "bytearray", data := .bytearray b }) (h : Q false s) :
 bt M A (Bytes.exported (.ref x) <||> (do return (← Bytes.exportsOf (.ref x)) > 0)) Q E s := by
 refine aa (so ?_)
 exact aa (.of (kJ hx (aq h)))
theorem eR {x : Addr} {b : Array UInt8} {f : Array UInt8 → Array UInt8} {M : Model} {Q : Unit → Shared → Prop} {E : Value → Shared → Prop} (hx : s.heap.get? x = some { cls := .type "bytearray", data := .bytearray b }) (hz : (f b).size ≤ sizeLine)
 (h : ∀ h' : Heap, h'.get? x = some { cls := .type "bytearray", data := .bytearray (f b) } → Heap.SameBut x s.heap h' → Q () { s with heap := h' }) : wpAny M A (Bytes.write (.ref x) f) Q E s := by
 refine wpAny_bind (wpAny_load hx ?_)
 have hu : (s.heap.update x (Obj.mapBytearray f)).get? x = some { cls := .type "bytearray", data := .bytearray (f b) } := Heap.get?_update_self _ hx rfl
 refine wpAny_bind (wpAny_update hx ?_)
 refine wpAny_lookBehind hu ?_ (h _ hu (Heap.SameBut.update ..))
 dsimp only [Data.pastItsLine]
 simp
 assumption
theorem MQ : Bytes.bindOptional "bytearray.__init__" "bytearray" ["source", "encoding", "errors"] [] [] = pure [none, none, none] := by kernel_rfl
theorem MR (v : Value) : Bytes.bindOptional "bytearray.__init__" "bytearray" ["source", "encoding", "errors"] [v] [] = pure [some v, none, none] := by kernel_rfl
theorem Ep {x : Addr} {Q : PySem.Fin → Shared → Prop} (hx : s.heap.get? x = some { cls := .type "bytearray", data := .bytearray #[] })
 (h : ∀ h' : Heap, h'.get? x = some { cls := .type "bytearray", data := .bytearray #[] } → Heap.SameBut x s.heap h' → Q (.done (.ret .none)) { s with heap := h' }) : bt (model prog w) A («bytearray.__init__» ⟨[.ref x], []⟩) Q E s := by
 have hT : s.TypeIs (.ref x) "bytearray" := ⟨_, hx, rfl⟩
 refine aa (.of (own_release hT ?_))
 refine bP (by decide) ?_
 refine aa (.of (wpAny_of_eq MQ ?_))
 refine aa (.of (wpAny_of_eq (a := ()) rfl ?_))
 refine aa (.of (wpAny_of_eq (a := ()) rfl ?_))
 refine aa (sq hx ?_)
 refine bP (by decide) ?_
 refine aa (.of (eR hx (by decide) fun h' h1 h2 => ?_))
 refine aa (.of (wpAny_of_eq (a := ()) rfl ?_))
 exact aq (h h' h1 h2)
theorem fC : typeLookup (.type "bytes") "__index__" = pure none := by rw [typeLookup_type, builtinLookup_eq_fast]; kernel_rfl
theorem nU {id : String} {b : Array UInt8} {t : Tok} {full : Bool} {M : Model} {Q : Option (Array UInt8) → Shared → Prop} {E : Value → Shared → Prop} (h : Q (some b) s) : wpAny M A (Bytes.buffer? id (.bytes b t) full) Q E s := by
 dsimp only [Bytes.buffer?]
 have hT : s.TypeIs (.bytes b t) "bytes" := PySem.W.typeIs_bytes _ _ _
 refine wpAny_bind (wpAny_specialOf hT KBy.look_buffer ?_)
 refine wpAny_bind (wpAny_bind (wpAny_specialOf hT KBy.look_buffer ?_))
 refine bm_if_false (by decide +kernel) ?_
 with_reducible refine wpAny_isInstance (T := "bytes") hT (b := true) (by refine ae (show ("bytes.__buffer__".dropRight ("__buffer__".length + 1)) = "bytes" by decide +kernel) ?_; exact F.bm_sub) ?_
 refine bm_if_false rfl ?_
 refine wpAny_bind (wpAny_specialOf hT KBy.look_buffer ?_)
 refine wpAny_bind (wpAny_bind (wpAny_bind (wpAny_specialOf hT KBy.look_release (wpAny_pure (wpAny_pure ?_)))))
 refine (bm_if_false rfl ?_ :)
 exact wpAny_bind (wpAny_of_eq (a := b) rfl (wpAny_pure h))
theorem Er {x : Addr} {b : Array UInt8} {t : Tok} {Q : PySem.Fin → Shared → Prop} (hz : b.size ≤ 65536) (hx : s.heap.get? x = some { cls := .type "bytearray", data := .bytearray #[] })
 (h : ∀ h' : Heap, h'.get? x = some { cls := .type "bytearray", data := .bytearray b } → Heap.SameBut x s.heap h' → Q (.done (.ret .none)) { s with heap := h' }) : bt (model prog w) A («bytearray.__init__» ⟨[.ref x, .bytes b t], []⟩) Q E s := by
 have hT : s.TypeIs (.ref x) "bytearray" := ⟨_, hx, rfl⟩
 refine aa (.of (own_release hT ?_))
 refine bP (by decide) ?_
 refine aa (.of (wpAny_of_eq (MR _) ?_))
 refine aa (.of (wpAny_of_eq (a := ()) rfl ?_))
 refine aa (.of (wpAny_of_eq (a := ()) rfl ?_))
 refine aa (sq hx ?_)
 refine bP (by decide) ?_
 refine aa (.of (eR hx (by decide) fun h' h1 h2 => ?_))
 refine (aa (.of (wpAny_of_eq (a := none) rfl ?_)) :)
 refine aa (.of (wpAny_of_eq (a := ()) rfl ?_))
 refine (aa (.of (wpAny_specialOf (T := "bytes") (PySem.W.typeIs_bytes _ _ _) fC ?_)) :)
 refine bP (by decide) ?_
 refine aa (.of (nU ?_))
 refine aa (.of (wpAny_rule ?_))
 refine aa (.of (eR h1 (by refine ae sizeLine_eq ?_; exact Nat.le_trans ‹_› (by decide)) fun FC h3 h4 => ?_))
 exact aq (h FC h3 (h2.trans h4))
end
section
variable {prog : Program} {w : World} {A : Around} {E : Value → Shared → Prop} {s : Shared}
theorem parts_of {a : Addr} {l u : Value} {lo hi : Option Int} {M : Model} {Q : Value × Value × Value → Shared → Prop} (hs : s.heap.IsSliceOf a l u .none) (hl : IsPart l lo) (hu : IsPart u hi) (h : Q (rawPart lo, rawPart hi, rawPart none) s) :
 wpAny M A (Bytes.sliceParts (.ref a)) Q E s := by
 obtain ⟨o, ho, hc, hd⟩ := hs
 refine wpAny_bind (wpAny_field (x := .none) ho hd rfl ?_)
 kby_none
 refine wpAny_ite (KBy.ite_no (show ¬ ((Value.none == rawInt 0) = true) from Bool.false_ne_true) ?_)
 refine wpAny_bind (wpAny_field (x := l) ho hd rfl ?_)
 cases hl <;> cases hu <;> (first
  | (kby_none; (refine wpAny_bind (wpAny_field (x := .none) ho hd rfl ?_)); kby_none)
  | (kby_none; (refine wpAny_bind (wpAny_field (x := .int _ _) ho hd rfl ?_)); kby_int)
  | (kby_int; (refine wpAny_bind (wpAny_field (x := .none) ho hd rfl ?_)); kby_none)
  | (kby_int; (refine wpAny_bind (wpAny_field (x := .int _ _) ho hd rfl ?_)); kby_int)) <;> exact wpAny_pure h
theorem nV : typeLookup (.type "bytes") "__int__" = pure none := by rw [typeLookup_type, builtinLookup_eq_fast]; kernel_rfl
theorem kK : typeLookup (.type "bytes") "__float__" = pure none := by rw [typeLookup_type, builtinLookup_eq_fast]; kernel_rfl
theorem lM : isSubtype (.type "bytes") (.type "bytearray") = pure false := by rw [isSubtype_type]; kernel_rfl
theorem lN : isSubtype (.type "bytes") (.type "complex") = pure false := by rw [isSubtype_type]; kernel_rfl
theorem tQ {b : Array UInt8} {i j n : Nat} (h : b.size ≤ n) : (b.extract i j).size ≤ n := by
 refine ae Array.size_extract ?_
 exact Nat.le_trans (Nat.sub_le ..) (Nat.le_trans (Nat.min_le_right ..) h)
theorem xC (a b : Nat) : (Max.max (a : Int) (b : Int)).toNat = max a b := by
 rcases Nat.le_total a b with h | h
 ·refine ae (Nat.max_eq_right h) ?_; refine ae (Int.max_eq_right (Int.ofNat_le.mpr h)) ?_; rfl
 ·refine ae (Nat.max_eq_left h) ?_; refine ae (Int.max_eq_left (Int.ofNat_le.mpr h)) ?_; rfl
theorem vn {x sl : Addr} {b v : Array UInt8} {t : Tok} {l u : Value} {lo hi : Option Int} {Q : PySem.Fin → Shared → Prop} (hx : s.heap.get? x = some { cls := .type "bytearray", data := .bytearray b }) (hs : s.heap.IsSliceOf sl l u .none) (hl : IsPart l lo) (hu : IsPart u hi)
 (hz : b.size ≤ 65536) (hv : v.size ≤ 65536)
 (h : ∀ (h' : Heap) tk, h'.get? x = some { cls := .type "bytearray", data := .bytearray (b.extract 0 (lo.elim 0 (clipAt b.size)) ++ v ++ b.extract (max (lo.elim 0 (clipAt b.size)) (hi.elim b.size (clipAt b.size))) b.size) } →
  (∀ a o, a ≠ x → s.heap.get? a = some o → h'.get? a = some o) → Q (.done (.ret .none)) { s with heap := h', toks := tk }) :
 bt (model prog w) A («bytearray.__setitem__» ⟨[.ref x, .ref sl, .bytes v t], []⟩) Q E s := by
 have hT : s.TypeIs (.ref x) "bytearray" := ⟨_, hx, rfl⟩
 have hV : s.TypeIs (.bytes v t) "bytes" := PySem.W.typeIs_bytes _ _ _
 have hS : s.TypeIs (.ref sl) "slice" := by refine (hs).elim fun o aj => (aj).elim fun ho ax => (ax).elim fun hc _ => ?_; exact ⟨o, ho, hc⟩
 delta Builtin.«bytearray.__setitem__»
 dsimp only
 refine bP (by decide) ?_
 refine aa (.of ?_)
 refine wpAny_bind (wpAny_specialOf hS slice_no_index (wpAny_pure ?_))
 refine aa (.of (wpAny_typeOf hS ?_))
 refine bP (by decide) ?_
 refine aa (.of (parts_of hs hl hu ?_))
 refine (aa (.of (wpAny_isInstance hV lM ?_)) :)
 refine tB (by decide) ?_
 refine aa (.of ?_)
 refine wpAny_bind (wpAny_bind (wpAny_specialOf hV fC (wpAny_pure ?_)))
 refine wpAny_bind (wpAny_bind (wpAny_specialOf hV nV (wpAny_pure ?_)))
 refine wpAny_bind (wpAny_bind (wpAny_specialOf hV kK (wpAny_pure ?_)))
 refine wpAny_isInstance hV lN ?_
 refine aa (.of (wpAny_of_eq (a := none) rfl ?_))
 refine bP (by decide) ?_
 refine aa (.of (wpAny_rule ?_))
 refine aa (mK (BA.Ct .none _ .none).1.2 (BA.Ct .none _ .none).2.1.2 (fun x => (BA.Ct x _ .none).2.2.1.2) fun A' => Er hv (Heap.get?_push_size _ rfl) fun h1 g1 g2 => ⟨rfl, ?_⟩)
 have hold : ∀ a o, s.heap.get? a = some o → h1.get? a = some o := fun a o e => (g2.2 a (Nat.ne_of_lt (Heap.lt_size e))).trans (Heap.get?_push_of_some _ e)
 have FN : h1.IsSliceOf sl l u .none := by refine (hs).elim fun o aj => (aj).elim fun ho ax => (ax).elim fun hc hd => ?_; exact ⟨o, hold _ _ ho, hc, hd⟩
 refine aa (aA (.of (parts_of (s := { s with heap := h1 }) FN hl hu ?_)))
 refine aa (.of (eQ (s := { s with heap := h1 }) g1 ?_))
 refine aa (.of (eQ (s := { s with heap := h1 }) (hold _ _ hx) ?_))
 refine aa (.of (wpAny_of_eq (sliceIndices_raw lo hi none b.size (fun e => nomatch e)) ?_))
 rw [sliceBounds_plain]
 dsimp -iota only
 refine tB (by decide) ?_
 refine aa (.of (wpAny_rule ?_))
 have fin : bt (model prog w) A (Bytes.write (.ref x) (fun b' => b'.extract 0 ((lo.elim 0 (clipAt b.size) : Nat) : Int).toNat ++ v ++ b'.extract (Max.max ((lo.elim 0 (clipAt b.size) : Nat) : Int) ((hi.elim b.size (clipAt b.size) : Nat) : Int)).toNat b'.size) >>= fun J => ret .none) Q E { s with heap := h1 } := by
  refine aa (.of (eR (s := { s with heap := h1 }) (hold _ _ hx) ?_ fun h2 k1 k2 => ?_))
  ·refine ae sizeLine_eq ?_; refine ae Array.size_append ?_; refine ae Array.size_append ?_
   exact Nat.le_trans (Nat.add_le_add (Nat.add_le_add (tQ hz) hv) (tQ hz)) (by decide)
  ·refine aq (h h2 s.toks ?_ fun a o ha e => (k2.2 a ha).trans (hold a o e))
   refine ae k1 ?_
   rw [xC]; rfl
 refine yW (aa ?_) fin
 refine aa (sq (s := { s with heap := h1 }) (hold _ _ hx) ?_)
 refine bP (by decide) ?_
 exact aq fin
end
namespace BA
theorem dy : Slot "bytearray" "__setitem__" "bytearray.__setitem__" :=
 .of (owner := "bytearray") (n := "__setitem__") (by rw [typeLookup_type, builtinLookup_eq_fast]; kernel_rfl) (by decide +kernel) (by decide +kernel) (by decide +kernel)
  (by first | exact .inl (by decide +kernel) | exact .inr (by decide +kernel)) (by rw [isSubtype_type]; kernel_rfl)
theorem lO : entryFor table "bytearray.__setitem__" = some Builtin.«bytearray.__setitem__» := entryFor_of_tree (by kernel_rfl)
end BA
section
variable {Z : aL} {L : Nat} {cs : Fm} {Ar : Around} {c c' : Cfg} {A : AS} {s s' : Shared}
theorem su {o lo hi v : V} {u l h w : Value} (H : St Z L cs c A s) (ro : VR c o u) (rl : VR c lo l) (rh : VR c hi h) (rv : VR c v w) {k : Value → Sem Unit} {pos : Pos}
 (hk : ∀ i, k i = (standAt pos >>= fun J => holding [w, u, i] (setItem u i w))) : au Z L cs Ar (newFields "slice" [l, h, .none] >>= k) UR (gx o lo hi v A) c s := by
 have wj : ∀ b o', s.heap.get? b = some o' → (s.heap.push { cls := .type "slice", data := .fields #[l, h, .none] }).get? b = some o' := fun b o' e => Heap.get?_push_of_some _ e
 have H1 : St Z L cs c A { s with heap := s.heap.push { cls := .type "slice", data := .fields #[l, h, .none] } } := H.bk wj rfl rfl
 have a0 : Le Z L c s c { s with heap := s.heap.push { cls := .type "slice", data := .fields #[l, h, .none] } } := Le.bk wj
 refine .bnd fun j J => .bnd fun x J => .bnd fun b J => .dP fun hlen => .bnd fun pq hc => ?_
 obtain ⟨j, rfl⟩ := j
 obtain ⟨x, rfl⟩ := x
 obtain ⟨b, hm⟩ := b
 obtain ⟨p, q⟩ := pq
 obtain ⟨hj, rfl⟩ := ro
 obtain ⟨Eb, t, rfl⟩ := rv
 dsimp -iota only at hlen hc
 obtain ⟨xo, cP, pl, pu, e1, _, e2⟩ := fU hc rl rh
 refine (H1.objs _ _ hm).elim fun hb e0 => ?_
 have hz : (BS.den c.ρ b).toArray.size = BS.len b := by rw [List.size_toArray, BS.bq]
 have MS : (BS.den c.ρ x).toArray.size = BS.len x := by rw [List.size_toArray, BS.bq]
 intro r er
 obtain rfl := aO er
 refine iP ?_
 rw [hk]
 refine aa (aY (aA ?_))
 dsimp only [setItem]
 refine aA ?_
 have hT : ({ s with heap := s.heap.push { cls := .type "slice", data := .fields #[l, h, .none] } } : Shared).TypeIs (.ref (c.σ j).1) "bytearray" := ⟨_, e0, rfl⟩
 refine aa (.of (wpAny_sequenceKey hT (by decide) ?_))
 refine aa ?_
 dsimp only [callSpecial?]
 refine aa (.of (wpAny_specialOf hT BA.dy.lookup ?_))
 refine (aA (aa ?_) :)
 rw [BA.dy.bind]
 with_reducible refine aq (aa (cz (bS (plainId_quiet BA.dy.plain _) (by decide +kernel) BA.lO (BA.dy.check _ _ _ _ _ _ _ _ hT (BA.Ct _ _ _).2.2.2 ?_))))
 refine vn e0 (Heap.IsSliceOf.new _ _ _ _) pl pu (by refine ae hz ?_; omega) (by refine ae MS ?_; omega) fun h' tk g1 g2 => ?_
 refine aq (aq ?_)
 have Ek : ∀ a ob, (s.heap.push { cls := .type "slice", data := .fields #[l, h, .none] }).get? a = some ob → a ≠ (c.σ j).1 → a ≠ (c.σ j).2 → h'.get? a = some ob := fun a ob e q J => g2 a ob q e
 have KU : a6 (s.heap.push { cls := .type "slice", data := .fields #[l, h, .none] }) h' := xb e0 (a7 rfl (by decide)) g1 fun a ob q e => g2 a ob q e
 refine ⟨(), _, c, .head _, a0.trans (Le.change (s' := { s with heap := h', toks := tk }) H1.toHp hj Ek KU), H1.change (s' := { s with heap := h', toks := tk }) hj Ek KU ⟨BS.ka (BS.tI hb) (BS.ka Eb (BS.tH hb)), ?_⟩ rfl rfl, trivial⟩
 refine g1.trans ?_
 congr 3
 refine ae hz ?_; refine ae e1 ?_; refine ae e2 ?_
 apply Array.toList_inj.mp
 simp -iota only [Array.toList_append, Array.toList_extract, List.extract_eq_take_drop, List.toList_toArray]
 rw [BS.fR, BS.fR, BS.pz, BS.px]
 simp -iota only [List.drop_zero, Nat.sub_zero, List.append_assoc]
 congr 2
 exact List.take_of_length_le (by rw [List.length_drop, BS.bq]; exact Nat.le_refl _)
end
end aD
end
section
open PySem PySem.Calls PyProof.Rows PySem.W PySem.SeqAt PySem.Builtin
set_option maxRecDepth 100000
namespace aD
theorem tR {Z : aL} (G : Z.Glob) : bY Z where
 bin := fun J H ra rb => uW H ra rb
 B5 := fun J H ra rb => rR H ra rb
 cmp := fun hr H ra rb => u6 G hr H ra rb
 truth := fun J H ra => pI H ra
 neg := fun J H r => u7 H r
 item := fun hx J H ro ri => rU G hx H ro ri
 slice := by intro Ar L cs c A s o lo hi u l h x y p _ H ro rl rh k pos hk; exact pM H ro rl rh hk
 attr := fun J H ro => rX G H ro
 lst := fun J H r => uT H r
 tup := fun J H r => uU H r
 emp := fun J H => vb H
theorem xD {Z : aL} (G : Z.Glob) : bQ Z where
 B6 := fun J H ro rv => rY G H ro rv
 nr := fun J H ro ri rv => rV G H ro ri rv
 rg := by intro Ar L cs c A s o lo hi v u l h w _ H ro rl rh rv k pos hk; exact su H ro rl rh rv hk
 iF := fun J H ro ri => rZ G H ro ri
 y9 := fun hr H hm => sd hr H hm
section
variable {Z : aL} {n : Nat} {ih : bM} {L : Nat} {cs : Fm} {Ar : Around} {c c' : Cfg} {A : AS} {s s' : Shared}
theorem sv (H : St Z L cs c A s) {b : Bool} {u : Value} (r : VR c (.bool b) u) : au Z L cs Ar (call (.type "int") [u]) VR (ok (.int (.lit (if b then 1 else 0))) A) c s := by
 subst r
 refine .look H fun Q E q => call_int_bool (q _ (s.toks + 1) ⟨trivial, s.toks, ?_⟩)
 cases b <;> rfl
theorem pY (H : St Z L cs c A s) : au Z L cs Ar (call (.type "bytearray") []) VR (ok (V.loc (A.alloc (.bW [])).1) (A.alloc (.bW [])).2) c s := by
 intro r er
 obtain rfl := aO er
 refine mK (BA.Ct .none .none .none).1.1 (BA.Ct .none .none .none).2.1.1 (fun x => (BA.Ct x .none .none).2.2.1.1) fun A' => Ep (Heap.get?_push_size _ rfl) fun h' g1 g2 => ⟨rfl, ?_⟩
 have hk : ∀ a o, s.heap.get? a = some o → h'.get? a = some o := fun a o e => (g2.2 a (Nat.ne_of_lt (Heap.lt_size e))).trans (Heap.get?_push_of_some _ e)
 have hz := get_size s.heap
 refine ⟨_, _, c.push (s.heap.objs.size, s.heap.objs.size), .head _, Le.alloc (s' := { s with heap := h' }) hk hz hz, H.alloc (s' := { s with heap := h' }) hk ⟨hz, _, g1⟩ ⟨hz, _, g1⟩ ⟨trivial, by rw [c.aI]; exact g1⟩ rfl rfl, ?_, ?_⟩
 ·refine (?_ : A.n < c.n + 1); refine ae H.n ?_; exact Nat.lt_succ_self _
 ·refine (?_ : _ = Value.ref ((c.push _).σ A.n).1)
  rw [← H.n, c.aI]
theorem tS {α β : Type} {p : Prop} [Decidable p] {o : Option α} {f : α → β} {b : β} (h : (if p then o.map f else none) = some b) : p ∧ ∃ a, o = some a ∧ f a = b := by
 by_cases hp : p
 ·exact ⟨hp, Dw ((if_pos hp).symm.trans h)⟩
 ·exact no ((if_neg hp).symm.trans h)
theorem ints_in {n : Int} {ns : List Int} (hn : 0 ≤ n ∧ n < 256) (h : ∀ m ∈ ns, 0 ≤ m ∧ m < 256) : ∀ m ∈ n :: ns, 0 ≤ m ∧ m < 256 := fun m hm => by
 rcases ff hm with rfl | hm
 ·exact hn
 ·exact h m hm
theorem ic {n : Int} {ns : List Int} {l : List UInt8} (h : (byteArr ns).toList = l) : (byteArr (n :: ns)).toList = UInt8.ofNat n.toNat :: l := by
 refine bK h ?_; simp [byteArr]
set_option backward.match.sparseCases false in
theorem ints_of : ∀ {xs : List V} {us : List Value} {b : BS}, cZ A.vars xs = some b → (∀ k d, A.vars[k]? = some d → VD.ok c.ρ k d) → dq c xs us →
 ∃ ns : List Int, IntsAre us ns ∧ (∀ n ∈ ns, 0 ≤ n ∧ n < 256) ∧ (byteArr ns).toList = BS.den c.ρ b ∧ BS.lt c.nv b
 | [], _, b, h, _, r => by obtain rfl := r.nil_inv; obtain rfl := aO h; exact ⟨[], .nil, (fun n h => by cases h), rfl, trivial⟩
 | x :: xs, _, b, h, hv, r => by
  obtain ⟨_, _, rfl, r1, r2⟩ := r.cons_inv
  cases x with
  | int y => cases y with
   | lit n =>
    obtain ⟨hn, b', hb, rfl⟩ := tS h
    refine (ints_of hb hv r2).elim fun ns aj => (aj).elim fun q1 ax => (ax).elim fun q2 aP => (aP).elim fun q3 q4 => ?_
    obtain ⟨_, t, rfl⟩ := r1
    exact ⟨n :: ns, .cons _ _ q1, ints_in hn q2, (ic q3).trans (by rw [BS.hX]; rfl), BS.nK trivial q4⟩
   | va k o =>
    have h : (if o = 0 then (match getL A.vars k with
     | some (.int lo hi) => if 0 ≤ lo ∧ hi ≤ 256 then (cZ A.vars xs).map (BS.cons (.rep k 1)) else none
     | _ => none) else none) = some b := h
    rw [bF] at h
    by_cases ho : o = 0
    case neg => rw [if_neg ho] at h; exact no h
    subst ho
    rw [if_pos rfl] at h
    generalize MT : A.vars[k]? = o at h
    cases o with
    | none => exact no h
    | some d => cases d with
     | int lo hi =>
      obtain ⟨hl, b', hb, rfl⟩ := tS h
      refine (ints_of hb hv r2).elim fun ns aj => (aj).elim fun q1 ax => (ax).elim fun q2 aP => (aP).elim fun q3 q4 => ?_
      obtain ⟨hk, t, hu⟩ := r1
      have hu : _ = Value.int (c.ρ.i k) t := hu.trans (by refine (?_ : Value.int (c.ρ.i k + 0) t = _); rw [Int.add_zero])
      subst hu
      have hd := hv _ _ MT
      exact ⟨c.ρ.i k :: ns, .cons _ _ q1, ints_in ⟨Int.le_trans hl.1 hd.1, Int.lt_of_lt_of_le hd.2 hl.2⟩ q2, (ic q3).trans (by rw [BS.hX]; rfl), BS.nK hk q4⟩
     | _ => exact no h
  | _ => exact no h
theorem nW (H : St Z L cs c A s) {n : Int} {t : Tok} : au Z L cs Ar (call (.type "bytes") [.int n t]) VR (wC n A) c s := by
 refine .dP fun hn => .look H fun Q E q => nT hn.1 (Int.le_trans hn.2 (by decide)) fun t' k => q _ _ ?_
 by_cases h0 : n = 0
 ·subst h0; exact ⟨trivial, t', rfl⟩
 ·refine ae (if_neg h0) ?_
  refine ⟨⟨trivial, trivial⟩, t', ?_⟩
  refine (?_ : Value.bytes _ _ = Value.bytes (List.map UInt8.ofNat (List.replicate n.toNat 0) ++ []).toArray _)
  rw [List.map_replicate, List.append_nil, ← List.toArray_replicate]; rfl
theorem nX (hr : Room 1 Ar cs) (H : St Z L cs c A s) {i : Nat} : au Z L cs Ar (call (.type "bytes") [.ref (c.σ i).1]) VR (rn i A) c s := by
 delta rn
 cases hm : A.heap.get i with
 | none => exact .none
 | some ob => cases ob with
  | bW b =>
   refine .dP fun hl => ?_
   refine (H.objs _ _ hm).elim fun hb e0 => ?_
   exact .look H fun Q E q => lK e0 (by rw [List.size_toArray, BS.bq]; exact hl) fun t' k => q _ _ ⟨hb, t', rfl⟩
  | list xs =>
   refine .dP fun hl => .opt fun a ha => ?_
   obtain ⟨vs, ep, e1, r1⟩ := H.objs _ _ hm
   obtain ⟨b, hb, rfl⟩ := Dw ha
   obtain ⟨ns, q1, q2, q3, q4⟩ := ints_of hb H.vars r1
   refine .done fun Q E q => call_bytes_ints (vs := vs.toList) ⟨_, e1, rfl, _, by refine ae Array.toArray_toList ?_; rfl⟩ q1 q2 (by refine ae sizeLine_eq ?_; refine bK r1.length ?_; exact Nat.le_trans hl.1 (by decide)) (hr.quiet H (yF hl.2)) fun h' t k hk => ?_
   refine q _ _ c (Le.bk (s' := { s with heap := h', toks := k }) hk) (H.bk (s' := { s with heap := h', toks := k }) hk rfl rfl) ⟨q4, t, ?_⟩
   refine bK q3 ?_; rfl
  | _ => exact .none
theorem nY (hr : Room 1 Ar cs) (H : St Z L cs c A s) {as : List V} {us : List Value} (r : dq c as us) : au Z L cs Ar (call (.type "bytes") us) VR (tv as A) c s := by
 refine .bnd fun v hv => ?_
 obtain ⟨u, rfl, r⟩ := dI hv r
 cases v with
 | int x => cases x with
  | lit n => obtain ⟨_, t, rfl⟩ := r; exact nW H
  | va _ _ => exact .none
 | bytes b =>
  obtain ⟨hb, t, rfl⟩ := r
  exact .look H fun Q E q => kI fun t' k => q _ _ ⟨hb, t', rfl⟩
 | loc i => obtain ⟨hi, rfl⟩ := r; exact nX hr H
 | _ => exact .none
theorem vo {n : Int} (h : 0 ≤ n) (h1 : n < 10) : n.natAbs.log2 < 1920 := by
 obtain ⟨k, rfl⟩ := Int.eq_ofNat_of_zero_le h
 have : k < 10 := by omega
 exact Nat.lt_of_le_of_lt (Nat.log2_le_self _) (Nat.le_trans ‹_› (by decide))
theorem vp {n : Int} (h : 0 ≤ n) (h1 : n < 10) : strOf [48 + n.toNat] = Str.ofString (toString n) := by
 obtain ⟨k, rfl⟩ := Int.eq_ofNat_of_zero_le h
 have : k < 10 := by omega
 exact (by decide +kernel : ∀ k : Fin 10, strOf [48 + (k.val : Int).toNat] = Str.ofString (toString (k.val : Int))) ⟨k, this⟩
theorem nZ (hr : Room 1 Ar cs) (H : St Z L cs c A s) {t : Ty} {as : List V} {us : List Value} (r : dq c as us) : au Z L cs Ar (call (.type t.name) us) VR (wD t as A) c s := by
 cases t <;> first | exact .none | skip
 ·exact nY hr H r
 ·refine (?_ : au Z L cs Ar (call (.type "bytearray") us) VR (rp as A) c s)
  delta rp
  split
  ·cases r; exact pY H
  ·exact .none
 ·refine .bnd fun v hv => .bnd fun b J => ?_
  obtain ⟨u, rfl, r1⟩ := dI hv r
  obtain ⟨b, rfl⟩ := b
  exact sv H r1
 ·refine .bnd fun v hv => .bnd fun n hl => .dP fun hn => ?_
  obtain ⟨u, rfl, r1⟩ := dI hv r
  obtain ⟨t, rfl⟩ := cB hl r1
  refine .look H fun Q E q => PySem.P.str_of_int (vo hn.1 hn.2) (q _ _ ⟨s.toks, ?_⟩)
  refine ae (vp hn.1 hn.2) ?_; rfl
end
section
variable {prog : Program} {w : World} {A : Around} {R : Result → Shared → Prop} {s : Shared}
theorem sx {e : Expr} {env : Env}
 (h : bt (model prog w) (A.deeper env) (eval e env) (fun v s' => R (.ok (.ret v)) s') (fun e' s' => bt (model prog w) (A.deeper env) (leaving env e') (fun J eB => R (.error e') eB) (fun GU eB => R (.error GU) eB) s') s) :
 bj (model prog w) A (.expr e env) R s := by
 refine aZ rfl ?_
 refine (?_ : bt _ (A.deeper env) (do point; ret (← (eval e env).onRaise (leaving env))) _ _ s)
 exact aa (lZ (aa (aT (az h (fun v s' h' => aq h') fun J J h' => h'))))
theorem ie {a : Addr} {args : Args} {o : Obj} {fd : FuncData} {body : Expr} (xq : A.depth < recursionLimit)
 (ho : s.heap.get? a = some o) (B8 : o.data = .func fd) (He : fd.scope.isCoroutine = false) (Cm : fd.scope.isGenerator = false) (xr : fd.body = .expr body) (Dn : dk s.heap fd.code)
 (h : ∀ q : Str, wpAny (model prog w) A.in1 (bindArgs fd args) (fun binds aU =>
  wpAny (model prog w) A.in1 (newFunctionEnv fd.scope fd.globals fd.closure binds (q ++ ".<locals>.") (some a) fd.code none fd.builtins)
   (fun env gf => gf.heap.NoLimit ∧ bj (model prog w) A (.expr body env) R gf) (fun e s' => R (.error e) s') aU) (fun e s' => R (.error e) s') s) :
 bj (model prog w) A (.call (.ref a) args) R s := by
 refine cj rfl ?_
 refine (?_ : wpAny _ A.in1 (callAny (.ref a) args) _ _ s)
 refine (Dn).elim fun c aj => (aj).elim fun oc ax => (ax).elim fun hc aP => (aP).elim fun Hf bG => (bG).elim fun _ dc => (dc).elim fun vs ib => (ib).elim fun q pQ => (pQ).elim fun tq se => (se).elim fun Hg hq => ?_
 refine nd_load ho ?_
 obtain ⟨k1, k2, k3, k4⟩ := o
 obtain rfl : k3 = .func fd := B8
 refine (?_ : wpAny _ A.in1 (callFunction a fd args) _ _ s)
 delta callFunction
 refine ae hc ?_; refine ae xr ?_; refine ae Cm ?_; refine ae He ?_
 rw [hc] at h
 refine wpAny_bind (m := field (.ref c) 1) (wpAny_field Hf Hg hq (wpAny_bind (wpAny_pure ?_)))
 exact wpAny_bind (wpAny_mono (h q) (fun binds aU bZ => wpAny_bind (wpAny_mono bZ (fun env gf xt => wpAny_bind (wpAny_enterFrame xt.1 xq
  (wpAny_pure (And.intro rfl xt.2)))) fun J J h' => h')) fun J J h' => h')
end
section
variable {Z : aL} {n : Nat} {ih : bM} {L : Nat} {cs : Fm} {Ar : Around} {c c' : Cfg} {A : AS} {s s' : Shared} {env : Env} {sc : cA} {m : Nat}
structure Hm (ar : Arguments) (scope : Scope) : Prop where
 po : ar.posonlyargs = []
 ag : ar.args = []
 ko : ar.kwonlyargs = []
 va : ar.vararg = none
 kw : ar.kwarg = none
 df : ar.defaults = []
 kd : ar.kw_defaults = []
 kind : scope.kind = .function
 co : scope.isCoroutine = false
 gen : scope.isGenerator = false
 names : ∀ x ∈ scope.names, x.2 ≠ .cell ∧ x.2 ≠ .local
theorem Es {ar : Arguments} {scope : Scope} (h : jY ar scope = true) : Hm ar scope := by
 delta jY at h
 refine (ao h).elim fun h MU => ?_
 refine (ao h).elim fun h MV => ?_
 refine (ao h).elim fun h h9 => ?_
 refine (ao h).elim fun h h8 => ?_
 refine (ao h).elim fun h h7 => ?_
 refine (ao h).elim fun h h6 => ?_
 refine (ao h).elim fun h h5 => ?_
 refine (ao h).elim fun h h4 => ?_
 refine (ao h).elim fun h h3 => ?_
 refine (ao h).elim fun h1 h2 => ?_
 refine ⟨te h1, te h2, te h3, yF h4, yF h5, te h6, te h7, of_decide_eq_true h8, ?_, ?_, fun x hx => ?_⟩
 ·simpa using h9
 ·simpa using MV
 ·have := lx MU x hx
  simpa using this
set_option backward.match.sparseCases false in
theorem mL {i : Nat} {l : bC V} (e : jR ih i [] A = some l) : ∃ ks b l0, A.heap.get i = some (.AN ks b) ∧ ih.e b { A with locs := [], cells := ks } = some l0 ∧ l = eE A _root_.id l0 := by
 delta jR at e
 dsimp only at e
 generalize hm : A.heap.get i = o at e
 cases o with
 | none => exact no e
 | some ob => cases ob with
  | AN ks b =>
   dsimp only at e
   generalize hl : ih.e b { A with locs := [], cells := ks } = r at e
   cases r with
   | none => exact no e
   | some l0 => exact ⟨ks, b, l0, rfl, hl, (aO e).symm⟩
  | _ => exact no e
theorem sy {sc : cA} (h : ∀ x ∈ sc, x.2 ≠ NameKind.cell) : fO sc ≠ true := fun q => by
 refine (List.any_eq_true.mp q).elim fun y aj => (aj).elim fun hy hk => ?_
 exact h y hy (iB hk)
theorem sA (G : Z.Glob) (I : aC Z n ih) (hn : vf n Ar cs) (H : St Z L cs c A s) {i : Nat} {l : bC V} (e : jR ih i [] A = some l) :
 bj Z.M Ar (.call (.ref (c.σ i).1) ⟨[], []⟩) (fun r s' => match r with | .ok (.ret v) => QO Z L cs VR l.list c s v s' | .error e => EO Z L cs l.list c s e s' | _ => False) s := by
 obtain ⟨ks, b, l0, hm, Bk, rfl⟩ := mL e
 obtain ⟨name, qual, ar, x, scope, cl, pm, cv, ct, h1, h2, h3, h4, h5⟩ := H.objs _ _ hm
 refine (G.uz h3).elim fun q1 aj => (aj).elim fun m q2 => ?_
 have D := Es q1
 have lJ : s.heap.get? s.heap.objs.size = none := get_size _
 refine ie (by have := hn.1; omega) h1 rfl D.co D.gen rfl h2 fun qn => ?_
 refine je (names := []) (ds := []) D.po D.ko D.va D.kw (by skip; refine ae D.ag ?_; rfl) List.nodup_nil (Nat.le_refl _) (Nat.le_refl _) (Nat.le_refl _) (fun Q' q => wpAny_bind (wpAny_pure (wpAny_pure (q none rfl)))) ?_
 refine wpAny_newFunctionEnv (fun y hy => (D.names y hy).1) (fun y hy => nomatch hy) (fun bZ tT Cu => ?_) D.kind
 have hk : ∀ b o, s.heap.get? b = some o → bZ.get? b = some o := fun b o e => Cu.extBut b o (Nat.ne_of_lt (Heap.lt_size e)) (Heap.get?_push_of_some _ e)
 refine ⟨G.lim.keeps (fun b o e => hk b o (H.base b o e)), sx ?_⟩
 have zB : Le Z s.heap.objs.size c s c { s with heap := bZ, toks := s.toks + ([] : List (Str × Value)).length } := Le.bk hk
 have Co : Z.h₀.get? s.heap.objs.size = none := by
  cases e : Z.h₀.get? s.heap.objs.size with
  | none => rfl
  | some o => have := H.base _ _ e; rw [lJ] at this; cases this
 have ej : ∀ i, i < c.n → s.heap.objs.size ≠ (c.σ i).1 ∧ s.heap.objs.size ≠ (c.σ i).2 := fun i hi => ⟨((H.up i hi).1.ne lJ).symm, ((H.up i hi).2.ne lJ).symm⟩
 have H0 : Hp Z c A { s with heap := bZ, toks := s.toks + ([] : List (Str × Value)).length } := H.toHp.still (L := s.heap.objs.size) (fun b o e J => hk b o e) (a6.of hk) H.gens rfl Co ej
 generalize vq : newEnv scope s.heap.objs.size mainGlobals cl (qn ++ ".<locals>.") (some (c.σ i).1) cv none builtinsNs = pZ
 have nI : pZ.frame = some s.heap.objs.size := by refine bK vq ?_; rfl
 have Hn : pZ.scope = scope := by refine bK vq ?_; rfl
 have yJ : pZ.cells = cl := by refine bK vq ?_; rfl
 have H1 : St Z s.heap.objs.size ⟨ks, cs.hd, pZ :: cs.frs⟩ c { A with locs := [], cells := ks } { s with heap := bZ, toks := s.toks + ([] : List (Str × Value)).length } :=
  ⟨H0.re rfl rfl rfl, ⟨Co, Ns.has tT, ej, _, tT, fun y v q => nomatch q⟩, rfl, H.hd.le zB, fun b hb => (by
   have hb : b ∈ (pZ :: cs.frs).filterMap (·.frame) := hb
   rw [List.filterMap_cons, nI] at hb
   rcases ff hb with rfl | hb
   ·refine (Ns.has tT).elim fun o e => ?_
    exact ⟨Co, ⟨o, e, Ns.data tT o e⟩, ej⟩
   ·exact (H.outs b hb).le zB (Ns.data tT)), fun P q => (H.tabs P q).ck zB.ck⟩
 have N1 : aR Z scope.names c s.heap.objs.size ⟨ks, cs.hd, pZ :: cs.frs⟩ pZ := by
  refine ⟨by refine ae Hn ?_; exact D.kind, fun y k e => .inl (by delta Env.kindOf; refine ae Hn ?_; exact e), by refine bK vq ?_; rfl, by refine bK vq ?_; rfl, by refine bK vq ?_; rfl, fun J => ⟨_, rfl⟩, fun y hy => by refine ae yJ ?_; exact h4 y hy, fun b hb => by
   rw [nI] at hb; obtain rfl := aO hb
   refine ae List.filterMap_cons ?_; refine ae nI ?_; exact .head _, fun q => absurd q (sy fun y hy => (D.names y hy).1), fun y j hy q => ?_⟩
  refine ae yJ ?_; exact h5 y j hy q
 have MW : pZ.scope.kind ≠ .module := by refine ae Hn ?_; refine ae D.kind ?_; decide
 have cx := hn.deeper (cl := ks) MW ⟨_, nI⟩
 refine az (I.e q2 cx H1 N1 l0 Bk) (fun v gf q => ?_) fun ev gf q => ?_
 ·obtain ⟨fa, A', c', z1, z2, z3, z4⟩ := q
  exact ⟨fa, _, c', iR (f := _root_.id) z1, (zB.trans z2).re lJ, H.back (zB.trans z2) lJ (by rfl) z3, z4⟩
 ·obtain ⟨j, A', c', z1, z2, z3, ⟨fh, rfl⟩, E, z4⟩ := q
  exact .of (gq cx rfl nI z3 z4 fun s3 dY H3 J => ⟨j, _, c', mH z1, ((zB.trans z2).trans dY).re lJ, H.back ((zB.trans z2).trans dY) lJ (by rfl) H3, ⟨fh, rfl⟩, E, z4⟩)
theorem p0 (G : Z.Glob) (I : aC Z n ih) (hn : Room (n + 1) Ar cs) (H : St Z L cs c A s) {i : Nat} {as : List V} {us : List Value} (r : dq c as us) : au Z L cs Ar (call (.ref (c.σ i).1) us) VR (jR ih i as A) c s := by
 cases r with
 | cons _ _ => exact .none
 | nil =>
  intro l e
  refine cz (bg (sA G I hn.deep H e) fun r s' q => ?_)
  cases r with
  | ok fl => cases fl <;> first | exact q | exact q.elim
  | error e => exact q
theorem Et (H : St Z L cs c A s) {i : Nat} {vs : List V} : jR ih i vs A = none ∨ ∃ k, Looks Z.M s.heap (keeperOf (.ref (c.σ i).1)) k := by
 cases vs with
 | cons _ _ => exact .inl rfl
 | nil =>
  cases e : jR ih i [] A with
  | none => exact .inl rfl
  | some l =>
   refine (mL e).elim fun ks aj => (aj).elim fun b ax => (ax).elim fun l0 aP => (aP).elim fun hm _ => ?_
   obtain ⟨name, qual, ar, x, scope, cl, pm, cv, ct, h1, _⟩ := H.objs _ _ hm
   exact .inr ⟨.frame, (Looks.ld (part := none) h1).andThen .now⟩
end
section
variable {Z : aL} {n : Nat} {ih : bM} {L : Nat} {cs : Fm} {Ar : Around} {c c' : Cfg} {A : AS} {s s' : Shared} {env : Env} {sc : cA} {m : Nat}
theorem mM {x : Expr} {name : Str} {apos pos : Pos} {u : Value} {k : Nat} {ts : List (Sem Value)} {r : Res V} {P : Value → List Value → Shared → Prop} (hk : k < 30) (hp : (apos.endLine == pos.line) = true)
 (hm : ∀ (pl : Sem Bool) (Q : Value × List Value → Shared → Prop) (E : Value → Shared → Prop), (∀ f first s', P f first s' → Q (f, first) s') → wpAny Z.M Ar (getMethod u name pl) Q E s)
 (h : ∀ f first s', P f first s' → ∀ l, r = some l → bt Z.M Ar (callWith pos f first (ts.map fun t => (false, t)) []) (QO Z L cs VR l.list c s) (EO Z L cs l.list c s) s') :
 au Z L cs Ar (methodCall x name apos pos env u k (ts.map fun t => (false, t)) []) VR r c s := by
 intro l e
 dsimp only [methodCall]
 have hf : methodCallForm k (ts.map fun t => ((false, t) : Bool × Sem Value)) [] = true := by
  delta methodCallForm
  refine ae List.all_map ?_
  simp [hk]
 refine ae hf ?_
 refine aa (aA ?_)
 delta calleeOf
 refine ae (if_pos rfl) ?_
 refine .of (hm _ _ _ fun f first s' hP => ?_)
 dsimp only [methodCallPos]
 refine ae hp ?_
 refine aa ?_
 refine ae (if_pos (by decide)) ?_
 exact aq (h f first s' hP l e)
theorem mN (inj : ∀ x y, Z.nm x = Z.nm y → x = y) {f : Nat} : ∀ {fs : List (Nat × V)} {es : List DictEntry}, aS (fun (f : Nat × V) (p : DictEntry) => (∃ t, p.key = .str (Z.nm f.1) t) ∧ VR c f.2 p.val) fs es →
 af f fs = none → es.find? (·.key.isStr (Z.nm f)) = none
 | [], _, r, _ => by refine ae r.nil_inv ?_; rfl
 | g :: fs, _, r, e => by
  obtain ⟨p, es, rfl, ⟨⟨t, ht⟩, hv⟩, r⟩ := r.cons_inv
  rw [aK] at e
  refine ae (List.find?_cons) ?_; refine ae ht ?_; refine ae ky ?_
  by_cases q : g.1 = f
  ·rw [if_pos q] at e; cases e
  ·have hq : (Z.nm g.1 == Z.nm f) = false := wm fun z => q (inj _ _ z)
   refine ae hq ?_
   rw [if_neg q] at e
   exact mN inj r e
theorem vr (G : Z.Glob) (Fs : tP Z) (I : aC Z n ih) (hn : Room (n + 1) Ar cs) (H : St Z L cs c A s) {i C f k : Nat} {fs : List (Nat × V)} {kc : gU} (hm : A.heap.get i = some (.inst C fs)) (hs : af k fs = none) (hc : af C Z.Γ.dv = some kc) (hf : af k kc.meths = some (false, f)) :
 ∀ (pl : Sem Bool) (Q : Value × List Value → Shared → Prop) (E : Value → Shared → Prop), (∀ tk, Q (.ref f, [.ref (c.σ i).1]) { s with toks := tk }) → wpAny Z.M Ar (getMethod (.ref (c.σ i).1) (Z.nm k) pl) Q E s := fun pl Q E q => by
 refine ((H.objs _ _ hm).nQ).elim fun k' aj => (aj).elim fun es ax => (ax).elim fun nn It => ?_
 have O := G.cls C kc hc It.nx
 refine (O.meth k f hf).elim fun m1 m2 => ?_
 refine method_fn (G.k.keeps H.base) It.rW O.ga O.gt m1 m2 ?_ (q s.toks)
 refine (?_ : Option.map (·.isSome) (PySem.W.getL (Z.nm k) es) = some false)
 delta PySem.W.getL
 refine ae (mN G.inj It.all hs) ?_; refine ae (fx (f := k) It.all) ?_
 rfl
structure Cv (Z : aL) : Prop where
 sorted : ∀ {Ar : Around} {L cs c A s} {as : List V} {us : List Value}, Room 1 Ar cs → St Z L cs c A s → dq c as us → au Z L cs Ar (call (.builtin "sorted") us) VR (wG as A) c s
theorem p7 (G : Z.Glob) (Fs : tP Z) (B : Cv Z) (I : aC Z n ih) (hn : Room (n + 1) Ar cs) (H : St Z L cs c A s) {f : V} {u : Value} (rf : VR c f u) {as : List V} {us : List Value} (r : dq c as us) : au Z L cs Ar (call u us) VR (lV Z.Γ ih f as A) c s := by
 have hr : Room 1 Ar cs := hn.le (Nat.succ_le_succ (Nat.zero_le _))
 cases f with
 | fn a => subst rf; exact d9 G Fs I hn H r
 | cls a => subst rf; exact pV G Fs I hn H r
 | ty t => subst rf; exact nZ hr H r
 | bi b =>
  subst rf
  cases b with
  | len => exact vj G H r
  | range => exact pW H r
  | sorted => exact B.sorted hr H r
  | max => exact vk hr H r
 | loc i => cases rf with | intro hi e => cases e; exact p0 G I hn H r
 | _ => exact .none
theorem ea {u : Value} (hu : ∀ a, u ≠ .ref a) (h : Heap) : ∃ k, Looks Z.M h (keeperOf u) k := by
 refine ⟨.machine, Looks.of_pure ?_⟩
 cases u <;> first | rfl | exact absurd rfl (hu _)
set_option tactic.hygienic true in
theorem xE (G : Z.Glob) (Fs : tP Z) {f : V} {u : Value} (rf : VR c f u) (H : St Z L cs c A s) (vs : List V) : lV Z.Γ ih f vs A = none ∨ ∃ k, Looks Z.M s.heap (keeperOf u) k := by
 have KV : ∀ a, fnIn Z.K a = true → keepIn Z.K (.ref a) = true := fun a h => by
  delta fnIn at h
  delta keepIn
  split at h
  ·rename_i e; dsimp only; refine ae e ?_; rfl
  ·cases h
 cases f with
 | fn a =>
  subst rf
  by_cases ht : Z.Γ.take = some a
  ·exact .inr (jE G (KV _ (Fs.Bh a ht)) s H.base)
  ·cases hl : cu a Z.Γ.fns with
   | none => exact .inl (by refine (?_ : dT Z.Γ ih a vs A = none); refine (mj (iS ht)).trans ?_; refine ae hl ?_; rfl)
   | some fn =>
    refine ((Fs.fn a fn hl).ex).elim fun oc aj => (aj).elim fun od ax => (ax).elim fun u9 aP => (aP).elim fun fd bG => (bG).elim fun body dc => (dc).elim fun m ib => (ib).elim fun k1 _ => ?_
    exact .inr (jE G (KV a (by delta fnIn; refine ae k1 ?_; rfl)) s H.base)
 | cls C =>
  subst rf
  cases hl : af C Z.Γ.dv with
  | none => exact .inl (by refine (?_ : callC Z.Γ ih C vs A = none); delta callC; refine ae hl ?_; rfl)
  | some k =>
   cases hx : af C Z.Γ.cf with
   | none => exact .inr (jE G (G.cls C k hl hx).kp s H.base)
   | some bs => exact .inr (jE G (G.o5 C k bs hl hx).kp s H.base)
 | ty t => subst rf; exact .inr (ea (fun a h => by cases h) _)
 | bi b => subst rf; exact .inr (ea (fun a h => by cases b <;> cases h) _)
 | loc i => obtain ⟨hi, rfl⟩ := rf; exact Et H
 | _ => exact .inl rfl
theorem sC (G : Z.Glob) (Fs : tP Z) (B : Cv Z) (I : aC Z n ih) (hn : Room (n + 1) Ar cs) (H : St Z L cs c A s) (N : aR Z sc c L cs env) {f : V} {u : Value} {as : List E} {xs : List Expr} {pos : Pos} (rf : VR c f u) (he : encL (aV Z.nm m sc) as xs = true) :
 au Z L cs Ar (callWith pos u [] (backTo pos (starEach xs env)) (backToKw pos (keywordEach [] env))) VR (Res.bind (eY ih as A) fun as A => lV Z.Γ ih f as A) c s := by
 rw [dV env he, fP]
 exact gL H (c9 I (hn.le (Nat.le_succ n)) he H N) (fun vs c' A' s' le H' => xE G Fs (rf.mono le.grown) H' vs) (fun vs A' c' s' us le H' q => p7 G Fs B I hn H' (rf.mono le.grown) q)
theorem p8 (G : Z.Glob) (H : St Z L cs c A s) {C f k : Nat} {kc : gU} (hc : af C Z.Γ.dv = some kc) (hx : af C Z.Γ.cf = none) (hf : af k kc.meths = some (true, f)) :
 ∀ (pl : Sem Bool) (Q : Value × List Value → Shared → Prop) (E : Value → Shared → Prop), (∀ tk, Q (.ref f, []) { s with toks := tk }) → wpAny Z.M Ar (getMethod (.ref C) (Z.nm k) pl) Q E s := fun pl Q E q => by
 have O := G.cls C kc hc hx
 have X := G.k.keeps H.base
 refine (O.ux k f hf).elim fun sg aj => (aj).elim fun p ax => (ax).elim fun rest aP => (aP).elim fun mc bG => (bG).elim fun h1 dc => (dc).elim fun h2 h3 => ?_
 exact method_cls X sg (cls_bind X h1 h2 (wpAny_call (sm_get (s := { s with toks := s.toks + 1 }) X h3 (handed_on rfl (q _)))))
end
section
variable {Z : aL} {L : Nat} {cs : Fm} {Ar : Around} {c : Cfg} {A : AS} {s : Shared}
theorem Bm (es : List (Int × V)) (aF : List (Int × Value)) {i : Nat} (d : e8 Z c s.heap i es aF) (k : Int) {v : V} {u : Value} (h : VR c v u) : VR c ((bp k es).getD v) ((valueAt aF k).getD u) := by
 cases e : bp k es with
 | none => refine ae (show valueAt aF k = none from KR.none id_eq d.all e) ?_; exact h
 | some w => refine (KR.some id_eq d.all e).elim fun x aj => (aj).elim fun h1 h2 => ?_; refine ae (show valueAt aF k = some x from h1) ?_; exact h2
theorem Bn (G : Z.Glob) (H : St Z L cs c A s) {i : Nat} (hi : i < c.n) {es : List (Int × V)} {aF : List (Int × Value)} (d : e8 Z c s.heap i es aF) {k : Int} {t : Tok} :
 au Z L cs Ar (call (.builtin "dict.get") [.ref (c.σ i).1, .int k t]) VR (ok ((bp k es).getD .none) A) c s :=
 .look H fun Q E q => call_meetsIn PySem.F.slot_dict_get d.at_.typeIs PySem.F.entry_dict_get (PySem.F.args_dict_get_2 _ _) (meets_dict_get (intKind Z.prog Z.w) (c.σ i).1 (intKind_is _ _ k t) (cy G H hi))
  ⟨_, d.at_.mapOf, q _ (s.toks + 1) (Bm es aF d k rfl)⟩
theorem Bo (G : Z.Glob) (H : St Z L cs c A s) {i : Nat} (hi : i < c.n) {es : List (Int × V)} {aF : List (Int × Value)} (d : e8 Z c s.heap i es aF) {k : Int} {t : Tok} {v : V} {u : Value} (h : VR c v u) :
 au Z L cs Ar (call (.builtin "dict.get") [.ref (c.σ i).1, .int k t, u]) VR (ok ((bp k es).getD v) A) c s :=
 .look H fun Q E q => call_meetsIn PySem.F.slot_dict_get d.at_.typeIs PySem.F.entry_dict_get (PySem.F.args_dict_get_3 _ _ _) (meets_dict_get_default (intKind Z.prog Z.w) (c.σ i).1 (intKind_is _ _ k t) (cy G H hi) u)
  ⟨_, d.at_.mapOf, q _ (s.toks + 1) (Bm es aF d k h)⟩
theorem Cw (es : List (List Nat × V)) (aF : List (Str × Value)) {i : Nat} (d : kq Z c s.heap i es aF) (k : List Nat) {v : V} {u : Value} (h : VR c v u) : VR c ((eC k es).getD v) ((valueAt aF (strOf k)).getD u) := by
 cases e : eC k es with
 | none => refine ae (KR.none cC d.all e) ?_; exact h
 | some w => refine (KR.some cC d.all e).elim fun x aj => (aj).elim fun h1 h2 => ?_; refine ae h1 ?_; exact h2
theorem Bp (G : Z.Glob) (H : St Z L cs c A s) {i : Nat} (hi : i < c.n) {es : List (List Nat × V)} {aF : List (Str × Value)} (d : kq Z c s.heap i es aF) {k : List Nat} {t : Tok} {v : V} {u : Value} (h : VR c v u) :
 au Z L cs Ar (call (.builtin "dict.get") [.ref (c.σ i).1, .str (strOf k) t, u]) VR (ok ((eC k es).getD v) A) c s :=
 .look H fun Q E q => call_meetsIn PySem.F.slot_dict_get d.at_.typeIs PySem.F.entry_dict_get (PySem.F.args_dict_get_3 _ _ _) (meets_dict_get_default (PySem.strKind Z.prog Z.w) (c.σ i).1 (strKind_is _ _ (strOf k) t) (cy G H hi) u)
  ⟨_, d.at_.mapOf, q _ (s.toks + 1) (Cw es aF d k h)⟩
theorem mO (H : St Z L cs c A s) {i : Nat} (hi : i < c.n) {xs : List V} (hm : A.heap.get i = some (.list xs)) (hl : xs.length ≤ 4096) {v : V} {u : Value} (h : VR c v u) :
 au Z L cs Ar (call (.builtin "list.append") [.ref (c.σ i).1, u]) VR (ok .none (A.put i (.list (xs ++ [v])))) c s := by
 obtain ⟨vs, ep, e1, r1⟩ := H.objs _ _ hm
 have hz : vs.size = xs.length := by have := r1.length; simpa using this.symm
 have hu := Heap.get?_update_self (Obj.mapSeq fun xF => xF.push u) e1 rfl
 refine .done fun Q E q => call_meets F.slot_list_append ⟨_, e1, rfl⟩ F.entry_list_append (F.args_list_append_2 _ _) (list_append (c.σ i).1 vs ep u (by refine ae hz ?_; refine ae sizeLine_eq ?_; exact Nat.le_trans ‹_› (by decide))) ⟨e1, ?_⟩
 have hk : ∀ b o, s.heap.get? b = some o → b ≠ (c.σ i).1 → b ≠ (c.σ i).2 → (s.heap.update (c.σ i).1 (Obj.mapSeq fun xF => xF.push u)).get? b = some o := fun b o e hb J => by
  refine ae (Heap.get?_update_other _ _ (Ne.symm hb)) ?_; exact e
 have hp : a6 s.heap (s.heap.update (c.σ i).1 (Obj.mapSeq fun xF => xF.push u)) := cR (.update ..) ⟨_, hu⟩ (hK e1 (a7 rfl (by decide)))
 refine q _ _ c (Le.change (s' := { s with heap := _, toks := _ }) H.toHp hi hk hp) (H.change (s' := { s with heap := _, toks := _ }) hi hk hp ?_ rfl rfl) rfl
 refine ⟨vs.push u, _, hu, ?_⟩
 refine ae Array.toList_push ?_
 exact r1.append (.cons h .nil)
theorem xG (H : St Z L cs c A s) {i : Nat} (hi : i < c.n) {k : Nat} (hm : A.heap.get i = some (.jl k)) (hl : k ≤ 4096) {u : Value} :
 au Z L cs Ar (call (.builtin "list.append") [.ref (c.σ i).1, u]) VR (ok .none (A.put i (.jl (k + 1)))) c s := by
 obtain ⟨vs, ep, e1, hz⟩ := H.objs _ _ hm
 have hu := Heap.get?_update_self (Obj.mapSeq fun xF => xF.push u) e1 rfl
 refine .done fun Q E q => call_meets F.slot_list_append ⟨_, e1, rfl⟩ F.entry_list_append (F.args_list_append_2 _ _) (list_append (c.σ i).1 vs ep u (by refine ae sizeLine_eq ?_; omega)) ⟨e1, ?_⟩
 have hk : ∀ b o, s.heap.get? b = some o → b ≠ (c.σ i).1 → b ≠ (c.σ i).2 → (s.heap.update (c.σ i).1 (Obj.mapSeq fun xF => xF.push u)).get? b = some o := fun b o e hb J => by
  refine ae (Heap.get?_update_other _ _ (Ne.symm hb)) ?_; exact e
 have hp : a6 s.heap (s.heap.update (c.σ i).1 (Obj.mapSeq fun xF => xF.push u)) := cR (.update ..) ⟨_, hu⟩ (hK e1 (a7 rfl (by decide)))
 refine q _ _ c (Le.change (s' := { s with heap := _, toks := _ }) H.toHp hi hk hp) (H.change (s' := { s with heap := _, toks := _ }) hi hk hp ⟨vs.push u, _, hu, ?_⟩ rfl rfl) rfl
 rw [Array.size_push]; exact Nat.lt_succ_of_le ‹_›
theorem vt {x : Int} {es : List (Int × V)} : bp x es = none → iF x es = es := by
 induction es with
 | nil => exact fun J => rfl
 | cons p r ih =>
  intro h
  by_cases q : p.1 = x
  ·cases (fS (p := p) (r := r) (pG q)).symm.trans h
  ·exact (iN (p := p) (r := r) (mn q)).trans (congrArg (p :: ·) (ih ((eN (p := p) (r := r) (mn q)).symm.trans h)))
theorem St.again (H : St Z L cs c A s) {i : Nat} {o : aw} (hi : i < c.n) (ho : br Z c s.heap i o) (tk : Nat) : St Z L cs c (A.put i o) { s with toks := tk } :=
 (H.toks tk).change hi (fun J J e J J => e) (a6.of fun J J e => e) ho rfl rfl
theorem xH (G : Z.Glob) (H : St Z L cs c A s) {i : Nat} (hi : i < c.n) {es : List (Int × V)} {aF : List (Int × Value)} (d : e8 Z c s.heap i es aF) (hl : es.length ≤ 4096) {k : Int} {t : Tok} {v : V} {u : Value} (h : VR c v u) {o : aw}
 (ho : ∀ h' : Heap, h'.DictOf (intKind Z.prog Z.w) (c.σ i).1 (without aF k) → aS (KR _root_.id c) (iF k es) (without aF k) → br Z c h' i o) (hn : bp k es = none → br Z c s.heap i o) :
 au Z L cs Ar (call (.builtin "dict.pop") [.ref (c.σ i).1, .int k t, u]) VR (ok ((bp k es).getD v) (A.put i o)) c s := by
 cases e : bp k es with
 | some w =>
  obtain ⟨x, h1, h2⟩ := KR.some id_eq d.all e
  refine .done fun Q E q => call_meetsIn PySem.F.slot_dict_pop d.at_.typeIs PySem.F.entry_dict_pop (PySem.F.args_dict_pop_3 _ _ _) (meets_dict_pop_there (intKind Z.prog Z.w) (c.σ i).1 (intKind_is _ _ k t) [u] (.inr ⟨_, rfl⟩) rfl)
   ⟨aF, x, d.at_, by refine ae sizeLine_eq ?_; refine bK d.all.length ?_; exact Nat.le_trans ‹_› (by decide), h1, fun h' hd hs => ?_⟩
  have hk : ∀ b o, s.heap.get? b = some o → b ≠ (c.σ i).1 → b ≠ (c.σ i).2 → h'.get? b = some o := fun b o e q J => (hs.2 b q).trans e
  exact q _ _ c (Le.change (s' := { s with heap := h', toks := s.toks + 1 }) H.toHp hi hk (dr d.at_ hd hs)) (H.change (s' := { s with heap := h', toks := s.toks + 1 }) hi hk (dr d.at_ hd hs) (ho h' hd (KR.del id_eq d.all d.nd)) rfl rfl) h2
 | none =>
  have h0 := KR.none id_eq d.all e
  exact .done fun Q E q => call_meetsIn PySem.F.slot_dict_pop d.at_.typeIs PySem.F.entry_dict_pop (PySem.F.args_dict_pop_3 _ _ _) (meets_dict_pop_default (intKind Z.prog Z.w) (c.σ i).1 (intKind_is _ _ k t) (cy G H hi) rfl u)
   ⟨aF, d.at_, h0, q _ _ c (Le.toks (s.toks + 1)) (H.again hi (hn e) (s.toks + 1)) h⟩
theorem vu (G : Z.Glob) (H : St Z L cs c A s) {i : Nat} (hi : i < c.n) {es : List (Int × V)} (hm : A.heap.get i = some (.aB es)) (hl : es.length ≤ 4096) {k : Int} {t : Tok} {v : V} {u : Value} (h : VR c v u) :
 au Z L cs Ar (call (.builtin "dict.pop") [.ref (c.σ i).1, .int k t, u]) VR (ok ((bp k es).getD v) (A.put i (.aB (iF k es)))) c s := by
 refine ((H.objs _ _ hm).aB).elim fun aF d => ?_
 exact xH G H hi d hl h (fun h' hd hk => by exact br.hY hd hk) fun hn => by refine ae (vt hn) ?_; exact H.objs _ _ hm
theorem ig (G : Z.Glob) (H : St Z L cs c A s) {i : Nat} (hi : i < c.n) {es : List (List Nat × V)} {aF : List (Str × Value)} (d : kq Z c s.heap i es aF) (hl : es.length ≤ 4096) {k : List Nat} {t : Tok} {v : V} {u : Value} (h : VR c v u) :
 au Z L cs Ar (call (.builtin "dict.setdefault") [.ref (c.σ i).1, .str (strOf k) t, u]) VR (match eC k es with | some w => ok w A | none => ok v (A.put i (.aX (rg k v es)))) c s := by
 have go := fun (Q : Value → Shared → Prop) (E : Value → Shared → Prop) (h1 : ∀ w, valueAt aF (strOf k) = some w → Q w { s with toks := s.toks + 1 }) (h2 : valueAt aF (strOf k) = none → ∀ h' : Heap, h'.DictOf (PySem.strKind Z.prog Z.w) (c.σ i).1 (stored aF (strOf k) u) → Heap.SameBut (c.σ i).1 s.heap h' → Q u { s with heap := h', toks := s.toks + 1 }) =>
  call_meetsIn (A := Ar) (E := E) (Q := Q) PySem.F.slot_dict_setdefault d.at_.typeIs PySem.F.entry_dict_setdefault (PySem.F.args_dict_setdefault_3 _ _ _) (kt_meets_setdefault (PySem.strKind Z.prog Z.w) (c.σ i).1 (strKind_is _ _ (strOf k) t) (cy G H hi) u)
   ⟨aF, d.at_, by refine ae sizeLine_eq ?_; refine bK d.all.length ?_; exact Nat.le_trans ‹_› (by decide), h1, h2⟩
 cases e : eC k es with
 | some w =>
  refine (KR.some cC d.all e).elim fun x aj => (aj).elim fun h1 h2 => ?_
  refine .look H fun Q E q => go Q E (fun w hw => ?_) (fun hn => by rw [h1] at hn; cases hn)
  rw [h1] at hw; obtain rfl := aO hw
  exact q _ (s.toks + 1) h2
 | none =>
  have h0 := KR.none cC d.all e
  refine .done fun Q E q => go Q E (fun w hw => by rw [h0] at hw; cases hw) fun J h' hd hs => ?_
  have hk : ∀ b o, s.heap.get? b = some o → b ≠ (c.σ i).1 → b ≠ (c.σ i).2 → h'.get? b = some o := fun b o e q J => (hs.2 b q).trans e
  refine q _ _ c (Le.change (s' := { s with heap := h', toks := s.toks + 1 }) H.toHp hi hk (dr d.at_ hd hs)) (H.change (s' := { s with heap := h', toks := s.toks + 1 }) hi hk (dr d.at_ hd hs) ?_ rfl rfl) h
  exact br.kr hd (KR.set cC h d.all d.nd)
end
theorem insI_perm (x : Int) : ∀ l : List Int, (insI x l).Perm (x :: l)
 | [] => .refl _
 | y :: r => by
  dsimp only [insI]
  split
  ·exact .refl _
  ·exact ((insI_perm x r).cons y).trans (.swap x y r)
theorem sortI_perm : ∀ l : List Int, (sortI l).Perm l
 | [] => .refl _
 | x :: r => (insI_perm x (sortI r)).trans ((sortI_perm r).cons x)
set_option tactic.hygienic true in
theorem ji {x : Int} : ∀ {l : List Int}, l.Pairwise (· ≤ ·) → (insI x l).Pairwise (· ≤ ·)
 | [], _ => List.pairwise_singleton ..
 | y :: r, h => by
  dsimp only [insI]
  refine (List.pairwise_cons.mp h).elim fun h1 h2 => ?_
  split
  ·rename_i q
   refine List.pairwise_cons.mpr ⟨fun z hz => ?_, h⟩
   rcases ff hz with rfl | hz
   ·exact q
   ·exact Int.le_trans q (h1 z hz)
  ·rename_i q
   refine List.pairwise_cons.mpr ⟨fun z hz => ?_, ji h2⟩
   rcases ff ((insI_perm x r).mem_iff.mp hz) with rfl | hz
   ·omega
   ·exact h1 z hz
theorem ij : ∀ l : List Int, (sortI l).Pairwise (· ≤ ·)
 | [] => .nil
 | _ :: r => ji (ij r)
theorem vv {a b : List Int} (h : a.Perm b) (ha : a.Pairwise (· ≤ ·)) (hb : b.Pairwise (· ≤ ·)) : a = b :=
 h.eq_of_pairwise (fun J J J J p q => Int.le_antisymm p q) ha hb
section
variable {prog : Program} {w : World} {A : Around} {E : Value → Shared → Prop} {s : Shared} {T : String} {r d : Addr} {n : Nat} {P : Nat → Value → Prop} {OK : Heap → Prop} {Q : Value → Shared → Prop}
theorem p9 (K : KdlSrc prog w T r d n P OK) (hh : A.handled = none) (vm : OK s.heap) (hn : n ≤ sizeLine)
 (h : ∀ (h' : Heap) (tk : Nat) (vs : List Value), (∀ b o, s.heap.get? b = some o → h'.get? b = some o) → vs.length = n → (∀ (j : Nat) (v : Value), vs[j]? = some v → P j v) →
  wpAny (model prog w) A.in1 (call (.builtin "list.sort") [.ref h'.objs.size]) (fun J s' => Q (.ref h'.objs.size) s') E { s with heap := h'.push { cls := .type "list", data := .seq vs.toArray }, toks := tk }) :
 wpAny (model prog w) A (call (.builtin "sorted") [.ref r]) Q E s := by
 refine call_function_entry kind_sorted plain_sorted entry_sorted (args_sorted1 _) ?_
 dsimp only [Builtin.«sorted»]
 refine wpAny_bind (m := checkCount "sorted" 1 1 _) (wpAny_pure (wpAny_bind (kdu_collect (A := A.in1) K hh vm hn fun h' tk acc hk n8 => ?_)))
 have hl : acc.toList.length = n := by refine ae Array.length_toList ?_; exact n8.1
 refine wpAny_bind (wpAny_newList (wpAny_bind (wpAny_holding (wpAny_mono (h h' tk acc.toList hk hl fun j v e => n8.2 j v (by refine bK (Array.getElem?_toList) ?_; exact e)) (fun J s' x => ?_) fun J J e => e))) (by refine ae hl ?_; exact hn))
 exact wpAny_pure ⟨_, rfl, x⟩
end
section
variable {Z : aL} {L : Nat} {cs : Fm} {Ar : Around} {c : Cfg} {A : AS} {s : Shared}
theorem sD {vs : List Value} {ks : List Int} (hl : vs.length = ks.length) (h : ∀ (j : Nat) (v : Value), vs[j]? = some v → ∃ k, ks[j]? = some k ∧ ∃ t, v = .int k t) : IntsAre vs ks := by
 induction vs generalizing ks with
 | nil => cases ks with
  | nil => exact .nil
  | cons => cases hl
 | cons v vs ih => cases ks with
  | nil => cases hl
  | cons k ks =>
   obtain ⟨k', e, t, rfl⟩ := h 0 v rfl
   obtain rfl := aO e
   exact .cons _ _ (ih (by simpa using hl) fun j w hw => h (j + 1) w hw)
theorem xI {vs : List Value} {ks : List Int} (h : IntsAre vs ks) : dq c (ks.map fun i => .int (.lit i)) vs := by
 induction h with
 | nil => exact .nil
 | cons _ _ _ ih => exact .cons ⟨trivial, _, rfl⟩ ih
theorem jj (G : Z.Glob) (hr : Room 1 Ar cs) (H : St Z L cs c A s) {i : Nat} (hi : i < c.n) {es fs : List (Int × V)} {aF : List (Int × Value)} (d : e8 Z c s.heap i fs aF) (p : fs.Perm es) : au Z L cs Ar (call (.builtin "sorted") [.ref (c.σ i).1]) VR (AW es A) c s := by
 refine .dP fun hl => ?_
 obtain ⟨hl, hh⟩ := hl
 obtain ⟨ep, zL⟩ := d.at_.dictAt
 have hlen := d.all.length
 have FH := p.length_eq
 refine .done fun Q E q => p9 (kdl_dict (cy G H hi)) (hr.quiet H (yF hh)) zL (by refine ae sizeLine_eq ?_; refine bK hlen ?_; refine ae FH ?_; exact Nat.le_trans (Nat.le_of_lt ‹_›) (by decide)) fun h' tk vs hk KW hv => ?_
 have hI : IntsAre vs (fs.map (·.1)) := by
  refine sD (by rw [KW, List.length_map, hlen]) fun j v e => ?_
  refine (hv j v e).elim fun k aj => (aj).elim fun x ax => (ax).elim fun e1 e2 => ?_
  have hj : j < fs.length := by refine ae hlen ?_; exact (yH e1).1
  obtain ⟨p, hp, Dj, Bf⟩ := d.all.at (List.getElem?_eq_getElem hj)
  rw [e1] at hp
  obtain rfl := aO hp
  refine ⟨k, by refine ae (List.getElem?_map) ?_; refine ae (List.getElem?_eq_getElem hj) ?_; exact congrArg some Dj.symm, ?_⟩
  exact Value.isInt_shape e2
 have ho : (h'.push { cls := .type "list", data := .seq vs.toArray }).get? h'.objs.size = some (seqObj "list" vs.toArray 0) := Heap.get?_push_size _ rfl
 refine wpAny_call_entry slot_list_sort ⟨_, ho, rfl⟩ entry_list_sort (list_sort_tree ho hI (by refine ae KW ?_; refine bK hlen ?_; refine ae FH ?_; exact hl) fun out MX q1 q2 q3 => ?_) (args_list_sort _)
 have tT : MX = sortI (es.map (·.1)) := vv (q2.trans ((p.map _).trans (sortI_perm _).symm)) q3 (ij _)
 subst tT
 have rG : ∀ b o, h'.get? b = some o → b ≠ h'.objs.size := fun b o e => Nat.ne_of_lt (Heap.lt_size e)
 have Ho : ∀ b o, s.heap.get? b = some o → (sortedHeap (h'.push { cls := .type "list", data := .seq vs.toArray }) h'.objs.size vs out).get? b = some o := fun b o e => by
  have e := hk b o e
  refine ae (Heap.get?_update_other _ _ (Ne.symm (rG b o e))) ?_
  refine Heap.get?_push_of_some _ (Heap.get?_push_of_some _ ?_)
  refine ae (Heap.get?_update_other _ _ (Ne.symm (rG b o e))) ?_
  exact Heap.get?_push_of_some _ e
 have zM : s.heap.get? h'.objs.size = none := by
  cases e : s.heap.get? h'.objs.size with
  | none => rfl
  | some o => exact absurd rfl (rG _ o (hk _ o e))
 obtain ⟨n1, Cx⟩ : ∃ n1, (sortedHeap (h'.push { cls := .type "list", data := .seq vs.toArray }) h'.objs.size vs out).get? h'.objs.size = some (seqObj "list" out n1) := by
  have u1 := get?_update_seq ho (fun J => #[])
  have u2 := Heap.get?_push_of_some (seqObj "list" #[] 0) (Heap.get?_push_of_some (seqObj "tuple" vs.toArray 0) u1)
  exact ⟨_, get?_update_seq u2 (fun J => out)⟩
 refine ⟨_, rfl, q _ _ (c.push (h'.objs.size, h'.objs.size)) (Le.alloc (s' := { s with heap := _, toks := _ }) Ho zM zM) (H.alloc (s' := { s with heap := _, toks := _ }) Ho ⟨zM, _, Cx⟩ ⟨zM, _, Cx⟩ ?_ rfl rfl) ?_⟩
 ·refine ⟨out, n1, ?_, ?_⟩
  ·rw [c.aI]; exact Cx
  ·exact xI q1
 ·refine ⟨?_, ?_⟩
  ·refine (?_ : A.n < c.n + 1); refine ae H.n ?_; exact Nat.lt_succ_self _
  ·refine (?_ : _ = Value.ref ((c.push _).σ A.n).1)
   rw [← H.n, c.aI]
theorem n9 (G : Z.Glob) (hr : Room 1 Ar cs) (H : St Z L cs c A s) {as : List V} {us : List Value} (r : dq c as us) : au Z L cs Ar (call (.builtin "sorted") us) VR (wG as A) c s := by
 refine .bnd fun v hv => .bnd fun i J => .bnd fun es J => ?_
 obtain ⟨u, rfl, r1⟩ := dI hv r
 obtain ⟨i, rfl⟩ := i
 obtain ⟨hi, rfl⟩ := r1
 obtain ⟨es, hm⟩ := es
 rcases hm with hm | hm
 ·refine ((H.objs _ _ hm).aB).elim fun aF d => ?_
  exact jj G hr H hi d (.refl _)
 ·refine ((H.objs _ _ hm).ay).elim fun fs aj => (aj).elim fun aF ax => (ax).elim fun d aP => (aP).elim fun p _ => ?_
  exact jj G hr H hi d p
theorem Hq (G : Z.Glob) : Cv Z where
 sorted := fun hr H r => n9 G hr H r
end
section
variable {Z : aL} {n : Nat} {ih : bM} {L : Nat} {cs : Fm} {Ar : Around} {c c' : Cfg} {A : AS} {s s' : Shared} {env : Env} {sc : cA} {m : Nat}
theorem zU {pl : Sem Bool} {Q : Value × List Value → Shared → Prop} {E : Value → Shared → Prop} (X : Z.K.In s.heap)
 (e : findCls Z.K (.type "int") (.type "type") "from_bytes" = some (.get (.builtin "classmethod_descriptor.__get__") (.builtin "int.from_bytes") .none (.type "int")))
 (h : Q (.ref s.heap.objs.size, []) { s with heap := s.heap.push KFB.bound, toks := s.toks + 1 }) :
 wpAny Z.M Ar (getMethod (.type "int") "from_bytes" pl) Q E s := by
 have Eu : opaqueClassAbove (.type "int") = pure none := by skip; refine ae (show Manifest.isStub "int" = false by decide +kernel) ?_; rfl
 have ht : typeOf (.type "int") = pure (.type "type") := by first | rfl | kernel_rfl
 have L0 : Looks Z.M s.heap (typeOf (.type "int")) (.type "type") := Looks.of_pure ht
 have hg : findIn Z.K (.type "type") "__getattribute__" = some (some (.builtin "type.__getattribute__")) := type_tga
 dsimp only [getMethod, specialOf]
 with_reducible refine wpAny_bind (wpAny_bind (L0.here ((looks_findIn X hg).here ?_)))
 dsimp only
 refine ae (if_pos canon_tga) ?_
 refine wpAny_bind (wpAny_mono (Q := fun v => Q (v, [])) (E := E) ?_ (fun J J z => wpAny_pure z) fun J J z => z)
 refine (cls_open X (Looks.of_pure Eu) L0 hg (looks_hook X (r := none) (by rfl)) (by skip; rfl) e ?_ :)
 exact wpAny_bind (wpAny_holding (wpAny_call_entry KFB.slot_get KFB.type_fb KFB.entry_get (KFB.run_get ⟨_, rfl, wpAny_pure (wpAny_pure h)⟩) (KFB.args_get _ _ _)))
theorem kL : ∀ (k n : Nat), ∀ x ∈ cg k n, x < 256
 | 0, _, _, h => by cases h
 | k + 1, n, x, h => by
  dsimp only [cg] at h
  rcases List.mem_append.mp h with h | h
  ·exact kL k _ x h
  ·refine ae (msg h) ?_; exact Nat.mod_lt _ (by decide)
theorem iU : ∀ (k n : Nat), (KTBy.little k (n : Int)).reverse = (cg k n).map fun x : Nat => (x : Int)
 | 0, _ => rfl
 | k + 1, n => by
  refine ae List.reverse_cons ?_; refine ae List.map_append ?_
  have e : ((n : Int) / 256) = ((n / 256 : Nat) : Int) := by omega
  have e' : ((n : Int) % 256) = ((n % 256 : Nat) : Int) := by omega
  refine ae e ?_; refine ae e' ?_; refine ae (iU k (n / 256)) ?_; rfl
theorem mP {b : Array UInt8} {l : List Nat} (h : KBw.bInts b = l.map fun x : Nat => (x : Int)) : b.toList = l.map UInt8.ofNat := by
 have h := congrArg (List.map fun z : Int => UInt8.ofNat z.toNat) h
 have e : (KBw.bInts b).map (fun z : Int => UInt8.ofNat z.toNat) = b.toList := by
  refine ae List.map_map ?_
  conv => rhs; rw [← List.map_id b.toList]
  refine List.map_congr_left fun x J => ?_
  simp
 rw [e, List.map_map] at h
 refine ae h ?_
 exact List.map_congr_left fun x J => rfl
theorem kM : ∀ (k n : Nat), (List.range k).map (fun i => lD k n (0 + i)) = (cg k n).map UInt8.ofNat
 | 0, _ => rfl
 | k + 1, n => by
  refine ae List.range_succ ?_; refine ae List.map_append ?_; refine ae List.map_append ?_; refine bK (kM k (n / 256)) ?_
  congr 1
  ·refine List.map_congr_left fun i hi => ?_
   have hi : i < k := List.mem_range.mp hi
   refine (?_ : UInt8.ofNat (n / 256 ^ (k + 1 - 1 - (0 + i)) % 256) = UInt8.ofNat (n / 256 / 256 ^ (k - 1 - (0 + i)) % 256))
   rw [Nat.div_div_eq_div_mul, ← Nat.pow_succ']
   congr 4
   omega
  ·refine (?_ : [UInt8.ofNat (n / 256 ^ (k + 1 - 1 - (0 + k)) % 256)] = [UInt8.ofNat (n % 256)])
   rw [show k + 1 - 1 - (0 + k) = 0 by omega, Nat.pow_zero, Nat.div_one]
theorem qa : ∀ (l : List Nat) (x a : Nat), rj (l ++ [x]) a = rj l a * 256 + x
 | [], _, _ => rfl
 | _ :: l, x, a => qa l x _
theorem tU : ∀ (k n a : Nat), n < 256 ^ k → rj (cg k n) a = a * 256 ^ k + n
 | 0, n, a, h => by
  have : n = 0 := by simpa using h
  subst this
  refine (?_ : a = a * 1 + 0)
  omega
 | k + 1, n, a, h => by
  dsimp only [cg]
  rw [qa, tU k (n / 256) a (by rw [Nat.pow_succ] at h; exact Nat.div_lt_of_lt_mul (Nat.mul_comm (256 ^ k) 256 ▸ h)), Nat.pow_succ, Nat.add_mul, Nat.mul_assoc, Nat.add_assoc, Nat.div_add_mod' n 256]
theorem mQ : ∀ (l : List UInt8) (a : Int), 0 ≤ a → 0 ≤ (KBw.bInts l.toArray).foldl (fun a k => a * 256 + k) a ∧ (KBw.bInts l.toArray).foldl (fun a k => a * 256 + k) a < (a + 1) * 256 ^ l.length
 | [], a, h => by
  refine (?_ : 0 ≤ a ∧ a < (a + 1) * 1)
  omega
 | x :: r, a, h => by
  have hx : ((x.toNat : Nat) : Int) < 256 := by have := x.toNat_lt; omega
  have h2 : (0 : Int) ≤ (x.toNat : Nat) := Int.natCast_nonneg _
  have ih := mQ r (a * 256 + ((x.toNat : Nat) : Int)) (by omega)
  refine ⟨ih.1, Int.lt_of_lt_of_le ih.2 ?_⟩
  rw [List.length_cons, Int.pow_succ, Int.mul_comm (256 ^ r.length) 256, ← Int.mul_assoc]
  exact Int.mul_le_mul_of_nonneg_right (by omega) (Int.pow_nonneg (by decide))
theorem vw (H : St Z L cs c A s) {x : SI} {t : Tok} (hx : SI.lt c.nv x) {v : V} {u : Value} {t1 : Tok} (rv : VR c v u) : au Z L cs Ar (call (.builtin "int.to_bytes") [.int (SI.den c.ρ x) t, u, .str (strOf [98, 105, 103]) t1]) VR (Kq x v A) c s := by
 refine .bnd fun k J => ?_
 obtain ⟨k, rfl⟩ := k
 obtain ⟨_, t0, rfl⟩ := rv
 cases x with
 | lit n =>
  refine .dP fun hc => ?_
  obtain ⟨h0, h1, h2, h3⟩ := hc
  obtain ⟨K, rfl⟩ := Int.eq_ofNat_of_zero_le (Int.le_of_lt h1)
  obtain ⟨N, rfl⟩ := Int.eq_ofNat_of_zero_le h0
  simp -iota only [Int.toNat_natCast] at h3 ⊢
  refine .look H fun Q E q => KTBy.to_big (k := K) (B := 256 ^ K) (Int.ofNat_le.mp h2) rfl h0 ?_ fun b t' k' hb hl => q _ _ ⟨⟨trivial, trivial⟩, t', ?_⟩
  ·refine (?_ : (N : Int) < 256 ^ K)
   rw [KTBy.p256]; exact Int.ofNat_lt.mpr h3
  ·have hb : KBw.bInts b = (KTBy.little K ((N : Nat) : Int)).reverse := hb
   rw [iU] at hb
   have e := mP hb
   refine (?_ : Value.bytes b t' = Value.bytes (List.map UInt8.ofNat (cg K N) ++ []).toArray t')
   rw [List.append_nil, ← e]
 | va j o =>
  refine .bnd fun q hq => .dP fun hc => ?_
  obtain ⟨h1, h2, h0, h3⟩ := hc
  have hd := nL H.toHp hq
  obtain ⟨K, rfl⟩ := Int.eq_ofNat_of_zero_le (Int.le_of_lt h1)
  obtain ⟨N, hN⟩ := Int.eq_ofNat_of_zero_le (Int.le_trans h0 hd.1)
  have fh : N < 256 ^ K := by
   have h4 : ((N : Nat) : Int) < 256 ^ K := by refine bK hN ?_; exact Int.lt_of_lt_of_le hd.2 h3
   rw [KTBy.p256] at h4
   exact Int.ofNat_lt.mp h4
  have go : ∀ {V : Type} {b : BS}, BS.lt c.nv b → BS.den c.ρ b = (cg K N).map UInt8.ofNat → au Z L cs Ar (call (.builtin "int.to_bytes") [.int (SI.den c.ρ (.va j o)) t, .int (K : Int) t0, .str (strOf [98, 105, 103]) t1]) VR (ok (.bytes b) A) c s := fun {V} {b} hb Cy => by
   refine .look H fun Q E q => KTBy.to_big (k := K) (B := 256 ^ K) (Int.ofNat_le.mp h2) rfl (Int.le_trans h0 hd.1) ?_ fun b' t' k' qY hl => q _ _ ⟨hb, t', ?_⟩
   ·rw [hN, KTBy.p256]; exact Int.ofNat_lt.mpr fh
   ·have qY : KBw.bInts b' = (KTBy.little K (SI.den c.ρ (.va j o))).reverse := qY
    rw [hN, iU] at qY
    have e := mP qY
    refine ae Cy ?_; refine bK e ?_; rfl
  have FO : (c.ρ.i j + o).toNat = N := by
   refine (?_ : (SI.den c.ρ (.va j o)).toNat = N)
   refine ae hN ?_; rfl
  by_cases hk : (K : Int) = 1 ∧ o = 0
  ·refine ae (if_pos hk) ?_
   obtain ⟨wj, rfl⟩ := hk
   obtain rfl : K = 1 := by omega
   refine go (V := Unit) ⟨hx, trivial⟩ ?_
   have e2 : cg 1 N = [N] := by
    refine (?_ : [N % 256] = [N])
    refine ae (Nat.mod_eq_of_lt (by simpa using fh)) ?_; rfl
   refine ae e2 ?_
   refine (?_ : List.replicate 1 (UInt8.ofNat (c.ρ.i j).toNat) ++ [] = _)
   refine ae (show (c.ρ.i j).toNat = N by rw [← FO, Int.add_zero]) ?_; rfl
  ·refine ae (if_neg hk) ?_
   refine go (V := Unit) ⟨hx, trivial⟩ ?_
   refine (?_ : (List.range K).map (fun i => lD K (c.ρ.i j + o).toNat (0 + i)) ++ [] = _)
   rw [List.append_nil, FO, kM]
set_option tactic.hygienic true in
theorem lP (H : St Z L cs c A s) {x : SI} {u : Value} (rx : VR c (.int x) u) {as : List V} {us : List Value} (r : dq c as us) : au Z L cs Ar (call (.builtin "int.to_bytes") (u :: us)) VR (toBytes x as A) c s := by
 obtain ⟨hx, t, rfl⟩ := rx
 delta toBytes
 split
 ·rename_i p hp
  split
  ·rename_i hs
   obtain ⟨u1, u2, rfl, r1, r2⟩ := dJ hp r
   rw [hs] at r2
   obtain ⟨t1, rfl⟩ := r2
   exact vw H hx r1
  ·exact .none
 ·exact .none
theorem kN : ∀ (l : List Nat) (a : Nat), (l.all fun x => Nat.blt x 256) = true → (KBw.bInts (l.map UInt8.ofNat).toArray).foldl (fun a k => a * 256 + k) (a : Int) = ((rj l a : Nat) : Int)
 | [], _, _ => rfl
 | x :: r, a, h => by
  rw [List.all_cons, Bool.and_eq_true] at h
  have hx : x < 256 := by have := h.1; exact Nat.le_of_ble_eq_true this
  have ih := kN r (a * 256 + x) h.2
  refine bK ih ?_
  refine (?_ : List.foldl _ ((a : Int) * 256 + (((UInt8.ofNat x).toNat : Nat) : Int)) (KBw.bInts (List.map UInt8.ofNat r).toArray) = _)
  congr 1
  refine ae (UInt8.toNat_ofNat_of_lt' (by simpa using hx)) ?_
  push_cast; rfl
theorem gN {x : Addr} (hx : KFB.StandsAt x s.heap) {b : Array UInt8} {t0 t1 : Tok} {v : Int} (hl : b.size ≤ 8) (hv : KFB.value (KBw.bInts b) = v) {Q : Value → Shared → Prop} {E : Value → Shared → Prop} (q : Q (.int v s.toks) { s with toks := s.toks + 1 }) :
 wpAny Z.M Ar (call (.ref x) [.bytes b t0, .str (strOf [98, 105, 103]) t1]) Q E s :=
 KFB.call_of (o := PySem.Str.ofString "big") hx (fun k => KFB.tree_big hl (by refine ae hv ?_; exact k)) q
theorem qb (H : St Z L cs c A s) {x : Addr} (hx : KFB.StandsAt x s.heap) {b : BS} {t0 t1 : Tok} (hb : BS.lt c.nv b) : au Z L cs Ar (call (.ref x) [.bytes (BS.den c.ρ b).toArray t0, .str (strOf [98, 105, 103]) t1]) VR (AY b A) c s := by
 cases b with
 | nil => exact .none
 | cons x r =>
 cases r with
 | cons => exact .none
 | nil =>
 cases x with
 | rep => exact .none
 | lit l =>
  refine .dP fun hc => .look H fun Q E q => gN (v := ((rj l 0 : Nat) : Int)) hx (Nat.le_trans (Nat.le_of_eq ?_) hc.1) ?_ (q _ (s.toks + 1) ⟨trivial, _, rfl⟩)
  ·refine (?_ : (List.map UInt8.ofNat l ++ []).toArray.size = _)
   rw [List.append_nil, List.size_toArray, List.length_map]
  ·refine (?_ : KFB.value (KBw.bInts (List.map UInt8.ofNat l ++ []).toArray) = _)
   rw [List.append_nil]; exact kN l 0 hc.2
 | be k o n a m =>
  refine .bnd fun p hp => .dP fun hc => ?_
  obtain ⟨rfl, rfl, h8, h0, h3⟩ := hc
  have hd := nL H.toHp hp
  refine (Int.eq_ofNat_of_zero_le (Int.le_trans h0 hd.1)).elim fun N hN => ?_
  have fh : N < 256 ^ m := by
   have h4 : ((N : Nat) : Int) < 256 ^ m := by refine bK hN ?_; exact Int.lt_of_lt_of_le hd.2 h3
   rw [KTBy.p256] at h4
   exact Int.ofNat_lt.mp h4
  have FO : (c.ρ.i k + o).toNat = N := by
   refine (?_ : (SI.den c.ρ (.va k o)).toNat = N)
   refine ae hN ?_; rfl
  have Cy : BS.den c.ρ [.be k o m 0 m] = (cg m N).map UInt8.ofNat := by
   refine (?_ : (List.range m).map (fun i => lD m (c.ρ.i k + o).toNat (0 + i)) ++ [] = _)
   rw [List.append_nil, FO, kM]
  refine .look H fun Q E q => gN (v := SI.den c.ρ (.va k o)) hx ?_ ?_ (q _ (s.toks + 1) ⟨hb.1, _, rfl⟩)
  ·rw [List.size_toArray, BS.bq]
   exact h8
  ·refine ae Cy ?_; refine ae hN ?_
   refine (kN (cg m N) 0 (List.all_eq_true.mpr fun x hx => Nat.blt_eq.mpr (kL m N x hx))).trans ?_
   rw [tU m N 0 fh, Nat.zero_mul, Nat.zero_add]
 | ef k o n =>
  refine .dP fun hc => ?_
  have Hr := mQ (BS.den c.ρ [.ef k o n]) 0 (Int.le_refl _)
  have KX : (BS.den c.ρ [.ef k o n]).length = n := BS.bq _
  rw [KX, Int.zero_add, Int.one_mul] at Hr
  refine .nM H (i := KFB.value (KBw.bInts (BS.den c.ρ [.ef k o n]).toArray)) ⟨?_, ?_⟩ fun h => gN hx (by refine ae List.size_toArray ?_; refine ae KX ?_; exact hc) rfl h
  ·show 0 ≤ if c.nv = c.nv then _ else _
   refine ae (if_pos rfl) ?_; exact Hr.1
  ·refine (?_ : (if c.nv = c.nv then _ else _) < (256 : Int) ^ n)
   refine ae (if_pos rfl) ?_; exact Hr.2
set_option tactic.hygienic true in
theorem jx (H : St Z L cs c A s) {x : Addr} (hx : KFB.StandsAt x s.heap) {as : List V} {us : List Value} (r : dq c as us) : au Z L cs Ar (call (.ref x) us) VR (fromBytes as A) c s := by
 delta fromBytes
 split <;> first | exact .none | skip
 rename_i p hp
 split <;> first | exact .none | skip
 rename_i hs
 obtain ⟨u1, u2, rfl, r1, r2⟩ := dJ hp r
 rw [hs] at r2
 obtain ⟨t1, rfl⟩ := r2
 split <;> first | exact .none | skip
 rename_i b hb
 rw [hb] at r1
 obtain ⟨hb, t0, rfl⟩ := r1
 exact qb H hx hb
set_option tactic.hygienic true in
theorem qc (G : Z.Glob) (H : St Z L cs c A s) {i : Nat} (hi : i < c.n) {v : V} {u : Value} (rv : VR c v u) : au Z L cs Ar (call (.builtin "dict.get") [.ref (c.σ i).1, u]) VR (wH i v A) c s := by
 cases v <;> first | exact .none | skip
 rename_i x
 cases x with
 | va => exact .none
 | lit k =>
 obtain ⟨_, t, rfl⟩ := rv
 dsimp only [wH]
 generalize hm : A.heap.get i = ob
 cases ob with
 | none => exact .none
 | some ob =>
 cases ob <;> first | exact .none | skip
 case aB es =>
  refine ((H.objs _ _ hm).aB).elim fun aF d => ?_
  exact Bn G H hi d
 case ay es =>
  refine ((H.objs _ _ hm).ay).elim fun fs aj => (aj).elim fun aF ax => (ax).elim fun d aP => (aP).elim fun _ bG => (bG).elim fun _ hl => ?_
  dsimp only
  rw [← hl]
  exact Bn G H hi d
set_option tactic.hygienic true in
theorem qd (G : Z.Glob) (H : St Z L cs c A s) {i : Nat} (hi : i < c.n) {v d : V} {u w : Value} (rv : VR c v u) (rd : VR c d w) : au Z L cs Ar (call (.builtin "dict.get") [.ref (c.σ i).1, u, w]) VR (tw i v d A) c s := by
 cases v <;> first | exact .none | skip
 case int x =>
  cases x with
  | va => exact .none
  | lit k =>
  obtain ⟨_, t, rfl⟩ := rv
  dsimp only [tw]
  generalize hm : A.heap.get i = ob
  cases ob with
  | none => exact .none
  | some ob =>
  cases ob <;> first | exact .none | skip
  case aB es => exact by obtain ⟨aF, d⟩ := (H.objs _ _ hm).aB; exact Bo G H hi d rd
  case a5 => exact Bo G H hi (H.objs _ _ hm).fq rd
 case str k =>
  obtain ⟨t, rfl⟩ := rv
  dsimp only [tw]
  generalize hm : A.heap.get i = ob
  cases ob with
  | none => exact .none
  | some ob =>
  cases ob <;> first | exact .none | skip
  case aX es => exact by obtain ⟨aF, d⟩ := (H.objs _ _ hm).aX; exact Bp G H hi d rd
  case a5 => exact Bp G H hi (H.objs _ _ hm).nN rd
set_option tactic.hygienic true in
theorem Cz (G : Z.Glob) (H : St Z L cs c A s) {i : Nat} (hi : i < c.n) {as : List V} {us : List Value} (r : dq c as us) : au Z L cs Ar (call (.builtin "dict.get") (.ref (c.σ i).1 :: us)) VR (gY i N.get as A) c s := by
 refine (?_ : au Z L cs Ar _ VR (BU i as A) c s)
 delta BU
 split
 ·rename_i v hv
  obtain ⟨u, rfl, r1⟩ := dI hv r
  exact qc G H hi r1
 ·split <;> first | exact .none | skip
  rename_i p hp
  obtain ⟨u, w, rfl, r1, r2⟩ := dJ hp r
  exact qd G H hi r1 r2
set_option tactic.hygienic true in
theorem CA (G : Z.Glob) (H : St Z L cs c A s) {i : Nat} (hi : i < c.n) {as : List V} {us : List Value} (r : dq c as us) : au Z L cs Ar (call (.builtin "dict.pop") (.ref (c.σ i).1 :: us)) VR (gY i N.pop as A) c s := by
 refine (?_ : au Z L cs Ar _ VR (BV i as A) c s)
 delta BV
 split <;> first | exact .none | skip
 rename_i p hp
 obtain ⟨u, w, rfl, r1, r2⟩ := dJ hp r
 obtain ⟨v, d⟩ := p
 cases v <;> first | exact .none | skip
 rename_i x
 cases x with
 | va => exact .none
 | lit k =>
 obtain ⟨_, t, rfl⟩ := r1
 dsimp only [AX]
 generalize hm : A.heap.get i = ob
 cases ob with
 | none => exact .none
 | some ob =>
 cases ob <;> first | exact .none | skip
 case aB es => exact .dP fun hc => vu G H hi hm hc r2
 case a5 =>
  exact .look H fun Q E q => call_meetsIn PySem.F.slot_dict_pop (H.objs _ _ hm).fq.at_.typeIs PySem.F.entry_dict_pop (PySem.F.args_dict_pop_3 _ _ _) (meets_dict_pop_default (intKind Z.prog Z.w) (c.σ i).1 (intKind_is _ _ _ t) (cy G H hi) rfl _)
   ⟨[], (H.objs _ _ hm).fq.at_, rfl, q _ (s.toks + 1) r2⟩
set_option tactic.hygienic true in
theorem zV (G : Z.Glob) (H : St Z L cs c A s) {i : Nat} (hi : i < c.n) {as : List V} {us : List Value} (r : dq c as us) : au Z L cs Ar (call (.builtin "dict.setdefault") (.ref (c.σ i).1 :: us)) VR (gY i N.bO as A) c s := by
 refine (?_ : au Z L cs Ar _ VR (wJ i as A) c s)
 delta wJ
 split <;> first | exact .none | skip
 rename_i p hp
 obtain ⟨u, w, rfl, r1, r2⟩ := dJ hp r
 obtain ⟨v, d⟩ := p
 cases v <;> first | exact .none | skip
 obtain ⟨t, rfl⟩ := r1
 dsimp only [wI]
 generalize hm : A.heap.get i = ob
 cases ob with
 | none => exact .none
 | some ob =>
 cases ob <;> first | exact .none | skip
 case aX es => exact .dP fun hc => by obtain ⟨aF, d⟩ := (H.objs _ _ hm).aX; exact ig G H hi d hc r2
 case a5 =>
  exact ig G H hi (H.objs _ _ hm).nN (Nat.zero_le _) r2
set_option tactic.hygienic true in
theorem fD (H : St Z L cs c A s) {i : Nat} (hi : i < c.n) {as : List V} {us : List Value} (r : dq c as us) : au Z L cs Ar (call (.builtin "list.append") (.ref (c.σ i).1 :: us)) VR (jP i N.append as A) c s := by
 delta jP
 split <;> first | exact .none | skip
 rename_i v hv
 obtain ⟨u, rfl, r1⟩ := dI hv r
 generalize hm : A.heap.get i = ob
 cases ob with
 | none => exact .none
 | some ob =>
 cases ob <;> first | exact .none | skip
 case list xs => exact .dP fun hc => mO H hi hm hc.2 r1
 case jl k =>
  exact .dP fun hc => xG H hi hm hc.2
end
section
variable {Z : aL} {n : Nat} {ih : bM} {L : Nat} {cs : Fm} {Ar : Around} {c c' : Cfg} {A : AS} {s s' : Shared} {env : Env} {sc : cA} {m : Nat}
theorem oa {x : Addr} {h : Heap} (hx : KFB.StandsAt x h) : ∃ k, Looks Z.M h (keeperOf (.ref x)) k := by
 refine ⟨.machine, ?_⟩
 refine (Looks.ld (part := none) hx).andThen ?_
 exact Looks.of_pure rfl
structure Found (Z : aL) (ih : bM) (L : Nat) (cs : Fm) (Ar : Around) (c : Cfg) (s : Shared) (u : Value) (k : Nat) (mt : yV) : Prop where
 ex : ∃ f first, (∀ (pl : Sem Bool) (Q : Value × List Value → Shared → Prop) (E : Value → Shared → Prop), (∀ tk, Q (f, first) { s with toks := tk }) → wpAny Z.M Ar (getMethod u (Z.nm k) pl) Q E s) ∧
  (∀ vs c' A' s', Le Z L c s c' s' → St Z L cs c' A' s' → wL Z.Γ ih mt k vs A' = none ∨ ∃ k, Looks Z.M s'.heap (keeperOf f) k) ∧
  ∀ vs A' c' s' us, Le Z L c s c' s' → St Z L cs c' A' s' → dq c' vs us → au Z L cs Ar (call f (first ++ us) []) VR (wL Z.Γ ih mt k vs A') c' s'
theorem fV (G : Z.Glob) {i k : Nat} (hi : i < c.n) (hx : ∃ o, s.heap.get? (c.σ i).1 = some o ∧ o.ExactDict) (hk : k = N.get ∨ k = N.pop ∨ k = N.bO) : Found Z ih L cs Ar c s (.ref (c.σ i).1) k (.dict i) := by
 refine (hx).elim fun o aj => (aj).elim fun ho hd => ?_
 have hT : s.TypeIs (.ref (c.σ i).1) "dict" := ⟨o, ho, hd.1⟩
 have Cc : ∀ a, Value.ref (c.σ i).1 = .ref a → ∃ o, s.heap.get? a = some o ∧ o.dict = none := fun a e => by cases e; exact ⟨o, ho, hd.2.1⟩
 have hb : ∀ (id : String) (s' : Shared), ∃ k, Looks Z.M s'.heap (keeperOf (.builtin id)) k := fun id s' => ea (fun a h => by cases h) _
 rcases hk with rfl | rfl | rfl
 ·refine ⟨.builtin "dict.get", [.ref (c.σ i).1], fun pl Q E q => ?_, fun J J J s' J J => .inr (hb _ s'), fun vs A' c' s' us le H' r => ?_⟩
  ·refine ae G.oY ?_; exact getMethod_builtin hT F.plainAttrs_dict F.slot_dict_get F.type_dict_get Cc (q s.toks)
  ·have := Cz (Ar := Ar) G H' (Nat.lt_of_lt_of_le hi le.n) r
   rw [le.σ i hi] at this; exact this
 ·refine ⟨.builtin "dict.pop", [.ref (c.σ i).1], fun pl Q E q => ?_, fun J J J s' J J => .inr (hb _ s'), fun vs A' c' s' us le H' r => ?_⟩
  ·refine ae G.oZ ?_; exact getMethod_builtin hT F.plainAttrs_dict F.slot_dict_pop F.type_dict_pop Cc (q s.toks)
  ·have := CA (Ar := Ar) G H' (Nat.lt_of_lt_of_le hi le.n) r
   rw [le.σ i hi] at this; exact this
 ·refine ⟨.builtin "dict.setdefault", [.ref (c.σ i).1], fun pl Q E q => ?_, fun J J J s' J J => .inr (hb _ s'), fun vs A' c' s' us le H' r => ?_⟩
  ·refine ae G.jb ?_; exact getMethod_builtin hT F.plainAttrs_dict F.slot_dict_setdefault F.type_dict_setdefault Cc (q s.toks)
  ·have := zV (Ar := Ar) G H' (Nat.lt_of_lt_of_le hi le.n) r
   rw [le.σ i hi] at this; exact this
inductive fE (Γ : Ctx) (m : Nat) (A : AS) : V → yV → Prop
 | ux {C k f} (hc : af C Γ.dv = some k) (hx : af C Γ.cf = none) (hf : af m k.meths = some (true, f)) : fE Γ m A (.cls C) (.fn f [])
 | inst {i C fs k f} (hm : A.heap.get i = some (.inst C fs)) (hs : af m fs = none) (hc : af C Γ.dv = some k) (hf : af m k.meths = some (false, f)) : fE Γ m A (.loc i) (.fn f [.loc i])
 | aB {i es} (hm : A.heap.get i = some (.aB es)) (hk : m = N.get ∨ m = N.pop) : fE Γ m A (.loc i) (.dict i)
 | aX {i es} (hm : A.heap.get i = some (.aX es)) (hk : m = N.get ∨ m = N.bO) : fE Γ m A (.loc i) (.dict i)
 | a5 {i} (hm : A.heap.get i = some .a5) (hk : m = N.get ∨ m = N.pop ∨ m = N.bO) : fE Γ m A (.loc i) (.dict i)
 | ay {i es} (hm : A.heap.get i = some (.ay es)) (hk : m = N.get ∨ m = N.pop) : fE Γ m A (.loc i) (.dict i)
 | jl {i k} (hm : A.heap.get i = some (.jl k)) (hk : m = N.append) : fE Γ m A (.loc i) (.list i)
 | list {i xs} (hm : A.heap.get i = some (.list xs)) (hk : m = N.append) : fE Γ m A (.loc i) (.list i)
 | int {x} (hk : m = N.to_bytes) : fE Γ m A (.int x) (.int x)
 | jO (hk : m = N.from_bytes) : fE Γ m A (.ty .int) .jO
theorem de {α : Type} {p : Prop} [Decidable p] {a b : α} (h : (if p then some a else none) = some b) : p ∧ a = b := by
 by_cases hp : p
 ·exact ⟨hp, aO ((if_pos hp).symm.trans h)⟩
 ·exact no ((if_neg hp).symm.trans h)
theorem sE {Γ : Ctx} {o : V} {m : Nat} {mt : yV} (e : i8 Γ o m A = some mt) : fE Γ m A o mt := by
 cases o with
 | cls C =>
  dsimp only [i8] at e
  generalize hc : af C Γ.dv = y at e
  cases y with
  | none => exact no e
  | some k =>
   dsimp only at e
   generalize hx : af C Γ.cf = z at e
   cases z with
   | some _ => exact no e
   | none =>
   dsimp only at e
   generalize hf : af m k.meths = y at e
   cases y with
   | none => exact no e
   | some x =>
    obtain ⟨b, f⟩ := x
    cases b with
    | true => obtain rfl := aO e; exact .ux hc hx hf
    | false => exact no e
 | loc i =>
  dsimp only [i8] at e
  generalize hm : A.heap.get i = y at e
  cases y with
  | none => exact no e
  | some ob => cases ob with
   | inst C fs =>
    dsimp only at e
    generalize hs : af m fs = y at e
    cases y with
    | some _ => exact no e
    | none =>
     dsimp only at e
     generalize hc : af C Γ.dv = y at e
     cases y with
     | none => exact no e
     | some k =>
      dsimp only at e
      generalize hf : af m k.meths = y at e
      cases y with
      | none => exact no e
      | some x =>
       obtain ⟨b, f⟩ := x
       cases b with
       | true => exact no e
       | false => obtain rfl := aO e; exact .inst hm hs hc hf
   | aB es => obtain ⟨hk, rfl⟩ := de e; exact .aB hm hk
   | ay es => obtain ⟨hk, rfl⟩ := de e; exact .ay hm hk
   | jl k => obtain ⟨hk, rfl⟩ := de e; exact .jl hm hk
   | aX es => obtain ⟨hk, rfl⟩ := de e; exact .aX hm hk
   | a5 => obtain ⟨hk, rfl⟩ := de e; exact .a5 hm hk
   | list xs => obtain ⟨hk, rfl⟩ := de e; exact .list hm hk
   | _ => exact no e
 | int x => obtain ⟨hk, rfl⟩ := de e; exact .int hk
 | ty t => cases t with
  | int => obtain ⟨hk, rfl⟩ := de e; exact .jO hk
  | _ => exact no e
 | _ => exact no e
theorem qe (G : Z.Glob) (Fs : tP Z) (I : aC Z n ih) (hn : Room (n + 1) Ar cs) (H : St Z L cs c A s) {o : V} {u : Value} {k : Nat} {mt : yV} (r : VR c o u) (e : i8 Z.Γ o k A = some mt) :
 Found Z ih L cs Ar c s u k mt ∨ (u = .type "int" ∧ k = N.from_bytes ∧ mt = .jO) := by
 have hb : ∀ (id : String) (s' : Shared), ∃ k, Looks Z.M s'.heap (keeperOf (.builtin id)) k := fun id s' => ea (fun a h => by cases h) _
 have w := sE e
 clear e
 induction w with
 | ux hc hx hf =>
  obtain rfl := r
  exact .inl ⟨_, [], p8 G H hc hx hf, fun vs c' A' s' le H' => xE (ih := ih) G Fs (f := .fn _) rfl H' vs, fun vs A' c' s' us le H' q => d9 G Fs I hn H' q⟩
 | inst hm hs hc hf =>
  obtain ⟨hi, rfl⟩ := r
  refine .inl ⟨_, [_], vr G Fs I hn H hm hs hc hf, ?_, fun vs A' c' s' us le H' q => d9 G Fs I hn H' (.cons (VR.mono (v := .loc _) le.grown ⟨hi, rfl⟩) q)⟩
  exact fun vs c' A' s' le H' => xE (ih := ih) G Fs (f := .fn _) rfl H' _
 | aB hm hk =>
  obtain ⟨hi, rfl⟩ := r
  obtain ⟨aF, d⟩ := (H.objs _ _ hm).aB
  obtain ⟨ob, Dh, ep, h1, h2, _⟩ := d.at_
  exact .inl (fV G hi ⟨ob, h1, h2⟩ (hk.imp id .inl))
 | ay hm hk =>
  obtain ⟨hi, rfl⟩ := r
  refine ((H.objs _ _ hm).ay).elim fun fs aj => (aj).elim fun aF ax => (ax).elim fun d _ => ?_
  obtain ⟨ob, Dh, ep, h1, h2, _⟩ := d.at_
  exact .inl (fV G hi ⟨ob, h1, h2⟩ (hk.imp id .inl))
 | @jl i k hm hk =>
  obtain ⟨hi, rfl⟩ := r
  obtain rfl := hk
  refine (H.objs _ _ hm).elim fun vs aj => (aj).elim fun ep ax => (ax).elim fun e1 r1 => ?_
  refine .inl ⟨.builtin "list.append", [.ref (c.σ i).1], fun pl Q E q => ?_, fun J J J s' J J => .inr (hb _ s'), fun vs A' c' s' us le H' r => ?_⟩
  ·refine ae G.nH ?_; exact getMethod_builtin (dZ e1) F.plainAttrs_list F.slot_list_append F.type_list_append (fun a h => by cases h; exact ⟨_, e1, rfl⟩) (q s.toks)
  ·have := fD (Ar := Ar) H' (Nat.lt_of_lt_of_le hi le.n) r
   rw [le.σ _ hi] at this; exact this
 | aX hm hk =>
  obtain ⟨hi, rfl⟩ := r
  obtain ⟨aF, d⟩ := (H.objs _ _ hm).aX
  obtain ⟨ob, Dh, ep, h1, h2, _⟩ := d.at_
  exact .inl (fV G hi ⟨ob, h1, h2⟩ (hk.imp id .inr))
 | a5 hm hk =>
  obtain ⟨hi, rfl⟩ := r
  refine (H.objs _ _ hm).elim fun ob aj => (aj).elim fun h1 ax => (ax).elim fun h2 _ => ?_
  exact .inl (fV G hi ⟨ob, h1, h2⟩ hk)
 | @list i xs hm hk =>
  obtain ⟨hi, rfl⟩ := r
  obtain rfl := hk
  obtain ⟨vs, ep, e1, r1⟩ := H.objs _ _ hm
  refine .inl ⟨.builtin "list.append", [.ref (c.σ i).1], fun pl Q E q => ?_, fun J J J s' J J => .inr (hb _ s'), fun vs A' c' s' us le H' r => ?_⟩
  ·refine ae G.nH ?_; exact getMethod_builtin (dZ e1) F.plainAttrs_list F.slot_list_append F.type_list_append (fun a h => by cases h; exact ⟨_, e1, rfl⟩) (q s.toks)
  ·have := fD (Ar := Ar) H' (Nat.lt_of_lt_of_le hi le.n) r
   rw [le.σ _ hi] at this; exact this
 | @int x hk =>
  obtain rfl := hk
  obtain ⟨hx, t, rfl⟩ := id r
  refine .inl ⟨.builtin "int.to_bytes", [.int (SI.den c.ρ x) t], fun pl Q E q => ?_, fun J J J s' J J => .inr (hb _ s'), fun vs A' c' s' us le H' q => lP H' (VR.mono le.grown r) q⟩
  refine ae G.o3 ?_; with_reducible exact KTBy.method (q s.toks)
 | jO hk => exact .inr ⟨r, hk, rfl⟩
theorem sF (G : Z.Glob) (Fs : tP Z) (I : aC Z n ih) (hn : Room (n + 1) Ar cs) (H : St Z L cs c A s) (N : aR Z sc c L cs env) {o : V} {u : Value} {k : Nat} {as : List E} {x : Expr} {xs : List Expr} {apos pos : Pos} (r : VR c o u)
 (he : encL (aV Z.nm m sc) as xs = true) (hl : xs.length < 30) (hp : (apos.endLine == pos.line) = true) :
 au Z L cs Ar (methodCall x (Z.nm k) apos pos env u (xs.length + ([] : List Keyword).length) (backTo pos (starEach xs env)) (backToKw pos (keywordEach [] env))) VR (match i8 Z.Γ o k A with | none => none | some mt => Res.bind (eY ih as A) fun as A => wL Z.Γ ih mt k as A) c s := by
 rw [dV env he, fP]
 have cx : Room n Ar cs := hn.le (Nat.le_succ n)
 have hl : xs.length + ([] : List Keyword).length < 30 := hl
 cases MY : i8 Z.Γ o k A with
 | none => exact .none
 | some mt =>
  rcases qe (ih := ih) G Fs I hn H r MY with F | ⟨rfl, rfl, rfl⟩
  ·refine Classical.byContradiction fun bad => ?_
   obtain ⟨f, first, h1, h2, h3⟩ := F.ex
   refine bad (mM (P := fun f' CB s' => f' = f ∧ CB = first ∧ ∃ tk, s' = { s with toks := tk }) hl hp (fun pl Q E q => h1 pl Q E fun tk => q _ _ _ ⟨rfl, rfl, tk, rfl⟩) ?_)
   rintro _ _ _ ⟨rfl, rfl, tk, rfl⟩
   exact au.from H.bw (Le.toks tk) (gL (H.toks tk) (c9 I cx he (H.toks tk) N) (fun vs c' A' s' le H' => h2 vs c' A' s' ((Le.toks tk).trans le) H') fun vs A' c' s' us le H' q => h3 vs A' c' s' us ((Le.toks tk).trans le) H' q)
  ·have wj : ∀ b o, s.heap.get? b = some o → (s.heap.push KFB.bound).get? b = some o := fun b o e => Heap.get?_push_of_some _ e
   have hx : (s.heap.push KFB.bound).get? s.heap.objs.size = some KFB.bound := Heap.get?_push_size _ rfl
   have Hs := get_size s.heap
   refine mM (P := fun f first s' => f = .ref s.heap.objs.size ∧ first = [] ∧ s' = { s with heap := s.heap.push KFB.bound, toks := s.toks + 1 }) hl hp (fun pl Q E q => ?_) ?_
   ·refine ae G.o4 ?_; exact (zU (G.k.keeps H.base) G.fb (q _ _ _ ⟨rfl, rfl, rfl⟩) :)
   ·rintro _ _ _ ⟨rfl, rfl, rfl⟩
    have H1 : St Z L cs c A { s with heap := s.heap.push KFB.bound, toks := s.toks + 1 } := H.bk (s' := { s with heap := s.heap.push KFB.bound, toks := s.toks + 1 }) wj rfl rfl
    have a0 : Le Z L c s c { s with heap := s.heap.push KFB.bound, toks := s.toks + 1 } := Le.bk (s' := { s with heap := s.heap.push KFB.bound, toks := s.toks + 1 }) wj
    have xJ : ∀ c' (s' : Shared), Le Z L c { s with heap := s.heap.push KFB.bound, toks := s.toks + 1 } c' s' → KFB.StandsAt s.heap.objs.size s'.heap := fun c' s' le =>
     let ⟨o', e', w⟩ := le.keep _ _ hx (Ne.symm (H.bw.ne Hs)) fun i hi => ⟨Ne.symm ((H.up i hi).1.ne Hs), Ne.symm ((H.up i hi).2.ne Hs)⟩
     by have q := w.same (fun J J q => Data.noConfusion q) (a7 rfl (by decide)).1; rw [q] at e'; exact e'
    exact au.from H.bw a0 (gL H1 (c9 I cx he H1 N) (fun J c' A' s' le J => .inr (oa (xJ _ _ le))) fun vs A' c' s' us le H' q => jx H' (xJ _ _ le) q)
end
structure Own (L : Nat) (c : Cfg) (aE : Shared) (a : Nat) : Prop where
 new : aE.heap.get? a = none
 ne : a ≠ L
 off : ∀ i, i < c.n → a ≠ (c.σ i).1 ∧ a ≠ (c.σ i).2
noncomputable def jk (L : Nat) (c : Cfg) (aE s : Shared) : It → Value → Prop
 | .iA x n st, u => ∃ a, u = .ref a ∧ Own L c aE a ∧ IsRangeIter s.heap a x (n : Int) st
 | .lst i k, u => i < c.n ∧ ∃ a, u = .ref a ∧ Own L c aE a ∧ s.heap.IsListIter a (c.σ i).1 k
 | .tup i k, u => i < c.n ∧ ∃ a, u = .ref a ∧ Own L c aE a ∧ s.heap.IsTupleIter a (c.σ i).1 k
 | .keys i n k, u => i < c.n ∧ n < c.nv ∧ ∃ a es ep, u = .ref a ∧ Own L c aE a ∧ (c.ρ.o n).data = .dict es ep ∧ s.heap.IsKeyIter a (c.σ i).1 k es.size ep
section
variable {Z : aL} {L : Nat} {cs : Fm} {Ar : Around} {c c' c₀ : Cfg} {A A' : AS} {s s' aE : Shared} {a : Nat}
theorem St.eJ (H : St Z L cs c A s) (hd : ∀ o, s.heap.get? a = some o → jV o) (hf : ∀ b ∈ cs.frs.filterMap (·.frame), b ≠ a) (hk : ∀ b o, s.heap.get? b = some o → b ≠ a → s'.heap.get? b = some o) (hg : s'.gens = s.gens) (ho : s'.os = s.os) (hb : Z.h₀.get? a = none) (O : Own L c aE a) : St Z L cs c A s' := by
 have kt : ∀ b o, s.heap.get? b = some o → dF o ∨ dU o ∨ bc o → s'.heap.get? b = some o := fun b o e t => hk b o e fun q => t.elim (hd o (q ▸ e)).1 fun t => t.elim (hd o (q ▸ e)).2.1 (hd o (q ▸ e)).2.2
 refine ⟨⟨fun b o e => hk b o (H.base b o e) (Has.ne ⟨o, e⟩ hb), hg.trans H.gens, ho.trans H.os, H.n, H.nv, H.vars, fun i ob e => ?_, H.lt, H.lo, fun i hi => ?_, H.apart⟩, H.toFrm.keep (bu.refl c) (fun o e => hk _ o e (Ne.symm O.ne)) fun i h h' => absurd h (Nat.not_le_of_lt h'), H.cells, ?_, fun b hm => ?_, fun P m => ?_⟩
 ·have hi : i < c.n := H.lt i ob e
  exact (H.objs i ob e).keep (bu.refl c) hi (fun o q J => hk _ o q (Ne.symm (O.off i hi).1)) (fun o q J => hk _ o q (Ne.symm (O.off i hi).2)) fun b o e t => ⟨o, kt b o e (t.elim (fun t => .inl (.inl t)) fun t => .inr (.inr t)), id, id⟩
 ·refine (H.up i hi).elim fun aj ax => (aj).elim fun o1 q1 => (ax).elim fun o2 q2 => ?_
  exact ⟨⟨o1, hk _ o1 q1 (Ne.symm (O.off i hi).1)⟩, ⟨o2, hk _ o2 q2 (Ne.symm (O.off i hi).2)⟩⟩
 ·have := H.hd
  revert this
  cases A.hd <;> cases cs.hd <;> intro this <;> first | exact this | skip
  refine (this).elim fun h1 aj => (aj).elim fun h2 ax => (ax).elim fun o aP => (aP).elim fun h3 h4 => ?_
  exact ⟨h1, h2, o, hk _ o h3 fun q => (hd o (q ▸ h3)).2.1 h4, h4⟩
 ·refine (H.outs b hm).elim fun h1 aj => (aj).elim fun ax h4 => (ax).elim fun o aP => (aP).elim fun h2 h3 => ?_
  exact ⟨h1, ⟨o, hk _ o h2 (hf b hm), h3⟩, h4⟩
 ·refine (H.tabs P m).elim fun o aj => (aj).elim fun e w => ?_
  exact ⟨o, kt P o e (.inl (.inr w.l)), w.mk' fun b o e t => ⟨o, kt b o e (.inr (.inr t)), t⟩⟩
theorem Le.eJ (x : Le Z L c₀ aE c s) (hd : ∀ o, s.heap.get? a = some o → jV o) (hk : ∀ b o, s.heap.get? b = some o → b ≠ a → s'.heap.get? b = some o) (h0 : aE.heap.get? a = none) : Le Z L c₀ aE c s' where
 n := x.n
 nv := x.nv
 σ := x.σ
 ρ := x.ρ
 ck := fun b o e => by refine (x.ck b o e).elim fun o' aj => (aj).elim fun e' w => ?_; exact ⟨o', hk b o' e' (Has.ne ⟨o, e⟩ h0), w.tb, w.no, w.cd, fun t => (w.tab t).mk' fun b o e cl => ⟨o, hk b o e fun q => (hd o (q ▸ e)).2.2 cl, cl⟩⟩
 old := fun b o e0 e => hk b o (x.old b o e0 e) (Has.ne ⟨o, e⟩ h0)
 keep := fun b o e hb hn => by refine (x.keep b o e hb hn).elim fun o' aj => (aj).elim fun e' w => ?_; exact ⟨o', hk b o' e' (Has.ne ⟨o, e⟩ h0), w⟩
 new := x.new
theorem St.zW (H : St Z L cs c A s) {o : Obj} (e : s.heap.get? a = some o) (hd : ∀ es ep, o.data ≠ .dict es ep) : ∀ b ∈ cs.frs.filterMap (·.frame), b ≠ a := fun b hm q => by
 obtain ⟨_, ⟨o', h2, es, ep, h3⟩, _⟩ := H.outs b hm
 rw [q, e] at h2
 obtain rfl := aO h2
 exact hd es ep h3
theorem Own.mono (O : Own L c aE a) (ha : Has s.heap a) (le : Le Z L c s c' s') : Own L c' aE a :=
 ⟨O.new, O.ne, fun i hi => by
  by_cases q : i < c.n
  ·refine ae (le.σ i q) ?_; exact O.off i q
  ·have := le.new i (Nat.le_of_not_lt q) hi
   exact ⟨ha.ne this.1, ha.ne this.2⟩⟩
theorem Own.fresh (H : St Z L cs c A s) : Own L c s s.heap.objs.size :=
 ⟨get_size _, Ne.symm (H.bw.ne (get_size _)), fun i hi => ⟨Ne.symm ((H.up i hi).1.ne (get_size _)), Ne.symm ((H.up i hi).2.ne (get_size _))⟩⟩
theorem jk.mono {it : It} {u : Value} (r : jk L c aE s it u) (le : Le Z L c s c' s') : jk L c' aE s' it u := by
 have keep : ∀ a o, Own L c aE a → s.heap.get? a = some o → (∀ es ep, o.data ≠ .dict es ep) → ¬ dF o → s'.heap.get? a = some o := fun a o O e h1 h2 => by
  refine (le.keep a o e O.ne O.off).elim fun o' aj => (aj).elim fun e' w => ?_
  rw [w.same h1 h2] at e'; exact e'
 cases it with
 | iA x n st =>
  obtain ⟨a, rfl, O, h⟩ := r
  exact ⟨a, rfl, O.mono ⟨_, h⟩ le, keep _ _ O h (fun J J q => Data.noConfusion q) (a7 rfl (by decide)).1⟩
 | lst i k =>
  obtain ⟨hi, a, rfl, O, o, h, h'⟩ := r
  refine ⟨Nat.lt_of_lt_of_le hi le.n, a, rfl, O.mono ⟨_, h⟩ le, o, keep _ _ O h (fun J J q => by rw [h'.2] at q; cases q) (a7 h'.1 (by decide)).1, ?_⟩
  refine ae (le.σ i hi) ?_; exact h'
 | tup i k =>
  obtain ⟨hi, a, rfl, O, o, h, h'⟩ := r
  refine ⟨Nat.lt_of_lt_of_le hi le.n, a, rfl, O.mono ⟨_, h⟩ le, o, keep _ _ O h (fun J J q => by rw [h'.2] at q; cases q) (a7 h'.1 (by decide)).1, ?_⟩
  refine ae (le.σ i hi) ?_; exact h'
 | keys i n k =>
  obtain ⟨hi, hn, a, es, ep, rfl, O, hd, o, h, h'⟩ := r
  refine ⟨Nat.lt_of_lt_of_le hi le.n, Nat.lt_of_lt_of_le hn le.nv, a, es, ep, rfl, O.mono ⟨_, h⟩ le, ?_, o, keep _ _ O h (fun J J q => by rw [h'.2] at q; cases q) (a7 h'.1 (by decide)).1, ?_⟩
  ·have : c'.ρ.o n = c.ρ.o n := congrArg Prod.snd (le.ρ n hn).2.1
   refine ae this ?_; exact hd
  ·refine ae (le.σ i hi) ?_; exact h'
theorem ee {prog : Program} {w : World} {Q : Unit → Shared → Prop} {E : Value → Shared → Prop} {target : Expr} {r : Addr} {x : Value} {o : Obj} {n : String} (ho : s.heap.get? r = some o) (hc : o.cls = .type n)
 (hn : (["enumerate", "zip", "dict_itemiterator", "dict_reverseitemiterator", "odict_iterator", "itertools.zip_longest", "itertools.pairwise"].contains n) = false) (h : Q () s) : wpAny (model prog w) Ar (letOwnedTupleGo target (.ref r) x) Q E s := by
 have go : wpAny (model prog w) Ar (do
  let (.ref r, .ref a) := ((Value.ref r, x) : Value × Value) | return
  let o ← load r
  match o.cls, o.data with
  | .type n, .fields vs =>
   if ["enumerate", "zip", "dict_itemiterator", "dict_reverseitemiterator", "odict_iterator", "itertools.zip_longest", "itertools.pairwise"].contains n && vs[0]? == some (rawInt a) then
    rule "for.unpacks-the-owned-tuple"
    updateField r 0 .none
  | _, _ => pure ()) Q E s := by
  cases x <;> first | exact wpAny_pure h | skip
  refine wpAny_bind (wpAny_load ho ?_)
  refine ae hc ?_
  cases o.data <;> first | exact wpAny_pure h | skip
  dsimp only
  rw [hn, Bool.false_and, if_neg (by decide)]
  exact wpAny_pure h
 cases target <;> first | exact wpAny_pure h | exact go
theorem ik (G : Z.Glob) (H : St Z L cs c A s) {i : Nat} (hi : i < c.n) {es : List (Int × V)} (ho : br Z c s.heap i (.aB es)) {Q : Value → Shared → Prop} {E : Value → Shared → Prop}
 (q : ∀ c' s' w, (∀ b o, s.heap.get? b = some o → s'.heap.get? b = some o) → Le Z L c s c' s' → St Z L cs c' (freeze i es A).2 s' → jk L c' s s' (freeze i es A).1 w → Q w s') : wpAny Z.M Ar (pyIter (.ref (c.σ i).1)) Q E s := by
 obtain ⟨o, aF, h1, h2, h3⟩ := ho
 refine (id h2).elim fun dh aj => (aj).elim fun ep ax => (ax).elim fun k1 aP => (aP).elim fun k2 bG => (bG).elim fun k3 dc => (dc).elim fun k4 k5 => ?_
 have zL : s.heap.DictAt (intKind Z.prog Z.w) (c.σ i).1 aF ep := ⟨o, dh, h1, k1, k2, k3, k4, k5⟩
 have rD : dh.size = aF.length := by refine bK k4.length ?_; simp
 have H1 : St Z L cs (c.draw 0 (fun J => 0) o) (A.fresh .oct).2 s := H.fresh (d := .oct) trivial
 have Ht : (c.draw 0 (fun J => 0) o).ρ.o A.vars.length = o := by
  refine (?_ : (if A.vars.length = c.nv then ((fun J => 0 : Nat → UInt8), o) else c.ρ.bo A.vars.length).2 = o)
  refine ae (if_pos H.nv.symm) ?_; rfl
 have H2 : St Z L cs (c.draw 0 (fun J => 0) o) (freeze i es A).2 s := by
  refine H1.change (o' := .cX A.vars.length es) hi (fun J J e J J => e) (a6.of fun J J e => e) ⟨?_, ?_, aF, ?_, ?_⟩ rfl rfl
  ·refine (?_ : A.vars.length < c.nv + 1); refine ae H.nv ?_; exact Nat.lt_succ_self _
  ·refine ae Ht ?_; exact h1
  ·refine ae Ht ?_; exact h2
  ·exact h3.imp fun J J y => ⟨y.1, y.2.mono (c.dG 0 (fun J => 0) o)⟩
 refine wpAny_pyIter_dict (cy G H hi) zL ?_
 have hk : ∀ b ob, s.heap.get? b = some ob → (s.heap.push { cls := .type "dict_keyiterator", data := .fields #[.ref (c.σ i).1, .int 0 0, .int aF.length 0, .int ep 0] }).get? b = some ob := fun b ob e => Heap.get?_push_of_some _ e
 refine q (c.draw 0 (fun J => 0) o) { s with heap := _ } _ hk ((Le.fresh (s := s)).trans (Le.bk (s' := { s with heap := _ }) hk)) (H2.bk (s' := { s with heap := _ }) hk rfl rfl) ?_
 refine ⟨hi, ?_, s.heap.objs.size, dh, ep, rfl, ?_, ?_, _, Heap.get?_push_size _ rfl, rfl, ?_⟩
 ·refine (?_ : A.vars.length < c.nv + 1); refine ae H.nv ?_; exact Nat.lt_succ_self _
 ·exact Own.fresh H2
 ·refine ae Ht ?_; exact k2
 ·refine ae rD ?_; rfl
inductive sG (A : AS) : V → It × AS → Prop
 | iA {i lo hi st} (hm : A.heap.get i = some (.iA lo hi st)) (h1 : Builtin.Range.small lo hi st = true) (h2 : 0 ≤ Builtin.Range.rangeSize lo hi st) : sG A (.loc i) (.iA lo (Builtin.Range.rangeSize lo hi st).toNat st, A)
 | lst {i xs} (hm : A.heap.get i = some (.list xs) ∨ ∃ n, A.heap.get i = some (.rl n xs)) : sG A (.loc i) (.lst i 0, A)
 | tup {i xs} (hm : A.heap.get i = some (.tup xs)) : sG A (.loc i) (.tup i 0, A)
 | KY {i es} (hm : A.heap.get i = some (.aB es)) : sG A (.loc i) (freeze i es A)
 | KZ {i} (hm : A.heap.get i = some .a5) : sG A (.loc i) (freeze i [] A)
theorem kO {v : V} {p : It × AS} (e : cY v A = some p) : sG A v p := by
 cases v with
 | loc i =>
  dsimp only [cY] at e
  generalize hm : A.heap.get i = o at e
  cases o with
  | none => exact no e
  | some ob => cases ob with
   | iA lo hi st =>
    dsimp only at e
    cases hc : (Builtin.Range.small lo hi st && decide (0 ≤ Builtin.Range.rangeSize lo hi st)) with
    | false => rw [hc] at e; exact no e
    | true =>
     rw [hc] at e
     obtain rfl := aO e
     exact .iA hm (ao hc).1 (of_decide_eq_true (ao hc).2)
   | list xs => obtain rfl := aO e; exact .lst (.inl hm)
   | rl n xs => obtain rfl := aO e; exact .lst (.inr ⟨_, hm⟩)
   | tup xs => obtain rfl := aO e; exact .tup hm
   | aB es => obtain rfl := aO e; exact .KY hm
   | a5 => obtain rfl := aO e; exact .KZ hm
   | _ => exact no e
 | _ => exact no e
theorem list_of (H : St Z L cs c A s) {i : Nat} {xs : List V} (hm : A.heap.get i = some (.list xs) ∨ ∃ n, A.heap.get i = some (.rl n xs)) : ∃ vs ep, s.heap.get? (c.σ i).1 = some { cls := .type "list", data := .seq vs ep } ∧ aS (VR c) xs vs.toList := by
 rcases hm with hm | ⟨n, hm⟩
 ·obtain ⟨vs, ep, h1, r1⟩ := H.objs _ _ hm
  exact ⟨vs, ep, h1, r1⟩
 ·refine (H.objs _ _ hm).elim fun _ aj => (aj).elim fun h1 ax => (ax).elim fun vs aP => (aP).elim fun ep bG => (bG).elim fun h2 r1 => ?_
  rw [h2] at h1
  exact ⟨vs, ep, h1, r1⟩
theorem kP (H : St Z L cs c A s) {it : It} {ob : Obj} {Q : Value → Shared → Prop}
 (q : ∀ c' s' w, (∀ b o, s.heap.get? b = some o → s'.heap.get? b = some o) → Le Z L c s c' s' → St Z L cs c' A s' → jk L c' s s' it w → Q w s')
 (hi : Own L c s s.heap.objs.size → (s.heap.push ob).get? s.heap.objs.size = some ob → jk L c s { s with heap := s.heap.push ob } it (.ref s.heap.objs.size)) (hf : ob.isFreed = false) : Q (.ref s.heap.objs.size) { s with heap := s.heap.push ob } := by
 have lit : ∀ b o, s.heap.get? b = some o → (s.heap.push ob).get? b = some o := fun b o e => Heap.get?_push_of_some _ e
 exact q c { s with heap := s.heap.push ob } _ lit (Le.bk (s' := { s with heap := s.heap.push ob }) lit) (H.bk (s' := { s with heap := s.heap.push ob }) lit rfl rfl) (hi (Own.fresh H) (Heap.get?_push_size _ hf))
theorem fF (G : Z.Glob) (H : St Z L cs c A s) {v : V} {u : Value} {p : It × AS} (r : VR c v u) (e : cY v A = some p) {Q : Value → Shared → Prop} {E : Value → Shared → Prop}
 (q : ∀ c' s' w, (∀ b o, s.heap.get? b = some o → s'.heap.get? b = some o) → Le Z L c s c' s' → St Z L cs c' p.2 s' → jk L c' s s' p.1 w → Q w s') : wpAny Z.M Ar (pyIter u) Q E s := by
 have w := kO e
 clear e
 induction w with
 | iA hm MZ M0 =>
  obtain ⟨hi, rfl⟩ := r
  refine (H.objs _ _ hm).elim fun t aj => (aj).elim fun t' ax => (ax).elim fun Dd h1 => ?_
  exact wpAny_pyIter_range h1 MZ (kP H q (fun O g => ⟨_, rfl, O, by refine ae (Int.toNat_of_nonneg M0) ?_; exact g⟩) rfl)
 | lst hm =>
  obtain ⟨hi, rfl⟩ := r
  refine (list_of H hm).elim fun vs aj => (aj).elim fun ep ax => (ax).elim fun h1 _ => ?_
  exact wpAny_pyIter_list ⟨_, h1, rfl, _, rfl⟩ (kP H q (fun O g => ⟨hi, _, rfl, O, _, g, rfl, rfl⟩) rfl)
 | tup hm =>
  obtain ⟨hi, rfl⟩ := r
  refine (H.objs _ _ hm).elim fun vs aj => (aj).elim fun h1 _ => ?_
  exact wpAny_pyIter_tuple ⟨_, h1, rfl, _, rfl⟩ (kP H q (fun O g => ⟨hi, _, rfl, O, _, g, rfl, rfl⟩) rfl)
 | KY hm =>
  obtain ⟨hi, rfl⟩ := r
  exact ik G H hi (H.objs _ _ hm) q
 | KZ hm =>
  obtain ⟨hi, rfl⟩ := r
  have hd := (H.objs _ _ hm).fq
  exact ik G H hi (.hY hd.at_ hd.all) q
end
section
variable {Z : aL} {L : Nat} {cs : Fm} {Ar : Around} {c c' c₀ : Cfg} {A A' : AS} {s s' aE : Shared} {a : Nat}
theorem xK {vs : Array Value} {k : Nat} {u : Value} (h : vs.toList[k]? = some u) : vs[k]? = some u := by refine bK (Array.getElem?_toList) ?_; exact h
theorem qf {xs : List V} {vs : Array Value} (r : dq c xs vs.toList) {k : Nat} (h : xs[k]? = none) : vs[k]? = none := by
 rw [← Array.getElem?_toList, List.getElem?_eq_none_iff, ← r.length]
 exact List.getElem?_eq_none_iff.mp h
def vx (Z : aL) (L : Nat) (cs : Fm) (c₀ : Cfg) (aE : Shared) (c : Cfg) (Q : Option Value → Shared → Prop) (A' : AS) : Prop := ∀ s', Le Z L c₀ aE c s' → St Z L cs c A' s' → Q none s'
def vy (Z : aL) (L : Nat) (cs : Fm) (Ar : Around) (c₀ : Cfg) (aE : Shared) (c : Cfg) (u : Value) (Q : Option Value → Shared → Prop) (A' : AS) (v : V) (tV : It) : Prop :=
 ∀ w s', (∀ (target : Expr) (Q' : Unit → Shared → Prop) (E' : Value → Shared → Prop), (∀ c' eB, bu c c' → Le Z L c₀ aE c' eB → St Z L cs c' A' eB → VR c' v w → jk L c' aE eB tV u → Q' () eB) → wpAny Z.M Ar (letOwnedTupleGo target u w) Q' E' s') → Q (some w) s'
def Ew (Z : aL) (L : Nat) (cs : Fm) (Ar : Around) (c₀ : Cfg) (aE : Shared) (c : Cfg) (u : Value) (Q : Option Value → Shared → Prop) (A' : AS) (x : Itm) : Prop := match x with
 | .fin => vx Z L cs c₀ aE c Q A'
 | .one v tV => vy Z L cs Ar c₀ aE c u Q A' v tV
inductive ip (A : AS) : It → Itm × AS → Prop
 | Ex {x st} : ip A (.iA x 0 st) (.fin, A)
 | Ey {x n st} : ip A (.iA x (n + 1) st) (.one (.int (.lit x)) (.iA (x + st) n st), A)
 | CC {i k xs} (hm : A.heap.get i = some (.list xs) ∨ ∃ n, A.heap.get i = some (.rl n xs)) (hv : xs[k]? = none) : ip A (.lst i k) (.fin, A)
 | CD {i k xs v} (hm : A.heap.get i = some (.list xs) ∨ ∃ n, A.heap.get i = some (.rl n xs)) (hv : xs[k]? = some v) : ip A (.lst i k) (.one v (.lst i (k + 1)), A)
 | Ez {i k xs} (hm : A.heap.get i = some (.tup xs)) (hv : xs[k]? = none) : ip A (.tup i k) (.fin, A)
 | EA {i k xs v} (hm : A.heap.get i = some (.tup xs)) (hv : xs[k]? = some v) : ip A (.tup i k) (.one v (.tup i (k + 1)), A)
 | EB {i n k es} (hm : A.heap.get i = some (.cX n es)) (hv : es[k]? = none) : ip A (.keys i n k) (.fin, A.put i (.aB es))
 | EC {i n k es} {e : Int × V} (hm : A.heap.get i = some (.cX n es)) (hv : es[k]? = some e) : ip A (.keys i n k) (.one (.int (.lit e.1)) (.keys i n (k + 1)), A)
theorem qg {it : It} {p : Itm × AS} (e : cK it A = some p) : ip A it p := by
 cases it with
 | iA x left st => cases left with
  | zero => obtain rfl := aO e; exact .Ex
  | succ n => obtain rfl := aO e; exact .Ey
 | lst i k =>
  dsimp only [cK] at e
  generalize hm : A.heap.get i = o at e
  cases o with
  | none => exact no e
  | some ob => cases ob with
   | list xs =>
    dsimp only at e
    rw [bF] at e
    generalize hv : xs[k]? = y at e
    cases y with
    | none => obtain rfl := aO e; exact .CC (.inl hm) hv
    | some v => obtain rfl := aO e; exact .CD (.inl hm) hv
   | rl n xs =>
    dsimp only at e
    rw [bF] at e
    generalize hv : xs[k]? = y at e
    cases y with
    | none => obtain rfl := aO e; exact .CC (.inr ⟨_, hm⟩) hv
    | some v => obtain rfl := aO e; exact .CD (.inr ⟨_, hm⟩) hv
   | _ => exact no e
 | tup i k =>
  dsimp only [cK] at e
  generalize hm : A.heap.get i = o at e
  cases o with
  | none => exact no e
  | some ob => cases ob with
   | tup xs =>
    dsimp only at e
    rw [bF] at e
    generalize hv : xs[k]? = y at e
    cases y with
    | none => obtain rfl := aO e; exact .Ez hm hv
    | some v => obtain rfl := aO e; exact .EA hm hv
   | _ => exact no e
 | keys i n k =>
  dsimp only [cK] at e
  generalize hm : A.heap.get i = o at e
  cases o with
  | none => exact no e
  | some ob => cases ob with
   | cX m es =>
    dsimp only at e
    cases hn : Nat.beq n m with
    | false => rw [hn] at e; exact no e
    | true =>
     rw [hn] at e
     obtain rfl := Nat.eq_of_beq_eq_true hn
     rw [bF] at e
     generalize hv : es[k]? = y at e
     cases y with
     | none => obtain rfl := aO e; exact .EB hm hv
     | some v => obtain rfl := aO e; exact .EC hm hv
   | _ => exact no e
theorem base_of (bJ : ∀ b o, Z.h₀.get? b = some o → aE.heap.get? b = some o) {a : Nat} (h : aE.heap.get? a = none) : Z.h₀.get? a = none := by
 cases e : Z.h₀.get? a with
 | none => rfl
 | some o => have := bJ _ _ e; rw [h] at this; cases this
def Iter (s : Shared) (a : Addr) : Prop := ∃ o n vs, s.heap.get? a = some o ∧ o.cls = .type n ∧ (n ≠ "traceback" ∧ n ≠ "code") ∧ o.data = .fields vs
theorem Iter.of {o : Obj} {n : String} {vs : Array Value} (e : s.heap.get? a = some o) (hc : o.cls = .type n) (hn : n ≠ "traceback" ∧ n ≠ "code") (hd : o.data = .fields vs) : Iter s a := ⟨o, n, vs, e, hc, hn, hd⟩
theorem Iter.has {n : String} {vs : Array Value} (x : ∃ o, s.heap.get? a = some o ∧ o.cls = .type n ∧ o.data = .fields vs) (hn : n ≠ "traceback" ∧ n ≠ "code") : Iter s a := by refine (x).elim fun o aj => (aj).elim fun h1 ax => (ax).elim fun h2 h3 => ?_; exact ⟨o, n, vs, h1, h2, hn, h3⟩
theorem Iter.qh (x : Iter s a) : ∀ o, s.heap.get? a = some o → jV o := fun o e => by
 obtain ⟨o', n, _, h1, h2, h3, _⟩ := x
 rw [e] at h1; obtain rfl := aO h1
 exact a7 h2 h3
theorem Iter.out (x : Iter s a) (H : St Z L cs c A s) : ∀ b ∈ cs.frs.filterMap (·.frame), b ≠ a := by
 refine (x).elim fun o aj => (aj).elim fun n ax => (ax).elim fun vs aP => (aP).elim fun h1 bG => (bG).elim fun _ dc => (dc).elim fun _ h4 => ?_
 exact H.zW h1 fun J J q => by rw [h4] at q; cases q
section
variable {Q : Option Value → Shared → Prop} {E : Value → Shared → Prop} {u : Value} (hh : Ar.handled = none) (bJ : ∀ b o, Z.h₀.get? b = some o → aE.heap.get? b = some o) (le : Le Z L c₀ aE c s) (H : St Z L cs c A s)
include bJ le H
theorem iV (it : Iter s a) (O : Own L c aE a) (q : vx Z L cs c₀ aE c Q A) {h' : Heap} (hk : ∀ b o, s.heap.get? b = some o → b ≠ a → h'.get? b = some o) : Q none { s with heap := h' } :=
 q { s with heap := h' } (le.eJ (s' := { s with heap := h' }) it.qh hk O.new) (H.eJ (s' := { s with heap := h' }) it.qh (it.out H) hk rfl rfl (base_of bJ O.new) O)
theorem fW (it : Iter s a) (O : Own L c aE a) {v : V} {tV : It} {w : Value} {h' : Heap} {tk : Nat} (q : vy Z L cs Ar c₀ aE c u Q A v tV) (hk : ∀ b o, s.heap.get? b = some o → b ≠ a → h'.get? b = some o)
 (hw : VR c v w) (hi : jk L c aE { s with heap := h', toks := tk } tV u)
 (hl : ∀ (target : Expr) (Q' : Unit → Shared → Prop) (E' : Value → Shared → Prop), Q' () { s with heap := h', toks := tk } → wpAny Z.M Ar (letOwnedTupleGo target u w) Q' E' { s with heap := h', toks := tk }) : Q (some w) { s with heap := h', toks := tk } :=
 q _ _ fun target Q' E' k => hl target Q' E' (k c _ (bu.refl c) (le.eJ (s' := { s with heap := h', toks := tk }) it.qh hk O.new) (H.eJ (s' := { s with heap := h', toks := tk }) it.qh (it.out H) hk rfl rfl (base_of bJ O.new) O) hw hi)
include hh
theorem vz {x st : Int} (r : jk L c aE s (.iA x 0 st) u) (q : vx Z L cs c₀ aE c Q A) : wpAny Z.M Ar (pyNext u) Q E s := by
 obtain ⟨a, rfl, O, h⟩ := r
 exact wpAny_pyNext_range_end hh h (Int.le_refl 0) fun h' hs => iV bJ le H (.of h rfl (by decide) rfl) O q fun b o e q => hs b o q e
omit hh in
theorem vA {x st : Int} {n : Nat} (r : jk L c aE s (.iA x (n + 1) st) u) (q : vy Z L cs Ar c₀ aE c u Q A (.int (.lit x)) (.iA (x + st) n st)) : wpAny Z.M Ar (pyNext u) Q E s := by
 obtain ⟨a, rfl, O, h⟩ := r
 refine wpAny_pyNext_range_item h (Int.ofNat_lt.mpr (Nat.succ_pos n)) fun h' g hs => ?_
 exact fW (tk := s.toks + 1) bJ le H (.of h rfl (by decide) rfl) O q (fun b o e q => (hs.2 b q).trans e) ⟨trivial, _, rfl⟩ ⟨a, rfl, O, g.trans (by rw [Int.natCast_succ, Int.add_sub_cancel])⟩ fun target Q' E' k => ee g rfl (by decide) k
theorem vB {i k : Nat} {xs : List V} (hm : A.heap.get i = some (.list xs) ∨ ∃ n, A.heap.get i = some (.rl n xs)) (hv : xs[k]? = none) (r : jk L c aE s (.lst i k) u) (q : vx Z L cs c₀ aE c Q A) : wpAny Z.M Ar (pyNext u) Q E s := by
 obtain ⟨hi, a, rfl, O, h⟩ := r
 refine (list_of H hm).elim fun vs aj => (aj).elim fun ep ax => (ax).elim fun h1 r1 => ?_
 exact wpAny_pyNext_list_end hh h ⟨_, h1, rfl, _, rfl⟩ (qf r1 hv) fun h' hs => iV bJ le H (.has h (by decide)) O q fun b o e q => hs b o q e
omit hh in
theorem vC {i k : Nat} {xs : List V} {v : V} (hm : A.heap.get i = some (.list xs) ∨ ∃ n, A.heap.get i = some (.rl n xs)) (hv : xs[k]? = some v) (r : jk L c aE s (.lst i k) u) (q : vy Z L cs Ar c₀ aE c u Q A v (.lst i (k + 1))) : wpAny Z.M Ar (pyNext u) Q E s := by
 obtain ⟨hi, a, rfl, O, h⟩ := r
 refine (list_of H hm).elim fun vs aj => (aj).elim fun ep ax => (ax).elim fun h1 r1 => ?_
 refine (r1.at hv).elim fun w aj => (aj).elim fun hw Hu => ?_
 refine wpAny_pyNext_list_item h ⟨_, h1, rfl, _, rfl⟩ (xK hw) fun h' ⟨og, g1, g2, g3⟩ hs => ?_
 exact fW (tk := s.toks) bJ le H (.has h (by decide)) O q (fun b o e q => (hs.2 b q).trans e) Hu ⟨hi, a, rfl, O, og, g1, g2, g3⟩ fun target Q' E' k => ee g1 g2 (by decide) k
theorem vD {i k : Nat} {xs : List V} (hm : A.heap.get i = some (.tup xs)) (hv : xs[k]? = none) (r : jk L c aE s (.tup i k) u) (q : vx Z L cs c₀ aE c Q A) : wpAny Z.M Ar (pyNext u) Q E s := by
 obtain ⟨hi, a, rfl, O, h⟩ := r
 refine (H.objs _ _ hm).elim fun vs aj => (aj).elim fun h1 r1 => ?_
 exact wpAny_pyNext_tuple_end hh h ⟨_, h1, rfl, _, rfl⟩ (qf r1 hv) fun h' hs => iV bJ le H (.has h (by decide)) O q fun b o e q => hs b o q e
omit hh in
theorem vE {i k : Nat} {xs : List V} {v : V} (hm : A.heap.get i = some (.tup xs)) (hv : xs[k]? = some v) (r : jk L c aE s (.tup i k) u) (q : vy Z L cs Ar c₀ aE c u Q A v (.tup i (k + 1))) : wpAny Z.M Ar (pyNext u) Q E s := by
 obtain ⟨hi, a, rfl, O, h⟩ := r
 refine (H.objs _ _ hm).elim fun vs aj => (aj).elim fun h1 r1 => ?_
 refine (r1.at hv).elim fun w aj => (aj).elim fun hw Hu => ?_
 refine wpAny_pyNext_tuple_item h ⟨_, h1, rfl, _, rfl⟩ (xK hw) fun h' ⟨og, g1, g2, g3⟩ hs => ?_
 exact fW (tk := s.toks) bJ le H (.has h (by decide)) O q (fun b o e q => (hs.2 b q).trans e) Hu ⟨hi, a, rfl, O, og, g1, g2, g3⟩ fun target Q' E' k => ee g1 g2 (by decide) k
omit bJ le hh in
theorem keys_of {i n : Nat} {es : List (Int × V)} (hm : A.heap.get i = some (.cX n es)) {dh : Array DictEntry} {ep : Nat} (hd : (c.ρ.o n).data = .dict dh ep) :
 ∃ aF, s.heap.DictAt (intKind Z.prog Z.w) (c.σ i).1 aF ep ∧ dh.size = aF.length ∧ aS (fun (x : Int × V) (y : Int × Value) => y.1 = x.1 ∧ VR c x.2 y.2) es aF := by
 refine (H.objs _ _ hm).elim fun _ aj => (aj).elim fun h1 ax => (ax).elim fun aF aP => (aP).elim fun h2 h3 => ?_
 obtain ⟨Oy, Be, k1, k2, k3, k4, k5⟩ := id h2
 rw [hd] at k2
 cases k2
 exact ⟨aF, ⟨_, dh, h1, k1, hd, k3, k4, k5⟩, by refine bK k4.length ?_; simp, h3⟩
theorem vF {i n k : Nat} {es : List (Int × V)} (hm : A.heap.get i = some (.cX n es)) (hv : es[k]? = none) (r : jk L c aE s (.keys i n k) u) (q : vx Z L cs c₀ aE c Q (A.put i (.aB es))) : wpAny Z.M Ar (pyNext u) Q E s := by
 obtain ⟨hi, hn, a, dh, ep, rfl, O, hd, h⟩ := r
 refine (keys_of H hm hd).elim fun aF aj => (aj).elim fun zL ax => (ax).elim fun rD h3 => ?_
 rw [rD] at h
 refine wpAny_pyNext_dict_end hh h zL (by rw [List.getElem?_eq_none_iff, ← h3.length]; exact List.getElem?_eq_none_iff.mp hv) fun h' hs => ?_
 have hk : ∀ b o, s.heap.get? b = some o → b ≠ a → h'.get? b = some o := fun b o e q => hs b o q e
 have it : Iter s a := .has h (by decide)
 have H' := H.eJ (s' := { s with heap := h' }) it.qh (it.out H) hk rfl rfl (base_of bJ O.new) O
 exact q { s with heap := h' } (le.eJ (s' := { s with heap := h' }) it.qh hk O.new) (H'.change (s' := { s with heap := h' }) hi (fun J J e J J => e) (a6.of fun J J e => e) (H'.objs _ _ hm).cX rfl rfl)
omit hh in
theorem vG {i n k : Nat} {es : List (Int × V)} {e : Int × V} (hm : A.heap.get i = some (.cX n es)) (hv : es[k]? = some e) (r : jk L c aE s (.keys i n k) u) (q : vy Z L cs Ar c₀ aE c u Q A (.int (.lit e.1)) (.keys i n (k + 1))) : wpAny Z.M Ar (pyNext u) Q E s := by
 obtain ⟨hi, hn, a, dh, ep, rfl, O, hd, h⟩ := r
 refine (keys_of H hm hd).elim fun aF aj => (aj).elim fun zL ax => (ax).elim fun rD h3 => ?_
 rw [rD] at h
 refine (h3.at hv).elim fun p aj => (aj).elim fun hp ax => (ax).elim fun Dj Bf => ?_
 refine wpAny_pyNext_dict_item h zL (k := p.1) (v := p.2) hp fun key h' Hv ⟨og, g1, g2, g3⟩ hs => ?_
 obtain ⟨t, rfl⟩ := Value.isInt_shape Hv
 exact fW (tk := s.toks) bJ le H (.has h (by decide)) O q (fun b o e q => (hs.2 b q).trans e) ⟨trivial, t, by refine ae Dj ?_; rfl⟩ ⟨hi, hn, a, dh, ep, rfl, O, hd, og, g1, g2, by refine ae g3 ?_; refine ae rD ?_; rfl⟩ fun target Q' E' k => ee g1 g2 (by decide) k
theorem dz {it : It} {p : Itm × AS} (r : jk L c aE s it u) (e : cK it A = some p) (q : Ew Z L cs Ar c₀ aE c u Q p.2 p.1) : wpAny Z.M Ar (pyNext u) Q E s := by
 have w := qg e
 clear e
 induction w with
 | Ex => exact vz hh bJ le H r q
 | Ey => exact vA bJ le H r q
 | CC hm hv => exact vB hh bJ le H hm hv r q
 | CD hm hv => exact vC bJ le H hm hv r q
 | Ez hm hv => exact vD hh bJ le H hm hv r q
 | EA hm hv => exact vE bJ le H hm hv r q
 | EB hm hv => exact vF hh bJ le H hm hv r q
 | EC hm hv => exact vG bJ le H hm hv r q
end
end
section
variable {Z : aL} {n : Nat} {ih : bM} {L : Nat} {cs : Fm} {Ar : Around} {c c' c₀ : Cfg} {A A' : AS} {s s' aE : Shared} {env : Env} {sc : cA} {m : Nat}
theorem QO.sub {α β : Type} {R : Cfg → α → β → Prop} {l l' : List (Except Nat α × AS)} {u : β} (h : ∀ x ∈ l, x ∈ l') (q : QO Z L cs R l c s u s') : QO Z L cs R l' c s u s' := by
 obtain ⟨a, A', c', h1, h2, h3, h4⟩ := q
 exact ⟨a, A', c', h _ h1, h2, h3, h4⟩
theorem fG (G : Z.Glob) (P : bY Z) (P2 : bQ Z) (I : aC Z n ih) (h1 : 1 ≤ n) (hn : Room n Ar cs) {is : List Nat} {t : Expr} {v : V} {u : Value} (h : g8 Z.nm sc is t = true) (nd : is.Nodup) (H : St Z L cs c A s) (N : aR Z sc c L cs env) (r : VR c v u) :
 au Z L cs Ar (assign t env u) UR (match jS is v A with | some A => ok () A | none => none) c s := by
 cases t with
 | Name id p =>
  match is, h with
  | [], h => exact bf h
  | [i], h => exact fQ (m := 0) G P P2 I h1 hn (t := .loc i) (wY h) H N r
  | _ :: _ :: _, h => exact bf h
 | Tuple xs k p =>
  refine (ao h).elim fun h2 h3 => ?_
  exact fQ (m := 0) G P P2 I h1 hn (t := .tup is) (oV (by refine ae h3 ?_; refine ae (decide_eq_true nd) ?_; refine ae h2 ?_; rfl)) H N r
 | _ => exact bf h
theorem fc {R : Result → Shared → Prop} (h : R (.ok .next) s) : bj Z.M Ar (.block [] env) R s := by
 refine aZ rfl ?_
 refine (?_ : bt Z.M Ar ((execs [] env).onRaise (fun x => do noteFrame x env; theTreesLotGoes x) >>= fun f => pure (PySem.Fin.done f)) _ _ s)
 exact aa (aT (aq (aq h)))
theorem qi {α : Type} {is : List Nat} {it : It} {r : AS → Res α} {f : It × AS → Res α} {l : bC α} (e : oO is it A r f = some l) :
 (∃ A1, cK it A = some (.fin, A1) ∧ r A1 = some l) ∨ ∃ v tV A1 A2, cK it A = some (.one v tV, A1) ∧ jS is v A1 = some A2 ∧ f (tV, A2) = some l := by
 obtain ⟨⟨x, A1⟩, hN, e⟩ := gc e
 cases x with
 | fin => exact .inl ⟨A1, hN, e⟩
 | one v tV =>
  obtain ⟨A2, hB, e⟩ := gc e
  exact .inr ⟨v, tV, A1, A2, hN, hB, e⟩
theorem vH {is : List Nat} {b : List S} {k : Nat} {it : It} : aD.loop ih is b (k + 1) it A = oO is it A (fun A => ok .next A) fun p => Res.bind (aW ih b p.2) (wN (aD.loop ih is b k) p.1) := rfl
theorem vI (hf : env.frame = some L) (hh : Ar.handled = none) (G : Z.Glob) (P : bY Z) (P2 : bQ Z) (I : aC Z n ih) (h1 : 1 ≤ n) (hn : Room n Ar cs) {is : List Nat} {t : Expr} {b : List S} {body : List Stmt} {u : Value} (hF : g8 Z.nm sc is t = true) (nd : is.Nodup) (hb : encL (cG Z.nm m sc) b body = true)
 (bJ : ∀ b o, Z.h₀.get? b = some o → aE.heap.get? b = some o) (K0 : Has aE.heap L) (xM : aR Z sc c₀ L cs env) : ∀ (fuel : Nat) {it : It} {A : AS} {c : Cfg} {s : Shared} {l : bC Fl}, aD.loop ih is b fuel it A = some l → kH l.list → Le Z L c₀ aE c s → St Z L cs c A s → jk L c aE s it u →
 bj Z.M Ar (.forLoop t u body [] env) (fun r s' => match r with | .ok fl => QO Z L cs FR l.list c₀ aE fl s' | .error _ => False) s := by
 intro fuel
 induction fuel with
 | zero => exact fun e => no e
 | succ fuel IH =>
  intro it A c s l e vm le H r
  refine aZ rfl ?_
  refine (?_ : bt Z.M Ar ((forTurn t u body [] env).onRaise _) _ _ s)
  refine aT (az (E := fun J J => False) ?_ (fun J J q => q) fun J J f => f.elim)
  dsimp only [forTurn]
  refine aa (aY (aa (aT ?_)))
  refine Classical.byContradiction fun bad => ?_
  rcases qi (vH.symm.trans e) with ⟨A1, hN, e⟩ | ⟨v, tV, A1, A2, hN, Hw, e⟩
  ·obtain rfl := aO e
   exact bad (.of (dz hh bJ le H r hN fun s' uH H' => aq ⟨rfl, fc ⟨_, _, _, .head _, uH, H', rfl⟩⟩))
  ·refine bad (.of (dz hh bJ le H r hN fun w s' K => ?_))
   refine aa (.of (K t _ _ fun c3 s3 J dY H3 r3 i3 => ?_))
   have kQ : au Z L cs Ar (assign t env w) UR (aD.ok () A2) c3 s3 := by
    have := fG G P P2 I h1 hn hF nd H3 (xM.mono dY.grown) r3
    rw [Hw] at this
    exact this
   refine aa (kQ.one fun J c4 s4 zi H4 J => ?_)
   have xN := dY.trans zi
   refine aa (au.use (fun l0 h0 => bN I hf hn b hb H4 (xM.mono xN.grown) l0 h0) e (fun fa A5 c5 fl s5 r' y1 y2 yL H5 f5 => ?_) fun i A5 c5 v5 s5 m5 J J J => (vm.no m5).elim)
   have CE := xN.trans yL
   have again := fun (y1 : aD.loop ih is b fuel tV A5 = some r') => bg (IH y1 (fun x hx => vm x (y2 x hx)) CE H5 ((i3.mono zi).mono yL)) (R' := fun r s' => match r with | .ok fl => QO Z L cs FR l.list c₀ aE fl s' | .error _ => False) fun r s' z => by
    cases r with
    | ok fl => exact QO.sub y2 z
    | error => exact z
   cases fa with
   | next => obtain rfl : fl = .next := f5; exact aq ⟨rfl, again y1⟩
   | cont => obtain rfl : fl = .cont := f5; exact aq ⟨rfl, again y1⟩
   | brk =>
    obtain rfl : fl = .brk := f5
    obtain rfl := aO y1
    exact aq ⟨_, _, _, y2 _ (.head _), CE, H5, rfl⟩
   | ret v =>
    obtain ⟨w5, rfl, hw⟩ := f5
    obtain rfl := aO y1
    exact aq ⟨_, _, _, y2 _ (.head _), CE, H5, _, rfl, hw⟩
theorem sH (hf : env.frame = some L) (G : Z.Glob) (P : bY Z) (P2 : bQ Z) (I : aC Z n ih) (h1 : 1 ≤ n) (hn : Room (n + 1) Ar cs) {is : List Nat} {t : Expr} {b : List S} {body : List Stmt} {v : V} {u : Value} (hF : g8 Z.nm sc is t = true) (nd : is.Nodup) (hb : encL (cG Z.nm m sc) b body = true)
 (H : St Z L cs c A s) (N : aR Z sc c L cs env) (r : VR c v u) :
 au Z L cs Ar (pyIter u >>= fun it => runOwn (.forLoop t it body [] env) env) FR (match cY v A with | some (it, A) => if A.hd.isNone = true then ei (aD.loop ih is b 300 it A) else none | none => none) c s := by
 intro l e
 cases hN : cY v A with
 | none => rw [hN] at e; cases e
 | some p =>
  obtain ⟨it, A1⟩ := p
  rw [hN] at e
  have e : (if A1.hd.isNone = true then ei (aD.loop ih is b 300 it A1) else none) = some l := e
  cases hq : A1.hd with
  | some x => rw [hq] at e; exact no e
  | none =>
  rw [hq] at e
  refine (fA (r := aD.loop ih is b 300 it A1) e).elim fun e1 vm => ?_
  refine aa (.of (fF G H r hN fun c1 s1 w J a0 H1 i1 => ?_))
  refine aT (az (E := fun J J => False) (jB (bg (vI hf (hn.quiet H1 hq) G P P2 I h1 (hn.le (Nat.le_succ n)) hF nd hb H.base H.bw N 300 e1 vm a0 H1 i1) fun r s' z => ?_) GN) (fun J J q => q) fun J J f => f.elim)
  cases r with
  | ok fl => exact z
  | error => exact z
end
noncomputable def CF (env : Env) (x : Str × NameKind) (acc : List (Str × Addr)) : List (Str × Addr) := if x.2 == .free then (x.1, (env.cells.lookup x.1).getD 0) :: acc else acc
noncomputable def gh (env : Env) (l : List (Str × NameKind)) (acc : List (Str × Addr)) : List (Str × Addr) := List.rec (motive := fun J => List (Str × Addr) → List (Str × Addr)) (fun acc => acc) (fun x J ih acc => ih (CF env x acc)) l acc
theorem sI {env : Env} (l : List (Str × NameKind)) (acc : List (Str × Addr)) (h : ∀ x ∈ l, x.2 = .free → ∃ a, env.cells.lookup x.1 = some a) :
 (forIn (m := Sem) l acc fun x r => if x.2 == .free then (cellOf env x.1 >>= fun a => pure (.yield ((x.1, a) :: r))) else pure (.yield r)) = pure (gh env l acc) := by
 induction l generalizing acc with
 | nil => rfl
 | cons x r ih =>
  rw [List.forIn_cons]
  refine (?_ : _ = (pure (gh env r (CF env x acc)) : Sem _))
  delta CF
  by_cases q : (x.2 == .free) = true
  ·refine (h x (.head _) (iB q)).elim fun a ha => ?_
   refine ae (if_pos q) ?_; refine ae (if_pos q) ?_
   have : cellOf env x.1 = pure a := by delta cellOf; refine ae ha ?_; rfl
   refine ae this ?_
   rw [pure_bind, pure_bind]
   refine ae ha ?_
   exact ih _ fun y hy => h y (.tail _ hy)
  ·refine ae (if_neg q) ?_; refine ae (if_neg q) ?_
   rw [pure_bind]
   exact ih _ fun y hy => h y (.tail _ hy)
theorem qj {env : Env} {l : List (Str × NameKind)} {acc : List (Str × Addr)} (hl : ∀ x ∈ l, x.2 = .free → ∃ a, env.cells.lookup x.1 = some a) (h : ∀ n b, acc.lookup n = some b → env.cells.lookup n = some b) :
 ∀ n b, (gh env l acc).lookup n = some b → env.cells.lookup n = some b := by
 induction l generalizing acc with
 | nil => exact h
 | cons x r ih =>
  refine ih (acc := CF env x acc) (fun y hy => hl y (.tail _ hy)) fun n b e => ?_
  dsimp only [CF] at e
  by_cases q : (x.2 == .free) = true
  ·rw [if_pos q, List.lookup_cons] at e
   refine (hl x (.head _) (iB q)).elim fun a ha => ?_
   cases hn : n == x.1 with
   | true =>
    rw [hn] at e
    obtain rfl := aO e
    refine ae (iB hn) ?_; refine ae ha ?_; rfl
   | false => rw [hn] at e; exact h n b e
  ·rw [if_neg q] at e; exact h n b e
theorem qk {env : Env} {n : Str} {l : List (Str × NameKind)} {acc : List (Str × Addr)} (h : (n, NameKind.free) ∈ l ∨ (acc.lookup n).isSome = true) : ((gh env l acc).lookup n).isSome = true := by
 induction l generalizing acc with
 | nil =>
  rcases h with h | h
  ·cases h
  ·exact h
 | cons x r ih =>
  refine ih (acc := CF env x acc) ?_
  delta CF
  rcases h with h | h
  ·rcases ff h with rfl | h
   ·refine .inr ?_
    rw [if_pos (by rfl), List.lookup_cons, beq_self_eq_true]; rfl
   ·exact .inl h
  ·refine .inr ?_
   by_cases q : (x.2 == .free) = true
   ·rw [if_pos q, List.lookup_cons]
    cases n == x.1 with
    | true => rfl
    | false => exact h
   ·rw [if_neg q]; exact h
theorem gw {scope : Scope} {env : Env} (h : ∀ x ∈ scope.names, x.2 = .free → ∃ a, env.cells.lookup x.1 = some a) : closureFor scope env = pure (gh env scope.names []) := by
 have := sI scope.names [] h
 dsimp only [closureFor]
 refine (?_ : (forIn (m := Sem) scope.names [] _ >>= fun r => pure r) = _)
 rw [bind_pure]
 refine bK this ?_; rfl
theorem fH {env : Env} {x : Str} {k : NameKind} : ∀ {names : List (Str × NameKind)}, names.lookup x = some k →
 (names.map fun (n, k) => if (k == NameKind.free && env.scope.kind == .function && env.kindOf n == some .cell) then (n, NameKind.cell) else (n, k)).lookup x = some k ∨
 (k = .free ∧ (names.map fun (n, k) => if (k == NameKind.free && env.scope.kind == .function && env.kindOf n == some .cell) then (n, NameKind.cell) else (n, k)).lookup x = some .cell)
 | [], h => by simp at h
 | (n, k') :: r, h => by
  rw [List.lookup_cons] at h
  refine (?_ : List.lookup x ((if (k' == NameKind.free && env.scope.kind == .function && env.kindOf n == some .cell) = true then (n, NameKind.cell) else (n, k')) :: _) = _ ∨ (_ ∧ List.lookup x ((if (k' == NameKind.free && env.scope.kind == .function && env.kindOf n == some .cell) = true then (n, NameKind.cell) else (n, k')) :: _) = _))
  cases hx : x == n with
  | true =>
   rw [hx] at h
   cases h
   by_cases hc : (k == NameKind.free && env.scope.kind == .function && env.kindOf n == some .cell) = true
   ·refine .inr ⟨?_, ?_⟩
    ·simp -iota only [Bool.and_eq_true] at hc
     exact iB hc.1.1
    ·refine ae (if_pos hc) ?_; refine ae List.lookup_cons ?_; refine ae hx ?_; rfl
   ·refine .inl ?_
    refine ae (if_neg hc) ?_; refine ae List.lookup_cons ?_; refine ae hx ?_; rfl
  | false =>
   rw [hx] at h
   have ih := fH (env := env) h
   by_cases hc : (k' == NameKind.free && env.scope.kind == .function && env.kindOf n == some .cell) = true
   ·refine ae (if_pos hc) ?_; refine ae List.lookup_cons ?_; refine ae hx ?_; exact ih
   ·refine ae (if_neg hc) ?_; refine ae List.lookup_cons ?_; refine ae hx ?_; exact ih
section
variable {Z : aL} {n : Nat} {ih : bM} {L : Nat} {cs : Fm} {Ar : Around} {c c' c₀ c₂ : Cfg} {A A' : AS} {s s' aE : Shared} {env : Env} {sc : cA} {m : Nat}
theorem fI {scope : Scope} (h : eL sc scope = true) : scope.kind = .function ∧ (∀ x ∈ scope.names, x.2 ≠ .cell) ∧ (∀ x ∈ scope.names, x.2 = .local → scope.names.lookup x.1 = some .local) ∧
 (∀ x ∈ scope.names, x.2 = .free → cM sc x.1 = true) := by
 delta eL at h
 refine (ao h).elim fun h1 h2 => ?_
 rw [List.all_eq_true] at h2
 refine ⟨of_decide_eq_true h1, fun x hx => ?_, fun x hx hl => ?_, fun x hx hf => ?_⟩
 ·have := (ao (ao (h2 x hx)).1).1
  simpa using this
 ·have := (ao (ao (h2 x hx)).1).2
  simpa [hl] using this
 ·have := (ao (h2 x hx)).2
  simp -iota only [hf, bne_self_eq_false, Bool.false_or, Bool.and_eq_true] at this
  exact this.1
theorem mR {scope : Scope} (h : eL sc scope = true) (N : aR Z sc c L cs env) : ∀ x ∈ scope.names, x.2 = .free → ∃ a, env.cells.lookup x.1 = some a :=
 fun x hx hf => N.has _ ((fI h).2.2.2 x hx hf)
theorem comp_env {scope : Scope} (h : eL sc scope = true) (N : aR Z sc c L cs env) (C : Addr) (hC : env.frame ≠ some C) : aR Z scope.names c C cs (compEnvC scope (gh env scope.names []) C env) := by
 refine (fI h).elim fun h1 aj => (aj).elim fun h2 ax => (ax).elim fun h3 h4 => ?_
 have hf := mR h N
 have has : ∀ n, cM scope.names n = true → cM sc n = true ∧ ∃ a, env.cells.lookup n = some a ∧ (gh env scope.names []).lookup n = some a := fun n hn => by
  delta cM at hn
  have nI : scope.names.lookup n = some .free := by
   rcases yG hn with hn | hn
   ·exact absurd rfl (h2 _ (mem_of_lookup (kind_of hn)))
   ·exact kind_of hn
  have hm := mem_of_lookup nI
  have hs := qk (env := env) (l := scope.names) (acc := []) (.inl hm)
  refine (Option.isSome_iff_exists.mp hs).elim fun b hb => ?_
  exact ⟨h4 _ hm rfl, b, qj hf (fun J J e => by cases e) _ _ hb, hb⟩
 refine ⟨h1, fun x k e => fH e, rfl, N.globals, N.builtins, fun e => (hC e).elim, fun n hn => ?_, N.fr, fun q => ?_, fun x i hx e => ?_⟩
 ·refine (has n hn).elim fun _ aj => (aj).elim fun a ax => (ax).elim fun _ ha => ?_
  exact ⟨a, ha⟩
 ·refine (List.any_eq_true.mp q).elim fun y aj => (aj).elim fun hy hk => ?_
  exact absurd (iB hk) (h2 y hy)
 ·obtain ⟨hc, a, h5, h6⟩ := has _ hx
  refine (N.cells x i hc e).elim fun q1 q2 => ?_
  rw [h5] at q2
  obtain rfl := aO q2
  exact ⟨q1, h6⟩
theorem Le.zX {C : Nat} (x : Le Z C c₀ aE c s) (hC : aE.heap.get? C = none) : Le Z L c₀ aE c s :=
 ⟨x.n, x.nv, x.σ, x.ρ, x.ck, x.old, fun b o e J hn => x.keep b o e (Has.ne ⟨o, e⟩ hC) hn, x.new⟩
theorem sJ {elt : E} {is : List Nat} {acc k : Nat} {it : It} : turns ih elt is acc (k + 1) it A = oO is it A (fun A => ok () A) fun p => Res.bind (ih.e elt p.2) fun u A => (dD (A.heap.get acc)).bind fun us => if us.1.length ≤ 4096 then turns ih elt is acc k p.1 (A.put acc (.list (us.1 ++ [u]))) else none := rfl
theorem vJ (hh : Ar.handled = none) (G : Z.Glob) (P : bY Z) (P2 : bQ Z) (I : aC Z n ih) (h1 : 1 ≤ n) (hn : Room n Ar cs) {is : List Nat} {t y z : Expr} {elt : E} {scope : Scope} {pos : Pos} {u : Value} {cenv : Env} {C acc : Nat} (hF : g8 Z.nm scope.names is t = true) (nd : is.Nodup) (hy : aV Z.nm m scope.names elt y = true)
 (bJ : ∀ b o, Z.h₀.get? b = some o → aE.heap.get? b = some o) (xM : aR Z scope.names c₀ C cs cenv) (n8 : acc < c₂.n) : ∀ (fuel : Nat) {it : It} {A : AS} {c : Cfg} {s : Shared} {l : bC Unit}, turns ih elt is acc fuel it A = some l → kH l.list → Le Z C c₀ aE c s → bu c₂ c → St Z C cs c A s → jk C c aE s it u →
 bj Z.M Ar (.compLoop (.ListComp y [⟨t, z, [], 0⟩] scope pos) 0 u (.ref (c₂.σ acc).1) cenv) (fun r s' => match r with | .ok _ => ∃ A' c', (Except.ok (), A') ∈ l.list ∧ Le Z C c₀ aE c' s' ∧ bu c₂ c' ∧ St Z C cs c' A' s' | .error _ => False) s := by
 intro fuel
 induction fuel with
 | zero => exact fun e => no e
 | succ fuel IH =>
  intro it A c s l e vm le gr H r
  refine aZ rfl ?_
  refine (?_ : bt Z.M Ar ((compTurn (.ListComp y [⟨t, z, [], 0⟩] scope pos) 0 u (.ref (c₂.σ acc).1) cenv).onRaise _) _ _ s)
  refine aT (az (E := fun J J => False) ?_ (fun J J q => q) fun J J f => f.elim)
  rw [compTurn_list1]
  refine aa (aY (aa ?_))
  refine Classical.byContradiction fun bad => ?_
  rcases qi (sJ.symm.trans e) with ⟨A1, hN, e⟩ | ⟨v, tV, A1, A2, hN, Hw, e⟩
  ·obtain rfl := aO e
   exact bad (.of (dz hh bJ le H r hN fun s' uH H' => aq ⟨_, _, .head _, uH, gr, H'⟩))
  ·refine bad (.of (dz hh bJ le H r hN fun w s' K => ?_))
   refine aa (.of (K t _ _ fun c3 s3 g3 dY H3 r3 i3 => ?_))
   have kQ : au Z C cs Ar (assign t cenv w) UR (aD.ok () A2) c3 s3 := by
    have := fG G P P2 I h1 hn hF nd H3 (xM.mono dY.grown) r3
    rw [Hw] at this
    exact this
   refine aa (kQ.one fun J c4 s4 zi H4 J => ?_)
   have xN := dY.trans zi
   refine aa (aa (au.use (I.e hy hn H4 (xM.mono xN.grown)) e (fun fa A5 c5 uv s5 r' y1 y2 yL H5 f5 => ?_) fun i A5 c5 v5 s5 m5 J J J => (vm.no m5).elim))
   have g5 : bu c₂ c5 := gr.trans (g3.trans (zi.grown.trans yL.grown))
   refine Classical.byContradiction fun bad => ?_
   obtain ⟨⟨us, M1⟩, _, y1⟩ := gc y1
   by_cases hle : us.length ≤ 4096
   case neg => exact no ((if_neg hle).symm.trans y1)
   replace y1 := (if_pos hle).symm.trans y1
   have ED := mO (Ar := Ar) H5 (Nat.lt_of_lt_of_le n8 g5.n) M1 hle f5
   rw [g5.σ acc n8] at ED
   refine bad (aa (ED.one fun J c6 s6 EE H6 J => aq (aq ⟨rfl, bg (IH y1 (fun x hx => vm x (y2 x hx)) ((xN.trans yL).trans EE) (g5.trans EE.grown) H6 (((i3.mono zi).mono yL).mono EE)) fun r s' zz => ?_⟩)))
   cases r with
   | ok fl => obtain ⟨A', c', k1, k2⟩ := zz; exact ⟨A', c', y2 _ k1, k2⟩
   | error => exact zz
end
section
variable {M : Model} {A : Around} {E : Value → Shared → Prop} {s : Shared} {name qual : Str} {params : Arguments} {body : Expr} {scope : Scope} {env : Env} {c P : Addr} {ps : Array Value} {pos : Pos} {firstLine : Nat} {mg : Str → Option Value}
 {xu : List (Str × Addr)} {Q : Value → Shared → Prop}
theorem mT {h : Heap} {c P : Addr} {q : Str} {ps : Array Value} (x : h.CodeRec (.ref c) q) (y : h.TableAt c P ps) : dk h (.ref c) := by
 obtain ⟨c', o, vs, t, e, e1, e2, e3⟩ := x
 cases e
 obtain ⟨⟨o', KA, f1, f2, f3, _⟩, _⟩ := y
 rw [e1] at f1; obtain rfl := aO f1
 exact ⟨c, o, rfl, e1, f2, vs, q, t, e2, e3⟩
theorem zY (yJ : closureFor scope env = pure xu) (Hx : env.globals = mainGlobals) (hg : s.heap.Ns mainGlobals mg) (tW : env.code = .ref c) (C : CodeHd s.heap c P) (hP : s.heap.get? P = some (tabObj ps)) (ht : TriplesOk ps.toList)
 (K1 : codeAmong pos ps.toList = none) (FP : mainGlobals ≠ P) (hb : s.heap.BuiltinsAt mg P)
 (h : ∀ c' Hy h' tk, Heap.ExtBut P s.heap h' → s.heap.objs.size ≤ h'.objs.size → dk h' (.ref c') → h'.get? P = some (tabObj (ps ++ #[rawInt pos.line, rawInt pos.col, .ref c'])) →
  Q (.ref h'.objs.size) { s with heap := h'.push { cls := .type "function", data := .func (kla_fn name qual params body scope xu ((mg "__name__").getD .none) (.ref c') Hy) }, toks := tk }) :
 wpAny M A (makeFunction name qual params (.expr body) scope env [] [] [] pos firstLine) Q E s := by
 rw [makeFunction_eq]
 simp -iota only [List.zip_nil_right, List.filterMap_nil, List.isEmpty_nil, if_true, pure_bind]
 refine (hb).elim fun bm aj => (aj).elim fun ob ax => (ax).elim fun Bq aP => (aP).elim fun EF bG => (bG).elim fun _ dc => (dc).elim fun EG ib => (ib).elim fun K2 pQ => (pQ).elim fun EH se => (se).elim fun Br Bs => ?_
 dsimp only [makeTail]
 refine ae yJ ?_; refine ae Hx ?_
 refine wpAny_bind (wpAny_pure ?_)
 cases xu with
 | nil =>
  refine wpAny_bind (wpAny_pure ?_)
  refine wpAny_bind (wpAny_functionCodeX tW (C.code hP ht) (C.tab hP) K1 fun c' h' tk hx Ck fh J CG En zZ => ?_)
  refine (zZ).elim fun P' aj => (aj).elim fun _ ax => (ax).elim fun _ zZ => ?_
  have Bt := hg.extBut hx FP
  refine wpAny_bind (wpAny_builtinsFor Bt Bq EF (hx _ _ EG K2) EH Br Bs ?_)
  refine wpAny_bind (wpAny_nsGet Bt ?_)
  exact wpAny_bind (wpAny_pure (wpAny_newObj_type (h c' .none h' tk hx (Nat.le_trans Ck (Nat.le_of_lt fh)) (mT CG zZ) En.2) (by size_fits)))
 | cons q r =>
  refine wpAny_bind (wpAny_newTextTuple ?_)
  refine wpAny_bind (wpAny_functionCodeX tW ((C.keeps fun b o e => Heap.get?_push_of_some _ e).code (Heap.get?_push_of_some _ hP) ht) ((C.keeps fun b o e => Heap.get?_push_of_some _ e).tab (Heap.get?_push_of_some _ hP)) K1 fun c' h' tk hx Ck fh J CG En zZ => ?_)
  refine (zZ).elim fun P' aj => (aj).elim fun _ ax => (ax).elim fun _ zZ => ?_
  have Bt := (hg.push _).extBut hx FP
  have K3 : Heap.ExtBut P s.heap h' := fun b o qY e => hx b o qY (Heap.get?_push_of_some _ e)
  have Hz : s.heap.objs.size ≤ c' := Nat.le_trans (by rw [Heap.size_push]; exact Nat.le_succ _) Ck
  refine wpAny_bind (wpAny_builtinsFor Bt Bq EF (K3 _ _ EG K2) EH Br Bs ?_)
  refine wpAny_bind (wpAny_nsGet Bt ?_)
  exact wpAny_bind (wpAny_pure (wpAny_newObj_type (h c' _ h' tk K3 (Nat.le_trans Hz (Nat.le_of_lt fh)) (mT CG zZ) En.2) (by size_fits)))
set_option tactic.hygienic true in
theorem sL {pos : Pos} {a b : Nat} {c v : Value} (l : List Value) (h : TriplesOk l) (e : codeAmong pos (l ++ [rawInt a, rawInt b, c]) = some v) : codeAmong pos l = some v ∨ v = c := by
 fun_induction TriplesOk l with
 | case1 =>
  refine .inr ?_
  dsimp only [List.nil_append, codeAmong, rawInt] at e
  split at e
  ·exact (aO e).symm
  ·cases e
 | case2 a' t b' u x rest ih =>
  dsimp only [List.cons_append, codeAmong] at e ⊢
  split at e
  ·rename_i hc; refine ae (if_pos hc) ?_; exact .inl e
  ·rename_i hc; refine ae (if_neg hc) ?_; exact ih h e
 | case3 l h1 h2 => exact h.elim
theorem sM {ar : Arguments} {env : Env} (hd : ar.defaults = []) (hk : ar.kw_defaults = []) : defaultsOf ar env = ([], []) := by
 rw [defaultsOf_eq, hd, hk]; rfl
end
section
variable {Z : aL} {n : Nat} {ih : bM} {L : Nat} {cs : Fm} {Ar : Around} {c c' : Cfg} {A : AS} {s s' : Shared} {env : Env} {sc : cA} {m : Nat}
theorem St.table (H : St Z L cs c A s) {P : Nat} (h0 : Z.h₀.get? P = none) {o o' : Obj} (e : s.heap.get? P = some o) (w : y5 o) {h' : Heap} {tk : Nat} (e' : h'.get? P = some o') (w' : gj h' o') (x : Heap.ExtBut P s.heap h') :
 Le Z L c s c { s with heap := h', toks := tk } ∧ St Z L cs c A { s with heap := h', toks := tk } := by
 have ne : ∀ b ob, s.heap.get? b = some ob → ¬ dF ob → b ≠ P := fun b ob e1 nt q => by rw [q, e] at e1; obtain rfl := aO e1; exact nt (.inr w)
 have code : ∀ b ob, s.heap.get? b = some ob → bc ob → b ≠ P := fun b ob e1 cl q => by
  rw [q, e] at e1; obtain rfl := aO e1
  have := w.1.symm.trans cl.1; cases this
 have pr : a6 s.heap h' := fun b ob e1 => by
  by_cases q : b = P
  ·rw [q, e] at e1; obtain rfl := aO e1
   exact ⟨o', q ▸ e', fun t => (by have := w.1.symm.trans t.1; cases this), fun ⟨⟨C, t⟩, _⟩ => (by have := w.1.symm.trans t; cases this), fun t => (by have := w.1.symm.trans t.1; cases this), fun J => w'⟩
  ·exact ⟨ob, x b ob q e1, id, id, id, fun t => t.mk' fun b o e1 cl => ⟨o, x b o (code b o e1 cl) e1, cl⟩⟩
 have old : ∀ b ob, Z.h₀.get? b = some ob → s.heap.get? b = some ob → h'.get? b = some ob := fun b ob e0 e1 => x b ob (Has.ne ⟨ob, e0⟩ h0) e1
 have le : Le Z L c s c { s with heap := h', toks := tk } := ⟨Nat.le_refl _, Nat.le_refl _, fun J J => rfl, fun J J => ⟨rfl, rfl, rfl⟩, pr, old, fun b ob e1 J J => by
  by_cases q : b = P
  ·rw [q, e] at e1; obtain rfl := aO e1
   exact ⟨o', q ▸ e', .inr (.inr ⟨.inr w, .inr w'.l⟩)⟩
  ·exact ⟨ob, x b ob q e1, .inl rfl⟩, fun i h h' => absurd h (Nat.not_le_of_lt h')⟩
 refine ⟨le, H.next (H.toHp.xc (s' := { s with heap := h', toks := tk }) old (fun i hi => ⟨fun ob e nt => x _ ob (ne _ ob e nt) e, fun ob e nt => x _ ob (ne _ ob e nt) e⟩) pr rfl rfl) ⟨H.oS, pr.has H.bw, H.off, ?_⟩ rfl rfl le⟩
 refine (H.ns).elim fun m aj => (aj).elim fun ax h3 => (ax).elim fun ob aP => (aP).elim fun es bG => (bG).elim fun ep dc => (dc).elim fun h1 h2 => ?_
 exact ⟨m, ⟨ob, es, ep, x _ ob (ne _ ob h1 fun w => w.notDict ⟨es, ep, h2.1⟩) h1, h2⟩, h3⟩
theorem dK {x : Nat} {fv : List Nat} {i : Nat} : ∀ {l : List (Nat × Nat)}, af x (l.filter fun y => fv.contains y.1) = some i → (x, i) ∈ l ∧ fv.contains x = true
 | [], h => nomatch h
 | p :: r, h => by
  rw [List.filter_cons] at h
  by_cases hp : fv.contains p.1 = true
  ·rw [if_pos hp, aK] at h
   by_cases q : p.1 = x
   ·rw [if_pos q] at h
    obtain rfl := aO h; subst q
    exact ⟨.head _, hp⟩
   ·rw [if_neg q] at h
    exact ⟨.tail _ (dK h).1, (dK h).2⟩
  ·rw [if_neg hp] at h
   exact ⟨.tail _ (dK h).1, (dK h).2⟩
theorem ez {x : Nat} {fv : List Nat} {i : Nat} : ∀ {l : List (Nat × Nat)}, af x (l.filter fun y => fv.contains y.1) = some i → af x l = some i
 | [], h => h
 | p :: r, h => by
  rw [aK]
  rw [List.filter_cons] at h
  by_cases hp : fv.contains p.1 = true
  ·rw [if_pos hp, aK] at h
   by_cases q : p.1 = x
   ·rw [if_pos q] at h ⊢; exact h
   ·rw [if_neg q] at h ⊢; exact ez h
  ·rw [if_neg hp] at h
   have h' := ez h
   by_cases q : p.1 = x
   ·exact absurd (dK h) (by rw [q] at hp; exact fun ⟨hm, hx⟩ => hp hx)
   ·refine ae (if_neg q) ?_; exact h'
theorem vK (G : Z.Glob) {fv : List Nat} {b : E} {x : Expr} (he : aV Z.nm (m + 1) sc (.lam fv b) x = true) (H : St Z L cs c A s) (N : aR Z sc c L cs env) :
 au Z L cs Ar (eval x env) VR (A6 Z.Γ ih (.lam fv b) A) c s := by
 replace he := bL he
 cases he with
 | @lam _ _ ar y scope p he =>
 refine (ao he).elim fun he h4 => ?_
 refine (ao he).elim fun he h3 => ?_
 refine (ao he).elim fun h1 h2 => ?_
 have D := Es h1
 have Bu : ∀ x ∈ scope.names, x.2 = .free → cM sc x.1 = true ∧ scope.names.lookup x.1 = some .free := fun x hx hf => by
  have := lx h2 x hx
  simp -iota only [hf, bne_self_eq_false, Bool.false_or, Bool.and_eq_true] at this
  exact ⟨this.1, iB this.2⟩
 have hf : ∀ x ∈ scope.names, x.2 = .free → ∃ a, env.cells.lookup x.1 = some a := fun x hx hf => N.has _ (Bu x hx hf).1
 have has : ∀ n, cM scope.names n = true → cM sc n = true ∧ ∃ a, env.cells.lookup n = some a ∧ (gh env scope.names []).lookup n = some a := fun n hn => by
  delta cM at hn
  have nI : scope.names.lookup n = some .free := by
   rcases yG hn with hn | hn
   ·exact absurd rfl (D.names _ (mem_of_lookup (kind_of hn))).1
   ·exact kind_of hn
  have hm := mem_of_lookup nI
  have hs := qk (env := env) (l := scope.names) (acc := []) (.inl hm)
  obtain ⟨b, hb⟩ := Option.isSome_iff_exists.mp hs
  exact ⟨(Bu _ hm rfl).1, b, qj hf (fun J J e => by cases e) _ _ hb, hb⟩
 have yJ := gw (scope := scope) (env := env) hf
 refine (N.code h3).elim fun cc aj => (aj).elim fun P ax => (ax).elim fun hc aP => (aP).elim fun hC hP => ?_
 have K4 := G.tabs P hP
 obtain ⟨_, FQ, ps, rfl, ht, xO⟩ := H.tabs P hP
 have K5 : CodeHd s.heap cc P := hC.keeps H.base
 have K6 : s.heap.Ns mainGlobals Z.mg := G.g.keeps H.base
 have FP : mainGlobals ≠ P := Has.ne (Ns.has G.g) K4
 have K7 : s.heap.BuiltinsAt Z.mg P := by
  refine (G.Df P hP).elim fun bm aj => (aj).elim fun ob ax => (ax).elim fun b1 aP => (aP).elim fun b2 bG => (bG).elim fun b3 dc => (dc).elim fun b4 ib => (ib).elim fun b5 b6 => ?_
  exact ⟨bm, ob, b1, b2, b3, b4, H.base _ _ b5, b6⟩
 -- the CH object, made in a state
 have fin : ∀ {s1 : Shared} {cv ct : Value} {name qual : Str} {pm : Value} (Q : Value → Shared → Prop), Le Z L c s c s1 → St Z L cs c A s1 → dk s1.heap cv →
  (∀ u s' c', Le Z L c s c' s' → St Z L cs c' (A.alloc (.AN (A.cells.filter fun x => fv.contains x.1) b)).2 s' → VR c' (V.loc A.n) u → Q u s') →
  Q (.ref s1.heap.objs.size) { s1 with heap := s1.heap.push { cls := .type "function", data := .func (kla_fn name qual ar y scope (gh env scope.names []) pm cv ct) } } := fun {s1 cv ct name qual pm} Q a0 H1 HA q => by
  have hk : ∀ b o, s1.heap.get? b = some o → (s1.heap.push { cls := .type "function", data := .func (kla_fn name qual ar y scope (gh env scope.names []) pm cv ct) }).get? b = some o := fun b o e => Heap.get?_push_of_some _ e
  have at_ := Heap.get?_push_size s1.heap (o := { cls := .type "function", data := .func (kla_fn name qual ar y scope (gh env scope.names []) pm cv ct) }) rfl
  have hn : s1.heap.get? s1.heap.objs.size = none := get_size _
  refine q _ _ (c.push (s1.heap.objs.size, s1.heap.objs.size)) (a0.trans (Le.alloc (s' := { s1 with heap := _ }) hk hn hn)) (H1.alloc (s' := { s1 with heap := _ }) hk ⟨hn, _, at_⟩ ⟨hn, _, at_⟩ ?_ rfl rfl) ⟨?_, ?_⟩
  ·refine ⟨name, qual, ar, y, scope, _, pm, cv, ct, by rw [c.aI]; exact at_, HA.ck (a6.of hk), G.uy h1 h4, fun n hn => ?_, fun z i hz e => ?_⟩
   ·refine (has n hn).elim fun _ aj => (aj).elim fun a ax => (ax).elim fun _ ha => ?_
    exact ⟨a, ha⟩
   ·obtain ⟨hc, a, h5, h6⟩ := has _ hz
    have e' : af z cs.cs = some i := by refine bK H.cells ?_; exact ez e
    refine (N.cells z i hc e').elim fun q1 q2 => ?_
    rw [h5] at q2
    obtain rfl := aO q2
    exact ⟨Nat.lt_succ_of_lt q1, by refine ae h6 ?_; refine ae ((c.aJ _).σ i q1) ?_; rfl⟩
  ·refine (?_ : A.n < c.n + 1); refine ae H.n ?_; exact Nat.lt_succ_self _
  ·rw [← H.n, c.aI]
 refine au.done (A' := (A.alloc (.AN (A.cells.filter fun x => fv.contains x.1) b)).2) (a := V.loc A.n) fun Q E q => kla_eval (sM D.df D.kd) ?_
 cases HB : codeAmong p ps.toList with
 | some cv =>
  refine kla_makeFunctionHit yJ N.globals K6 hc K5 FQ ht HB K7 fun Hy h' tk hk J => ?_
  have HA := xO p cv HB
  exact fin (s1 := { s with heap := h', toks := tk }) Q (Le.bk (s' := { s with heap := h', toks := tk }) hk) (H.bk (s' := { s with heap := h', toks := tk }) hk rfl rfl) (HA.ck (a6.of hk)) q
 | none =>
  refine zY yJ N.globals K6 hc K5 FQ ht HB FP K7 fun c' Hy h' tk hx J Dn zZ => ?_
  have tab : gj h' (tabObj (ps ++ #[rawInt p.line, rawInt p.col, .ref c'])) := ⟨_, rfl, by simp -iota only [Array.toList_append]; exact TriplesOk_snoc _ _ _ _ ht, fun pos v e => by
   simp -iota only [Array.toList_append] at e
   rcases sL _ ht e with e | e
   ·obtain ⟨cc, o, e1, e2, e3⟩ := xO pos v e
    refine ⟨cc, o, e1, hx _ _ (fun q => ?_) e2, e3⟩
    rw [q, FQ] at e2; obtain rfl := aO e2; cases e3.1
   ·refine ae e ?_; exact Dn⟩
  refine (H.table (tk := tk) K4 FQ ⟨rfl, _, rfl⟩ zZ tab hx).elim fun a0 H1 => ?_
  exact fin Q a0 H1 Dn q
end
section
variable {Z : aL} {n : Nat} {ih : bM} {L : Nat} {cs : Fm} {Ar : Around} {c c' c₀ c₂ : Cfg} {A A' : AS} {s s' aE : Shared} {env : Env} {sc : cA} {m : Nat}
theorem ql {α : Type} {M : Model} {E : Value → Shared → Prop} {p : Prop} [Decidable p] {pos : Pos} {k : PUnit → Sem α} {Q : α → Shared → Prop} (h : bt M Ar (k ()) Q E s) : bt M Ar (if p then (standAt pos >>= k) else k ()) Q E s := by
 split
 ·exact aa (aY h)
 ·exact h
theorem vL {it : It} {u : Value} (r : jk L c aE s it u) {Q : Value → Shared → Prop} {E : Value → Shared → Prop} (q : Q u s) : wpAny Z.M Ar (pyIter u) Q E s := by
 cases it with
 | iA x n st => obtain ⟨a, rfl, O, h⟩ := r; exact wpAny_pyIter_rangeiter h q
 | lst i k => obtain ⟨hi, a, rfl, O, h⟩ := r; exact wpAny_pyIter_listiter h q
 | tup i k => obtain ⟨hi, a, rfl, O, h⟩ := r; exact wpAny_pyIter_tupleiter h q
 | keys i n k => obtain ⟨hi, hn, a, dh, ep, rfl, O, hd, h⟩ := r; exact wpAny_pyIter_keyiter h q
theorem kR {v : V} {it : It} (e : cY v A = some (it, A')) : A'.locs = A.locs ∧ A'.cells = A.cells ∧ A'.hd = A.hd := by
 have go : ∀ {v : V} {p : It × AS}, sG A v p → p.2.locs = A.locs ∧ p.2.cells = A.cells ∧ p.2.hd = A.hd := fun w => by
  induction w <;> exact ⟨rfl, rfl, rfl⟩
 exact go (kO e)
theorem qm {R : Result → Shared → Prop} {y t z : Expr} {scope : Scope} {pos : Pos} {u acc : Value} {cenv : Env} (h : bj Z.M Ar (.compLoop (.ListComp y [⟨t, z, [], 0⟩] scope pos) 0 u acc cenv) R s)
 (hi : ∀ (Q : Value → Shared → Prop) (E : Value → Shared → Prop), Q u s → wpAny Z.M Ar (pyIter u) Q E s) : bj Z.M Ar (.compStart (.ListComp y [⟨t, z, [], 0⟩] scope pos) 0 u acc cenv) R s := by
 refine aZ rfl ?_
 refine (?_ : bt Z.M Ar ((compStart (.ListComp y [⟨t, z, [], 0⟩] scope pos) 0 u acc cenv).onRaise _) _ _ s)
 refine aT (az (E := fun J J => False) ?_ (fun J J q => q) fun J J f => f.elim)
 refine aa (.of (wpAny_askSetting (yX ?_)))
 split
 ·first
   | exact aa (aq (aq (And.intro rfl h)))
   | exact aq (And.intro rfl h)
 ·refine aa (jU ?_)
  refine (?_ : bt Z.M Ar (standAt z.pos >>= _) _ _ s)
  exact aa (aY (aa (.of (hi _ _ (aq (And.intro rfl h))))))
theorem jk.other {C : Nat} {c2 c3 : Cfg} {s1 s2 s3 : Shared} {it : It} {u : Value} (i2 : jk L c2 s1 s2 it u) (i3 : jk L c3 s1 s3 it u) (hC : s2.heap.get? C = none) : jk C c3 s1 s3 it u := by
 have tr : ∀ a o, Own L c3 s1 a → s2.heap.get? a = some o → Own C c3 s1 a := fun a o O e => ⟨O.new, Has.ne ⟨o, e⟩ hC, O.off⟩
 cases it with
 | iA x n st => obtain ⟨a, rfl, O, h⟩ := i3; obtain ⟨a', e', _, h'⟩ := i2; cases e'; exact ⟨a, rfl, tr _ _ O h', h⟩
 | lst i k => obtain ⟨hi, a, rfl, O, h⟩ := i3; obtain ⟨_, a', e', _, o, h', _⟩ := i2; cases e'; exact ⟨hi, a, rfl, tr _ _ O h', h⟩
 | tup i k => obtain ⟨hi, a, rfl, O, h⟩ := i3; obtain ⟨_, a', e', _, o, h', _⟩ := i2; cases e'; exact ⟨hi, a, rfl, tr _ _ O h', h⟩
 | keys i nn k => obtain ⟨hi, hn, a, dh, ep, rfl, O, hd, h⟩ := i3; obtain ⟨_, _, a', _, _, e', _, _, o, h', _⟩ := i2; cases e'; exact ⟨hi, hn, a, dh, ep, rfl, tr _ _ O h', hd, h⟩
set_option backward.match.sparseCases false in
theorem mU (G : Z.Glob) (P : bY Z) (P2 : bQ Z) (I : aC Z n ih) (h1 : 1 ≤ n) (hn : Room n Ar cs) {use : Option (Value → Sem Unit)} {is : List Nat} {t y z : Expr} {elt it : E} {scope : Scope} {pos HC : Pos}
 (hF : g8 Z.nm scope.names is t = true) (hc : eL sc scope = true) (nd : is.Nodup) (hy : aV Z.nm m scope.names elt y = true) (hz : aV Z.nm m sc it z = true) (H : St Z L cs c A s) (N : aR Z sc c L cs env)
 {l : bC V} (e : A6 Z.Γ ih (.eK elt is it) A = some l) {Q : Value → Shared → Prop} {E : Value → Shared → Prop} (hE : ∀ ev s', EO Z L cs l.list c s ev s' → E ev s')
 (hU : ∀ A' c' s' C mC w a, (Except.ok w, A') ∈ l.list → Le Z L c s c' s' → St Z L cs c' A' s' → VR c' w a → s'.heap.Ns C mC → C ≠ L → (∀ i, i < c'.n → C ≠ (c'.σ i).1 ∧ C ≠ (c'.σ i).2) → s.heap.get? C = none → Z.h₀.get? C = none →
  match use with
  | none => ∀ h', Heap.SameBut C s'.heap h' → Q a { s' with heap := h' }
  | some u => bt Z.M Ar (u a) (fun J eB => ∃ m, eB.heap.Ns C m ∧ ∀ h', Heap.SameBut C eB.heap h' → Q .none { eB with heap := h' }) E s') :
 bt Z.M Ar (comprehension (.ListComp y [⟨t, z, [], 0⟩] scope pos) scope env HC (newList []) false (eval z env) use) Q E s := by
 have K := fI hc
 delta comprehension
 refine ae (gw (mR hc N)) ?_
 have e : Res.bind (ih.e it A) (fun v A => match cY v A with
  | none => none
  | some (it, A) => if A.hd.isNone = true then (match ei (turns ih elt is A.n 300 it { (A.alloc (.list [])).2 with locs := [] }) with
   | none => none
   | some l => some (eE A (fun J => V.loc A.n) l)) else none) = some l := e
 refine aa (au.use (I.e hz hn H N) e (fun v A1 c1 x s1 r' y1 y2 a0 H1 r1 => ?_) fun i A1 c1 ev s1 m1 a0 H1 r1 => hE _ _ ⟨i, A1, c1, m1, a0, H1, r1⟩)
 have EI : foldedSetIterable z env x = pure x := iL hz
 refine aa (aY (aa (l4 EI ?_)))
 refine Classical.byContradiction fun bad => ?_
 cases hN : cY v A1 with
 | none => rw [hN] at y1; exact no y1
 | some p =>
 obtain ⟨M3, A2⟩ := p
 rw [hN] at y1
 dsimp only at y1
 cases hq : A2.hd with
 | some x => rw [hq] at y1; exact no y1
 | none =>
 rw (occs := .all) [hq, if_pos (by rfl)] at y1
 generalize fh : ei _ = o at y1
 cases o with
 | none => exact no y1
 | some lt =>
 obtain rfl := aO y1
 refine (fA fh).elim fun qo vm => ?_
 refine bad (aa (aA (.of (fF G H1 r1 hN fun c2 s2 w z9 le2 H2 i2 => ?_))))
 refine ql (aa (.of (wpAny_newObj_type ?_)))
 refine aa (aq (aa (.of (wpAny_newFunctionEnv K.2.1 (by intro y hy; simp at hy) (fun bZ tT Cu => ?_) K.1))))
 dsimp only at tT Cu ⊢
 -- the list and the frame
 generalize hD : s2.heap.objs.size = D at tT Cu ⊢
 generalize hH : s2.heap.push { cls := .type "list", data := .seq ([] : List Value).toArray } = Bf at tT Cu ⊢
 generalize hC : Bf.objs.size = C at tT Cu ⊢
 have M4 : C = D + 1 := by rw [← hC, ← hH, Heap.size_push, hD]
 have EJ : ∀ b o, s2.heap.get? b = some o → Bf.get? b = some o := fun b o e => by refine bK hH ?_; exact Heap.get?_push_of_some _ e
 have EK : ∀ b o, Bf.get? b = some o → bZ.get? b = some o := fun b o e => Cu.extBut b o (by refine bK hC ?_; exact Nat.ne_of_lt (Heap.lt_size e)) (Heap.get?_push_of_some _ e)
 have CI : ∀ b o, s2.heap.get? b = some o → bZ.get? b = some o := fun b o e => EK b o (EJ b o e)
 have Dp : s2.heap.get? D = none := by refine bK hD ?_; exact get_size _
 have CJ : bZ.get? D = some { cls := .type "list", data := .seq #[] } := EK _ _ (by refine bK hH ?_; refine bK hD ?_; exact Heap.get?_push_size _ rfl)
 have M5 : Bf.get? C = none := by refine bK hC ?_; exact get_size _
 have FT : s2.heap.get? C = none := by
  cases e : s2.heap.get? C with
  | none => rfl
  | some o => have := EJ _ _ e; rw [M5] at this; cases this
 have CK : s1.heap.get? C = none := by
  cases e : s1.heap.get? C with
  | none => rfl
  | some o => have := z9 _ _ e; rw [FT] at this; cases this
 have Aa : s.heap.get? C = none := by
  cases e : s.heap.get? C with
  | none => rfl
  | some o => obtain ⟨o', h, _⟩ := a0.ck _ o e; rw [CK] at h; cases h
 have K8 : Z.h₀.get? C = none := by
  cases e : Z.h₀.get? C with
  | none => rfl
  | some o => have := H.base _ _ e; rw [Aa] at this; cases this
 have M6 : env.frame ≠ some C := fun e => by
  refine (H.outs C (N.fr C e)).elim fun _ aj => (aj).elim fun ax _ => (ax).elim fun o aP => (aP).elim fun h _ => ?_
  rw [Aa] at h; cases h
 have Bw : C ≠ D := by refine ae M4 ?_; exact Nat.succ_ne_self _
 have HD : Has bZ C := Ns.has tT
 -- the state in the wk frame
 have H3 : St Z L cs (c2.push (D, D)) (A2.alloc (.list [])).2 { s2 with heap := bZ, toks := s2.toks + ([] : List (Str × Value)).length } :=
  H2.alloc (s' := { s2 with heap := bZ, toks := s2.toks + ([] : List (Str × Value)).length }) CI ⟨Dp, _, CJ⟩ ⟨Dp, _, CJ⟩ ⟨#[], 0, by rw [c2.aI]; exact CJ, .nil⟩ rfl rfl
 have EL : ∀ i, i < (c2.push (D, D)).n → C ≠ ((c2.push (D, D)).σ i).1 ∧ C ≠ ((c2.push (D, D)).σ i).2 := fun i hi => by
  by_cases q : i = c2.n
  ·subst q; rw [c2.aI]; exact ⟨Bw, Bw⟩
  ·have cP : i < c2.n := Nat.lt_of_le_of_ne (Nat.le_of_lt_succ hi) q
   refine ae ((c2.aJ _).σ i cP) ?_
   exact ⟨Ne.symm ((H2.up i cP).1.ne FT), Ne.symm ((H2.up i cP).2.ne FT)⟩
 have H4 : St Z C cs (c2.push (D, D)) { (A2.alloc (.list [])).2 with locs := [] } { s2 with heap := bZ, toks := s2.toks + ([] : List (Str × Value)).length } :=
  ⟨H3.toHp.re rfl rfl rfl, ⟨K8, HD, EL, _, tT, fun x v e => by cases e⟩, H3.cells, H3.hd, H3.outs, H3.tabs⟩
 have M7 : Le Z C c1 s1 (c2.push (D, D)) { s2 with heap := bZ, toks := s2.toks + ([] : List (Str × Value)).length } := by
  have a1 : Le Z C c1 s1 c2 s2 := ⟨le2.n, le2.nv, le2.σ, le2.ρ, a6.of z9, fun b o J e => z9 b o e, fun b o e J J => ⟨o, z9 b o e, .inl rfl⟩, le2.new⟩
  exact a1.trans (Le.alloc (p := (D, D)) (s' := { s2 with heap := bZ, toks := _ }) CI Dp Dp)
 have i4 : jk C (c2.push (D, D)) s1 { s2 with heap := bZ, toks := s2.toks + ([] : List (Str × Value)).length } M3 w :=
  i2.other (i2.mono (Le.alloc (Z := Z) (L := L) (p := (D, D)) (s' := { s2 with heap := bZ, toks := s2.toks + ([] : List (Str × Value)).length }) (c := c2) CI Dp Dp)) FT
 have n8 : A2.n < (c2.push (D, D)).n := by refine (?_ : A2.n < c2.n + 1); refine ae H2.n ?_; exact Nat.lt_succ_self _
 have Bc : ((c2.push (D, D)).σ A2.n) = (D, D) := by rw [← H2.n, c2.aI]
 have N4 : aR Z scope.names c1 C cs (compEnvC scope (gh env scope.names []) C env) := (comp_env hc N C M6).mono a0.grown
 have code := vJ (hn.quiet H2 hq) (y := y) (z := z) (pos := pos) G P P2 I h1 hn hF nd hy H1.base N4 n8 300 qo vm M7 (bu.refl _) H4 i4
 rw [Bc] at code
 have start := qm code fun Q E q => vL i4 q
 have hv : ∀ x ∈ (scope.names.filter fun x => (x.2 == .local || x.2 == .cell) && x.1 != (".0" : Str)).reverse, x.2 = .local → Env.kindOf (compEnvC scope (gh env scope.names []) C env) x.1 = some .local :=
  fun x hx hl => lookup_relabel_local (K.2.2.1 x (List.mem_filter.mp (List.mem_reverse.mp hx)).1 hl)
 have M8 : ∀ x ∈ (scope.names.filter fun x => (x.2 == .local || x.2 == .cell) && x.1 != (".0" : Str)).reverse.drop 1 ++ (scope.names.filter fun x => (x.2 == .local || x.2 == .cell) && x.1 != (".0" : Str)).reverse.take 1,
  x.2 = .local → Env.kindOf (compEnvC scope (gh env scope.names []) C env) x.1 = some .local := fun x hx hl => by
  rcases List.mem_append.mp hx with h1 | h1
  ·exact hv x (List.mem_of_mem_drop h1) hl
  ·exact hv x (List.mem_of_mem_take h1) hl
 refine aA (aa (i9 (aA (jB (bg start fun rr s5 hr => ?_) GN))))
 refine Classical.byContradiction fun bad => ?_
 cases rr with
 | error => exact hr.elim
 | ok fl =>
  refine (hr).elim fun A5 aj => (aj).elim fun c5 ax => (ax).elim fun m5 aP => (aP).elim fun yL bG => (bG).elim fun g5 H5 => ?_
  have hm := y2 _ (iR (A := A2) (f := fun J => V.loc A2.n) m5)
  have EE : Le Z L c1 s1 c5 s5 := yL.zX CK
  have H6 : St Z L cs c5 { A5 with locs := A2.locs, cells := A2.cells } s5 := by
   have := H1.back yL CK (by rfl) H5
   refine ae ((kR hN).1) ?_; refine ae ((kR hN).2.1) ?_
   exact this
  refine (H5.ns).elim fun mC aj => (aj).elim fun K9 _ => ?_
  have HE : VR c5 (.loc A2.n) (.ref D) := ⟨Nat.lt_of_lt_of_le n8 g5.n, by refine ae (g5.σ _ n8) ?_; refine ae Bc ?_; rfl⟩
  have fin := hU _ c5 s5 C mC _ _ hm (a0.trans EE) H6 HE K9 (Ne.symm (H.bw.ne Aa)) H5.off Aa K8
  refine bad ?_
  cases use with
  | none =>
   exact aa (aA (.of (wpAny_comp_letGo (cenv := compEnvC scope (gh env scope.names []) C env) K.1 _ s5 mC hv K9 fun h' m' J jw => aq (fin h' jw))))
  | some u =>
   refine aa (jU (aa (aA (az fin (fun J s7 q => ?_) fun J J q => q))))
   refine (q).elim fun m7 aj => (aj).elim fun M9 q => ?_
   exact aa (.of (wpAny_comp_letGo (cenv := compEnvC scope (gh env scope.names []) C env) K.1 _ s7 m7 M8 M9 fun h' m' J jw => aq (q h' jw)))
theorem jm (H : St Z L cs c A s) {C : Nat} (hC : s.heap.get? C = none) : ∀ b ∈ cs.frs.filterMap (·.frame), b ≠ C := fun b hm q => by
 refine (H.outs b hm).elim fun _ aj => (aj).elim fun ax _ => (ax).elim fun o aP => (aP).elim fun h _ => ?_
 rw [q, hC] at h; cases h
theorem qp {ts : List Nat} {elt it : E} {x : Expr} (he : aV Z.nm (m + 1) sc (.eK elt ts it) x = true) : ∃ y t z scope pos, x = .ListComp y [⟨t, z, [], 0⟩] scope pos ∧ eL sc scope = true ∧ aV Z.nm m scope.names elt y = true ∧ aV Z.nm m sc it z = true ∧ g8 Z.nm scope.names ts t = true ∧ ts.Nodup := by
 replace he := bL he
 cases he with
 | eK h =>
  refine (ao h).elim fun h h5 => ?_
  obtain ⟨h, h4⟩ := ao h
  obtain ⟨h, h3⟩ := ao h
  obtain ⟨h1, h2⟩ := ao h
  exact ⟨_, _, _, _, _, rfl, h1, h2, h3, h4, of_decide_eq_true h5⟩
theorem vM {e : E} {z : Expr} (hl : jZ z = true) : ∀ {m : Nat}, aV Z.nm m sc e z = true → ∃ elt ts it, e = .eK elt ts it
 | 0, h => bf h
 | m + 1, h => by
  replace h := bL h
  induction h <;> first | exact bf hl | exact ⟨_, _, _, rfl⟩
theorem sN (G : Z.Glob) (P : bY Z) (P2 : bQ Z) (I : aC Z n ih) (h1 : 1 ≤ n) (hn : Room (n + 1) Ar cs) {ts : List Nat} {elt it : E} {x : Expr} (he : aV Z.nm (m + 1) sc (.eK elt ts it) x = true) (H : St Z L cs c A s) (N : aR Z sc c L cs env) :
 au Z L cs Ar (eval x env) VR (A6 Z.Γ ih (.eK elt ts it) A) c s := by
 obtain ⟨y, t, z, scope, pos, rfl, k1, k2, k3, k4, k5⟩ := qp he
 intro l e
 rw [eval_ListComp]
 refine mU G P P2 I h1 (hn.le (Nat.le_succ n)) (use := none) k4 k1 k5 k2 k3 H N e (fun J J q => q) fun A' c' s' C mC w a hm le H' r' hC h2 h3 h4 h5 => ?_
 intro h' hs
 have O : Own L c' s C := ⟨h4, h2, h3⟩
 have hd := Ns.gk hC
 have hf := jm H h4
 have hk : ∀ b o, s'.heap.get? b = some o → b ≠ C → h'.get? b = some o := fun b o e q => (hs.2 b q).trans e
 exact ⟨w, A', c', hm, le.eJ (s' := { s' with heap := h' }) hd hk h4, H'.eJ (s' := { s' with heap := h' }) hd hf hk rfl rfl h5 O, r'⟩
theorem sO (G : Z.Glob) (P : bY Z) (P2 : bQ Z) (I : aC Z n ih) (h1 : 1 ≤ n) (hn : Room n Ar cs) {i : Nat} {id : Str} {pos pos' : Pos} {e : E} {z : Expr} (hx : dm Z.nm sc i (.Name id pos) = true) (he : aV Z.nm m sc e z = true) (hl : jZ z = true) (hs : oW id pos z = true) (H : St Z L cs c A s) (N : aR Z sc c L cs env) :
 au Z L cs Ar (exec (.Assign [.Name id pos] z pos') env) FR (Res.bind (A6 Z.Γ ih e A) fun v A => ok .next (aN i v A)) c s := by
 obtain ⟨elt, ts, it, rfl⟩ := vM hl he
 cases m with
 | zero => cases he
 | succ m =>
 obtain ⟨y, t, z', scope, HF, rfl, k1, k2, k3, k4, k5⟩ := qp he
 have yI : id = Z.nm i := by obtain ⟨_, _, q1, q2⟩ := iK hx; cases q1; exact q2
 have kd : env.kindOf id = some .local := by
  have h2 : cw sc id .local = true := by
   delta dm at hx
   exact (ao (ao hx).1).2
  rcases N.names id .local (kind_of h2) with h | h
  ·exact h
  ·cases h.1
 have Na : swapsWith (.ListComp y [⟨t, z', [], 0⟩] scope HF) (some (.Name id pos)) pos'.line env = pure true := by
  delta oW at hs
  have hs := ao hs
  show pure (env.blockKind == .function && env.kindOf id == some .local && pos.line == _ && !(scope.names.any fun (n, k) => n == id && (k == .local || k == .cell))) = pure true
  have hb : env.blockKind = .function := by delta Env.blockKind; refine ae N.kind ?_; rfl
  refine ae hb ?_; refine ae kd ?_; refine ae hs.1 ?_; refine ae hs.2 ?_; rfl
 refine ae (exec_Assign_Name_used _ _ _ _ Na) ?_
 refine .at ?_
 intro l e
 refine (eF e).elim fun lz aj => (aj).elim fun Nb ax => (ax).elim fun q1 q2 => ?_
 refine aa (aa (az (mU (Q := fun J s' => ∃ A' c', (Except.ok Fl.next, A') ∈ l.list ∧ Le Z L c s c' s' ∧ St Z L cs c' A' s') (E := EO Z L cs l.list c s) G P P2 I h1 hn (use := some (assign (.Name id pos) env)) k4 k1 k5 k2 k3 H N Nb (fun ev s' q => ?_) fun A' c' s' C mC w a hm le H' r' hC h2 h3 h4 h5 => ?_) (fun J s' q => ?_) fun J J q => q))
 ·obtain ⟨i, B, d, y1, y2, y3, y4⟩ := q
  exact ⟨i, B, d, q2 i B y1, y2, y3, y4⟩
 ·refine az (cS G hx H' (N.mono le.grown) r' _ rfl) (fun J s7 q => ?_) fun J s7 q => ?_
  ·obtain ⟨_, A7, c7, m7, HG, H7, _⟩ := q
   cases msg m7
   obtain ⟨oC, es, ep, FU, Nc⟩ := hC
   refine (HG.keep C oC FU h2 h3).elim fun Nd aj => (aj).elim fun Nf w7 => ?_
   have n7 : s7.heap.Ns C mC := Ns.stays ⟨oC, es, ep, FU, Nc⟩ fun o e => by
    rw [FU] at e; obtain rfl := aO e
    exact ⟨Nd, Nf, w7⟩
   have hd := Ns.gk n7
   have hf := jm H h4
   refine ⟨mC, n7, fun h' Ng => ?_⟩
   have O : Own L c7 s C := (Own.mk h4 h2 h3 : Own L c' s C).mono ⟨_, FU⟩ HG
   have hk : ∀ b o, s7.heap.get? b = some o → b ≠ C → h'.get? b = some o := fun b o e q => (Ng.2 b q).trans e
   obtain ⟨r', y1, y2⟩ := q1 w A' hm
   have y1 : aD.ok Fl.next (aN i w A') = some r' := y1
   obtain rfl := aO y1
   exact ⟨_, c7, y2 _ (.head _), (le.trans HG).eJ (s' := { s7 with heap := h' }) hd hk h4, H7.eJ (s' := { s7 with heap := h' }) hd hf hk rfl rfl h5 O⟩
  ·obtain ⟨i, A7, c7, m7, _⟩ := q
   cases msg m7
 ·refine (q).elim fun A' aj => (aj).elim fun c' ax => (ax).elim fun k1 aP => (aP).elim fun k2 k3 => ?_
  exact aq (aq ⟨_, A', c', k1, k2, k3, rfl⟩)
end
end aD
end
section
open PySem PySem.Calls PyProof.Rows PySem.W PySem.SeqAt PySem.Builtin
set_option backward.match.sparseCases false
set_option maxRecDepth 100000
namespace aD
section
variable {Z : aL} {L : Nat} {cs : Fm} {Ar : Around} {c c' : Cfg} {A : AS} {s s' : Shared} {env : Env} {sc : cA} {m : Nat}
theorem sP {j : Nat} {k : Int} {w : V} {B : AS} (h : eX j k A = some (.one w B)) : eX j k A = ok w A := by
 have go : ∀ o : Option V, bA o A = some (.one w B) → bA o A = ok w A := fun o h => by
  cases o with
  | none => cases h
  | some v => cases h; rfl
 delta eX at h ⊢
 cases hm : A.heap.get j with
 | none => rw [hm] at h; cases h
 | some ob =>
  rw [hm] at h
  cases ob <;> first | (cases h; done) | skip
  all_goals dsimp only at h ⊢
  all_goals first
   | exact go _ h
   | (by_cases q : 0 ≤ k ∧ k ≤ 4096
      ·rw [if_pos q] at h ⊢; exact go _ h
      ·rw [if_neg q] at h; cases h)
noncomputable def qq : bM where
 e := fun e A => match e with
  | .cst v => ok v A
  | .loc x => bA (af x A.locs) A
  | .sub (.loc y) (.cst v) => Res.bind (bA (af y A.locs) A) fun o A => Res.bind (ok v A) fun i A => gW o i A
  | _ => none
 c := fun J J => none
 s := fun J J => none
 fuel := 0
theorem qr {v : V} {x : Expr} (he : aV Z.nm m sc (.cst v) x = true) (H : St Z L cs c A s) : au Z L cs Ar (eval x env) VR (ok v A) c s := by
 cases m with
 | zero => cases he
 | succ m =>
 replace he := bL he
 cases he with
 | cst he => exact l7 H he
theorem qs {i : Nat} {x : Expr} (he : aV Z.nm m sc (.loc i) x = true) (H : St Z L cs c A s) (N : aR Z sc c L cs env) : au Z L cs Ar (eval x env) VR (bA (af i A.locs) A) c s := by
 cases m with
 | zero => cases he
 | succ m =>
 replace he := bL he
 cases he with
 | @loc _ _ p he =>
  refine (ao he).elim fun he hd => ?_
  refine (ao he).elim fun he hk => ?_
  exact l8 (Ar := Ar) (env := env) (pos := p) (cL he) H N hk hd
theorem sub_eval (G : Z.Glob) (hb : Room 1 Ar cs) {i : Nat} {v : V} {x : Expr} (he : aV Z.nm m sc (.sub (.loc i) (.cst v)) x = true) (H : St Z L cs c A s) (N : aR Z sc c L cs env) :
 au Z L cs Ar (eval x env) VR (Res.bind (bA (af i A.locs) A) fun o A => Res.bind (ok v A) fun i A => gW o i A) c s := by
 cases m with
 | zero => cases he
 | succ m =>
 replace he := bL he
 cases he with
 | @sub _ _ y q p he =>
  refine (ao he).elim fun he h3 => ?_
  refine (ao he).elim fun h1 h2 => ?_
  refine au.bind H.bw (qs h2 H N) fun v A1 c1 s1 u a0 H1 r1 => ?_
  refine au.bind H1.bw (.hold (qr h3 H1)) fun w A2 c2 s2 u2 le2 H2 r2 => .at ?_
  have := ((tR G).item (x := q) (by simpa using h1) hb H2 (r1.mono le2.grown) r2).hJ (base := y) (o := u)
  rwa [bind_assoc] at this
theorem sQ (G : Z.Glob) : aC Z 1 qq where
 fuel := Nat.zero_le _
 s := fun J J J J J => .none
 c := fun J J J J => .none
 e := by
  intro m sc e x Ar L cs c A s env he hn H N
  cases e with
  | cst v => exact qr he H
  | loc i => exact qs he H N
  | sub o i =>
   cases o with
   | loc y => cases i with
    | cst v => exact sub_eval G hn he H N
    | _ => exact .none
   | _ => exact .none
  | _ => exact .none
theorem qt (G : Z.Glob) (hb : Room 1 Ar cs) {a b : E} {op : oJ} {x : Expr} (he : aV Z.nm m sc (.cmp a [op] [b]) x = true) (H : St Z L cs c A s) (N : aR Z sc c L cs env) :
 au Z L cs Ar (isTrue x env (eval x env)) BR (Res.bind (qq.e a A) fun a A => Res.bind (qq.e b A) fun b A => eg A op a b) c s := by
 cases m with
 | zero => cases he
 | succ m =>
 replace he := bL he
 cases he with
 | @cmp _ _ _ l os xs pos he =>
  refine (ao he).elim fun he _ => ?_
  refine (ao he).elim fun he hl => ?_
  refine (ao he).elim fun he hm => ?_
  refine (ao he).elim fun he h4 => ?_
  refine (ao he).elim fun h2 h3 => ?_
  have S := sQ G
  refine au.bind H.bw (S.e h2 hb H N) fun v A1 c1 s1 u a0 H1 r1 => ?_
  refine ae (et (by simpa using hm)) ?_
  exact gE (tR G) S (Nat.le_refl _) hb [op] h3 h4 (by simpa using hl) H1 (N.mono a0.grown) r1
theorem vN {op : oJ} {n : Nat} {o k : Int} (h : op = .eq ∨ op = .lt) : ∃ l, eg A op (.int (.va n o)) (.int (.lit k)) = some l ∧ ∀ a B, (Except.ok a, B) ∈ l.list → B = A := by
 dsimp only [eg]
 cases ny A op (.int (.va n o)) (.int (.lit k)) with
 | some t => exact ⟨_, rfl, fun a B hm => by cases msg hm; rfl⟩
 | none =>
  have go : ∀ a B, (Except.ok (ε := Nat) a, B) ∈ (bC.many [(.ok true, A), (.ok false, A)]).list → B = A := fun a B hm => by
   rcases ff hm with q | hm
   ·cases q; rfl
   ·cases msg hm; rfl
  rcases h with rfl | rfl <;> exact ⟨_, rfl, go⟩
theorem EM (G : Z.Glob) : w9 Z := by
 intro Ar L cs c A s env sc m e es xs hb hz he H N
 refine (ao hz).elim fun CL EN => ?_
 cases es with
 | nil => cases EN
 | cons e2 es => cases es with
 | cons _ _ => cases EN
 | nil =>
 obtain @⟨x, op, k, n, o, La, hx⟩ := dH CL
 obtain @⟨y, j, Nh, t, i, w, B, hy, hi, HH⟩ := dH EN
 replace hi := sP hi
 obtain ⟨x1, xs, rfl, q1, q2⟩ := aQ he
 obtain ⟨x2, xs, rfl, q3, q4⟩ := aQ q2
 obtain rfl := cN q4
 have w1 := qt (Ar := Ar) G hb q1 H N
 have e1 : (Res.bind (qq.e (.loc x) A) fun a A => Res.bind (qq.e (.cst (.int (.lit k))) A) fun b A => eg A op a b) = eg A op (.int (.va n o)) (.int (.lit k)) := by
  refine (?_ : Res.bind (bA (af x A.locs) A) _ = _)
  refine ae hx ?_; rfl
 rw [e1] at w1
 obtain ⟨l1, FV, same⟩ := vN (A := A) (n := n) (o := o) (k := k) La
 intro l e
 obtain rfl := aO e
 refine aa (az (w1 l1 FV) (fun u s1 q => ?_) fun ev s1 q => ?_)
 ·obtain ⟨t1, A1, c1, m1, a0, H1, r1⟩ := q
  have r1 : u = t1 := r1
  subst r1
  cases same u A1 m1
  cases u with
  | false => exact aq ⟨false, A, c1, .head _, a0, H1, rfl⟩
  | true =>
   have w2 := qt (Ar := Ar) G hb q3 H1 (N.mono a0.grown)
   have e2 : (Res.bind (qq.e (.sub (.loc y) (.cst (.int (.lit j)))) A) fun a A => Res.bind (qq.e (.cst (.str t)) A) fun b A => eg A Nh a b) = ok false A := by
    have e3 : qq.e (.sub (.loc y) (.cst (.int (.lit j)))) A = ok (.str w) A := by
     refine (?_ : Res.bind (bA (af y A.locs) A) _ = _)
     refine ae hy ?_
     exact hi
    refine ae e3 ?_
    rcases HH with ⟨rfl, hs⟩ | ⟨rfl, hs⟩
    ·refine (?_ : eg A .eq (.str w) (.str t) = _)
     dsimp only [eg]
     have : ny A .eq (.str w) (.str t) = some false := by refine (?_ : some (jz w t) = _); refine ae hs ?_; rfl
     refine ae this ?_; rfl
    ·refine (?_ : eg A .ne (.str w) (.str t) = _)
     dsimp only [eg]
     have : ny A .ne (.str w) (.str t) = some false := by refine (?_ : (some (jz w t)).map not = _); refine ae hs ?_; rfl
     refine ae this ?_; rfl
   rw [e2] at w2
   refine aa (az (w2 _ rfl) (fun u s2 q => ?_) fun ev s2 q => ?_)
   ·obtain ⟨t2, A2, c2, m2, le2, H2, r2⟩ := q
    cases msg m2
    have r2 : u = false := r2
    subst r2
    exact aq ⟨false, A, c2, .head _, a0.trans le2, H2, rfl⟩
   ·obtain ⟨i, A2, c2, m2, _⟩ := q
    cases msg m2
 ·obtain ⟨i, A1, c1, m1, _, _, _⟩ := q
  exfalso
  have : ∀ l1 : bC Bool, eg A op (.int (.va n o)) (.int (.lit k)) = some l1 → ∀ i B, (Except.error i, B) ∉ l1.list := fun l1 h i B hm => by
   dsimp only [eg] at h
   cases hv : ny A op (.int (.va n o)) (.int (.lit k)) with
   | some t => rw [hv] at h; obtain rfl := aO h; cases msg hm
   | none =>
    rw [hv] at h
    rcases La with rfl | rfl <;>
    ·obtain rfl := aO h
     rcases ff hm with q | hm
     ·cases q
     ·cases msg hm
  exact this l1 FV i A1 m1
end
end aD
end
section
open PySem PySem.Calls PyProof.Rows PySem.W PySem.SeqAt PySem.Builtin
set_option maxRecDepth 100000
namespace aD
variable {Z : aL}
theorem EP (G : Z.Glob) (Fs : tP Z) (P : bY Z) (P2 : bQ Z) {n : Nat} {ih : bM} (I : aC Z n ih) (h1 : 1 ≤ n) : xa Z n ih where
 call := fun hn H N rf he J => sC G Fs (Hq G) I hn H N rf he
 meth := fun hn H N r he hl hp => sF G Fs I hn H N r he hl hp
 eK := fun he hn H N => sN G P P2 I h1 hn he H N
 lam := fun he J H N => vK G he H N
theorem CM (G : Z.Glob) : aC Z 1 (bI Z.Γ 0) where
 fuel := Nat.zero_le _
 s := fun J J J J J => .none
 e := fun J J J J => .none
 c := fun J J J J => .none
theorem sound (G : Z.Glob) (Fs : tP Z) : ∀ k : Nat, aC Z (k + 1) (bI Z.Γ k)
 | 0 => CM G
 | k + 1 => by
  have P := tR G
  have P2 := xD G
  have I := sound G Fs k
  have C := EP G Fs P P2 I (Nat.succ_le_succ (Nat.zero_le _))
  have Lo : Ba Z (k + 1) (bI Z.Γ k) := {
   loop := fun hF nd hb hf hn H N r => sH hf G P P2 I (Nat.succ_le_succ (Nat.zero_le _)) hn hF nd hb H N r
   swap := by
    intro Ar L cs c A s env sc m i id pos pos' e z hx he hl hs hn H N
    cases k with
    | zero => exact .none
    | succ j => exact sO G P P2 (sound G Fs j) (Nat.succ_le_succ (Nat.zero_le _)) (hn.le (by omega)) hx he hl hs H N }
  exact {
   fuel := Nat.succ_le_succ I.fuel
   s := fun he hf hn H N => uS G P P2 I C Lo (Nat.succ_le_succ (Nat.zero_le _)) hn hf he H N
   e := fun he hn H N => uD G P I C (Nat.succ_le_succ (Nat.zero_le _)) hn he H N
   c := fun he hn H N => uF (EM G) P I (Nat.succ_le_succ (Nat.zero_le _)) hn he H N }
end aD
end
section
open PySem PySem.Calls PyProof.Rows PySem.W PySem.SeqAt PySem.Builtin
set_option backward.match.sparseCases false
set_option maxRecDepth 100000
namespace aD
inductive GV where
 | int (x : SI)
 | oct (b : BS)
noncomputable def GV.ctorIdx (x : GV) : Nat := GV.casesOn (motive := fun J => Nat) x (fun J => 0) (fun J => 1)
structure dQ where
 f : List Nat
 g : List GV
noncomputable def Ab (x : SI) (o : Int) : SI := match x with
 | .lit i => .lit (i + o)
 | .va k p => .va k (p + o)
noncomputable def HI : (o : Option GV) → Option { x : SI // o = some (.int x) }
 | some (.int x) => some ⟨x, rfl⟩
 | _ => none
noncomputable def Ni : (o : Option GV) → Option { b : BS // o = some (.oct b) }
 | some (.oct b) => some ⟨b, rfl⟩
 | _ => none
noncomputable def FW (g : List GV) (x : SI) : Option SI := match x with
 | .lit i => some (.lit i)
 | .va k o => (HI (getL g k)).bind fun z => some (Ab z.1 o)
noncomputable def ER (g : List GV) (x : Seg) : Option BS := match x with
 | .lit l => some [.lit l]
 | .rep k n => (HI (getL g k)).bind fun z => (match z.1 with
  | .va j p => Bool.rec (motive := fun J => Option BS) none (some [.rep j n]) (AO p 0)
  | .lit v => some [.lit (List.replicate n v.toNat)])
 | .ef k o n => (Ni (getL g k)).bind fun b => if o + n ≤ BS.len b.1 then some (BS.slice o (o + n) b.1) else none
 | .be k o n a m => (HI (getL g k)).bind fun z => (match z.1 with
  | .va j p => some [.be j (p + o) n a m]
  | .lit v => some [.lit ((List.range m).map fun j => (v + o).toNat / 256 ^ (n - 1 - (a + j)) % 256)])
noncomputable def HJ (g : List GV) (l : BS) : Option BS := List.rec (motive := fun J => Option BS) (some []) (fun x J ih => (ER g x).bind fun a => ih.bind fun d => some (BS.app a d)) l
noncomputable def BS.norm (l : BS) : BS := List.rec (motive := fun J => BS) [] (fun x J ih => BS.cons x ih) l
noncomputable def ES (g : List GV) (a b : BS) : Bool := Option.rec (motive := fun J => Bool) false (fun x => yP (BS.norm x) (BS.norm b)) (HJ g a)
noncomputable def ET (x y : SI) : Bool := SI.rec (motive := fun J => Bool) (fun a => SI.rec (motive := fun J => Bool) (AO a) (fun J J => false) y) (fun k o => SI.rec (motive := fun J => Bool) (fun J => false) (fun j p => lA (Nat.beq k j) (AO o p)) y) x
noncomputable def gF (m : dQ) (j i : Nat) : Bool := Option.rec (motive := fun J => Bool) false (fun k => Nat.beq k i) (getL m.f j)
noncomputable def gI (m : dQ) (x y : SI) : Bool := Option.rec (motive := fun J => Bool) false (fun z => ET z y) (FW m.g x)
noncomputable def Dq (n : Bool) (b : Bool → Bool) (i : SI → Bool) (s : List Nat → Bool) (y : BS → Bool) (l : Nat → Bool) (v : V) : Bool := V.rec (motive := fun J => Bool) n b i s y l (fun J => false) (fun J => false) (fun J => false) (fun J => false) false v
noncomputable def F1 {α : Type} (J : α) : Bool := false
noncomputable def eqB (a b : Bool) : Bool := Bool.rec (motive := fun J => Bool) (Bool.rec (motive := fun J => Bool) true false b) b a
noncomputable def gV (m : dQ) (v w : V) : Bool := V.rec (motive := fun J => dQ → V → Bool) (fun m => Dq true F1 F1 F1 F1 F1) (fun a m => Dq false (eqB a) F1 F1 F1 F1) (fun x m => Dq false F1 (gI m x) F1 F1 F1) (fun a m => Dq false F1 F1 (jz a) F1 F1)
 (fun a m => Dq false F1 F1 F1 (ES m.g a) F1) (fun j m => Dq false F1 F1 F1 F1 (gF m j)) (fun J J => F1) (fun J J => F1) (fun J J => F1) (fun J J => F1) (fun J J => true) v m w
noncomputable def all2 {α β : Type} (p : α → β → Bool) (l : List α) (k : List β) : Bool := List.rec (motive := fun J => List β → Bool) (fun k => List.rec (motive := fun J => Bool) true (fun J J J => false) k)
 (fun a J ih k => List.rec (motive := fun J => Bool) false (fun b t J => Bool.rec (motive := fun J => Bool) false (ih t) (p a b)) k) l k
noncomputable def gC (m : dQ) : Option V → Option V → Bool
 | some a, some b => gV m a b
 | none, none => true
 | _, _ => false
noncomputable def Ad (x : Int × V) : List (Int × V) → List (Int × V)
 | [] => [x]
 | y :: r => if x.1 ≤ y.1 then x :: y :: r else y :: Ad x r
noncomputable def qu : List (Int × V) → List (Int × V)
 | [] => []
 | x :: r => Ad x (qu r)
noncomputable def gP (m : dQ) (x y : Int × V) : Bool := lA (AO x.1 y.1) (gV m x.2 y.2)
inductive SO (m : dQ) : aw → aw → Prop
 | inst {c fs d gs} (h : (Nat.beq c d && all2 (fun x y => lA (Nat.beq x.1 y.1) (gV m x.2 y.2)) fs gs) = true) : SO m (.inst c fs) (.inst d gs)
 | list {xs ys} (h : all2 (gV m) xs ys = true) : SO m (.list xs) (.list ys)
 | tup {xs ys} (h : all2 (gV m) xs ys = true) : SO m (.tup xs) (.tup ys)
 | aB {es ds} (h : all2 (gP m) es ds = true) : SO m (.aB es) (.aB ds)
 | aX {es ds} (h : all2 (fun x y => lA (jz x.1 y.1) (gV m x.2 y.2)) es ds = true) : SO m (.aX es) (.aX ds)
 | a5 : SO m .a5 .a5
 | bW {a b} (h : ES m.g a b = true) : SO m (.bW a) (.bW b)
 | cell {v w} (h : gC m v w = true) : SO m (.cell v) (.cell w)
 | src : SO m .src .src
 | jl {k l} (h : Nat.ble l k = true) : SO m (.jl k) (.jl l)
 | Lb {k ys} (h : Nat.ble (List.length ys) k = true) : SO m (.jl k) (.list ys)
 | ay {es ds} (h : all2 (gP m) es ds = true) : SO m (.ay es) (.ay ds)
 | Lc {es ds} (h : all2 (gP m) es (qu ds) = true) : SO m (.ay es) (.aB ds)
 | Ld : SO m (.ay []) .a5
noncomputable def Nj (m : dQ) (o p : aw) : Option (PLift (SO m o p)) := aw.rec (motive := fun o => (m : dQ) → (p : aw) → Option (PLift (SO m o p)))
 (fun c fs m p => match p with
  | .inst d gs => dp (Nat.beq c d && all2 (fun x y => lA (Nat.beq x.1 y.1) (gV m x.2 y.2)) fs gs) .inst
  | _ => none)
 (fun xs m p => match p with
  | .list ys => dp (all2 (gV m) xs ys) .list
  | _ => none)
 (fun xs m p => match p with
  | .tup ys => dp (all2 (gV m) xs ys) .tup
  | _ => none)
 (fun es m p => match p with
  | .aB ds => dp (all2 (gP m) es ds) .aB
  | _ => none)
 (fun es m p => match p with
  | .aX ds => dp (all2 (fun x y => lA (jz x.1 y.1) (gV m x.2 y.2)) es ds) .aX
  | _ => none)
 (fun m p => match p with
  | .a5 => some ⟨.a5⟩
  | _ => none)
 (fun a m p => match p with
  | .bW b => dp (ES m.g a b) .bW
  | _ => none)
 (fun v m p => match p with
  | .cell w => dp (gC m v w) .cell
  | _ => none)
 (fun J J J J J => none)
 (fun J J J J => none)
 (fun J J J J => none)
 (fun J J => none)
 (fun m p => match p with
  | .src => some ⟨.src⟩
  | _ => none)
 (fun J J J => none)
 (fun J J J => none)
 (fun J J J J => none)
 (fun k m p => match p with
  | .jl l => dp (Nat.ble l k) .jl
  | .list ys => dp (Nat.ble (List.length ys) k) .Lb
  | _ => none)
 (fun es m p => match p with
  | .ay ds => dp (all2 (gP m) es ds) .ay
  | .aB ds => dp (all2 (gP m) es (qu ds)) .Lc
  | .a5 => match es with
   | [] => some ⟨.Ld⟩
   | _ :: _ => none
  | _ => none) o m p
noncomputable def gO (m : dQ) (o p : aw) : Bool := Option.rec (motive := fun J => Bool) false (fun J => true) (Nj m o p)
inductive Md where
 | first (lim : Nat)
 | turn (d : Nat)
noncomputable def Md.ctorIdx (x : Md) : Nat := Md.casesOn (motive := fun J => Nat) x (fun J => 0) (fun J => 1)
noncomputable def gD (md : Md) (g : List GV) (vs : List VD) : VD → GV → Bool
 | .int lo hi, .int x => match bnd vs x with
  | some (l, h) => decide (lo ≤ l) && decide (h ≤ hi)
  | none => false
 | .oct, .oct _ => true
 | .any, .int _ => true
 | .lt j, .int x => match getL g j with
  | some (.int y) => (match bnd vs x with
   | some (l, _) => decide (0 ≤ l) && (match bnd vs y with
    | some (_, h) => decide (h ≤ 2147483649)
    | none => false) && (ltI vs x y == some true)
   | none => false)
  | _ => false
 | .gi s, .int x => match md with
  | .first lim => (match x with
   | .lit v => decide (0 ≤ v) && decide (v + s + lim ≤ 2147483648)
   | _ => false)
  | .turn d => (match x with
   | .va k o => (match getL vs k with
    | some (.gi s') => decide (0 ≤ o) && decide (o + s ≤ s' + d)
    | _ => false)
   | _ => false)
 | _, _ => false
noncomputable def HK (l : List Nat) (a : Nat) : Bool := List.rec (motive := fun J => Nat → Bool) (fun J => true) (fun i J ih a => Bool.rec (motive := fun J => Bool) false (ih (Nat.lor a (Nat.shiftLeft 1 i))) (Nat.beq (Nat.land (Nat.shiftRight a i) 1) 0)) l a
noncomputable def FX (l : List Nat) : Bool := HK l 0
theorem xP {l : List Nat} : ∀ {a : Nat}, HK l a = true → l.Nodup ∧ ∀ i ∈ l, a.testBit i = false := by
 induction l with
 | nil => exact fun _ => ⟨.nil, fun _ h => nomatch h⟩
 | cons i r ih =>
  intro a h
  have h : lA (Nat.beq (Nat.land (Nat.shiftRight a i) 1) 0) (HK r (Nat.lor a (Nat.shiftLeft 1 i))) = true := h
  obtain ⟨h1, h2⟩ := lG h
  obtain ⟨h3, h4⟩ := ih h2
  have h4 : ∀ j ∈ r, a.testBit j = false ∧ (1 <<< i).testBit j = false := fun j hj => Bool.or_eq_false_iff.mp ((Nat.testBit_or a (1 <<< i) j).symm.trans (h4 j hj))
  have h0 : a.testBit i = false := by
   refine (?_ : (1 &&& (a >>> i) != 0) = false)
   rw [Nat.and_comm, show (a >>> i) &&& 1 = 0 from Nat.eq_of_beq_eq_true h1]; rfl
  refine ⟨List.nodup_cons.mpr ⟨fun hm => ?_, h3⟩, fun j hj => ?_⟩
  ·have := (h4 i hm).2
   rw [Nat.one_shiftLeft, Nat.testBit_two_pow_self] at this
   cases this
  ·rcases ff hj with rfl | hj
   ·exact h0
   ·exact (h4 j hj).1
theorem kS {l : List Nat} (h : FX l = true) : l.Nodup := (xP h).1
structure LS where
 hs : List aw
 locs : List (Nat × V)
 cells : List (Nat × Nat)
 vars : List VD
noncomputable def LS.as (T : LS) : AS := { heap := Tr.yO T.hs, n := T.hs.length, locs := T.locs, cells := T.cells, vars := T.vars }
noncomputable def xQ : Nat → List VD → Bool
 | _, [] => true
 | k, .lt j :: r => Nat.blt j k && xQ (Nat.succ k) r
 | k, _ :: r => xQ (Nat.succ k) r
theorem mV {j : Nat} : ∀ {vs : List VD} {n k : Nat}, xQ n vs = true → vs[k]? = some (.lt j) → j < n + k
 | [], _, _, _, h => by cases h
 | d :: r, n, k, e, h => by
  have e2 : xQ (n + 1) r = true := by
   cases d <;> first | exact e | exact (ao e).2
  cases k with
  | zero =>
   obtain rfl := aO h
   exact Nat.blt_eq.mp (ao e).1
  | succ k =>
   have := mV (k := k) e2 h
   omega
noncomputable def cover (md : Md) (m : dQ) (A : AS) (T : LS) : Bool :=
 A.hd.isNone && FX m.f && all2 (fun o i => Option.rec (motive := fun J => Bool) false (fun p => gO m o p) (A.heap.get i)) T.hs m.f && all2 (gD md m.g A.vars) T.vars m.g && xQ (nat_lit 0) T.vars &&
 T.locs.all (fun x => Option.rec (motive := fun J => Bool) false (fun v => gV m x.2 v) (af x.1 A.locs)) && T.cells.isEmpty && A.cells.isEmpty
noncomputable def cp (c : Cfg) (m : dQ) (g : Nat) : Cfg where
 ρ := ⟨g, fun k => match getL m.g k with | some (.int x) => SI.den c.ρ x | _ => 0, fun k => (fun j => match getL m.g k with | some (.oct b) => (BS.den c.ρ b).getD j 0 | _ => 0, emptyDict)⟩
 σ := fun j => c.σ (m.f.getD j 0)
 n := m.f.length
 nv := m.g.length
theorem xR {α : Type} : ∀ (l : List α) (t : Tr α) (k i : Nat), (Tr.Ko l t k).get i = if k ≤ i ∧ i < k + l.length then l[i - k]? else t.get i
 | [], t, k, i => by refine ae (if_neg (by simp -iota only [List.length_nil]; omega)) ?_; rfl
 | a :: l, t, k, i => by
  refine (xR l (t.put k a) (k + 1) i).trans ?_
  by_cases h : k + 1 ≤ i ∧ i < k + 1 + l.length
  ·refine ae (if_pos h) ?_; refine ae (if_pos (by rw [List.length_cons]; omega)) ?_; refine ae (show i - k = (i - (k + 1)) + 1 by omega) ?_; rfl
  ·rw [if_neg h, Tr.ba]
   by_cases q : i = k
   ·subst q
    rw [if_pos rfl, if_pos (by rw [List.length_cons]; omega), Nat.sub_self]; rfl
   ·refine ae (if_neg q) ?_; refine ae (if_neg (by rw [List.length_cons]; omega)) ?_; rfl
theorem fX {α : Type} (l : List α) (i : Nat) : (Tr.yO l).get i = l[i]? := by
 have h := xR l .nil 0 i
 refine ae h ?_
 by_cases q : i < l.length
 ·refine ae (if_pos ⟨Nat.zero_le _, by omega⟩) ?_; rfl
 ·refine ae (if_neg (by omega)) ?_; refine ae (List.getElem?_eq_none (by omega)) ?_; rfl
section
variable {c : Cfg} {m : dQ} {g : Nat}
theorem BS.qw {ρ : Val} (b : BS) : BS.den ρ (BS.norm b) = BS.den ρ b := by
 induction b with
 | nil => rfl
 | cons x r ih =>
  refine (?_ : BS.den ρ (BS.cons x (BS.norm r)) = Seg.den ρ x ++ BS.den ρ r)
  rw [BS.hX, ih]
theorem iW {α : Type} {l : List α} {k : Nat} {a : α} (h : getL l k = some a) : k < l.length := (yH ((bF l k).symm.trans h)).1
theorem xS {α : Type} {l : List α} {k : Nat} {a : α} (h : l[k]? = some a) : k < l.length := (yH h).1
theorem xT {ρ : Val} {x : SI} {o : Int} : SI.den ρ (Ab x o) = SI.den ρ x + o := by
 cases x with
 | lit i => rfl
 | va k p => refine (?_ : ρ.i k + (p + o) = ρ.i k + p + o); omega
theorem vO {x y : SI} (h : FW m.g x = some y) : SI.lt (cp c m g).nv x ∧ SI.den (cp c m g).ρ x = SI.den c.ρ y := by
 cases x with
 | lit i => obtain rfl := aO h; exact ⟨trivial, rfl⟩
 | va k o =>
  obtain ⟨⟨z, hz⟩, _, h⟩ := gc h
  obtain rfl := aO h
  refine ⟨iW hz, ?_⟩
  refine (?_ : (match getL m.g k with | some (.int x) => SI.den c.ρ x | _ => 0) + o = SI.den c.ρ (Ab z o))
  refine ae hz ?_; refine ae xT ?_; rfl
theorem sR {x : Seg} {b : BS} (h : ER m.g x = some b) : Seg.lt (cp c m g).nv x ∧ Seg.den (cp c m g).ρ x = BS.den c.ρ b := by
 cases x with
 | lit l => obtain rfl := aO h; exact ⟨trivial, (List.append_nil _).symm⟩
 | rep k n =>
  obtain ⟨⟨z, hz⟩, _, h⟩ := gc h
  cases z with
  | va j p =>
   by_cases hp : AO p 0 = true
   case neg => exact no ((C8 hp).symm.trans h)
   obtain rfl := aO ((C7 hp).symm.trans h)
   cases kh hp
   refine ⟨iW hz, ?_⟩
   refine (?_ : List.replicate n (UInt8.ofNat (match getL m.g k with | some (.int x) => SI.den c.ρ x | _ => 0).toNat) = List.replicate n (UInt8.ofNat (c.ρ.i j).toNat) ++ [])
   rw [hz, List.append_nil]
   refine (?_ : List.replicate n (UInt8.ofNat (c.ρ.i j + 0).toNat) = _)
   rw [Int.add_zero]
  | lit v =>
   obtain rfl := aO h
   refine ⟨iW hz, ?_⟩
   refine (?_ : List.replicate n (UInt8.ofNat (match getL m.g k with | some (.int x) => SI.den c.ρ x | _ => 0).toNat) = List.map UInt8.ofNat (List.replicate n v.toNat) ++ [])
   rw [hz, List.append_nil, List.map_replicate]; rfl
 | ef k o n =>
  obtain ⟨⟨b', hz⟩, _, h⟩ := gc h
  by_cases hle : o + n ≤ BS.len b'
  case neg => exact no ((if_neg hle).symm.trans h)
  obtain rfl := aO ((if_pos hle).symm.trans h)
  refine ⟨iW hz, ?_⟩
  rw [BS.iM]
  refine (?_ : (List.range n).map (fun j => (match getL m.g k with | some (.oct b) => (BS.den c.ρ b).getD (o + j) 0 | _ => 0)) = List.take (o + n - o) (List.drop o (BS.den c.ρ b')))
  refine ae hz ?_
  dsimp only
  have hl : (BS.den c.ρ b').length = BS.len b' := BS.bq _
  refine List.ext_getElem ?_ fun i h1 h2 => ?_
  ·rw [List.length_map, List.length_range, List.length_take, List.length_drop, hl, Nat.add_sub_cancel_left, Nat.min_eq_left (Nat.le_sub_of_add_le (Nat.add_comm n o ▸ hle))]
  ·rw [List.length_map, List.length_range] at h1
   rw [List.getElem_map, List.getElem_range, List.getElem_take, List.getElem_drop, List.getD_eq_getElem?_getD, List.getElem?_eq_getElem (hl ▸ Nat.lt_of_lt_of_le (Nat.add_lt_add_left h1 o) hle)]; rfl
 | be k o n a mm =>
  obtain ⟨⟨z, hz⟩, _, h⟩ := gc h
  cases z with
  | va j p =>
   obtain rfl := aO h
   refine ⟨iW hz, ?_⟩
   refine (?_ : (List.range mm).map (fun i => lD n ((match getL m.g k with | some (.int x) => SI.den c.ρ x | _ => 0) + o).toNat (a + i)) = (List.range mm).map (fun i => lD n (c.ρ.i j + (p + o)).toNat (a + i)) ++ [])
   rw [hz, List.append_nil]
   refine (?_ : (List.range mm).map (fun i => lD n (c.ρ.i j + p + o).toNat (a + i)) = _)
   rw [Int.add_assoc]
  | lit v =>
   obtain rfl := aO h
   refine ⟨iW hz, ?_⟩
   refine (?_ : (List.range mm).map (fun i => lD n ((match getL m.g k with | some (.int x) => SI.den c.ρ x | _ => 0) + o).toNat (a + i)) = List.map UInt8.ofNat ((List.range mm).map fun j => (v + o).toNat / 256 ^ (n - 1 - (a + j)) % 256) ++ [])
   rw [hz, List.append_nil, List.map_map]; rfl
theorem vP {x : BS} {b : BS} : HJ m.g x = some b → BS.lt (cp c m g).nv x ∧ BS.den (cp c m g).ρ x = BS.den c.ρ b := by
 induction x generalizing b with
 | nil => intro h; obtain rfl := aO h; exact ⟨trivial, rfl⟩
 | cons x r ih =>
  intro h
  obtain ⟨a, ha, h⟩ := gc h
  obtain ⟨d, hd, h⟩ := gc h
  obtain rfl := aO h
  have h1 := sR (c := c) (g := g) ha
  have h2 := ih hd
  refine ⟨⟨h1.1, h2.1⟩, ?_⟩
  rw [BS.fR]
  refine (?_ : Seg.den _ x ++ BS.den _ r = _)
  refine ae h1.2 ?_; refine ae h2.2 ?_; rfl
theorem iq {a b : BS} (h : ES m.g a b = true) : BS.lt (cp c m g).nv a ∧ BS.den (cp c m g).ρ a = BS.den c.ρ b := by
 delta ES at h
 cases hx : HJ m.g a with
 | none => rw [hx] at h; exact bf h
 | some x =>
  rw [hx] at h
  have h1 := vP (c := c) (g := g) hx
  refine ⟨h1.1, ?_⟩
  rw [h1.2, ← BS.qw x, tJ h, BS.qw]
theorem CN {j i : Nat} (h : m.f[j]? = some i) : j < (cp c m g).n ∧ (cp c m g).σ j = c.σ i :=
 ⟨xS h, by refine (?_ : c.σ (m.f.getD j 0) = _); refine ae (List.getD_eq_getElem?_getD) ?_; refine ae h ?_; rfl⟩
theorem EU {m : dQ} {x y : SI} (h : gI m x y = true) : FW m.g x = some y := by
 delta gI at h
 cases q : FW m.g x with
 | none => rw [q] at h; exact bf h
 | some z =>
  rw [q] at h
  have h : ET z y = true := h
  cases z with
  | lit a => cases y with
   | lit b => cases kh h; rfl
   | va => exact bf h
  | va k o => cases y with
   | lit b => exact bf h
   | va j p => cases Nat.eq_of_beq_eq_true (lG h).1; cases kh (lG h).2; rfl
theorem EV {m : dQ} {j i : Nat} (h : gF m j i = true) : m.f[j]? = some i := by
 delta gF at h
 rw [bF] at h
 cases q : m.f[j]? with
 | none => rw [q] at h; exact bf h
 | some k => rw [q] at h; cases Nat.eq_of_beq_eq_true h; rfl
theorem dM {v v' : V} {u : Value} (h : gV m v' v = true) (r : VR c v u) : VR (cp c m g) v' u := by
 cases v' with
 | bb => exact r.handed
 | none =>
  cases v <;> first | exact bf h | exact r
 | bool a =>
  cases v <;> first | exact bf h | skip
  have e : a = b := by cases a <;> cases b <;> first | exact bf h | rfl
  subst e; exact r
 | int x =>
  cases v <;> first | exact bf h | skip
  obtain ⟨_, t, rfl⟩ := r
  have := vO (c := c) (g := g) (EU h)
  exact ⟨this.1, t, by refine ae this.2 ?_; rfl⟩
 | str a =>
  cases v <;> first | exact bf h | skip
  cases cW.mp h; exact r
 | bytes a =>
  cases v <;> first | exact bf h | skip
  obtain ⟨_, t, rfl⟩ := r
  have := iq (c := c) (g := g) h
  exact ⟨this.1, t, by refine ae this.2 ?_; rfl⟩
 | loc j =>
  cases v <;> first | exact bf h | skip
  obtain ⟨_, rfl⟩ := r
  have := CN (c := c) (g := g) (EV h)
  exact ⟨this.1, by refine ae this.2 ?_; rfl⟩
 | fn => exact bf h
 | cls => exact bf h
 | ty => exact bf h
 | bi => exact bf h
theorem CP {α β : Type} {p : α → β → Bool} {a : α} {b : β} {l : List α} {k : List β} (h : all2 p (a :: l) (b :: k) = true) : p a b = true ∧ all2 p l k = true := lG (a := p a b) (b := all2 p l k) h
theorem cJ {α β γ : Type} {p : α → β → Bool} {R : β → γ → Prop} {R' : α → γ → Prop} (hp : ∀ a b u, p a b = true → R b u → R' a u) : ∀ {l : List α} {k : List β} {us : List γ}, all2 p l k = true → aS R k us → aS R' l us
 | [], k, us, h, r => by
  cases k with
  | nil => refine ae r.nil_inv ?_; exact .nil
  | cons => exact bf h
 | a :: l, k, us, h, r => by
  cases k with
  | nil => exact bf h
  | cons b k =>
   obtain ⟨u, us, rfl, r, t⟩ := r.cons_inv
   exact .cons (hp _ _ _ (CP h).1 r) (cJ hp (CP h).2 t)
theorem jF {α β : Type} {p : α → β → Bool} : ∀ {l : List α} {k : List β} {i : Nat} {a : α}, all2 p l k = true → l[i]? = some a → ∃ b, k[i]? = some b ∧ p a b = true
 | [], _, _, _, _, e => by cases e
 | _ :: _, [], _, _, h, _ => by cases h
 | a :: l, b :: k, i, x, h, e => by
  obtain ⟨h1, h2⟩ := CP h
  cases i with
  | zero => obtain rfl := aO e; exact ⟨b, rfl, h1⟩
  | succ i =>
   have q := jF h2 (show l[i]? = some x from e)
   exact q
theorem fJ {α β : Type} {p : α → β → Bool} : ∀ {l : List α} {k : List β}, all2 p l k = true → l.length = k.length
 | [], [], _ => rfl
 | [], _ :: _, h => by cases h
 | _ :: _, [], h => by cases h
 | _ :: _, _ :: _, h => by refine ae List.length_cons ?_; refine ae List.length_cons ?_; refine ae (fJ (CP h).2) ?_; rfl
variable {Z : aL}
theorem xU {v v' : Option V} {u : Option Value} (e : gC m v' v = true) (r : yZ c v u) : yZ (cp c m g) v' u := by
 cases v with
 | none => cases v' with
  | none => cases u <;> exact r
  | some a => exact bf e
 | some b => cases v' with
  | none => exact bf e
  | some a => cases u with
   | none => exact r.elim
   | some u => exact dM e r
theorem empty_dict {o : Obj} {ep : Nat} (h : o.ExactDict) (hd : o.data = .dict #[] ep) : o.IsDictOf (intKind Z.prog Z.w) [] := ⟨#[], ep, h, hd, fun J q => (by simp at q), .nil, List.nodup_nil⟩
theorem mW (x : Int × V) : ∀ l : List (Int × V), (Ad x l).Perm (x :: l)
 | [] => .refl _
 | y :: r => by
  dsimp only [Ad]
  split
  ·exact .refl _
  ·exact ((mW x r).cons y).trans (.swap x y r)
theorem kT : ∀ l : List (Int × V), (qu l).Perm l
 | [] => .nil
 | x :: r => (mW x _).trans ((kT r).cons x)
theorem mX {α β : Type} {p : α → β → Bool} {k k' : List β} (h : k.Perm k') : ∀ {l : List α}, all2 p l k = true → ∃ l', l'.Perm l ∧ all2 p l' k' = true := by
 induction h with
 | nil => exact fun {l} e => ⟨l, .refl _, e⟩
 | cons x _ ih =>
  intro l e
  cases l with
  | nil => cases e
  | cons a l =>
   refine (CP e).elim fun h1 h2 => ?_
   refine (ih h2).elim fun l' aj => (aj).elim fun q1 q2 => ?_
   exact ⟨a :: l', q1.cons a, by refine (?_ : lA (p _ _) (all2 p _ _) = true); refine ae h1 ?_; refine ae q2 ?_; rfl⟩
 | swap x y r =>
  intro l e
  cases l with
  | nil => cases e
  | cons a l =>
   refine (CP e).elim fun h1 h2 => ?_
   cases l with
   | nil => cases h2
   | cons b l =>
    refine (CP h2).elim fun h2 h3 => ?_
    exact ⟨b :: a :: l, .swap a b l, by refine (?_ : lA (p _ _) (lA (p _ _) (all2 p _ _)) = true); refine ae h1 ?_; refine ae h2 ?_; refine ae h3 ?_; rfl⟩
 | trans _ _ Nk Nm =>
  intro l e
  refine (Nk e).elim fun l1 aj => (aj).elim fun q1 q2 => ?_
  refine (Nm q2).elim fun l2 aj => (aj).elim fun q3 q4 => ?_
  exact ⟨l2, q3.trans q1, q4⟩
theorem kU : ∀ (a b : Int × V) (u : Int × Value), gP m a b = true → u.1 = b.1 ∧ VR c b.2 u.2 → u.1 = a.1 ∧ VR (cp c m g) a.2 u.2 := fun J J J hp hr => ⟨hr.1.trans (kh (lG hp).1).symm, dM (lG hp).2 hr.2⟩
theorem Nn {P : Prop} {o : Option (PLift P)} (h : Option.rec (motive := fun J => Bool) false (fun J => true) o = true) : o.isSome = true := by
 cases o with
 | none => exact bf h
 | some => rfl
theorem xV {h : Heap} {i j : Nat} {o o' : aw} (e : gO m o' o = true) (hj : m.f[j]? = some i) (r : br Z c h i o) : br Z (cp c m g) h j o' := by
 refine (?_ : wR Z (cp c m g) h ((cp c m g).σ j) o')
 refine ae ((CN (c := c) (g := g) hj).2) ?_
 have r : wR Z c h (c.σ i) o := r
 replace e := dH (Nn e)
 induction e with
 | inst e =>
  refine (ao e).elim fun e1 e2 => ?_
  cases Nat.eq_of_beq_eq_true e1
  obtain ⟨h1, ⟨k, hk, Np, hf⟩, es, n, h2, h3⟩ := r
  refine ⟨h1, ⟨k, hk, Np, fun f Ee => ?_⟩, es, n, h2, cJ (fun a b u hp hr => ?_) e2 h3⟩
  ·obtain ⟨q, hq, rfl⟩ := List.mem_iff_getElem.mp Ee
   refine (jF e2 (List.getElem?_eq_getElem hq)).elim fun b aj => (aj).elim fun hb hp => ?_
   refine ae (Nat.eq_of_beq_eq_true (lG hp).1) ?_
   exact hf b (List.mem_of_getElem? hb)
  ·refine (lG hp).elim fun p1 p2 => ?_
   refine (hr).elim fun aj hr => (aj).elim fun t ht => ?_
   exact ⟨⟨t, by refine ae (Nat.eq_of_beq_eq_true p1) ?_; exact ht⟩, dM p2 hr⟩
 | list e => exact by obtain ⟨vs, ep, h1, h2⟩ := r; exact ⟨vs, ep, h1, cJ (R := VR c) (R' := VR (cp c m g)) (fun J J J hp hr => dM hp hr) e h2⟩
 | tup e => exact by refine (r).elim fun vs aj => (aj).elim fun h1 h2 => ?_; exact ⟨vs, h1, cJ (R := VR c) (R' := VR (cp c m g)) (fun J J J hp hr => dM hp hr) e h2⟩
 | aB e => exact by obtain ⟨ob, aF, h1, h2, h3⟩ := r; exact ⟨ob, aF, h1, h2, cJ kU e h3⟩
 | aX e => exact by obtain ⟨ob, aF, h1, h2, h3⟩ := r; exact ⟨ob, aF, h1, h2, cJ (fun a b J hp hr => ⟨hr.1.trans (by refine ae (cW.mp (lG hp).1) ?_; rfl), dM (lG hp).2 hr.2⟩) e h3⟩
 | a5 => exact r
 | bW e =>
  have := iq (c := c) (g := g) e
  exact ⟨this.1, by refine ae this.2 ?_; exact r.2⟩
 | cell e => exact by refine (r).elim fun u aj => (aj).elim fun h1 h2 => ?_; exact ⟨u, h1, xU e h2⟩
 | src => exact r
 | Lb e => exact by obtain ⟨vs, ep, h1, h2⟩ := r; exact ⟨vs, ep, h1, by refine bK Array.length_toList ?_; refine bK h2.length ?_; exact Nat.le_of_ble_eq_true e⟩
 | jl e => exact by refine (r).elim fun vs aj => (aj).elim fun ep ax => (ax).elim fun h1 h2 => ?_; exact ⟨vs, ep, h1, Nat.le_trans h2 (Nat.le_of_ble_eq_true e)⟩
 | ay e =>
  obtain ⟨fs, ob, aF, h1, h2, h3, h4⟩ := r
  refine (mX h3.symm e).elim fun HL aj => (aj).elim fun p1 p2 => ?_
  exact ⟨HL, ob, aF, h1, h2, p1, cJ kU p2 h4⟩
 | @Lc es ds e =>
  obtain ⟨ob, aF, h1, h2, h3⟩ := r
  refine (mX (kT ds) e).elim fun HL aj => (aj).elim fun p1 p2 => ?_
  exact ⟨HL, ob, aF, h1, h2, p1, cJ kU p2 h3⟩
 | Ld => exact by refine (r).elim fun ob aj => (aj).elim fun h1 ax => (ax).elim fun h2 aP => (aP).elim fun ep h3 => ?_; exact ⟨[], ob, [], h1, empty_dict h2 h3, .nil, .nil⟩
def EW (md : Md) (c : Cfg) (g : Nat) : Prop := match md with
 | .first lim => g ≤ lim
 | .turn d => g + d ≤ c.ρ.g
set_option tactic.hygienic true in
theorem xW {md : Md} {vs : List VD} (hv : ∀ k d, vs[k]? = some d → VD.ok c.ρ k d) {d : VD} {k : Nat} {x : GV} (FY : EW md c g) (fh : ∀ j, d = .lt j → j < k) (e : gD md m.g vs d x = true) (hk : getL m.g k = some x) : VD.ok (cp c m g).ρ k d := by
 cases d with
 | int lo hi =>
  cases x with
  | oct b => cases e
  | int z =>
  dsimp only [gD] at e
  split at e <;> first | (cases e; done) | skip
  rename_i l h hb
  refine (ao e).elim fun e1 e2 => ?_
  have h1 := dw hv hb
  have e1 := of_decide_eq_true e1
  have e2 := of_decide_eq_true e2
  have cP : (cp c m g).ρ.i k = SI.den c.ρ z := by refine (?_ : (match getL m.g k with | some (.int x) => SI.den c.ρ x | _ => 0) = _); refine ae hk ?_; rfl
  refine (?_ : lo ≤ (cp c m g).ρ.i k ∧ (cp c m g).ρ.i k < hi)
  refine ae cP ?_
  omega
 | oct => trivial
 | any => trivial
 | lt j =>
  cases x with
  | oct b => cases e
  | int z =>
  dsimp only [gD] at e
  cases hj : getL m.g j with
  | none => rw [hj] at e; cases e
  | some y => cases y with
   | oct b => rw [hj] at e; cases e
   | int y =>
   rw [hj] at e
   cases hb : bnd vs z with
   | none => rw [hb] at e; cases e
   | some p =>
   rw [hb] at e
   refine (ao e).elim fun e e3 => ?_
   refine (ao e).elim fun e1 e2 => ?_
   have h1 := dw hv hb
   have e1 := of_decide_eq_true e1
   cases Cj : bnd vs y with
   | none => rw [Cj] at e2; cases e2
   | some p2 =>
   rw [Cj] at e2
   have h2 := dw hv Cj
   have e2 := of_decide_eq_true e2
   have h3 := of_decide_eq_true (nP hv (iB e3))
   have hi : (cp c m g).ρ.i k = SI.den c.ρ z := by refine (?_ : (match getL m.g k with | some (.int x) => SI.den c.ρ x | _ => 0) = _); refine ae hk ?_; rfl
   have cP : (cp c m g).ρ.i j = SI.den c.ρ y := by refine (?_ : (match getL m.g j with | some (.int x) => SI.den c.ρ x | _ => 0) = _); refine ae hj ?_; rfl
   refine ⟨?_, ?_⟩
   ·exact fh j rfl
   ·refine ae hi ?_; refine ae cP ?_; omega
 | gi s =>
  cases x with
  | oct b => cases e
  | int z =>
  dsimp only [gD] at e
  have hi : (cp c m g).ρ.i k = SI.den c.ρ z := by refine (?_ : (match getL m.g k with | some (.int x) => SI.den c.ρ x | _ => 0) = _); refine ae hk ?_; rfl
  refine (?_ : 0 ≤ (cp c m g).ρ.i k ∧ (cp c m g).ρ.i k + s + g ≤ 2147483648)
  refine ae hi ?_
  cases md with
  | first lim =>
   have hg : g ≤ lim := FY
   cases z with
   | va => cases e
   | lit v =>
    refine (ao e).elim fun e1 e2 => ?_
    have e1 := of_decide_eq_true e1
    have e2 := of_decide_eq_true e2
    refine (?_ : 0 ≤ v ∧ v + s + g ≤ 2147483648)
    omega
  | turn d =>
   have hg : g + d ≤ c.ρ.g := FY
   cases z with
   | lit v => cases e
   | va j o =>
    dsimp only at e
    cases hj : getL vs j with
    | none => rw [hj] at e; cases e
    | some y =>
     rw [hj] at e
     cases y <;> first | (cases e; done) | skip
     rename_i s'
     refine (ao e).elim fun e1 e2 => ?_
     have e1 := of_decide_eq_true e1
     have e2 := of_decide_eq_true e2
     have h1 : 0 ≤ c.ρ.i j ∧ c.ρ.i j + s' + c.ρ.g ≤ 2147483648 := hv j _ ((bF vs j).symm.trans hj)
     refine (?_ : 0 ≤ c.ρ.i j + o ∧ c.ρ.i j + o + s + g ≤ 2147483648)
     omega
theorem bB {α : Type} {x : Nat} {v : α} : ∀ {l : List (Nat × α)}, af x l = some v → (x, v) ∈ l
 | [], h => by cases h
 | p :: r, h => by
  rw [aK] at h
  by_cases e : p.1 = x
  ·rw [if_pos e] at h
   refine bK e ?_; refine bK (aO h) ?_; exact .head _
  ·rw [if_neg e] at h
   exact .tail _ (bB h)
theorem aR.flat {sc : cA} {L : Nat} {cs : Fm} {env : Env} {c' : Cfg} (h : cs.cs = []) (N : aR Z sc c L cs env) : aR Z sc c' L cs env :=
 ⟨N.kind, N.names, N.locals, N.globals, N.builtins, N.top, N.has, N.fr, N.code, fun x i hx hi => by rw [h] at hi; cases hi⟩
theorem jn {L : Nat} {cs : Fm} {md : Md} {A : AS} {T : LS} {s : Shared} (FY : EW md c g) (e : cover md m A T = true) (H : St Z L cs c A s) :
 St Z L cs (cp c m g) T.as s ∧ (∀ {sc env}, aR Z sc c L cs env → aR Z sc (cp c m g) L cs env) ∧ ∀ j, j < (cp c m g).n → ∃ i, i < c.n ∧ (cp c m g).σ j = c.σ i := by
 delta cover at e
 refine (ao e).elim fun e e6 => ?_
 refine (ao e).elim fun e e5 => ?_
 refine (ao e).elim fun e e4 => ?_
 refine (ao e).elim fun e e7 => ?_
 refine (ao e).elim fun e e3 => ?_
 refine (ao e).elim fun e e2 => ?_
 refine (ao e).elim fun e0 e1 => ?_
 have e1 := kS e1
 have e5 : T.cells = [] := te e5
 have e6 : cs.cs = [] := H.cells.symm.trans (te e6)
 have e0 : A.hd = none := yF e0
 rw [List.all_eq_true] at e4
 have EX := fJ e2
 have obj : ∀ j o, T.as.heap.get j = some o → ∃ i p, m.f[j]? = some i ∧ A.heap.get i = some p ∧ gO m o p = true := fun j o h => by
  have h : (Tr.yO T.hs).get j = some o := h
  rw [fX] at h
  refine (jF e2 h).elim fun i aj => (aj).elim fun hi hp => ?_
  cases hg : A.heap.get i with
  | none => rw [hg] at hp; cases hp
  | some p => rw [hg] at hp; exact ⟨i, p, hi, hg, hp⟩
 have xX : ∀ j, j < (cp c m g).n → ∃ i, m.f[j]? = some i ∧ i < c.n ∧ (cp c m g).σ j = c.σ i := fun j hj => by
  have hj : j < m.f.length := hj
  refine (obj j (T.hs[j]'(EX ▸ hj)) (by refine (?_ : (Tr.yO T.hs).get j = _); rw [fX, List.getElem?_eq_getElem])).elim fun i aj => (aj).elim fun p ax => (ax).elim fun h1 aP => (aP).elim fun h2 _ => ?_
  exact ⟨i, h1, H.lt i p h2, (CN (c := c) (g := g) h1).2⟩
 have hp : Hp Z (cp c m g) T.as s := by
  refine ⟨H.base, H.gens, H.os, EX.symm, (fJ e3).symm, fun k d hd => ?_, fun j o ho => ?_, fun j o ho => ?_, fun j hj => ?_, fun j hj => ?_, fun j k hj hk rG => ?_⟩
  ·refine (jF e3 hd).elim fun x aj => (aj).elim fun hx hp => ?_
   exact xW H.vars FY (fun j q => by have h := mV (n := 0) e7 (q ▸ hd); rwa [Nat.zero_add] at h) hp ((bF _ _).trans hx)
  ·refine (obj j o ho).elim fun i aj => (aj).elim fun p ax => (ax).elim fun h1 aP => (aP).elim fun h2 h3 => ?_
   exact xV h3 h1 (H.objs i p h2)
  ·refine (obj j o ho).elim fun i aj => (aj).elim fun p ax => (ax).elim fun h1 aP => (aP).elim fun h2 h3 => ?_
   exact xS h1
  ·refine (xX j hj).elim fun i aj => (aj).elim fun _ ax => (ax).elim fun hi hs => ?_
   refine ae hs ?_; exact H.lo i hi
  ·refine (xX j hj).elim fun i aj => (aj).elim fun _ ax => (ax).elim fun hi hs => ?_
   refine ae hs ?_; exact H.up i hi
  ·refine (xX j hj).elim fun i aj => (aj).elim fun hf ax => (ax).elim fun hi hs => ?_
   obtain ⟨i', Ee, cP, jw⟩ := xX k hk
   refine ae hs ?_; refine ae jw ?_
   refine H.apart i i' hi cP fun q => rG ?_
   subst q
   refine (yH hf).elim fun q1 q2 => ?_
   refine (yH Ee).elim fun q3 q4 => ?_
   exact (List.getElem_inj e1).mp (q2.trans q4.symm)
 have hh : cs.hd = none := by
  have := H.hd
  rw [e0] at this
  cases q : cs.hd with
  | none => rfl
  | some x => rw [q] at this; exact this.elim
 refine ⟨⟨hp, ⟨H.oS, H.bw, fun j hj => ?_, ?_⟩, e5.trans e6.symm, by refine ae hh ?_; trivial, fun b hb => ?_, H.tabs⟩, fun {sc env} N => N.flat e6, fun j hj => ?_⟩
 ·obtain ⟨i, _, hi, hs⟩ := xX j hj
  refine ae hs ?_; exact H.off i hi
 ·refine (H.ns).elim fun mm aj => (aj).elim fun h1 h2 => ?_
  refine ⟨mm, h1, fun x v hv => ?_⟩
  have := e4 _ (bB hv)
  dsimp -iota only at this
  cases hw : af x A.locs with
  | none => rw [hw] at this; cases this
  | some w =>
   rw [hw] at this
   refine (h2 x w hw).elim fun u aj => (aj).elim fun z1 z2 => ?_
   exact ⟨u, z1, dM this z2⟩
 ·refine (H.outs b hb).elim fun h1 aj => (aj).elim fun h2 h3 => ?_
  refine ⟨h1, h2, fun j hj => ?_⟩
  refine (xX j hj).elim fun i aj => (aj).elim fun _ ax => (ax).elim fun hi hs => ?_
  refine ae hs ?_; exact h3 i hi
 ·refine (xX j hj).elim fun i aj => (aj).elim fun _ ax => (ax).elim fun hi hs => ?_
  exact ⟨i, hi, hs⟩
end
end aD
end
section
open PySem PySem.Calls PyProof.Rows PySem.W PySem.SeqAt PySem.Builtin
set_option maxRecDepth 100000
namespace aD
structure xY (Z : aL) (s' : Shared) : Prop where
 base : ∀ b o, Z.h₀.get? b = some o → s'.heap.get? b = some o
 os : s'.os = Z.tC
 gens : s'.gens = #[]
 tabs : ∀ P ∈ Z.tabs, TabAt s'.heap P
def Goes (Z : aL) (Ar : Around) (sc : cA) (L : Nat) (cs : Fm) (env : Env) (b : List Stmt) (A : AS) : Prop :=
 ∀ c s, St Z L cs c A s → aR Z sc c L cs env → bt Z.M Ar (execs b env) (fun fl s' => fl = .ret (.bool true) ∧ xY Z s') (fun J J => False) s
section
variable {Z : aL} {n : Nat} {ih : bM} {L : Nat} {cs : Fm} {Ar : Around} {c c' : Cfg} {A A' : AS} {s s' : Shared} {env : Env} {sc : cA} {m : Nat} {b : List Stmt} {x : Stmt}
theorem St.ended (H : St Z L cs c A s) : xY Z s := ⟨H.base, H.os, H.gens, H.tabs⟩
noncomputable def After (P : AS → Prop) : Except Nat Fl × AS → Prop
 | (.ok .next, A) => P A
 | (.ok (.ret (.bool true)), _) => True
 | _ => False
theorem After.ret {P Q : AS → Prop} {v : V} (h : After P (.ok (.ret v), A)) : After Q (.ok (.ret v), A) := by
 cases v with
 | bool t => cases t <;> exact h
 | _ => exact h
theorem vQ (hf : env.frame = some L) (I : aC Z n ih) (hn : Room n Ar cs) {st : S} (he : cG Z.nm m sc st x = true) {l : bC Fl} (e : ih.s st A = some l) (h : ∀ r ∈ l.list, After (Goes Z Ar sc L cs env b) r) : Goes Z Ar sc L cs env (x :: b) A := fun c s H N => by
 refine aa (az (I.s he hf hn H N l e) (fun fl s1 q => ?_) fun ev s1 q => ?_)
 ·obtain ⟨fa, A1, c1, m1, a0, H1, r1⟩ := q
  have := h _ m1
  cases fa with
  | next => subst r1; exact this c1 s1 H1 (N.mono a0.grown)
  | ret v =>
   obtain ⟨w, rfl, hw⟩ := r1
   cases v with
   | bool t =>
    cases t with
    | true => subst hw; exact aq ⟨rfl, H1.ended⟩
    | false => exact this.elim
   | _ => exact this.elim
  | brk => exact this.elim
  | cont => exact this.elim
 ·obtain ⟨i, A1, c1, m1, _⟩ := q
  exact (h _ m1).elim
set_option backward.match.sparseCases false in
theorem kV (hf : env.frame = some L) (I : aC Z n ih) (hn : Room n Ar cs) {ss : List S} {xs : List Stmt} (he : encL (cG Z.nm m sc) ss xs = true) {l : bC Fl} (e : aW ih ss A = some l) (h : ∀ r ∈ l.list, After (Goes Z Ar sc L cs env b) r) : Goes Z Ar sc L cs env (xs ++ b) A := by
 induction ss generalizing xs A l with
 | nil => cases xs with
  | nil => obtain rfl := aO e; exact h _ (.head _)
  | cons => cases he
 | cons st ss GC => cases xs with
  | nil => cases he
  | cons x xs =>
   obtain ⟨h1, h2⟩ : cG Z.nm m sc st x = true ∧ encL (cG Z.nm m sc) ss xs = true := ao he
   have e : Res.bind (ih.s st A) (Kr (aW ih ss)) = some l := e
   refine (eF e).elim fun l0 aj => (aj).elim fun Bk ax => (ax).elim fun q1 q2 => ?_
   refine vQ hf I hn h1 Bk fun r hr => ?_
   obtain ⟨fa, A1⟩ := r
   cases fa with
   | error i => exact (h _ (q2 i A1 hr)).elim
   | ok f =>
    obtain ⟨r', y1, y2⟩ := q1 f A1 hr
    cases f with
    | next => exact GC h2 y1 fun r hr => h r (y2 r hr)
    | brk => obtain rfl := aO y1; exact h _ (y2 _ (.head _))
    | cont => obtain rfl := aO y1; exact h _ (y2 _ (.head _))
    | ret v => obtain rfl := aO y1; exact (h _ (y2 _ (.head _))).ret
theorem mY {env : Env} : ∀ (xs : List Stmt) {ys : List Stmt}, execs (xs ++ ys) env = execs xs env >>= fun (f : Flow) => (match f with | .next => execs ys env | f => pure f)
 | [], ys => by
  refine (?_ : execs ys env = ((pure Flow.next : Sem Flow) >>= _))
  rw [pure_bind]
 | x :: xs, ys => by
  refine (?_ : (exec x env >>= _) = ((exec x env >>= _) >>= _))
  rw [bind_assoc]
  refine congrArg _ (funext fun f => ?_)
  cases f with
  | next => exact mY xs
  | _ => simp only [pure_bind]
def iX (ih : bM) (bs : List S) (d : Nat) (M : List LS) (A : AS) : Prop := 0 < A.vars.length ∧ ∃ lb, aW ih bs A = some lb ∧ ∀ r ∈ lb.list, ∃ A1 T mp, r = (.ok .next, A1) ∧ T ∈ M ∧ cover (.turn d) mp A1 T = true
set_option tactic.hygienic true in
theorem qx (hf : env.frame = some L) (I : aC Z n ih) (hn : Room n Ar cs) {bs : List S} {body : List Stmt} (hb : encL (cG Z.nm m sc) bs body = true) {d g : Nat} {M : List LS} (P : iX ih bs d M A) (hg : c.ρ.g = g + d) (H : St Z L cs c A s) (N : aR Z sc c L cs env) {a : Addr} {o : Obj} (CQ : a ≠ L)
 (ho : s.heap.get? a = some o) (hd : ∀ es ep, o.data ≠ .dict es ep) (hs : ¬ dF o) (ej : ∀ i, i < c.n → a ≠ (c.σ i).1 ∧ a ≠ (c.σ i).2) {Q : Flow → Shared → Prop} {E : Value → Shared → Prop}
 (k : ∀ c' s' T, T ∈ M → c'.ρ.g = g → St Z L cs c' T.as s' → aR Z sc c' L cs env → s'.heap.get? a = some o → (∀ i, i < c'.n → a ≠ (c'.σ i).1 ∧ a ≠ (c'.σ i).2) → Q .next s') : bt Z.M Ar (execs body env) Q E s := by
 refine (P).elim fun hv aj => (aj).elim fun lb ax => (ax).elim fun Nq hr => ?_
 refine az (bN I hf hn bs hb H N lb Nq) (fun fl s3 q => Classical.byContradiction fun bad => ?_) fun e s3 q => ?_
 ·obtain ⟨fa, A3, c3, m3, dY, H3, f3⟩ := q
  obtain ⟨A4, T, mp, e4, hT, CS⟩ := hr _ m3
  cases e4
  subst f3
  have HM : g + d ≤ c3.ρ.g := by
   have : c3.ρ.g = c.ρ.g := (dY.ρ 0 (by refine ae H.nv ?_; exact hv)).2.2
   refine ae this ?_; refine ae hg ?_; exact Nat.le_refl _
  refine (jn (g := g) (md := .turn d) HM CS H3).elim fun H5 aj => (aj).elim fun N5 xX => ?_
  have hit : ∀ i, i < c3.n → a ≠ (c3.σ i).1 ∧ a ≠ (c3.σ i).2 := fun i hi => by
   by_cases q : i < c.n
   ·refine ae (dY.σ i q) ?_; exact ej i q
   ·have := dY.new i (Nat.le_of_not_lt q) hi
    exact ⟨Has.ne ⟨_, ho⟩ this.1, Has.ne ⟨_, ho⟩ this.2⟩
  refine (dY.keep a o ho CQ ej).elim fun o' aj => (aj).elim fun e' w => ?_
  rw [w.same hd hs] at e'
  refine bad (k _ s3 T hT rfl H5 (N5 (N.mono dY.grown)) e' fun j hj => ?_)
  refine (xX j hj).elim fun i aj => (aj).elim fun hi hs => ?_
  refine ae hs ?_; exact hit i hi
 ·obtain ⟨i, A3, c3, m3, _⟩ := q
  refine (hr _ m3).elim fun A4 aj => (aj).elim fun A5 ax => (ax).elim fun mp aP => (aP).elim fun e4 _ => ?_
  cases e4
theorem xZ (hf : env.frame = some L) (hh : Ar.handled = none) (G : Z.Glob) (P : bY Z) (P2 : bQ Z) (I : aC Z n ih) (h1 : 1 ≤ n) (hn : Room n Ar cs) {kW S₁ : List LS} {t : Nat} {id : Str} {tp : Pos} {b1 b2 : List S} {tX tY : List Stmt} {a : Addr} {st : Int} (hF : g8 Z.nm sc [t] (.Name id tp) = true)
 (Nr : encL (cG Z.nm m sc) b1 tX = true) (Cj : encL (cG Z.nm m sc) b2 tY = true)
 (qo : ∀ T ∈ kW, af t T.locs = none ∧ iX ih b1 1 S₁ T.as) (CT : ∀ T ∈ S₁, iX ih b2 0 kW T.as) (Dr : Z.h₀.get? a = none) (CQ : a ≠ L) : ∀ (k : Nat) {T : LS} {c : Cfg} {s : Shared} {x0 : Int}, T ∈ kW → c.ρ.g = k → St Z L cs c T.as s → aR Z sc c L cs env →
 IsRangeIter s.heap a x0 (k : Int) st → (∀ i, i < c.n → a ≠ (c.σ i).1 ∧ a ≠ (c.σ i).2) →
 bj Z.M Ar (.forLoop (.Name id tp) (.ref a) (tX ++ tY) [] env) (fun r s' => match r with | .ok .next => ∃ T' c', T' ∈ kW ∧ St Z L cs c' T'.as s' ∧ aR Z sc c' L cs env | _ => False) s := by
 intro k
 induction k with
 | zero =>
  intro T c s x0 hi hg H N hit ej
  refine aZ rfl ?_
  refine (?_ : bt Z.M Ar ((forTurn (.Name id tp) (.ref a) (tX ++ tY) [] env).onRaise _) _ _ s)
  refine aT (az (E := fun J J => False) ?_ (fun J J q => q) fun J J f => f.elim)
  refine aa (aY (aa (aT ?_)))
  refine .of (wpAny_pyNext_range_end hh hit (Int.le_refl 0) fun h' hs => ?_)
  have hk : ∀ b o, s.heap.get? b = some o → b ≠ a → h'.get? b = some o := fun b o e q => hs b o q e
  have O : Own L c { s with heap := Z.h₀ } a := ⟨Dr, CQ, ej⟩
  have it : Iter s a := .of hit rfl (by decide) rfl
  exact aq ⟨rfl, fc ⟨T, c, hi, H.eJ (s' := { s with heap := h' }) it.qh (it.out H) hk rfl rfl Dr O, N⟩⟩
 | succ k IH =>
  intro T c s x0 hi hg H N hit ej
  refine aZ rfl ?_
  refine (?_ : bt Z.M Ar ((forTurn (.Name id tp) (.ref a) (tX ++ tY) [] env).onRaise _) _ _ s)
  refine aT (az (E := fun J J => False) ?_ (fun J J q => q) fun J J f => f.elim)
  refine aa (aY (aa (aT ?_)))
  refine .of (wpAny_pyNext_range_item hit (Int.ofNat_lt.mpr (Nat.succ_pos k)) fun h' g hs => ?_)
  have hk : ∀ b o, s.heap.get? b = some o → b ≠ a → h'.get? b = some o := fun b o e q => (hs.2 b q).trans e
  have O : Own L c { s with heap := Z.h₀ } a := ⟨Dr, CQ, ej⟩
  have it : Iter s a := .of hit rfl (by decide) rfl
  have H1 : St Z L cs c T.as { s with heap := h', toks := s.toks + 1 } := H.eJ (s' := { s with heap := h', toks := s.toks + 1 }) it.qh (it.out H) hk rfl rfl Dr O
  have g : IsRangeIter h' a (x0 + st) (k : Int) st := g.trans (by rw [Int.natCast_succ, Int.add_sub_cancel])
  refine (qo T hi).elim fun Nt Bz => ?_
  refine aa (aq ?_)
  have kQ := fG G P P2 I h1 hn hF (by simp) H1 N (v := .int (.lit x0)) (u := .int x0 s.toks) ⟨trivial, _, rfl⟩
  refine aa ((show au Z L cs Ar _ UR (aD.ok () (aN t (.int (.lit x0)) T.as)) c _ from kQ).one fun J c2 s2 le2 H2 J => ?_)
  have Nu : St Z L cs c2 T.as s2 := by
   have := H2.locs (locs := T.locs) fun y v hv => by
    refine (?_ : af y (fi t _ T.locs) = some v)
    rw [bH]
    by_cases q : y = t
    ·cases q; rw [Nt] at hv; cases hv
    ·refine ae (if_neg q) ?_; exact hv
   exact this
  have HN : ∀ i, i < c2.n → a ≠ (c2.σ i).1 ∧ a ≠ (c2.σ i).2 := fun i hi => by
   by_cases q : i < c.n
   ·refine ae (le2.σ i q) ?_; exact ej i q
   ·have := le2.new i (Nat.le_of_not_lt q) hi
    exact ⟨Has.ne ⟨_, g⟩ this.1, Has.ne ⟨_, g⟩ this.2⟩
  have g2 : IsRangeIter s2.heap a (x0 + st) (k : Int) st := by
   refine (le2.keep a _ g CQ ej).elim fun o' aj => (aj).elim fun e' w => ?_
   rw [w.same (fun J J q => Data.noConfusion q) (a7 rfl (by decide)).1] at e'; exact e'
  have Nv : 0 < c.nv := by refine ae H.nv ?_; exact Bz.1
  refine aa ?_
  rw [mY]
  refine aa (qx hf I hn Nr (g := k) Bz ((le2.ρ 0 Nv).2.2.trans hg) Nu (N.mono le2.grown) CQ g2 (fun J J q => Data.noConfusion q) (a7 rfl (by decide)).1 HN fun c3 s3 T3 Nw HM H3 N3 e3 HO => ?_)
  refine qx hf I hn Cj (g := k) (CT T3 Nw) HM H3 N3 CQ e3 (fun J J q => Data.noConfusion q) (a7 rfl (by decide)).1 HO fun c4 s4 T4 Nx Ny H4 N4 e4 HP => ?_
  exact aq ⟨rfl, IH Nx Ny H4 N4 e4 HP⟩
noncomputable def sS (kW : List LS) : Except Nat V × AS → Prop
 | (.ok v, A) => ∃ x k st A1 T mp, cY v A = some (.iA x k st, A1) ∧ k ≤ 64 ∧ T ∈ kW ∧ cover (.first 64) mp A1 T = true
 | _ => False
theorem gQ {α β : Type} {p : α → β → Bool} : ∀ {l1 l2 : List α} {ys : List β}, encL p (l1 ++ l2) ys = true → ∃ y1 y2, ys = y1 ++ y2 ∧ encL p l1 y1 = true ∧ encL p l2 y2 = true
 | [], _, ys, h => ⟨[], ys, rfl, rfl, h⟩
 | _ :: _, _, [], h => by cases h
 | a :: l1, l2, y :: ys, h => by
  refine (ao h).elim fun h1 h2 => ?_
  obtain ⟨y1, y2, rfl, q1, q2⟩ := gQ h2
  exact ⟨y :: y1, y2, rfl, by refine (?_ : (_ && _) = true); refine ae h1 ?_; refine ae q1 ?_; rfl, q2⟩
set_option tactic.hygienic true in
theorem vR {t : Nat} {it : E} {bs : List S} (he : cG Z.nm (m + 1) sc (.for_ [t] it bs) x = true) : ∃ id tp y z pos, x = .For (.Name id tp) y z [] pos ∧ g8 Z.nm sc [t] (.Name id tp) = true ∧ aV Z.nm m sc it y = true ∧ encL (cG Z.nm m sc) bs z = true := by
 replace he := l6 he
 refine Classical.byContradiction fun bad => ?_
 cases he with
 | for_ h =>
  rename_i tg y z pos
  refine (ao h).elim fun h h4 => ?_
  refine (ao h).elim fun h h3 => ?_
  refine (ao h).elim fun h2 hd => ?_
  cases tg with
  | Name id tp => exact bad ⟨id, tp, y, z, pos, rfl, h2, h3, h4⟩
  | _ => exact Bool.false_ne_true h2
theorem vS (hf : env.frame = some L) (hh : Ar.handled = none) (G : Z.Glob) (P : bY Z) (P2 : bQ Z) (I : aC Z n ih) (h1 : 1 ≤ n) (hn : Room n Ar cs) {kW S₁ : List LS} {t : Nat} {it : E} {b1 b2 : List S} (he : cG Z.nm (m + 1) sc (.for_ [t] it (b1 ++ b2)) x = true) {l : bC V} (e : ih.e it A = some l)
 (hl : ∀ r ∈ l.list, sS kW r) (qo : ∀ T ∈ kW, af t T.locs = none ∧ iX ih b1 1 S₁ T.as) (CT : ∀ T ∈ S₁, iX ih b2 0 kW T.as)
 (HQ : ∀ T ∈ kW, Goes Z Ar sc L cs env b T.as) : Goes Z Ar sc L cs env (x :: b) A := fun c s H N => by
 ·obtain ⟨id, tp, y, z, pos, rfl, h2, h3, h4⟩ := vR he
  obtain ⟨z1, z2, rfl, q1, q2⟩ := gQ h4
  refine aa ?_
  refine aa (aY (aa (az (I.e h3 hn H N l e) (fun u s1 q => Classical.byContradiction fun bad => ?_) fun ev s1 q => ?_)))
  ·obtain ⟨v, A1, c1, m1, a0, H1, r1⟩ := q
   refine (hl _ m1).elim fun x0 aj => (aj).elim fun k ax => (ax).elim fun st aP => (aP).elim fun Oz bG => (bG).elim fun T dc => (dc).elim fun mp ib => (ib).elim fun hN pQ => (pQ).elim fun hk se => (se).elim fun hi CS => ?_
   have Nz : foldedSetIterable y env u = pure u := iL h3
   refine bad (aa (l4 Nz (aa (aY (aa (aA (.of (fF G H1 r1 hN fun c2 s2 w Ho le2 H2 i2 => Classical.byContradiction fun bad => ?_))))))))
   obtain ⟨a, rfl, O, hit⟩ := i2
   have Dr : Z.h₀.get? a = none := by
    cases e : Z.h₀.get? a with
    | none => rfl
    | some o => have := H1.base _ _ e; rw [O.new] at this; cases this
   refine (jn (g := k) (md := .first 64) hk CS H2).elim fun H3 aj => (aj).elim fun N3 xX => ?_
   refine bad ?_
   refine aT (az (E := fun J J => False) (jB (bg (xZ hf hh G P P2 I h1 hn h2 q1 q2 qo CT Dr O.ne k hi rfl H3 (N3 ((N.mono a0.grown).mono le2.grown)) hit fun j hj => ?_) fun r s' z => ?_) GN) (fun J J q => q) fun J J f => f.elim)
   ·refine (xX j hj).elim fun i aj => (aj).elim fun hi hs => ?_
    refine ae hs ?_; exact O.off i hi
   ·cases r with
    | error => exact z.elim
    | ok fl =>
     cases fl <;> first | exact z.elim | skip
     refine (z).elim fun T' aj => (aj).elim fun c' ax => (ax).elim fun cP aP => (aP).elim fun H' N' => ?_
     exact HQ T' cP c' s' H' N'
  ·obtain ⟨i, A1, c1, m1, _⟩ := q
   exact (hl _ m1).elim
end
end aD
end
section
open PySem PySem.Calls PyProof.Rows PySem.W PySem.SeqAt PySem.Builtin
set_option backward.match.sparseCases false
set_option maxRecDepth 100000
namespace aD
noncomputable def CU {α : Type} (d : α) (i : SI → α) (b : BS → α) (l : Nat → α) (v : V) : α := V.rec (motive := fun J => α) d (fun J => d) i (fun J => d) b l (fun J => d) (fun J => d) (fun J => d) (fun J => d) d v
structure US where
 f : List Nat
 n : Nat
 g : List (Option GV)
noncomputable def HR {α : Type} (x : α) (l : List (Option α)) (n : Nat) : List (Option α) := List.rec (motive := fun J => Nat → List (Option α)) (fun J => []) (fun y r ih n => Nat.rec (motive := fun J => List (Option α)) (some x :: r) (fun m J => y :: ih m) n) l n
noncomputable def uG (k : Nat) (x : GV) (u : US) : US := US.rec (motive := fun J => US) (fun f n g => Option.rec (motive := fun J => US) u (fun q => Option.rec (motive := fun J => US) ⟨f, n, HR x g k⟩ (fun J => u) q) (getL g k)) u
noncomputable def uL (j i : Nat) (u : US) : Option US := US.rec (motive := fun J => Option US) (fun f n g => Bool.rec (motive := fun J => Option US) (some u) (some ⟨i :: f, Nat.succ n, g⟩) (Nat.beq j n)) u
noncomputable def NA (x y : SI) (u : US) : Option US := match x, y with
 | .lit a, .lit b => Bool.rec (motive := fun J => Option US) none (some u) (AO a b)
 | .va k o, y => some (uG k (.int (Ab y (-o))) u)
 | _, _ => none
noncomputable def HS (x : Seg) (b : BS) (u : US) : Option US := match x with
 | .lit _ => some u
 | .rep k _ => match BS.norm b with
  | [.rep j _] => some (uG k (.int (.va j 0)) u)
  | [.lit (v :: _)] => some (uG k (.int (.lit v)) u)
  | _ => none
 | .ef k o _ => if Nat.beq o 0 then some (uG k (.oct b) u) else some u
 | .be k o _ _ _ => match b with
  | [.be j p _ _ _] => some (uG k (.int (.va j (p - o))) u)
  | _ => some u
noncomputable def Lf (l b : BS) (u : US) : Option US := List.rec (motive := fun J => BS → US → Option US) (fun b u => Bool.rec (motive := fun J => Option US) none (some u) (Nat.beq (BS.len b) 0))
 (fun x J ih b u => Bool.rec (motive := fun J => Option US) ((HS x (BS.take (BS.a4 x) b) u).bind fun u => ih (BS.drop (BS.a4 x) b) u) none (Nat.blt (BS.len b) (BS.a4 x))) l b u
noncomputable def n1 {α β : Type} (J : α) : Option β := none
noncomputable def uN {α : Type} (J : α) (u : US) : Option US := some u
noncomputable def uI (x : SI) (w : V) (u : US) : Option US := Option.rec (motive := fun J => Option US) none (fun y => NA x y u) (CU none some n1 n1 w)
noncomputable def uB (a : BS) (w : V) (u : US) : Option US := Option.rec (motive := fun J => Option US) none (fun b => Lf a b u) (CU none n1 some n1 w)
noncomputable def uK (j : Nat) (w : V) (u : US) : Option US := Option.rec (motive := fun J => Option US) none (fun i => uL j i u) (CU none n1 n1 some w)
noncomputable def uV (v w : V) (u : US) : Option US := V.rec (motive := fun J => V → US → Option US) uN (fun J => uN) uI (fun J => uN) uB uK (fun J => uN) (fun J => uN) (fun J => uN) (fun J => uN) uN v w u
noncomputable def vT {α β : Type} (p : α → β → US → Option US) (l : List α) (k : List β) (u : US) : Option US := List.rec (motive := fun J => List β → US → Option US) (fun k u => List.rec (motive := fun J => Option US) (some u) (fun J J J => none) k)
 (fun a J ih k u => List.rec (motive := fun J => Option US) none (fun b t J => Option.rec (motive := fun J => Option US) none (fun u => ih t u) (p a b u)) k) l k u
noncomputable def qy {α : Type} (d : α) (i : List (Nat × V) → α) (l : List V → α) (e : List (Int × V) → α) (s : List (List Nat × V) → α) (b : BS → α) (c : Option V → α) (q : List (Int × V) → α) (p : aw) : α := aw.rec (motive := fun J => α) (fun J => i) l l e s d b c (fun J J J => d) (fun J J => d) (fun J J => d) d d (fun J => d) (fun J => d) (fun J J => d) (fun J => d) q p
noncomputable def n0 {α β : Type} (J : α) : List β := []
noncomputable def uP {κ : Type} (x y : κ × V) (u : US) : Option US := uV x.2 y.2 u
noncomputable def uO (o p : aw) (u : US) : Option US := qy uN (fun es p => vT uP es (qy [] (fun x => x) n0 n0 n0 n0 n0 n0 p)) (fun es p => vT uV es (qy [] n0 (fun x => x) n0 n0 n0 n0 n0 p)) (fun es p => vT uP es (qy [] n0 n0 (fun x => x) n0 n0 n0 n0 p)) (fun es p => vT uP es (qy [] n0 n0 n0 (fun x => x) n0 n0 n0 p)) (fun b p => Lf b (qy [] n0 n0 n0 n0 (fun x => x) n0 n0 p))
 (fun v p u => Option.rec (motive := fun J => Option US) (some u) (fun a => Option.rec (motive := fun J => Option US) (some u) (fun b => uV a b u) (qy none n1 n1 n1 n1 n1 (fun x => x) n1 p)) v) (fun es p => vT uP es (qy [] n0 n0 qu n0 n0 n0 (fun x => x) p)) o p u
noncomputable def NB (A : Tr aw) (T : List aw) (j : Nat) (u : US) : Option US := List.rec (motive := fun J => Nat → US → Option US) (fun J u => some u)
 (fun o J ih j u => US.rec (motive := fun J => Option US) (fun f n g => Option.rec (motive := fun J => Option US) none (fun i => Option.rec (motive := fun J => Option US) none (fun p => Option.rec (motive := fun J => Option US) none (fun u => ih (Nat.succ j) u) (uO o p u)) (A.get i)) (getL f (Nat.sub n (Nat.succ j)))) u) T j u
noncomputable def x4 {α : Type} (l : List (Option α)) : Option (List α) := List.rec (motive := fun J => Option (List α)) (some []) (fun x J ih => Option.rec (motive := fun J => Option (List α)) none (fun a => Option.rec (motive := fun J => Option (List α)) none (fun l => some (a :: l)) ih) x) l
noncomputable def HT {α : Type} (l k : List α) : List α := List.rec (motive := fun J => List α → List α) (fun k => k) (fun a J ih k => ih (a :: k)) l k
noncomputable def HU (u : US) : Option dQ := US.rec (motive := fun J => Option dQ) (fun f n g => Option.rec (motive := fun J => Option dQ) none (fun g => some ⟨HT f [], g⟩) (x4 g)) u
noncomputable def unify (A : AS) (T : LS) : Option dQ := AS.rec (motive := fun J => Option dQ) (fun h J lo J J J =>
 Option.rec (motive := fun J => Option dQ) none (fun u => Option.rec (motive := fun J => Option dQ) none (fun u => HU u) (NB h T.hs 0 u))
  (vT (fun (x : Nat × V) (J : Nat × V) u => Option.rec (motive := fun J => Option US) none (fun v => uV x.2 v u) (af x.1 lo)) T.locs T.locs ⟨[], 0, T.vars.map fun J => none⟩)) A
noncomputable def coverAt (md : Md) (A : AS) (T : LS) : Bool := match unify A T with
 | some mp => cover md mp A T
 | none => false
theorem iu {md : Md} {A : AS} {T : LS} (h : coverAt md A T = true) : ∃ mp, cover md mp A T = true := by
 delta coverAt at h
 cases hu : unify A T with
 | none => rw [hu] at h; cases h
 | some mp => rw [hu] at h; exact ⟨mp, h⟩
noncomputable def sT (r : Except Nat Fl) : Bool := match r with
 | .ok f => (match f with
  | .next => true
  | _ => false)
 | .error _ => false
theorem mZ {r : Except Nat Fl} (h : sT r = true) : r = .ok .next := by
 cases r with
 | error => exact bf h
 | ok f => cases f <;> first | rfl | exact bf h
noncomputable def look (f : Nat → LS × List Nat) (N : List (List Nat)) (i : Nat) : Option LS := (getL N (Nat.div i 16)).bind fun l => (getL l (Nat.mod i 16)).bind fun k => some (f k).1
noncomputable def iY (f : Nat → LS × List Nat) (N : List (List Nat)) : List (LS × List Nat) := N.flatten.map f
theorem qz {f : Nat → LS × List Nat} {N : List (List Nat)} {i : Nat} {T : LS} (h : look f N i = some T) : T ∈ (iY f N).map (·.1) := by
 obtain ⟨l, h1, h⟩ := gc h
 obtain ⟨k, h2, h⟩ := gc h
 cases h
 rw [bF] at h1 h2
 exact List.mem_map.mpr ⟨f k, List.mem_map.mpr ⟨k, List.mem_flatten.mpr ⟨l, List.mem_of_getElem? h1, List.mem_of_getElem? h2⟩, rfl⟩, rfl⟩
noncomputable def endAt (d : Nat) (S : Nat → Option LS) (A : AS) (i : Nat) : Bool := match S i with
 | some T => coverAt (.turn d) A T
 | none => false
noncomputable def sU (d : Nat) (S : Nat → Option LS) : List (Except Nat Fl × AS) → List Nat → Bool
 | [], is => is.isEmpty
 | x :: r, is => match is with
  | [] => false
  | i :: is => sT x.1 && (endAt d S x.2 i && sU d S r is)
theorem jo {d : Nat} {f : Nat → LS × List Nat} {N : List (List Nat)} : ∀ {l : List (Except Nat Fl × AS)} {is : List Nat}, sU d (look f N) l is = true → ∀ r ∈ l, ∃ A T mp, r = (.ok .next, A) ∧ T ∈ (iY f N).map (·.1) ∧ cover (.turn d) mp A T = true
 | [], _, _, _, hm => nomatch hm
 | x :: l, is, h, r, hm => by
  cases is with
  | nil => exact bf h
  | cons i is =>
  obtain ⟨h0, h⟩ := ao h
  refine (ao h).elim fun h1 h2 => ?_
  rcases ff hm with rfl | hm
  ·delta endAt at h1
   cases hs : look f N i with
   | none => rw [hs] at h1; cases h1
   | some T =>
    rw [hs] at h1
    refine (iu h1).elim fun mp q => ?_
    exact ⟨r.2, T, mp, Prod.ext (mZ h0) rfl, qz hs, q⟩
  ·exact jo h2 r hm
noncomputable def jq (ih : bM) (bs : List S) (d : Nat) (M : Nat → Option LS) (p : LS × List Nat) : Bool := (match p.1.vars with | [] => false | _ :: _ => true) && match aW ih bs p.1.as with
 | some lb => sU d M lb.list p.2
 | none => false
theorem kX {ih : bM} {bs : List S} {d : Nat} {f : Nat → LS × List Nat} {N : List (List Nat)} {p : LS × List Nat} (h : jq ih bs d (look f N) p = true) : iX ih bs d ((iY f N).map (·.1)) p.1.as := by
 delta jq at h
 refine (ao h).elim fun h1 h2 => ?_
 refine ⟨?_, ?_⟩
 ·refine (?_ : 0 < p.1.vars.length)
  cases hv : p.1.vars with
  | nil => rw [hv] at h1; cases h1
  | cons => exact Nat.succ_pos _
 cases hb : aW ih bs p.1.as with
 | none => rw [hb] at h2; cases h2
 | some lb => rw [hb] at h2; exact ⟨lb, rfl, jo h2⟩
noncomputable def HV (t : Nat) (p : LS × List Nat) : Bool := (af t p.1.locs).isNone
noncomputable def startB (S : Nat → Option LS) : List (Except Nat V × AS) → List Nat → Bool
 | [], [] => true
 | (.ok v, A) :: r, i :: is => (match cY v A with
  | some (.iA _ k _, A1) => Nat.ble k (nat_lit 64) && (match S i with
   | some T => coverAt (.first 64) A1 T
   | none => false)
  | _ => false) && startB S r is
 | _, _ => false
set_option tactic.hygienic true in
theorem jr {f : Nat → LS × List Nat} {N : List (List Nat)} : ∀ {l : List (Except Nat V × AS)} {is : List Nat}, startB (look f N) l is = true → ∀ r ∈ l, sS ((iY f N).map (·.1)) r
 | [], _, _, _, hm => nomatch hm
 | (.error _, _) :: _, [], h, _, _ => nomatch h
 | (.error _, _) :: _, _ :: _, h, _, _ => nomatch h
 | (.ok _, _) :: _, [], h, _, _ => nomatch h
 | (.ok v, A) :: l, i :: is, h, r, hm => by
  obtain ⟨h1, h2⟩ : _ ∧ startB (look f N) l is = true := ao h
  rcases ff hm with rfl | hm
  ·cases hN : cY v A with
   | none => rw [hN] at h1; cases h1
   | some q =>
    obtain ⟨it, A1⟩ := q
    rw [hN] at h1
    cases it <;> first | exact bf h1 | skip
    rename_i x k st
    refine (ao h1).elim fun h3 h4 => ?_
    cases hs : look f N i with
    | none => rw [hs] at h4; cases h4
    | some T =>
     rw [hs] at h4
     refine (iu h4).elim fun mp q => ?_
     exact ⟨x, k, st, A1, T, mp, hN, Nat.le_of_ble_eq_true h3, qz hs, q⟩
  ·exact jr h2 r hm
noncomputable def Lg (r : Except Nat Fl) : Bool := match r with
 | .ok f => (match f with
  | .ret v => (match v with
   | .bool b => b
   | _ => false)
  | _ => false)
 | .error _ => false
noncomputable def qD (ih : bM) (post : List S) (A : AS) : Bool := match aW ih post A with
 | some l => l.list.all fun r => Lg r.1
 | none => false
noncomputable def BB (ih : bM) (it : E) (S : Nat → Option LS) (A : AS) (is : List Nat) : Bool := match ih.e it A with
 | some l2 => startB S l2.list is
 | none => false
noncomputable def oh (ih : bM) (it : E) (S : Nat → Option LS) : List (Except Nat Fl × AS) → List (List Nat) → Bool
 | [], lu => lu.isEmpty
 | x :: r, lu => match lu with
  | [] => false
  | is :: lu => sT x.1 && (BB ih it S x.2 is && oh ih it S r lu)
noncomputable def tZ (ih : bM) (pre : List S) (it : E) (S : Nat → Option LS) (A : AS) (lu : List (List Nat)) : Bool := match aW ih pre A with
 | some l => oh ih it S l.list lu
 | none => false
section
variable {Z : aL} {n : Nat} {ih : bM} {L : Nat} {cs : Fm} {Ar : Around} {A A' : AS} {env : Env} {sc : cA} {m : Nat}
set_option tactic.hygienic true in
theorem x5 (hf : env.frame = some L) (I : aC Z n ih) (hn : Room n Ar cs) {ss : List S} {xs : List Stmt} (he : encL (cG Z.nm m sc) ss xs = true) (h : qD ih ss A = true) : Goes Z Ar sc L cs env xs A := by
 delta qD at h
 cases hl : aW ih ss A with
 | none => rw [hl] at h; cases h
 | some l =>
  rw [hl] at h
  have := kV (Z := Z) (L := L) (cs := cs) (env := env) (b := []) hf I hn he hl fun r hr => ?_
  ·rwa [List.append_nil] at this
  ·have this : Lg r.1 = true := lx h r hr
   obtain ⟨r, B⟩ := r
   cases r with
   | error => exact bf this
   | ok f =>
   cases f <;> first | exact bf this | skip
   rename_i v
   cases v <;> first | exact bf this | skip
   rename_i b
   obtain rfl : b = true := this
   trivial
theorem iw {it : E} {f : Nat → LS × List Nat} {N : List (List Nat)} : ∀ {l : List (Except Nat Fl × AS)} {lu : List (List Nat)}, oh ih it (look f N) l lu = true → ∀ r ∈ l, ∃ A1 l2, r = (.ok .next, A1) ∧ ih.e it A1 = some l2 ∧ ∀ q ∈ l2.list, sS ((iY f N).map (·.1)) q
 | [], _, _, _, hm => nomatch hm
 | x :: l, lu, h, r, hm => by
  cases lu with
  | nil => exact bf h
  | cons is lu =>
  obtain ⟨h0, h⟩ := ao h
  refine (ao h).elim fun h1 h2 => ?_
  rcases ff hm with rfl | hm
  ·delta BB at h1
   cases hl : ih.e it r.2 with
   | none => rw [hl] at h1; cases h1
   | some l2 =>
    rw [hl] at h1
    exact ⟨r.2, l2, Prod.ext (mZ h0) rfl, hl, jr h1⟩
  ·exact iw h2 r hm
theorem x6 (hf : env.frame = some L) (hh : Ar.handled = none) (G : Z.Glob) (P : bY Z) (P2 : bQ Z) (I : aC Z n ih) (h1 : 1 ≤ n) (hn : Room n Ar cs) {pre post b1 b2 : List S} {it : E} {t : Nat} {CV x7 : List Stmt} {x : Stmt} {f : Nat → LS × List Nat} {gR jy : List (List Nat)} {lu : List (List Nat)} {m1 m2 : Nat}
 (kY : encL (cG Z.nm m1 sc) pre CV = true) (EY : cG Z.nm (m + 1) sc (.for_ [t] it (b1 ++ b2)) x = true) (EZ : encL (cG Z.nm m2 sc) post x7 = true)
 (k1 : tZ ih pre it (look f gR) A lu = true) (k2 : ∀ p ∈ iY f gR, HV t p = true ∧ jq ih b1 1 (look f jy) p = true) (k4 : ∀ p ∈ iY f jy, jq ih b2 0 (look f gR) p = true) (k3 : ∀ p ∈ iY f gR, qD ih post p.1.as = true) : Goes Z Ar sc L cs env (CV ++ x :: x7) A := by
 delta tZ at k1
 cases hl : aW ih pre A with
 | none => rw [hl] at k1; cases k1
 | some l =>
  rw [hl] at k1
  refine kV hf I hn kY hl fun r hr => ?_
  obtain ⟨A1, l2, rfl, NC, hs⟩ := iw k1 r hr
  refine vS hf hh G P P2 I h1 hn EY NC hs (S₁ := (iY f jy).map (·.1)) (fun T hT => ?_) (fun T hT => ?_) fun T hT => ?_
  ·obtain ⟨p, hp, rfl⟩ := yN hT
   exact ⟨yF (k2 p hp).1, kX (k2 p hp).2⟩
  ·obtain ⟨p, hp, rfl⟩ := yN hT
   exact kX (k4 p hp)
  ·obtain ⟨p, hp, rfl⟩ := yN hT
   exact x5 hf I hn EZ (k3 p hp)
end
end aD
end
section
open PySem PySem.Calls PyProof.Rows PySem.W PySem.SeqAt PySem.Builtin
set_option maxRecDepth 100000
namespace aD
theorem qE {c : Cfg} {x y : Int} {vs : Array Value} (h : aS (VR c) [.int (.lit x), .int (.lit y)] vs.toList) : ∃ t t', vs = #[.int x t, .int y t'] := by
 obtain ⟨a, l, e, ⟨_, t, rfl⟩, h⟩ := h.cons_inv
 obtain ⟨b, l', e', ⟨_, t', rfl⟩, h⟩ := h.cons_inv
 refine ⟨t, t', Array.toList_inj.mp ?_⟩
 refine ae e ?_; refine ae e' ?_; refine ae h.nil_inv ?_; rfl
noncomputable def eS (a b d : Nat) : Fn := ⟨[a, b], [], [], [
 .bE (.cmp (.sub (.loc a) (.cst (.int (.lit 0)))) [.gt] [.cst (.int (.lit 0))]) [
  .asg (.loc d) (.bin .mod (.sub (.loc a) (.cst (.int (.lit 0)))) (.loc b)),
  .asg (.sub (.loc a) (.cst (.int (.lit 0)))) (.bin .div (.sub (.loc a) (.cst (.int (.lit 0)))) (.loc b)),
  .ret (some (.loc d))] [],
 .asg (.sub (.loc a) (.cst (.int (.lit 1)))) (.bin .mod (.bin .add (.bin .mul (.sub (.loc a) (.cst (.int (.lit 1)))) (.cst (.int (.lit 39373)))) (.cst (.int (.lit 7)))) (.cst (.int (.lit 2147483647)))),
 .ret (some (.bin .mod (.bin .div (.bin .mod (.bin .mul (.sub (.loc a) (.cst (.int (.lit 1)))) (.sub (.loc a) (.cst (.int (.lit 1))))) (.cst (.int (.lit 2147483629)))) (.cst (.int (.lit 32)))) (.loc b)))]⟩
theorem aG {α β : Type} {a : α} {A : AS} (f : α → AS → Res β) : Res.bind (ok a A) f = f a A := by
 rfl
section
variable {Γ : Ctx} {B : AS} {a b d i : Nat} {x y t : Int}
theorem oi {k : Nat} (h1 : af a B.locs = some (.loc i)) (h2 : B.heap.get i = some (.list [.int (.lit x), .int (.lit y)])) : (bI Γ (k + 2)).e (.sub (.loc a) (.cst (.int (.lit 0)))) B = ok (.int (.lit x)) B := by
 refine (?_ : Res.bind (bA (af a B.locs) B) (fun o A => Res.bind (ok (.int (.lit 0)) A) fun i A => gW o i A) = _)
 refine ae h1 ?_
 refine (?_ : Res.bind (ok _ B) _ = _)
 rw [aG, aG]
 dsimp only [gW, eX]
 refine ae h2 ?_
 rfl
theorem oj {k : Nat} (h1 : af a B.locs = some (.loc i)) (h2 : B.heap.get i = some (.list [.int (.lit x), .int (.lit y)])) : (bI Γ (k + 2)).e (.sub (.loc a) (.cst (.int (.lit 1)))) B = ok (.int (.lit y)) B := by
 refine (?_ : Res.bind (bA (af a B.locs) B) (fun o A => Res.bind (ok (.int (.lit 1)) A) fun i A => gW o i A) = _)
 refine ae h1 ?_
 refine (?_ : Res.bind (ok _ B) _ = _)
 rw [aG, aG]
 dsimp only [gW, eX]
 refine ae h2 ?_
 rfl
theorem bU {k : Nat} {o : qW} {e e' : E} {u v w : V} (h1 : (bI Γ (k + 1)).e e B = ok u B) (h2 : (bI Γ (k + 1)).e e' B = ok v B) (h3 : eh o u v B = ok w B) : (bI Γ (k + 2)).e (.bin o e e') B = ok w B := by
 refine (?_ : Res.bind ((bI Γ (k + 1)).e e B) (fun a A => Res.bind ((bI Γ (k + 1)).e e' A) fun b A => eh o a b A) = _)
 rw [h1, aG, h2, aG, h3]
theorem b0 {k : Nat} {v : V} (h : af a B.locs = some v) : (bI Γ (k + 1)).e (.loc a) B = ok v B := by
 refine (?_ : bA (af a B.locs) B = _)
 refine ae h ?_; rfl
theorem eA {k : Nat} {v : V} : (bI Γ (k + 1)).e (.cst v) B = ok v B := rfl
set_option tactic.hygienic true in
theorem x8 {k : Nat} {e : E} {u : V} {j : Int} {xs : List V} (he : (bI Γ (k + 1)).e e B = ok u B) (h1 : af a B.locs = some (.loc i)) (h2 : B.heap.get i = some (.list xs)) (hj : 0 ≤ j ∧ j.toNat < xs.length ∧ xs.length ≤ 4096) :
 (bI Γ (k + 2)).s (.asg (.sub (.loc a) (.cst (.int (.lit j)))) e) B = ok .next (B.put i (.list (xs.set j.toNat u))) := by
 refine (?_ : Res.bind ((bI Γ (k + 1)).e e B) (fun v A => Res.bind (Res.bind (bA (af a A.locs) A) fun o A => Res.bind (ok (.int (.lit j)) A) fun i A => eD o i v A) fun J A => ok Fl.next A) = _)
 rw [he, aG, h1]
 refine (?_ : Res.bind (Res.bind (ok _ B) _) _ = _)
 rw [aG, aG]
 dsimp only [eD, nz]
 refine ae h2 ?_
 dsimp only
 rw [if_pos hj, aG]
set_option tactic.hygienic true in
theorem jG {x y : Int} (h : y.natAbs < 18446744073709551616 ∨ Builtin.Int.intBits x + Builtin.Int.intBits y ≤ 134217728) : eh .mul (.int (.lit x)) (.int (.lit y)) B = ok (.int (.lit (x * y))) B := if_pos h
theorem fY {x y : Int} (h : y ≠ 0) : eh .mod (.int (.lit x)) (.int (.lit y)) B = ok (.int (.lit (x.fmod y))) B := if_pos h
theorem t9 {x y : Int} (h : ¬(y = 0 ∨ 1073741824 ≤ y.natAbs)) : eh .div (.int (.lit x)) (.int (.lit y)) B = ok (.int (.lit (x.fdiv y))) B := if_pos h
theorem cD {ih : bM} {s : S} {r : List S} {B' : AS} (h : ih.s s B = ok .next B') : aW ih (s :: r) B = aW ih r B' := by
 refine (?_ : Res.bind (ih.s s B) _ = _)
 rw [h, aG]; rfl
theorem jH {ih : bM} {s : S} {r : List S} {B' : AS} {v : V} (h : ih.s s B = ok (.ret v) B') : aW ih (s :: r) B = ok (.ret v) B' := by
 refine (?_ : Res.bind (ih.s s B) _ = _)
 rw [h, aG]; rfl
theorem x9 {k : Nat} {e : E} {u : V} (he : (bI Γ (k + 1)).e e B = ok u B) : (bI Γ (k + 2)).s (.ret (some e)) B = ok (.ret u) B := by
 refine (?_ : Res.bind ((bI Γ (k + 1)).e e B) (fun v A => ok (Fl.ret v) A) = _)
 rw [he, aG]
theorem Ae {k : Nat} (h1 : af a B.locs = some (.loc i)) (h2 : B.heap.get i = some (.list [.int (.lit x), .int (.lit y)])) (h0 : 0 ≤ x) : (bI Γ (k + 3)).c (.cmp (.sub (.loc a) (.cst (.int (.lit 0)))) [.gt] [.cst (.int (.lit 0))]) B = ok (decide (0 < x)) B := by
 refine (?_ : Res.bind ((bI Γ (k + 2)).e _ B) (fun a A => Res.bind (ok (.int (.lit 0)) A) fun b A => eg A .gt a b) = _)
 rw [oi h1 h2, aG, aG]
 have e : ny B .gt (.int (.lit x)) (.int (.lit 0)) = some (decide (0 < x)) := by
  refine (?_ : (if (0 : Int) + 1 ≤ x then some true else if x + 1 ≤ 0 + 1 then some false else none) = _)
  by_cases h : 0 < x
  ·refine ae (if_pos (by omega)) ?_; refine ae (decide_eq_true h) ?_; rfl
  ·refine ae (if_neg (by omega)) ?_; refine ae (if_pos (by omega)) ?_; refine ae (decide_eq_false h) ?_; rfl
 dsimp only [eg]
 refine ae e ?_; rfl
inductive E0 (Γ : Ctx) (k a b d i : Nat) (t : Int) (B : AS) : Prop
 | mk (r x' y' : Int) (B' : AS) (run : aW (bI Γ (k + 10)) (eS a b d).body B = some (.one (.ret (.int (.lit r))) B')) (r0 : 0 ≤ r) (rt : r < t) (x0 : 0 ≤ x') (y0 : 0 ≤ y') (y1 : y' < 2147483647)
  (hp : ∀ j, B'.heap.get j = if j = i then some (.list [.int (.lit x'), .int (.lit y')]) else B.heap.get j) (vs : B'.vars = B.vars) (n : B'.n = B.n) (hd : B'.hd = B.hd)
set_option tactic.hygienic true in
theorem ya (k : Nat) (h1 : B.heap.get i = some (.list [.int (.lit x), .int (.lit y)])) (hl : B.locs = [(a, .loc i), (b, .int (.lit t))]) (tM : a ≠ b) (HW : a ≠ d) (HX : b ≠ d) (hx : 0 ≤ x) (hy : 0 ≤ y) (HY : y < 2147483647) (ht : 0 < t) (Lh : t ≤ 256) :
 E0 Γ k a b d i t B := by
 have la : af a B.locs = some (.loc i) := by rw [hl, aK, if_pos rfl]
 have lb : af b B.locs = some (.int (.lit t)) := by
  rw [hl, aK, if_neg tM, aK, if_pos rfl]
 have test := Ae (Γ := Γ) (k := k + 6) la h1 hx
 have head : ∀ r, (bI Γ (k + 10)).s (.bE (.cmp (.sub (.loc a) (.cst (.int (.lit 0)))) [.gt] [.cst (.int (.lit 0))]) r []) B = aW (bI Γ (k + 9)) (if decide (0 < x) = true then r else []) B := fun r => by
  refine (?_ : Res.bind ((bI Γ (k + 9)).c _ B) (fun t A => aW (bI Γ (k + 9)) (Bool.rec (motive := fun _ => List S) [] r t) A) = _)
  rw [test, aG]
  cases decide (0 < x) <;> rfl
 by_cases h : 0 < x
 ·have m1 : eh .mod (.int (.lit x)) (.int (.lit t)) B = ok (.int (.lit (x.fmod t))) B := fY (Int.ne_of_gt ht)
  have s1 : (bI Γ (k + 9)).s (.asg (.loc d) (.bin .mod (.sub (.loc a) (.cst (.int (.lit 0)))) (.loc b))) B = ok .next (aN d (.int (.lit (x.fmod t))) B) := by
   refine (?_ : Res.bind ((bI Γ (k + 8)).e _ B) (fun v A => Res.bind (ok () (aN d v A)) fun J A => ok Fl.next A) = _)
   rw [bU (k := k + 6) (oi (k := k + 5) la h1) (b0 (k := k + 6) lb) m1, aG, aG]
  have Ds : af a (aN d (.int (.lit (x.fmod t))) B).locs = some (.loc i) := by
   refine (?_ : af a (fi d _ B.locs) = _)
   rw [bH, if_neg HW, la]
  have FZ : af b (aN d (.int (.lit (x.fmod t))) B).locs = some (.int (.lit t)) := by
   refine (?_ : af b (fi d _ B.locs) = _)
   rw [bH, if_neg HX, lb]
  have Dt : (aN d (.int (.lit (x.fmod t))) B).heap.get i = some (.list [.int (.lit x), .int (.lit y)]) := h1
  have m2 : eh .div (.int (.lit x)) (.int (.lit t)) (aN d (.int (.lit (x.fmod t))) B) = ok (.int (.lit (x.fdiv t))) (aN d (.int (.lit (x.fmod t))) B) := t9 (by omega)
  have s2 := x8 (Γ := Γ) (k := k + 7) (j := 0) (bU (k := k + 6) (oi (k := k + 5) Ds Dt) (b0 (k := k + 6) FZ) m2) Ds Dt ⟨by decide, by simp, by simp⟩
  refine ⟨x.fmod t, x.fdiv t, y, (aN d (.int (.lit (x.fmod t))) B).put i (.list [.int (.lit (x.fdiv t)), .int (.lit y)]), ?_, ?_, ?_, ?_, hy, HY, fun j => Tr.ba _ _ _ _, rfl, rfl, rfl⟩
  ·refine jH ?_
   rw [head, decide_eq_true h, if_pos rfl, cD s1, cD s2]
   refine jH (x9 (b0 ?_))
   refine (?_ : af d (fi d _ B.locs) = _)
   rw [bH, if_pos rfl]
  ·refine ae (Int.fmod_eq_emod_of_nonneg _ (Int.le_of_lt ht)) ?_; exact Int.emod_nonneg _ (by omega)
  ·refine ae (Int.fmod_eq_emod_of_nonneg _ (Int.le_of_lt ht)) ?_; exact Int.emod_lt_of_pos _ ht
  ·refine ae (Int.fdiv_eq_ediv_of_nonneg _ (Int.le_of_lt ht)) ?_; exact Int.ediv_nonneg hx (Int.le_of_lt ht)
 ·have OA : x = 0 := by omega
  have hd : ∀ r, (bI Γ (k + 10)).s (.bE (.cmp (.sub (.loc a) (.cst (.int (.lit 0)))) [.gt] [.cst (.int (.lit 0))]) r []) B = ok .next B := fun r => by refine ae (head r) ?_; refine ae (decide_eq_false h) ?_; refine ae (if_neg (by decide)) ?_; rfl
  generalize Li : (y * 39373 + 7).fmod 2147483647 = y1
  have E1 : 0 ≤ y1 ∧ y1 < 2147483647 := by
   refine bK Li ?_; refine ae (Int.fmod_eq_emod_of_nonneg _ (by decide)) ?_
   exact ⟨Int.emod_nonneg _ (by decide), Int.emod_lt_of_pos _ (by decide)⟩
  have m1 : eh .mul (.int (.lit y)) (.int (.lit 39373)) B = ok (.int (.lit (y * 39373))) B := jG (.inl (by decide))
  have m2 : eh .add (.int (.lit (y * 39373))) (.int (.lit 7)) B = ok (.int (.lit (y * 39373 + 7))) B := rfl
  have m3 : eh .mod (.int (.lit (y * 39373 + 7))) (.int (.lit 2147483647)) B = ok (.int (.lit y1)) B := by refine bK Li ?_; exact fY (by decide)
  have e1 := bU (Γ := Γ) (k := k + 7) (bU (k := k + 6) (bU (k := k + 5) (oj (k := k + 4) la h1) (eA (k := k + 5)) m1) (eA (k := k + 6)) m2) (eA (k := k + 7)) m3
  have s1 := x8 (Γ := Γ) (k := k + 8) (j := 1) e1 la h1 ⟨by decide, by simp, by simp⟩
  have Ds : af a (B.put i (.list [.int (.lit x), .int (.lit y1)])).locs = some (.loc i) := la
  have FZ : af b (B.put i (.list [.int (.lit x), .int (.lit y1)])).locs = some (.int (.lit t)) := lb
  have Dt : (B.put i (.list [.int (.lit x), .int (.lit y1)])).heap.get i = some (.list [.int (.lit x), .int (.lit y1)]) := by
   refine (?_ : (B.heap.put i _).get i = _)
   rw [Tr.ba, if_pos rfl]
  generalize E2 : B.put i (.list [.int (.lit x), .int (.lit y1)]) = B2 at Ds FZ Dt
  have n1 : eh .mul (.int (.lit y1)) (.int (.lit y1)) B2 = ok (.int (.lit (y1 * y1))) B2 := jG (.inl (by omega))
  have n2 : eh .mod (.int (.lit (y1 * y1))) (.int (.lit 2147483629)) B2 = ok (.int (.lit ((y1 * y1).fmod 2147483629))) B2 := fY (by decide)
  have n3 : eh .div (.int (.lit ((y1 * y1).fmod 2147483629))) (.int (.lit 32)) B2 = ok (.int (.lit (((y1 * y1).fmod 2147483629).fdiv 32))) B2 := t9 (by decide)
  have n4 : eh .mod (.int (.lit (((y1 * y1).fmod 2147483629).fdiv 32))) (.int (.lit t)) B2 = ok (.int (.lit ((((y1 * y1).fmod 2147483629).fdiv 32).fmod t))) B2 := fY (Int.ne_of_gt ht)
  have e2 := bU (Γ := Γ) (k := k + 7) (bU (k := k + 6) (bU (k := k + 5) (bU (k := k + 4) (oj (k := k + 3) Ds Dt) (oj (k := k + 3) Ds Dt) n1) (eA (k := k + 5)) n2) (eA (k := k + 6)) n3) (b0 (k := k + 7) FZ) n4
  refine ⟨(((y1 * y1).fmod 2147483629).fdiv 32).fmod t, x, y1, B2, ?_, ?_, ?_, hx, E1.1, E1.2, fun j => by refine bK E2 ?_; exact Tr.ba _ _ _ _, by refine bK E2 ?_; rfl, by refine bK E2 ?_; rfl, by refine bK E2 ?_; rfl⟩
  ·have ND : B.put i (.list (List.set [.int (.lit x), .int (.lit y)] (Int.toNat 1) (.int (.lit y1)))) = B2 := E2
   refine ae (cD (hd _)) ?_; refine ae (cD s1) ?_; refine ae ND ?_
   exact jH (x9 (k := k + 8) e2)
  ·refine ae (Int.fmod_eq_emod_of_nonneg _ (Int.le_of_lt ht)) ?_; exact Int.emod_nonneg _ (by omega)
  ·refine ae (Int.fmod_eq_emod_of_nonneg _ (Int.le_of_lt ht)) ?_; exact Int.emod_lt_of_pos _ ht
end
section
variable {Z : aL} {L : Nat} {cs : Fm} {Ar : Around} {c c' : Cfg} {A A' : AS} {s s' : Shared}
noncomputable def aL.plain (Z : aL) : aL := { Z with Γ := { Z.Γ with take := none } }
theorem Hp.plain (H : Hp Z c A s) : Hp Z.plain c A s := ⟨H.base, H.gens, H.os, H.n, H.nv, H.vars, H.objs, H.lt, H.lo, H.up, H.apart⟩
theorem Hp.iy (H : Hp Z.plain c A s) : Hp Z c A s := ⟨H.base, H.gens, H.os, H.n, H.nv, H.vars, H.objs, H.lt, H.lo, H.up, H.apart⟩
theorem St.plain (H : St Z L cs c A s) : St Z.plain L cs c A s := ⟨H.toHp.plain, ⟨H.oS, H.bw, H.off, H.ns⟩, H.cells, H.hd, H.outs, H.tabs⟩
theorem St.iy (H : St Z.plain L cs c A s) : St Z L cs c A s := ⟨H.toHp.iy, ⟨H.oS, H.bw, H.off, H.ns⟩, H.cells, H.hd, H.outs, H.tabs⟩
theorem Le.iy (x : Le Z.plain L c s c' s') : Le Z L c s c' s' := ⟨x.n, x.nv, x.σ, x.ρ, x.ck, x.old, x.keep, x.new⟩
theorem g9.plain {C : Nat} {k : gU} (O : g9 Z C k) : g9 Z.plain C k := ⟨O.ga, O.sa, O.gt, O.over, O.B3, O.hd, O.du, O.meth, O.ux, O.kp⟩
theorem fo.plain {C : Nat} {k : gU} (O : fo Z C k) : fo Z.plain C k := ⟨O.sa, O.over, O.hd, O.du, O.meth, O.B3, O.kp⟩
theorem aL.Glob.plain (G : Z.Glob) : Z.plain.Glob :=
 { g := G.g, b := G.b, inj := G.inj, sys := G.sys, k := G.k, lim := G.lim, y6 := G.y6, oY := G.oY, oZ := G.oZ, jb := G.jb, nH := G.nH, o3 := G.o3, o4 := G.o4, fb := G.fb, look := G.look, tabs := G.tabs, Df := G.Df, uy := G.uy, uz := G.uz, exc := G.exc,
   cls := fun C k h x => (G.cls C k h x).plain, o5 := fun C k bs h x => (G.o5 C k bs h x).plain }
theorem iQ.plain {a : Nat} {fn : Fn} (h : iQ Z a fn) : iQ Z.plain a fn := ⟨h.ex⟩
theorem qF (h : ∀ a fn, cu a Z.Γ.fns = some fn → iQ Z a fn) : tP Z.plain where
 fn := fun a fn e => (h a fn e).plain
 take := { run := fun a e => by cases e }
 Bh := fun a e => by cases e
theorem m4 {n : Nat} {B : AS} : ∀ {k : Nat} {r : Int}, k ≤ n → (n : Int) - k ≤ r → r < n → (Except.ok (V.int (.lit r)), B) ∈ drawn n B k
 | 0, r, _, h1, h2 => by omega
 | k + 1, r, hk, h1, h2 => by
  by_cases e : r = ((n - (k + 1) : Nat) : Int)
  ·refine ae e ?_; exact .head _
  ·exact .tail _ (m4 (by omega) (by omega) h2)
theorem St.HZ (H : St Z L cs c A s) (h1 : ∀ j, A'.heap.get j = A.heap.get j) (h2 : A'.n = A.n) (h3 : A'.vars = A.vars) (h4 : A'.locs = A.locs) (h5 : A'.cells = A.cells) (h6 : A'.hd = A.hd) : St Z L cs c A' s :=
 ⟨⟨H.base, H.gens, H.os, by refine ae h2 ?_; exact H.n, by refine ae h3 ?_; exact H.nv, by refine ae h3 ?_; exact H.vars, fun i o e => H.objs i o (by rw [← h1]; exact e), fun i o e => H.lt i o (by rw [← h1]; exact e), H.lo, H.up, H.apart⟩,
   by refine ae h4 ?_; exact H.toFrm, h5.trans H.cells, by refine ae h6 ?_; exact H.hd, H.outs, H.tabs⟩
noncomputable def kZ (n : Int) : Int → List (Int × Int) → Bool
 | k, [] => decide (n ≤ k)
 | k, p :: r => decide (p.1 ≤ k) && decide (p.1 < p.2) && kZ n p.2 r
theorem Af (A : AS) : kZ 8 0 (ways A) = true := by
 delta ways
 cases wK (af (nat_lit 91) A.locs) with
 | none => rfl
 | some i =>
 dsimp only
 cases ru (eX i.1 0 A) with
 | none => rfl
 | some t =>
 dsimp only
 split
 ·decide
 ·split <;> decide
theorem k7 {n : Int} {A : AS} : ∀ {l : List (Int × Int)} {k r : Int}, kZ n k l = true → k ≤ r → r < n → ∃ p ∈ l, p.1 ≤ r ∧ r < p.2
 | [], k, r, h, h1, h2 => by
  have := of_decide_eq_true h
  omega
 | p :: l, k, r, h, h1, h2 => by
  refine (ao h).elim fun h h5 => ?_
  refine (ao h).elim fun h3 h4 => ?_
  have h3 := of_decide_eq_true h3
  by_cases q : r < p.2
  ·exact ⟨p, .head _, by omega, q⟩
  ·refine (k7 (A := A) h5 (by omega) h2).elim fun p' aj => (aj).elim fun hp h6 => ?_
   exact ⟨p', .tail _ hp, h6⟩
theorem m6 {A : AS} : ∀ {l : List (Int × Int)} {p : Int × Int}, p ∈ l → (if p.1 + 1 = p.2 then (Except.ok (ε := Nat) (V.int (.lit p.1)), A) else (.ok (.int (.va (A.fresh (.int p.1 p.2)).1 0)), (A.fresh (.int p.1 p.2)).2)) ∈ pieces A l
 | [], _, h => nomatch h
 | q :: l, p, h => by
  rcases ff h with rfl | h
  ·exact .head _
  ·exact .tail _ (m6 h)
theorem symbol {lo hi rr : Int} {tu : Tok} (le : Le Z L c s c' s') (H : St Z L cs c' A s') (k1 : lo ≤ rr) (k2 : rr < hi) :
 ∃ wV, Le Z L c s wV s' ∧ St Z L cs wV (A.fresh (.int lo hi)).2 s' ∧ VR wV (.int (.va (A.fresh (.int lo hi)).1 0)) (.int rr tu) := by
 refine ⟨c'.draw rr (fun J => 0), le.trans Le.fresh, H.fresh (d := .int lo hi) ⟨?_, ?_⟩, ?_, tu, ?_⟩
 ·refine (?_ : lo ≤ (if c'.nv = c'.nv then rr else _)); refine ae (if_pos rfl) ?_; exact k1
 ·refine (?_ : (if c'.nv = c'.nv then rr else _) < hi); refine ae (if_pos rfl) ?_; exact k2
 ·refine (?_ : A.vars.length < c'.nv + 1); refine ae H.nv ?_; exact Nat.lt_succ_self _
 ·refine (?_ : Value.int rr tu = Value.int ((if A.vars.length = c'.nv then rr else _) + 0) tu); rw [if_pos H.nv.symm, Int.add_zero]
theorem CW (G : Z.Glob) (Cp : ∀ a fn, cu a Z.Γ.fns = some fn → iQ Z a fn) {tk a b d : Nat} (NF : ∀ x, Z.Γ.take = some x → x = tk) (hf : cu tk Z.Γ.fns = some (eS a b d)) (tM : a ≠ b) (HW : a ≠ d) (HX : b ≠ d) : xw Z where
 run := fun El e {Ar L cs c A s as us} hr H r => by
  cases NF _ e
  delta tx
  cases oN as with
  | none => exact .none
  | some p =>
  obtain ⟨⟨i, t⟩, rfl⟩ := p
  intro l el
  refine Classical.byContradiction fun bad => ?_
  have el : (AZ (A.heap.get i)).bind _ = some l := el
  obtain ⟨⟨hm⟩, _, el⟩ := gc el
  dsimp only at el
  cases r with
  | cons r0 r1 =>
  cases r1 with
  | cons r1 r2 =>
  cases r2
  obtain ⟨hi, rfl⟩ := r0
  obtain ⟨_, tt, rfl⟩ := r1
  obtain ⟨x, y, t1, t2, ep, h1, hx, hy, HY⟩ := H.objs _ _ hm
  have H1 : St Z L cs c (A.put i (.list [.int (.lit x), .int (.lit y)])) s := H.change hi (fun J J e J J => e) (a6.of fun J J e => e) ⟨#[.int x t1, .int y t2], ep, h1, .cons ⟨trivial, _, rfl⟩ (.cons ⟨trivial, _, rfl⟩ .nil)⟩ rfl rfl
  have main : 0 < t → t ≤ 256 → ∀ (Q : Value → Shared → Prop) (E : Value → Shared → Prop), (∀ (rr : Int) c' s' u, 0 ≤ rr → rr < t → Le Z L c s c' s' → St Z L cs c' A s' → VR c' (.int (.lit rr)) u → Q u s') → bt Z.M Ar (call (.ref tk) [.ref (c.σ i).1, .int t tt]) Q E s := fun ht Lh Q E q => Classical.byContradiction fun bad => by
   have kQ : fj (eS a b d).params (eS a b d).params.length (eS a b d).dflts [.loc i, .int (.lit t)] = some [(a, .loc i), (b, .int (.lit t))] := rfl
   obtain ⟨rr, x', y', B', H8, q1, q2, q3, q4, q5, q6, q7, q8, q9⟩ := ya (Γ := Z.plain.Γ) (B := { (A.put i (.list [.int (.lit x), .int (.lit y)])) with locs := [(a, .loc i), (b, .int (.lit t))], cells := [] }) (a := a) (b := b) (d := d) (i := i) (x := x) (y := y) (t := t) 8
    (by refine (?_ : (A.heap.put i _).get i = _); rw [Tr.ba, if_pos rfl]) rfl tM HW HX hx hy HY ht Lh
   have yb : dT Z.plain.Γ (bI Z.plain.Γ 18) tk [.loc i, .int (.lit t)] (A.put i (.list [.int (.lit x), .int (.lit y)])) = ok (.int (.lit rr)) { B' with locs := A.locs, cells := A.cells } := by
    exact pT (by intro h; cases h) (show cu tk Z.plain.Γ.fns = some (eS a b d) from hf) kQ rfl H8
   refine bad (au.one (fun l e => d9 G.plain (qF Cp) (sound G.plain (qF Cp) 18) (hr.le (by decide)) H1.plain (as := [.loc i, .int (.lit t)]) (us := [.ref (c.σ i).1, .int t tt]) (.cons ⟨hi, rfl⟩ (.cons ⟨trivial, tt, rfl⟩ .nil)) l (yb.trans e)) fun u c' s' le H' r' => ?_)
   ·have H2 := H'.iy
    have le := le.iy
    have cP : i < c'.n := Nat.lt_of_lt_of_le hi le.n
    refine q rr c' s' u q1 q2 le ?_ r'
    have yK := H2.objs i (.list [.int (.lit x'), .int (.lit y')]) ((q6 i).trans (if_pos rfl))
    obtain ⟨vs, Be, g1, g2⟩ := yK
    have H4 := H2.change cP (o' := .src) (fun J J e J J => e) (a6.of fun J J e => e) (by
     obtain ⟨u1, u2, rfl⟩ := qE g2
     exact ⟨x', y', u1, u2, Be, g1, q3, q4, q5⟩) rfl rfl
    refine H4.HZ (fun j => ?_) q8.symm q7.symm rfl rfl q9.symm
    refine (?_ : A.heap.get j = (B'.heap.put i .src).get j)
    rw [Tr.ba]
    by_cases q : j = i
    ·refine ae (if_pos q) ?_; refine ae q ?_; exact hm
    ·rw [if_neg q, q6, if_neg q]
     refine (?_ : _ = (A.heap.put i _).get j)
     rw [Tr.ba, if_neg q]
  by_cases h8 : t = 8
  ·rw [if_pos h8] at el
   cases el
   have h8 : t = 8 := h8
   refine bad (main (by omega) (by omega) _ _ fun rr c' s' u k1 k2 le H' hu => ?_)
   obtain ⟨p, hp, p1, p2⟩ := k7 (A := A) (Af A) k1 (h8 ▸ k2)
   have Ag := m6 (A := A) hp
   obtain ⟨_, tu, rfl⟩ := hu
   by_cases q : p.1 + 1 = p.2
   ·rw [if_pos q] at Ag
    exact ⟨_, A, c', Ag, le, H', trivial, tu, by refine (?_ : Value.int rr tu = Value.int p.1 tu); refine ae (show rr = p.1 by omega) ?_; rfl⟩
   ·rw [if_neg q] at Ag
    refine (symbol (lo := p.1) (hi := p.2) (tu := tu) le H' p1 p2).elim fun wV aj => (aj).elim fun x1 ax => (ax).elim fun x2 x3 => ?_
    exact ⟨_, _, wV, Ag, x1, x2, x3⟩
  ·rw [if_neg h8] at el
   by_cases ht : 0 < t ∧ t ≤ 8
   ·rw [if_pos ht] at el
    cases el
    exact bad (main ht.1 (by omega) _ _ fun rr c' s' u k1 k2 le H' hu => ⟨_, A, c', m4 (Nat.le_refl _) (by omega) (by omega), le, H', hu⟩)
   ·rw [if_neg ht] at el
    by_cases ht : 8 < t ∧ t ≤ 256
    ·rw [if_pos ht] at el
     obtain rfl := aO el
     refine bad (main (by omega) ht.2 _ _ fun rr c' s' u k1 k2 le H' hu => ?_)
     obtain ⟨_, tu, rfl⟩ := hu
     obtain ⟨wV, x1, x2, x3⟩ := symbol (lo := 0) (hi := t) (tu := tu) le H' k1 k2
     exact ⟨_, _, wV, .head _, x1, x2, x3⟩
    ·rw [if_neg ht] at el; cases el
end
end aD
end
section
open PySem PySem.Calls PyProof.Rows PySem.W PySem.SeqAt PySem.Builtin
set_option backward.match.sparseCases false
set_option maxRecDepth 100000
namespace aD
noncomputable def fragOf (h : Heap) (as : List Nat) : Frag := as.filterMap fun a => (h.get? a).map fun o => (a, o)
set_option tactic.hygienic true in
theorem fZ (h : Heap) : ∀ as : List Nat, (fragOf h as).In h
 | [] => fun a o e => by cases e
 | b :: r => fun a o e => by
  delta fragOf at e
  rw [List.filterMap_cons] at e
  cases hb : h.get? b with
  | none => rw [hb] at e; exact fZ h r a o e
  | some p =>
   rw [hb] at e
   dsimp -iota only [Option.map_some] at e
   rw [List.lookup_cons] at e
   split at e
   ·rename_i q; obtain rfl := aO e; refine ae (iB q) ?_; exact hb
   ·exact fZ h r a o e
noncomputable def iZ (t : List (List Nat)) (i : Nat) : Str := match t[i]? with
 | some l => strOf l
 | none => strOf [1114112 + i]
theorem yc {a b : List Nat} : jz a b = true ↔ a = b := cW.to_iff
noncomputable def om : List (List Nat) → Bool
 | [] => true
 | a :: r => !(r.any (jz a)) && a.all (fun x => Nat.blt x 1114112) && om r
theorem js : ∀ {t : List (List Nat)}, om t = true → t.Nodup ∧ ∀ l ∈ t, ∀ x ∈ l, x < 1114112
 | [], _ => ⟨.nil, fun J h => by cases h⟩
 | a :: r, h => by
  refine (ao h).elim fun h h3 => ?_
  refine (ao h).elim fun h1 h2 => ?_
  refine (js h3).elim fun n1 n2 => ?_
  rw [Bool.not_eq_true', List.any_eq_false] at h1
  refine ⟨List.nodup_cons.mpr ⟨fun hm => h1 a hm (yc.mpr rfl), n1⟩, fun l hl x hx => ?_⟩
  rcases ff hl with rfl | hl
  ·exact Nat.le_of_ble_eq_true (lx h2 x hx)
  ·exact n2 l hl x hx
set_option tactic.hygienic true in
theorem yd {t : List (List Nat)} (h : om t = true) : ∀ x y, iZ t x = iZ t y → x = y := fun x y e => by
 refine (js h).elim fun n1 n2 => ?_
 delta iZ at e
 split at e
 ·rename_i l hl
  split at e
  ·rename_i k hk
   have := dB _ _ e
   subst this
   obtain ⟨p1, p2⟩ := yH hl
   refine (yH hk).elim fun p3 p4 => ?_
   exact (List.getElem_inj n1).mp (p2.trans p4.symm)
  ·have := dB _ _ e
   have h' := n2 l (List.mem_of_getElem? hl) (1114112 + y) (by refine ae this ?_; exact .head _)
   omega
 ·split at e
  ·rename_i k hk
   have := dB _ _ e
   have h' := n2 k (List.mem_of_getElem? hk) (1114112 + x) (by refine bK this ?_; exact .head _)
   omega
  ·have := dB _ _ e
   simp -iota only [List.cons.injEq, and_true] at this
   omega
noncomputable def oq (u : Value) (s : String) : Bool := match u with
 | .builtin n => n == s
 | _ => false
theorem f6 {u : Value} {s : String} (h : oq u s = true) : u = .builtin s := by
 cases u with
 | builtin n => (refine ae (iB h) ?_; rfl)
 | _ => exact bf h
noncomputable def jt (u : Value) (s : String) : Bool := match u with
 | .type n => n == s
 | _ => false
theorem dN {u : Value} {s : String} (h : jt u s = true) : u = .type s := by
 cases u with
 | type n => (refine ae (iB h) ?_; rfl)
 | _ => exact bf h
noncomputable def eU (u : Value) (a : Nat) : Bool := match u with
 | .ref b => Nat.beq a b
 | _ => false
theorem cT {u : Value} {a : Nat} (h : eU u a = true) : u = .ref a := by
 cases u with
 | ref n => (refine ae (Nat.eq_of_beq_eq_true h) ?_; rfl)
 | _ => exact bf h
noncomputable def E3 (i : Int) (u : Value) : Bool := match u with
 | .int j _ => decide (i = j)
 | _ => false
noncomputable def strOk (l : List Nat) (u : Value) : Bool := match u with
 | .str s _ => s == strOf l
 | _ => false
noncomputable def uc (b : BS) (u : Value) : Bool := match u with
 | .bytes a _ => b == bif a.toList.isEmpty then [] else [.lit (a.toList.map (·.toNat))]
 | _ => false
noncomputable def ot (u : Value) : Bool := match u with
 | .none => true
 | _ => false
noncomputable def CX (a : Bool) (u : Value) : Bool := match u with
 | .bool b => a == b
 | _ => false
noncomputable def H9 (b : Bi) (u : Value) : Bool := match b with
 | .range => jt u "range"
 | .len => oq u "len"
 | .sorted => oq u "sorted"
 | .max => oq u "max"
noncomputable def E4 (v : V) (u : Value) : Bool := match v with
 | .none => ot u
 | .bool a => CX a u
 | .int (.lit i) => E3 i u
 | .str l => strOk l u
 | .bytes b => uc b u
 | .fn a => eU u a
 | .cls a => eU u a
 | .ty t => jt u t.name
 | .bi b => H9 b u
 | _ => false
theorem lQ {b : BS} {u : Value} (h : uc b u = true) (c : Cfg) : VR c (.bytes b) u := by
 cases u with
 | bytes a t =>
  obtain rfl := iB (show (b == bif a.toList.isEmpty then [] else [.lit (a.toList.map (·.toNat))]) = true from h)
  exact ⟨(jD (ρ := c.ρ) a.toList).1, t, by refine ae ((jD (nv := 0) a.toList).2) ?_; rfl⟩
 | _ => exact bf h
theorem i0 {u : Value} (h : ot u = true) : u = .none := by
 cases u with
 | none => rfl
 | _ => exact bf h
theorem i5 {v : V} {u : Value} (h : E4 v u = true) (c : Cfg) : VR c v u := by
 cases v with
 | none => exact i0 h
 | bool b => cases u with
  | bool d => obtain rfl := iB (show (b == d) = true from h); rfl
  | _ => exact bf h
 | loc i => exact bf h
 | bb => exact bf h
 | int x =>
  cases x with
  | va k o => exact bf h
  | lit i => cases u with
   | int j t => obtain rfl := of_decide_eq_true (show decide (i = j) = true from h); exact ⟨trivial, _, rfl⟩
   | _ => exact bf h
 | str l => cases u with
  | str s t => exact ⟨t, by refine ae (iB (show (s == strOf l) = true from h)) ?_; rfl⟩
  | _ => exact bf h
 | bytes b => exact lQ h c
 | fn a => exact cT h
 | cls a => exact cT h
 | ty t => exact dN h
 | bi b => cases b <;> first | exact dN h | exact f6 h
theorem m8 {α β : Type} {f : α → β → Bool} {R : α → β → Prop} (h : ∀ a b, f a b = true → R a b) : ∀ {l : List α} {k : List β}, encL f l k = true → aS R l k
 | [], [], _ => .nil
 | [], _ :: _, e => by cases e
 | _ :: _, [], e => by cases e
 | _ :: _, _ :: _, e => .cons (h _ _ (ao e).1) (m8 h (ao e).2)
noncomputable def Du (r : Option (Option Value)) (s : String) : Bool := match r with
 | some (some u) => oq u s
 | _ => false
theorem k8 {r : Option (Option Value)} {s : String} (h : Du r s = true) : r = some (some (.builtin s)) := by
 cases r with
 | none => exact bf h
 | some o => cases o with
  | none => exact bf h
  | some u => (refine ae (f6 (u := u) (s := s) h) ?_; rfl)
noncomputable def Ah (r : Option (Option Value)) : Bool := match r with
 | some none => true
 | _ => false
theorem ou {r : Option (Option Value)} (h : Ah r = true) : r = some none := by
 cases r with
 | none => exact bf h
 | some o => cases o with
  | none => rfl
  | some u => exact bf h
noncomputable def qG (r : Option (Option Value)) (a : Nat) : Bool := match r with
 | some (some u) => eU u a
 | _ => false
theorem ow {r : Option (Option Value)} {a : Nat} (h : qG r a = true) : r = some (some (.ref a)) := by
 cases r with
 | none => exact bf h
 | some o => cases o with
  | none => exact bf h
  | some u => (refine ae (cT (u := u) (a := a) h) ?_; rfl)
noncomputable def ye (r : Option Value) (s : String) : Bool := match r with
 | some u => jt u s
 | _ => false
theorem ud {r : Option Value} {s : String} (h : ye r s = true) : r = some (.type s) := by
 cases r with
 | none => exact bf h
 | some u => (refine ae (dN (u := u) (s := s) h) ?_; rfl)
noncomputable def BC (b : FuncBody) (p : List Stmt → Bool) : Bool := match b with
 | .stmts x => p x
 | _ => false
theorem yf {b : FuncBody} {p : List Stmt → Bool} (h : BC b p = true) : ∃ x, b = .stmts x ∧ p x = true := by
 cases b with
 | stmts x => exact ⟨_, rfl, h⟩
 | _ => exact bf h
noncomputable def CY (r : Option Obj) (p : List Value → Bool) : Bool := match r with
 | some o => (match o.data with | .seq xs _ => p xs.toList | _ => false)
 | none => false
theorem Ai {r : Option Obj} {p : List Value → Bool} (h : CY r p = true) : ∃ o xs n, r = some o ∧ o.data = .seq xs n ∧ p xs.toList = true := by
 cases r with
 | none => exact bf h
 | some o =>
  have h : (match o.data with | .seq xs _ => p xs.toList | _ => false) = true := h
  generalize hd : o.data = d at h
  cases d with
  | seq xs n => exact ⟨o, xs, n, rfl, hd, h⟩
  | _ => exact bf h
noncomputable def yg (d : Value) (f : Nat → Bool) (e : Bool) : Bool := match d with
 | .none => e
 | .ref T => f T
 | _ => false
theorem yh {d : Value} {f : Nat → Bool} {e : Bool} (h : yg d f e = true) : (d = .none ∧ e = true) ∨ ∃ T, d = .ref T ∧ f T = true := by
 cases d with
 | none => exact .inl ⟨rfl, h⟩
 | ref T => exact .inr ⟨_, rfl, h⟩
 | _ => exact bf h
noncomputable def yi (k : ScopeKind) : Bool := match k with
 | .function => true
 | _ => false
theorem vU {k : ScopeKind} (h : yi k = true) : k = .function := by
 cases k <;> first | rfl | exact bf h
noncomputable def yj {α : Type} (o : Option α) (p : α → Bool) : Bool := match o with
 | some a => p a
 | none => false
theorem jI {α : Type} {o : Option α} {p : α → Bool} (h : yj o p = true) : ∃ a, o = some a ∧ p a = true := by
 cases o with
 | none => exact bf h
 | some a => exact ⟨a, rfl, h⟩
noncomputable def Ia (r : Option CFound) (p : Value → Value → Value → Value → Bool) : Bool := match r with
 | some (.get g a n t) => p g a n t
 | _ => false
theorem yk {r : Option CFound} {p : Value → Value → Value → Value → Bool} (h : Ia r p = true) : ∃ g a n t, r = some (.get g a n t) ∧ p g a n t = true := by
 cases r with
 | none => exact bf h
 | some c => cases c with
  | val v => exact bf h
  | get g a n t => exact ⟨g, a, n, t, rfl, h⟩
noncomputable def Aj (u : Value) (p : Addr → Bool) : Bool := match u with
 | .ref a => p a
 | _ => false
theorem oy {u : Value} {p : Addr → Bool} (h : Aj u p = true) : ∃ a, u = .ref a ∧ p a = true := by
 cases u with
 | ref a => exact ⟨a, rfl, h⟩
 | _ => exact bf h
noncomputable def BD (r : Option (List Value)) (p : Value → Bool) : Bool := match r with
 | some (v :: _) => p v
 | _ => false
theorem yl {r : Option (List Value)} {p : Value → Bool} (h : BD r p = true) : ∃ v t, r = some (v :: t) ∧ p v = true := by
 cases r with
 | none => exact bf h
 | some l => cases l with
  | nil => exact bf h
  | cons v t => exact ⟨v, t, rfl, h⟩
noncomputable def fnAt (r : Option Obj) (p : FuncData → Bool) : Bool := match r with
 | some ⟨_, _, .func fd, _⟩ => p fd
 | _ => false
theorem Ak {r : Option Obj} {p : FuncData → Bool} (h : fnAt r p = true) : ∃ oc od u9 fd, r = some ⟨oc, od, .func fd, u9⟩ ∧ p fd = true := by
 cases r with
 | none => exact bf h
 | some o =>
  obtain ⟨oc, od, d, u9⟩ := o
  cases d with
  | func fd => exact ⟨_, _, _, fd, rfl, h⟩
  | _ => exact bf h
theorem aM {a b : Bool} (h : (a && b) = true) : a = true := (ao h).1
theorem ai {a b : Bool} (h : (a && b) = true) : b = true := (ao h).2
theorem k9 {a : Bool} (h : (!a) = true) : a = false := by
 cases a with
 | false => rfl
 | true => exact bf h
noncomputable def ym (d : Data) (p : Array Value → Bool) : Bool := match d with
 | .fields vs => p vs
 | _ => false
theorem qH {d : Data} {p : Array Value → Bool} (h : ym d p = true) : ∃ vs, d = .fields vs ∧ p vs = true := by
 cases d with
 | fields vs => exact ⟨vs, rfl, h⟩
 | _ => exact bf h
noncomputable def sV (u : Value) : Bool := match u with
 | .int _ _ => true
 | _ => false
noncomputable def yn (u : Value) : Bool := match u with
 | .str _ _ => true
 | _ => false
noncomputable def ue (u : Value) : Bool := match u with
 | .bool _ => true
 | _ => false
theorem m9 {u : Value} (h : sV u = true) : ∃ i t, u = .int i t := by
 cases u <;> first | exact ⟨_, _, rfl⟩ | exact bf h
theorem vV {u : Value} (h : yn u = true) : ∃ i t, u = .str i t := by
 cases u <;> first | exact ⟨_, _, rfl⟩ | exact bf h
theorem sW {u : Value} (h : ue u = true) : ∃ i, u = .bool i := by
 cases u <;> first | exact ⟨_, rfl⟩ | exact bf h
noncomputable def Am (p : Nat) (l : List Nat) : Bool := l.any (Nat.beq p)
theorem An {p : Nat} {l : List Nat} (h : Am p l = true) : p ∈ l := by
 refine (List.any_eq_true.mp h).elim fun x aj => (aj).elim fun hx e => ?_
 refine ae (Nat.eq_of_beq_eq_true e) ?_; exact hx
theorem Ao {p : Nat} {l : List Nat} (h : Am p l = false) : p ∉ l := fun hm => by
 have := List.any_eq_false.mp h p hm
 exact this (Nat.beq_refl p)
section
variable (K : Frag) (nm : Nat → Str)
noncomputable def codeB (tabs : List Nat) (v : Value) : Bool := Aj v fun c => yj (K.lookup c) fun o => jt o.cls "code" && ym o.data fun vs => Aj (vs.getD 11 .none) fun P => Am P tabs && (!(Nat.beq c P) && (yn (vs.getD 18 .none) && (sV (vs.getD 7 .none) && (ue (vs.getD 9 .none) && sV (vs.getD 10 .none)))))
noncomputable def kindB (r : Option NameKind) (k : NameKind) : Bool := match r with
 | some x => x == k
 | none => false
noncomputable def BE (fn : Fn) (fd : FuncData) : Bool :=
 BC fd.body (encL (cG nm 60 fd.scope.names) fn.body) && (Nat.beq fd.globals mainGlobals && (fd.closure.isEmpty && (Nat.beq fd.builtins builtinsNs && (codeIn K fd.code fd.qualname && (!fd.scope.isCoroutine && (!fd.scope.isGenerator && (yi fd.scope.kind &&
  (fd.params.posonlyargs.isEmpty && (fd.params.kwonlyargs.isEmpty && (fd.params.vararg.isNone && (fd.params.kwarg.isNone && (encL (fun (p : Arg) q => sEq p.arg (nm q)) fd.params.args fn.params &&
  (fn.params.all (fun p => if fn.cells.contains p then kindB (A9 (nm p) fd.scope.names) .cell else kindB (A9 (nm p) fd.scope.names) .local) && (fn.cells.all (fun p => kindB (A9 (nm p) fd.scope.names) .cell) &&
  (fd.scope.names.all (fun x => x.2 != .free) && (yg fd.defaults (fun T => CY (K.lookup T) (encL E4 fn.dflts)) fn.dflts.isEmpty && (FX fn.params && (FX fn.cells && Nat.ble fn.dflts.length fn.params.length))))))))))))))))))
noncomputable def qJ (tabs : List Nat) (a : Nat) (fn : Fn) : Bool := fnAt (K.lookup a) fun fd => BE K nm fn fd && (!(fO fd.scope.names) || codeB K tabs fd.code)
noncomputable def uf (C : Nat) (m f : Nat) : Bool := Du (specialIn K (.ref C) "__getattribute__") "type.__getattribute__" &&
 yj (typeIn K (.ref C)) fun mc => readsIn K C mc && Ia (findCls K (.ref C) mc (nm m)) fun g a n t => oq g "staticmethod.__get__" && (ot n && (eU t C && Aj a fun p => BD (recIn K p "staticmethod") fun v => eU v f))
noncomputable def sX (C : Nat) (k : gU) : Bool :=
 Du (findIn K (.ref C) "__getattribute__") "object.__getattribute__" && Du (findIn K (.ref C) "__setattr__") "object.__setattr__" && Ah (findIn K (.ref C) "__getattr__") && j0 K C && makesIn K C && (clsIn K C).any (·.hasDict) &&
 k.du.all (fun f => Ah (findIn K (.ref C) (nm f))) && k.meths.all (fun x => if x.2.1 then uf K nm C x.1 x.2.2 else qG (findIn K (.ref C) (nm x.1)) x.2.2 && ye (typeIn K (.ref x.2.2)) "function") && keepIn K (.ref C)
noncomputable def clsAt (r : Option Obj) (p : Value → ClassData → List (Option Value) → Bool) : Bool := match r with
 | some ⟨oc, _, .cls cd, sl⟩ => p oc cd sl.toList
 | _ => false
noncomputable def Dv (f : List (Option Value) → Bool) : List (Option Value) → Bool
 | [] => false
 | _ :: r => f r
noncomputable def Cn (l : List (Option Value)) : Bool := match l with
 | [] => false
 | u :: r => yj u (fun u => oq u "Exception.__new__") && Dv (·.isEmpty) r
noncomputable def newX (l : List (Option Value)) : Bool := Dv (Dv (Dv (Dv Cn))) l
noncomputable def E5 (C : Nat) (l : List Value) : Bool := match l with
 | u :: bm => eU u C && (bm.contains (.type "Exception") && (!(bm.contains (.type "AttributeError")) && !(bm.contains (.type "NameError"))))
 | _ => false
noncomputable def sY (C : Nat) : Bool := clsAt (K.lookup C) (fun oc cd sl => jt oc "type" && (!cd.abstract && (!cd.hasDel && (newX sl && E5 C cd.mro)))) && Du (specialIn K (.ref C) "__call__") "type.__call__" && (instIn K (.ref C) (.type "type") == some true)
noncomputable def sZ (C : Nat) (k : gU) : Bool :=
 Du (findIn K (.ref C) "__setattr__") "object.__setattr__" && (j0 K C && ((clsIn K C).any (·.hasDict) && (k.du.all (fun f => Ah (findIn K (.ref C) (nm f))) &&
  (k.meths.all (fun x => x.2.1 || (qG (findIn K (.ref C) (nm x.1)) x.2.2 && ye (typeIn K (.ref x.2.2)) "function")) && (sY K C && keepIn K (.ref C))))))
noncomputable def jJ (x : Nat) (v : V) : Bool := match nsIn K mainGlobals (nm x) with
 | some (some u) => E4 v u
 | some none => (match nsIn K builtinsNs (nm x) with
  | some (some u) => E4 v u
  | _ => false)
 | none => false
noncomputable def yo (l : List (Nat × List Nat)) : Bool := l.all fun d => l.all fun c => exmOne K (.ref d.1) (.ref c.1) == some (d.2.contains c.1)
noncomputable def E6 (Γ : Ctx) (C : Nat) : Bool := (af C Γ.cf).isSome
noncomputable def i6 (tabs : List Nat) (Γ : Ctx) : Bool := Γ.fns.all (fun l => l.all fun x => qJ K nm tabs x.1 x.2) && Γ.dv.all (fun x => cond (E6 Γ x.1) (sZ K nm x.1 x.2) (sX K nm x.1 x.2)) && Γ.glob.all (fun x => jJ K nm x.1 x.2) && (K.lookup sysModules).isSome && (match Γ.take with | some a => fnIn K a | none => true) && yo K Γ.cf
end
section
variable {Z : aL}
theorem lg {r : Option NameKind} {k : NameKind} (h : kindB r k = true) : r = some k := by
 cases r with
 | none => exact bf h
 | some x => (refine ae (iB (show (x == k) = true from h)) ?_; rfl)
theorem qK {α β : Type} {f : α → Str} {g : β → Str} : ∀ {l : List α} {k : List β}, encL (fun a b => sEq (f a) (g b)) l k = true → l.map f = k.map g
 | [], [], _ => rfl
 | [], _ :: _, e => by cases e
 | _ :: _, [], e => by cases e
 | _ :: _, _ :: _, e => by refine ae List.map_cons ?_; refine ae List.map_cons ?_; refine ae (cL (ao e).1) ?_; refine ae (qK (ao e).2) ?_; rfl
theorem CZ {l : List (Str × NameKind)} (h : (l.all fun x => x.2 != .free) = true) (n : Str) : l.lookup n ≠ some .free := fun e => by
 have := lx h _ (mem_of_lookup e)
 exact Bool.false_ne_true this
theorem Ap {b : Bool} {x : Str} {sc : cA} (h : (if b then kindB (A9 x sc) .cell else kindB (A9 x sc) .local) = true) : (b = false ∧ sc.lookup x = some .local) ∨ (b = true ∧ sc.lookup x = some .cell) := by
 cases b with
 | false => exact .inl ⟨rfl, nE.symm.trans (lg h)⟩
 | true => exact .inr ⟨rfl, nE.symm.trans (lg h)⟩
theorem C0 {K : Frag} {d : Value} {l : List V} (h : yg d (fun T => CY (K.lookup T) (encL E4 l)) l.isEmpty = true) : (d = .none ∧ l = []) ∨ ∃ T o xs n, d = .ref T ∧ K.lookup T = some o ∧ o.data = .seq xs n ∧ ∀ c, aS (VR c) l xs.toList := by
 rcases yh h with ⟨h1, h2⟩ | ⟨T, h1, h2⟩
 ·exact .inl ⟨h1, te h2⟩
 ·refine (Ai h2).elim fun o aj => (aj).elim fun xs ax => (ax).elim fun n aP => (aP).elim fun h3 bG => (bG).elim fun h4 h5 => ?_
  exact .inr ⟨T, o, xs, n, h1, h3, h4, fun c => m8 (fun J J h => i5 h c) h5⟩
theorem qM {K : Frag} {nm : Nat → Str} {fn : Fn} {fd : FuncData} (h : BE K nm fn fd = true) : ∃ body, encL (cG nm 60 fd.scope.names) fn.body body = true ∧ KO K nm fn fd body := by
 refine (yf (aM h)).elim fun body aj => (aj).elim fun hb he => ?_
 exact ⟨body, he, Nat.eq_of_beq_eq_true (aM (ai h)), te (aM (ai (ai h))), Nat.eq_of_beq_eq_true (aM (ai (ai (ai h)))), hb, (aM (ai (ai (ai (ai h))))), k9 (aM (ai (ai (ai (ai (ai h)))))), k9 (aM (ai (ai (ai (ai (ai (ai h))))))), vU (aM (ai (ai (ai (ai (ai (ai (ai h)))))))),
  te (aM (ai (ai (ai (ai (ai (ai (ai (ai h))))))))), te (aM (ai (ai (ai (ai (ai (ai (ai (ai (ai h)))))))))), yF (aM (ai (ai (ai (ai (ai (ai (ai (ai (ai (ai h))))))))))), yF (aM (ai (ai (ai (ai (ai (ai (ai (ai (ai (ai (ai h)))))))))))), qK (aM (ai (ai (ai (ai (ai (ai (ai (ai (ai (ai (ai (ai h))))))))))))),
  fun p hp => Ap (lx (aM (ai (ai (ai (ai (ai (ai (ai (ai (ai (ai (ai (ai (ai h)))))))))))))) p hp), fun p hp => nE.symm.trans (lg (lx (aM (ai (ai (ai (ai (ai (ai (ai (ai (ai (ai (ai (ai (ai (ai h))))))))))))))) p hp)), CZ (aM (ai (ai (ai (ai (ai (ai (ai (ai (ai (ai (ai (ai (ai (ai (ai h)))))))))))))))), C0 (aM (ai (ai (ai (ai (ai (ai (ai (ai (ai (ai (ai (ai (ai (ai (ai (ai h))))))))))))))))), kS (aM (ai (ai (ai (ai (ai (ai (ai (ai (ai (ai (ai (ai (ai (ai (ai (ai (ai h)))))))))))))))))), kS (aM (ai (ai (ai (ai (ai (ai (ai (ai (ai (ai (ai (ai (ai (ai (ai (ai (ai (ai h))))))))))))))))))), Nat.le_of_ble_eq_true (ai (ai (ai (ai (ai (ai (ai (ai (ai (ai (ai (ai (ai (ai (ai (ai (ai (ai (ai h)))))))))))))))))))⟩
theorem qN (X : Z.K.In Z.h₀) {v : Value} (h : codeB Z.K Z.tabs v = true) : rB Z v := by
 obtain ⟨c, rfl, h⟩ := oy h
 refine (jI h).elim fun o aj => (aj).elim fun ho h => ?_
 refine (qH (ai h)).elim fun vs aj => (aj).elim fun hd h2 => ?_
 refine (oy h2).elim fun P aj => (aj).elim fun hP h3 => ?_
 refine (vV (aM (ai (ai h3)))).elim fun s aj => (aj).elim fun ts NG => ?_
 refine (m9 (aM (ai (ai (ai h3))))).elim fun i7 aj => (aj).elim fun t7 e7 => ?_
 refine (sW (aM (ai (ai (ai (ai h3)))))).elim fun b9 e9 => ?_
 refine (m9 (ai (ai (ai (ai (ai h3)))))).elim fun NH aj => (aj).elim fun NI NJ => ?_
 have NK : vs[11]? = some (.ref P) := by
  rw [Array.getD_eq_getD_getElem?] at hP
  cases q : vs[11]? with
  | none => rw [q] at hP; cases hP
  | some u => rw [q] at hP; exact congrArg some hP
 exact ⟨c, P, rfl, ⟨o, vs, s, ts, i7, t7, b9, NH, NI, X _ _ ho, dN (aM h), hd, NK, hP, NG, e7, e9, NJ, Nat.ne_of_beq_eq_false (k9 (aM (ai h3)))⟩, An (aM h3)⟩
theorem qO (X : Z.K.In Z.h₀) {a : Nat} {fn : Fn} (h : qJ Z.K Z.nm Z.tabs a fn = true) : iQ Z a fn := by
 refine (Ak h).elim fun oc aj => (aj).elim fun od ax => (ax).elim fun u9 aP => (aP).elim fun fd bG => (bG).elim fun hk h => ?_
 refine (qM (aM h)).elim fun body aj => (aj).elim fun h1 h2 => ?_
 refine ⟨oc, od, u9, fd, body, 60, hk, h1, h2, fun hc => qN X ?_⟩
 have q := ai h
 rw [hc] at q
 exact q
theorem s8 {C m f : Nat} (h : uf Z.K Z.nm C m f = true) : specialIn Z.K (.ref C) "__getattribute__" = some (some (.builtin "type.__getattribute__")) ∧
 ∃ p rest mc, readsIn Z.K C mc = true ∧ findCls Z.K (.ref C) mc (Z.nm m) = some (.get (.builtin "staticmethod.__get__") (.ref p) .none (.ref C)) ∧ recIn Z.K p "staticmethod" = some (.ref f :: rest) := by
 refine ⟨k8 (aM h), ?_⟩
 refine (jI (ai h)).elim fun mc aj => (aj).elim fun _ h => ?_
 obtain ⟨g, a, n, t, hc, q⟩ := yk (ai h)
 obtain rfl := f6 (aM q)
 obtain rfl := i0 (aM (ai q))
 obtain rfl := cT (aM (ai (ai q)))
 obtain ⟨p, rfl, q1⟩ := oy (ai (ai (ai q)))
 obtain ⟨v, rest, hr, q2⟩ := yl q1
 obtain rfl := cT q2
 exact ⟨p, rest, mc, aM h, hc, hr⟩
theorem oz {C : Nat} {k : gU} (h : sX Z.K Z.nm C k = true) : g9 Z C k :=
 ⟨k8 (aM (aM (aM (aM (aM (aM (aM (aM h)))))))), k8 (ai (aM (aM (aM (aM (aM (aM (aM h)))))))), ou (ai (aM (aM (aM (aM (aM (aM h))))))), (ai (aM (aM (aM (aM (aM h)))))), (ai (aM (aM (aM (aM h))))), (ai (aM (aM (aM h)))), fun f hf => ou (lx (ai (aM (aM h))) f hf),
  fun m f hm => have q : (qG (findIn Z.K (.ref C) (Z.nm m)) f && ye (typeIn Z.K (.ref f)) "function") = true := lx (ai (aM h)) _ (bB hm); ⟨ow (aM q), ud (ai q)⟩,
  fun m f hm => s8 (lx (ai (aM h)) _ (bB hm)), (ai h)⟩
theorem yp {r : Option Obj} {p : Value → ClassData → List (Option Value) → Bool} (h : clsAt r p = true) : ∃ oc od cd sl, r = some ⟨oc, od, .cls cd, sl⟩ ∧ p oc cd sl.toList = true := by
 cases r with
 | none => exact bf h
 | some o =>
  obtain ⟨oc, od, d, sl⟩ := o
  cases d with
  | cls cd => exact ⟨_, _, cd, _, rfl, h⟩
  | _ => exact bf h
theorem lh {f : List (Option Value) → Bool} {l : List (Option Value)} (h : Dv f l = true) : ∃ a r, l = a :: r ∧ f r = true := by
 cases l with
 | nil => exact bf h
 | cons a r => exact ⟨a, r, rfl, h⟩
theorem Aq {l : List (Option Value)} (h0 : newX l = true) : ∃ k0 k1 k2 k3 k5, l = [k0, k1, k2, k3, some (.builtin "Exception.__new__"), k5] := by
 obtain ⟨k0, l, rfl, h1⟩ := lh h0
 obtain ⟨k1, l, rfl, h2⟩ := lh h1
 obtain ⟨k2, l, rfl, h3⟩ := lh h2
 obtain ⟨k3, l, rfl, h4⟩ := lh h3
 cases l with
 | nil => exact bf h4
 | cons u l =>
  refine (ao h4).elim fun q1 q2 => ?_
  obtain ⟨u, rfl, q1⟩ := jI q1
  obtain ⟨k5, l, rfl, q2⟩ := lh q2
  refine ae (f6 q1) ?_; refine ae (te q2) ?_
  exact ⟨k0, k1, k2, k3, k5, rfl⟩
theorem As {C : Nat} {l : List Value} (h : E5 C l = true) : ∃ bm, l = .ref C :: bm ∧ bm.contains (.type "Exception") = true ∧ bm.contains (.type "AttributeError") = false ∧ bm.contains (.type "NameError") = false := by
 cases l with
 | nil => exact bf h
 | cons u bm =>
  have h : (eU u C && (bm.contains (.type "Exception") && (!(bm.contains (.type "AttributeError")) && !(bm.contains (.type "NameError"))))) = true := h
  exact ⟨bm, by refine ae (cT (aM h)) ?_; rfl, aM (ai h), k9 (aM (ai (ai h))), k9 (ai (ai (ai h)))⟩
theorem oA {K : Frag} {C : Nat} (h : sY K C = true) {hp : Heap} (X : K.In hp) : nG hp C := by
 delta sY at h
 refine (ao h).elim fun h h3 => ?_
 refine (ao h).elim fun h1 h2 => ?_
 obtain ⟨oc, od, cd, sl, hk, q⟩ := yp h1
 obtain ⟨k0, k1, k2, k3, k5, hs⟩ := Aq (aM (ai (ai (ai q))))
 obtain ⟨bm, hm, m1, m2, m3⟩ := As (ai (ai (ai (ai q))))
 obtain ⟨nm, bs, mro, ns, qn, hd, sn, sub, ab, col, del⟩ := cd
 obtain rfl := dN (aM q)
 obtain rfl : ab = false := k9 (aM (ai q))
 obtain rfl : del = false := k9 (aM (ai (ai q)))
 obtain rfl : mro = .ref C :: bm := hm
 obtain rfl : sl = #[k0, k1, k2, k3, some (.builtin "Exception.__new__"), k5] := Array.toList_inj.mp hs
 exact ⟨⟨nm, qn, ns, bs, bm, hd, sn, sub, col, od, k0, k1, k2, k3, k5, X _ _ hk, m1, m2, m3⟩, fun M => looks_specialIn X (k8 h2), fun M => looks_instIn X (iB h3)⟩
theorem oB {C : Nat} {k : gU} (h : sZ Z.K Z.nm C k = true) : fo Z C k :=
 ⟨k8 (aM h), aM (ai h), aM (ai (ai h)), fun f hf => ou (lx (aM (ai (ai (ai h)))) f hf),
  fun m f hm => have q : (qG (findIn Z.K (.ref C) (Z.nm m)) f && ye (typeIn Z.K (.ref f)) "function") = true := lx (aM (ai (ai (ai (ai h))))) _ (bB hm); ⟨ow (aM q), ud (ai q)⟩,
  fun hp X => oA (aM (ai (ai (ai (ai (ai h)))))) X, ai (ai (ai (ai (ai (ai h)))))⟩
theorem jK {K : Frag} {h : Heap} (X : K.In h) {ns : Addr} {m : Str → Option Value} (hn : h.Ns ns m) {name : Str} {r : Option Value} (e : nsIn K ns name = some r) : m name = r := by
 delta nsIn at e
 generalize hk : K.lookup ns = o at e
 cases o with
 | none => exact no e
 | some o =>
 obtain ⟨c, d, dt, n⟩ := o
 cases dt with
 | dict es sl =>
  obtain ⟨o', Dh, Be, h1, h2, h3, h4⟩ := hn
  cases (X _ _ hk).symm.trans h1
  cases h2
  refine bK (h4 name) ?_
  dsimp only [nsFind, findBy]
  refine bK (Array.find?_toList) ?_
  replace e : PySem.W.getL name es.toList = some r := e
  delta PySem.W.getL at e
  generalize es.toList.find? (fun x => x.key.isStr name) = q at e
  cases q with
  | some en => exact aO e
  | none =>
   by_cases q : es.toList.any (fun x => x.refKey) = true
   ·exact no ((if_pos q).symm.trans e)
   ·exact aO ((if_neg q).symm.trans e)
 | _ => exact no e
set_option tactic.hygienic true in
theorem lR (X : Z.K.In Z.h₀) (hg : Z.h₀.Ns mainGlobals Z.mg) (hb : Z.h₀.Ns builtinsNs Z.mb) {x : Nat} {v : V} (h : jJ Z.K Z.nm x v = true) : ∃ u, (Z.mg (Z.nm x) = some u ∨ (Z.mg (Z.nm x) = none ∧ Z.mb (Z.nm x) = some u)) ∧ ∀ c, VR c v u := by
 delta jJ at h
 split at h
 ·rename_i u hu; exact ⟨u, .inl (jK X hg hu), i5 h⟩
 ·rename_i hu
  split at h
  ·rename_i u NL; exact ⟨u, .inr ⟨jK X hg hu, jK X hb NL⟩, i5 h⟩
  ·cases h
 ·cases h
end
end aD
end
section
open PySem PySem.Calls PyProof.Rows PySem.W PySem.SeqAt PySem.Builtin
set_option maxRecDepth 100000
namespace aD
noncomputable def fK (dg mx nu sz : Nat) : List S := [
 .asg (.loc sz) (.ite_ (.cmp (.loc nu) [.ge] [.cst (.int (.lit 0))]) (.loc nu) (.bin .sub (.neg (.cst (.int (.lit 1)))) (.loc nu))),
 .bE (.cmp (.loc sz) [.ge] [.bin .pow (.cst (.int (.lit 10))) (.cst (.int (.lit 18)))]) [.asg (.loc dg) (.bin .add (.bin .mul (.loc dg) (.loc sz)) (.loc sz))] [],
 .asg (.loc mx) (.bin .mod (.bin .add (.bin .add (.bin .mul (.loc mx) (.cst (.int (.lit 48271)))) (.bin .mod (.loc sz) (.cst (.int (.lit 2147483629))))) (.cst (.int (.lit 7919)))) (.cst (.int (.lit 2147483647))))]
noncomputable def gS (p dg mx nu sz : Nat) (cE : Int) : Fn := ⟨[p], [], [], [
 .asg (.tup [dg, mx]) (.tup [.cst (.int (.lit 0)), .cst (.int (.lit cE))]),
 .for_ [nu] (.loc p) (fK dg mx nu sz),
 .ret (some (.lst [.loc dg, .loc mx]))]⟩
section
variable {Γ : Ctx} {B : AS}
theorem BF {k : Nat} {e e' : E} {x y : Int} (h1 : (bI Γ (k + 1)).e e B = ok (.int (.lit x)) B) (h2 : (bI Γ (k + 1)).e e' B = ok (.int (.lit y)) B) : (bI Γ (k + 2)).c (.cmp e [.ge] [e']) B = ok (decide (y ≤ x)) B := by
 refine (?_ : Res.bind ((bI Γ (k + 1)).e e B) (fun a A => Res.bind ((bI Γ (k + 1)).e e' A) fun b A => eg A .ge a b) = _)
 rw [h1, aG, h2, aG]
 have q : ny B .ge (.int (.lit x)) (.int (.lit y)) = some (decide (y ≤ x)) := by
  refine (?_ : (if x + 1 ≤ y then some true else if y + 1 ≤ x + 1 then some false else none).map not = _)
  by_cases h : y ≤ x
  ·refine ae (if_neg (by omega)) ?_; refine ae (if_pos (by omega)) ?_; refine ae (decide_eq_true h) ?_; rfl
  ·refine ae (if_pos (by omega)) ?_; refine ae (decide_eq_false h) ?_; rfl
 dsimp only [eg]
 refine ae q ?_; rfl
theorem yq {k : Nat} {c a b : E} {t : Bool} (h : (bI Γ (k + 1)).c c B = ok t B) : (bI Γ (k + 2)).e (.ite_ c a b) B = (bI Γ (k + 1)).e (if t then a else b) B := by
 refine (?_ : Res.bind ((bI Γ (k + 1)).c c B) (fun t A => Bool.rec (motive := fun _ => Res V) ((bI Γ (k + 1)).e b A) ((bI Γ (k + 1)).e a A) t) = _)
 rw [h, aG]
 cases t <;> rfl
theorem yr {k : Nat} {c : E} {a b : List S} {t : Bool} (h : (bI Γ (k + 1)).c c B = ok t B) : (bI Γ (k + 2)).s (.bE c a b) B = aW (bI Γ (k + 1)) (if t then a else b) B := by
 refine (?_ : Res.bind ((bI Γ (k + 1)).c c B) (fun t A => aW (bI Γ (k + 1)) (Bool.rec (motive := fun _ => List S) b a t) A) = _)
 rw [h, aG]
 cases t <;> rfl
set_option tactic.hygienic true in
theorem st_loc {k : Nat} {x : Nat} {e : E} {v : V} (h : (bI Γ (k + 1)).e e B = ok v B) : (bI Γ (k + 2)).s (.asg (.loc x) e) B = ok .next (aN x v B) := by
 refine (?_ : Res.bind ((bI Γ (k + 1)).e e B) (fun v A => Res.bind (ok () (aN x v A)) fun J A => ok Fl.next A) = _)
 rw [h, aG, aG]
set_option tactic.hygienic true in
theorem yt {k : Nat} {t : T} {e : E} : (bI Γ (k + 2)).s (.asg t e) B = Res.bind ((bI Γ (k + 1)).e e B) fun v A => Res.bind (asg Γ (bI Γ (k + 1)) t v A) fun J A => ok Fl.next A := rfl
theorem Au {k : Nat} {e : E} {u : V} {B' : AS} (he : (bI Γ (k + 1)).e e B = ok u B') : (bI Γ (k + 2)).s (.ret (some e)) B = ok (.ret u) B' := by
 refine (?_ : Res.bind ((bI Γ (k + 1)).e e B) (fun v A => ok (Fl.ret v) A) = _)
 rw [he, aG]
theorem cU {x : Nat} {v : V} : af x (aN x v B).locs = some v := by
 refine (?_ : af x (fi x v B.locs) = _)
 rw [bH, if_pos rfl]
theorem cF {x y : Nat} {v : V} (h : x ≠ y) : af x (aN y v B).locs = af x B.locs := by
 refine (?_ : af x (fi y v B.locs) = _)
 rw [bH, if_neg h]
theorem vW (j : Nat) {x : Nat} (h : x ≤ max (j * (2 ^ 20 + 2) + 2 ^ 20) (2 ^ 20) + 1) : x ≤ (j + 1) * (2 ^ 20 + 2) := by
 generalize 2 ^ 20 = y at h ⊢
 rw [Nat.add_mul, Nat.one_mul]
 generalize j * (y + 2) = z at h ⊢
 omega
set_option tactic.hygienic true in
theorem vX (k : Nat) {dg mx nu sz j : Nat} {x d m : Int} (hn : af nu B.locs = some (.int (.lit x))) (hd : af dg B.locs = some (.int (.lit d))) (hm : af mx B.locs = some (.int (.lit m)))
 (n1 : dg ≠ mx) (n2 : dg ≠ sz) (n3 : mx ≠ sz) (hj : j ≤ 62) (bx : Int.intBits x ≤ 2 ^ 20) (bd : Int.intBits d ≤ j * (2 ^ 20 + 2)) (d0 : 0 ≤ d) (m0 : 0 ≤ m) (m1 : m < 2147483647) :
 ∃ d' m' B', aW (bI Γ (k + 9)) (fK dg mx nu sz) B = ok .next B' ∧ (B'.heap = B.heap ∧ B'.n = B.n ∧ B'.hd = B.hd) ∧ B'.vars = B.vars ∧ af dg B'.locs = some (.int (.lit d')) ∧ af mx B'.locs = some (.int (.lit m')) ∧ Int.intBits d' ≤ (j + 1) * (2 ^ 20 + 2) ∧ 0 ≤ d' ∧ 0 ≤ m' ∧ m' < 2147483647 := by
 obtain ⟨z, hz, z0, bz⟩ : ∃ z : Int, (bI Γ (k + 8)).e (.ite_ (.cmp (.loc nu) [.ge] [.cst (.int (.lit 0))]) (.loc nu) (.bin .sub (.neg (.cst (.int (.lit 1)))) (.loc nu))) B = ok (.int (.lit z)) B ∧ 0 ≤ z ∧ Int.intBits z ≤ 2 ^ 20 := by
  have t := BF (Γ := Γ) (k := k + 5) (b0 (k := k + 5) hn) (eA (k := k + 5) (v := .int (.lit 0)))
  by_cases h : 0 ≤ x
  ·refine ⟨x, ?_, h, bx⟩
   refine ae (yq (k := k + 6) t) ?_; refine ae (decide_eq_true h) ?_; refine ae (if_pos rfl) ?_
   exact b0 (k := k + 6) hn
  ·refine ⟨-1 - x, ?_, by omega, bits_of_natAbs_le (by omega) bx⟩
   refine ae (yq (k := k + 6) t) ?_; refine ae (decide_eq_false h) ?_; refine ae (if_neg (by decide)) ?_
   exact bU (k := k + 5) (u := .int (.lit (-1))) (by rfl) (b0 (k := k + 5) hn) rfl
 have s1 := st_loc (Γ := Γ) (k := k + 7) (x := sz) hz
 generalize F0 : aN sz (.int (.lit z)) B = B1 at s1
 have CL : af sz B1.locs = some (.int (.lit z)) := by refine bK F0 ?_; exact cU
 have Cn : af dg B1.locs = some (.int (.lit d)) := by refine bK F0 ?_; refine ae (cF n2) ?_; exact hd
 have E7 : af mx B1.locs = some (.int (.lit m)) := by refine bK F0 ?_; refine ae (cF n3) ?_; exact hm
 have e1 : (B1.heap = B.heap ∧ B1.n = B.n ∧ B1.hd = B.hd) ∧ B1.vars = B.vars := by refine bK F0 ?_; exact ⟨⟨rfl, rfl, rfl⟩, rfl⟩
 obtain ⟨d', B2, s2, e2, hd2, NM, EN, NN, NO⟩ : ∃ d' B2, (bI Γ (k + 9)).s (.bE (.cmp (.loc sz) [.ge] [.bin .pow (.cst (.int (.lit 10))) (.cst (.int (.lit 18)))]) [.asg (.loc dg) (.bin .add (.bin .mul (.loc dg) (.loc sz)) (.loc sz))] []) B1 = ok .next B2 ∧
  ((B2.heap = B1.heap ∧ B2.n = B1.n ∧ B2.hd = B1.hd) ∧ B2.vars = B1.vars) ∧ af dg B2.locs = some (.int (.lit d')) ∧ af mx B2.locs = some (.int (.lit m)) ∧ af sz B2.locs = some (.int (.lit z)) ∧ Int.intBits d' ≤ (j + 1) * (2 ^ 20 + 2) ∧ 0 ≤ d' := by
  have p := bU (Γ := Γ) (B := B1) (k := k + 5) (o := .pow) (e := .cst (.int (.lit 10))) (e' := .cst (.int (.lit 18))) (w := .int (.lit 1000000000000000000)) rfl rfl rfl
  have t := BF (Γ := Γ) (k := k + 6) (b0 (k := k + 6) CL) p
  have bm : Int.intBits (d * z) ≤ j * (2 ^ 20 + 2) + 2 ^ 20 := bits_mul bd bz
  by_cases h : 1000000000000000000 ≤ z
  ·have q1 : eh .mul (.int (.lit d)) (.int (.lit z)) B1 = ok (.int (.lit (d * z))) B1 := jG (.inr (by omega))
   have a1 := bU (Γ := Γ) (k := k + 5) (bU (k := k + 4) (b0 (k := k + 4) Cn) (b0 (k := k + 4) CL) q1) (b0 (k := k + 5) CL) (o := .add) (w := .int (.lit (d * z + z))) rfl
   refine ⟨d * z + z, aN dg (.int (.lit (d * z + z))) B1, ?_, ⟨⟨rfl, rfl, rfl⟩, rfl⟩, cU, by refine ae (cF n1.symm) ?_; exact E7, by refine ae (cF n2.symm) ?_; exact CL, ?_, Int.add_nonneg (Int.mul_nonneg d0 z0) z0⟩
   ·refine ae (yr (k := k + 7) t) ?_; refine ae (decide_eq_true h) ?_; refine ae (if_pos rfl) ?_; refine ae (cD (st_loc (k := k + 6) a1)) ?_; rfl
   ·exact vW j (bits_add bm bz)
  ·refine ⟨d, B1, ?_, ⟨⟨rfl, rfl, rfl⟩, rfl⟩, Cn, E7, CL, Nat.le_trans bd (Nat.mul_le_mul_right _ (Nat.le_succ j)), d0⟩
   refine ae (yr (k := k + 7) t) ?_; refine ae (decide_eq_false h) ?_; refine ae (if_neg (by decide)) ?_; rfl
 have q1 : eh .mul (.int (.lit m)) (.int (.lit 48271)) B2 = ok (.int (.lit (m * 48271))) B2 := jG (.inl (by decide))
 have q2 : eh .mod (.int (.lit z)) (.int (.lit 2147483629)) B2 = ok (.int (.lit (z.fmod 2147483629))) B2 := fY (by decide)
 have q3 : ∀ y : Int, eh .mod (.int (.lit y)) (.int (.lit 2147483647)) B2 = ok (.int (.lit (y.fmod 2147483647))) B2 := fun y => fY (by decide)
 have a1 := bU (Γ := Γ) (k := k + 4) (o := .add) (w := .int (.lit (m * 48271 + z.fmod 2147483629))) (bU (k := k + 3) (b0 (k := k + 3) NM) (eA (k := k + 3)) q1) (bU (k := k + 3) (b0 (k := k + 3) EN) (eA (k := k + 3)) q2) rfl
 have a2 := bU (Γ := Γ) (k := k + 6) (bU (k := k + 5) (o := .add) (w := .int (.lit (m * 48271 + z.fmod 2147483629 + 7919))) a1 (eA (k := k + 5) (v := .int (.lit 7919))) rfl) (eA (k := k + 6)) (q3 _)
 have s3 := st_loc (k := k + 7) (x := mx) a2
 refine ⟨d', (m * 48271 + z.fmod 2147483629 + 7919).fmod 2147483647, aN mx (.int (.lit ((m * 48271 + z.fmod 2147483629 + 7919).fmod 2147483647))) B2, ?_, ?_, ?_, ?_, cU, NN, NO, ?_, ?_⟩
 ·refine ae (cD s1) ?_; refine ae (cD s2) ?_; refine ae (cD s3) ?_; rfl
 ·exact ⟨e2.1.1.trans e1.1.1, e2.1.2.1.trans e1.1.2.1, e2.1.2.2.trans e1.1.2.2⟩
 ·exact e2.2.trans e1.2
 ·refine ae (cF n1) ?_; exact hd2
 ·refine ae (Int.fmod_eq_emod_of_nonneg _ (by decide)) ?_; exact Int.emod_nonneg _ (by decide)
 ·refine ae (Int.fmod_eq_emod_of_nonneg _ (by decide)) ?_; exact Int.emod_lt_of_pos _ (by decide)
inductive E8 (Γ : Ctx) (k dg mx nu sz i q n : Nat) (B : AS) : Prop
 | mk (d' m' : Int) (B' : AS) (run : loop (bI Γ (k + 9)) [nu] (fK dg mx nu sz) n (.lst i q) B = ok .next B') (same : B'.heap = B.heap ∧ B'.n = B.n ∧ B'.hd = B.hd) (vs : B'.vars = B.vars) (ld : af dg B'.locs = some (.int (.lit d'))) (lm : af mx B'.locs = some (.int (.lit m'))) (d0 : 0 ≤ d') (m0 : 0 ≤ m') (m1 : m' < 2147483647)
theorem vY (k : Nat) {dg mx nu sz i r : Nat} {xs : List Int} (n1 : dg ≠ mx) (n2 : dg ≠ sz) (n3 : mx ≠ sz) (n4 : dg ≠ nu) (n5 : mx ≠ nu) (bx : ∀ x ∈ xs, Int.intBits x ≤ 2 ^ 20) (hl : xs.length ≤ 63) : ∀ (l q n : Nat) (B : AS) (d m : Int), q + l = xs.length → l < n → B.heap.get i = some (.rl r (xs.map fun x => .int (.lit x))) → af dg B.locs = some (.int (.lit d)) → af mx B.locs = some (.int (.lit m)) →
 Int.intBits d ≤ q * (2 ^ 20 + 2) → 0 ≤ d → 0 ≤ m → m < 2147483647 →
 E8 Γ k dg mx nu sz i q n B := by
 intro l q n
 induction n generalizing l q with
 | zero => exact fun B d m hq hn => absurd hn (Nat.not_lt_zero _)
 | succ n ih =>
  intro B d m hq hn hh hd hm bd d0 m0 m1
  cases l with
  | zero =>
   refine ⟨d, m, B, ?_, ⟨rfl, rfl, rfl⟩, rfl, hd, hm, d0, m0, m1⟩
   have h : cK (.lst i q) B = some (.fin, B) := by
    dsimp only [cK]
    refine ae hh ?_
    dsimp only
    rw [bF, List.getElem?_eq_none (by rw [List.length_map]; omega)]
   refine (?_ : (cK (.lst i q) B).bind _ = _)
   refine ae h ?_; rfl
  | succ l =>
   have fh : q < xs.length := by omega
   have h : cK (.lst i q) B = some (.one (.int (.lit xs[q])) (.lst i (q + 1)), B) := by
    dsimp only [cK]
    refine ae hh ?_
    dsimp only
    rw [bF, List.getElem?_map, List.getElem?_eq_getElem fh]; rfl
   obtain ⟨d', m', B', r1, r2, r3, r4, r5, r6, r7, r8, r9⟩ := vX (Γ := Γ) (B := aN nu (.int (.lit xs[q])) B) k (nu := nu) (sz := sz) (j := q) cU (by refine ae (cF n4) ?_; exact hd) (by refine ae (cF n5) ?_; exact hm) n1 n2 n3 (by omega) (bx _ (List.getElem_mem fh)) bd d0 m0 m1
   obtain ⟨d2, m2, B2, t1, t2, t3, t4, t5, t6, t7, t8⟩ := ih l (q + 1) B' d' m' (by omega) (by omega) (by refine ae r2.1 ?_; exact hh) r4 r5 r6 r7 r8 r9
   refine ⟨d2, m2, B2, ?_, ⟨t2.1.trans r2.1, t2.2.1.trans r2.2.1, t2.2.2.trans r2.2.2⟩, t3.trans r3, t4, t5, t6, t7, t8⟩
   refine (?_ : (cK (.lst i q) B).bind _ = _)
   refine ae h ?_
   refine (?_ : Res.bind (aW _ _ (aN nu _ B)) _ = _)
   rw [r1, aG]
   exact t1
inductive E9 (o : Option (bC Fl)) (B : AS) (cE : Int) : Prop
 | mk (d m : Int) (B' : AS) (run : o = some (.one (.ret (.loc (B.n + 1))) B')) (hp : B'.heap = (B.heap.put B.n (.tup [.int (.lit 0), .int (.lit cE)])).put (B.n + 1) (.list [.int (.lit d), .int (.lit m)])) (n : B'.n = B.n + 1 + 1) (hd : B'.hd = none) (vs : B'.vars = B.vars) (d0 : 0 ≤ d) (m0 : 0 ≤ m) (m1 : m < 2147483647)
set_option tactic.hygienic true in
theorem yu (k : Nat) {p dg mx nu sz i r : Nat} {cE : Int} {xs : List Int} (hq : B.hd = none) (hh : B.heap.get i = some (.rl r (xs.map fun x => .int (.lit x)))) (hi : i ≠ B.n) (hp : af p B.locs = some (.loc i)) (n1 : dg ≠ mx) (n2 : dg ≠ sz) (n3 : mx ≠ sz) (n4 : dg ≠ nu) (n5 : mx ≠ nu) (n6 : p ≠ dg) (n7 : p ≠ mx) (s0 : 0 ≤ cE) (s1 : cE < 2147483647)
 (bx : ∀ x ∈ xs, Int.intBits x ≤ 2 ^ 20) (hl : xs.length ≤ 63) : E9 (aW (bI Γ (k + 10)) (gS p dg mx nu sz cE).body B) B cE := by
 let B1 : AS := aN mx (.int (.lit cE)) (aN dg (.int (.lit 0)) (B.alloc (.tup [.int (.lit 0), .int (.lit cE)])).2)
 have a1 : (bI Γ (k + 10)).s (.asg (.tup [dg, mx]) (.tup [.cst (.int (.lit 0)), .cst (.int (.lit cE))])) B = ok .next B1 := by
  have q1 : (bI Γ (k + 9)).e (.tup [.cst (.int (.lit 0)), .cst (.int (.lit cE))]) B = ok (.loc B.n) (B.alloc (.tup [.int (.lit 0), .int (.lit cE)])).2 := rfl
  have q2 : asg Γ (bI Γ (k + 9)) (.tup [dg, mx]) (.loc B.n) (B.alloc (.tup [.int (.lit 0), .int (.lit cE)])).2 = ok () B1 := by
   dsimp only [asg]
   dsimp only [jS]
   refine ae (show (B.alloc (.tup [.int (.lit 0), .int (.lit cE)])).2.heap.get B.n = some (.tup [.int (.lit 0), .int (.lit cE)]) from (Tr.ba _ _ _ _).trans (if_pos rfl)) ?_
   refine ae (show (B.alloc (.tup [.int (.lit 0), .int (.lit cE)])).2.hd = none from hq) ?_
   rfl
  rw [yt (k := k + 8), q1, aG, q2, aG]
 obtain ⟨d, m, B2, r1, r2, r3, r4, r5, r6, r7, r8⟩ := vY (Γ := Γ) k (nu := nu) (sz := sz) (i := i) (r := r) (xs := xs) n1 n2 n3 n4 n5 bx hl xs.length 0 300 B1 0 cE (by omega) (by omega) (by refine (?_ : (B.heap.put B.n _).get i = _); rw [Tr.ba, if_neg hi]; exact hh) (by skip; refine ae (cF n1) ?_; exact cU) cU (by decide) (by decide) s0 s1
 have a2 : (bI Γ (k + 10)).s (.for_ [nu] (.loc p) (fK dg mx nu sz)) B1 = ok .next B2 := by
  have q1 : (bI Γ (k + 9)).e (.loc p) B1 = ok (.loc i) B1 := b0 (k := k + 8) (by skip; refine ae (cF n7) ?_; refine ae (cF n6) ?_; exact hp)
  refine (?_ : Res.bind ((bI Γ (k + 9)).e (.loc p) B1) (fun v A => match cY v A with | some (it, A) => if A.hd.isNone = true then ei (loop (bI Γ (k + 9)) [nu] (fK dg mx nu sz) 300 it A) else none | none => none) = _)
  rw [q1, aG]
  have q2 : cY (.loc i) B1 = some (.lst i 0, B1) := by
   dsimp only [cY]
   refine ae (show B1.heap.get i = some (.rl r (xs.map fun x => .int (.lit x))) from (by show (B.heap.put B.n _).get i = _; rw [Tr.ba, if_neg hi]; exact hh)) ?_; rfl
  refine ae q2 ?_
  dsimp only
  refine ae (show B1.hd = none from hq) ?_; refine ae (if_pos (by rfl)) ?_; refine ae r1 ?_; rfl
 have hlen : B2.n = B.n + 1 := r2.2.1
 refine ⟨d, m, (B2.alloc (.list [.int (.lit d), .int (.lit m)])).2, ?_, ?_, ?_, r2.2.2.trans hq, r3, r6, r7, r8⟩
 ·refine (?_ : aW (bI Γ (k + 10)) (_ :: _ :: _ :: []) B = _)
  refine ae (cD a1) ?_; refine ae (cD a2) ?_
  refine jH (Au (k := k + 8) ?_)
  have e1 := b0 (Γ := Γ) (B := B2) (k := k + 7) r4
  have e2 := b0 (Γ := Γ) (B := B2) (k := k + 7) r5
  refine (?_ : Res.bind (Res.bind ((bI Γ (k + 8)).e (.loc dg) B2) fun v A => Res.bind (Res.bind ((bI Γ (k + 8)).e (.loc mx) A) fun v A => Res.bind (ok [] A) fun vs A => ok (v :: vs) A) fun vs A => ok (v :: vs) A) (fun vs A => wy vs A) = _)
  rw [e1, aG, e2, aG, aG, aG, aG]
  refine (?_ : ok (V.loc B2.n) _ = _)
  refine ae hlen ?_; rfl
 ·refine (?_ : B2.heap.put B2.n _ = _)
  refine ae hlen ?_; refine ae r2.1 ?_; rfl
 ·refine (?_ : B2.n + 1 = _)
  refine ae hlen ?_; rfl
end
noncomputable def hide (ps : List Nat) (h : Heap) : Heap := ⟨h.objs.mapIdx fun i o => if i ∈ ps then { o with data := .freed } else o, h.life⟩
theorem lj {ps : List Nat} {h : Heap} {b : Nat} : (hide ps h).get? b = if b ∈ ps then none else h.get? b := by
 delta Heap.get? hide
 dsimp -iota only
 refine ae (Array.getElem?_mapIdx) ?_
 by_cases q : b ∈ ps
 ·refine ae (if_pos q) ?_
  cases h.objs[b]? with
  | none => rfl
  | some o => simp only [Option.map_some, if_pos q]
 ·refine ae (if_neg q) ?_
  cases h.objs[b]? with
  | none => rfl
  | some o => simp only [Option.map_some, if_neg q]
theorem eV {ps : List Nat} {h : Heap} {b : Nat} {o : Obj} (e : (hide ps h).get? b = some o) : h.get? b = some o ∧ b ∉ ps := by
 rw [lj] at e
 by_cases q : b ∈ ps
 ·rw [if_pos q] at e; cases e
 ·rw [if_neg q] at e; exact ⟨e, q⟩
theorem di {ps : List Nat} {h : Heap} {b : Nat} {o : Obj} (e : h.get? b = some o) (q : b ∉ ps) : (hide ps h).get? b = some o := by refine ae lj ?_; refine ae (if_neg q) ?_; exact e
theorem oD {ps : List Nat} {h : Heap} {b : Nat} (q : b ∈ ps) : (hide ps h).get? b = none := by refine ae lj ?_; refine ae (if_pos q) ?_; rfl
noncomputable def aL.on (Z : aL) (h : Heap) : aL := { Z with h₀ := h }
section
variable {Z : aL} {h : Heap}
theorem ll {h h' : Heap} (k : ∀ b o, h.get? b = some o → h'.get? b = some o) {a : Addr} {m : Str → Option Value} (x : h.Ns a m) : h'.Ns a m := by
 refine (x).elim fun o aj => (aj).elim fun es ax => (ax).elim fun n aP => (aP).elim fun h1 h2 => ?_
 exact ⟨o, es, n, k _ _ h1, h2⟩
theorem vZ {h h' : Heap} (k : ∀ b o, h.get? b = some o → h'.get? b = some o) {m : Str → Option Value} {P : Nat} (x : h.BuiltinsAt m P) : h'.BuiltinsAt m P := by
 refine (x).elim fun bm aj => (aj).elim fun ob ax => (ax).elim fun b1 aP => (aP).elim fun b2 bG => (bG).elim fun b3 dc => (dc).elim fun b4 ib => (ib).elim fun b5 b6 => ?_
 exact ⟨bm, ob, b1, b2, b3, b4, k _ _ b5, b6⟩
theorem g9.on {C : Nat} {k : gU} (O : g9 Z C k) : g9 (Z.on h) C k := ⟨O.ga, O.sa, O.gt, O.over, O.B3, O.hd, O.du, O.meth, O.ux, O.kp⟩
theorem fo.on {C : Nat} {k : gU} (O : fo Z C k) : fo (Z.on h) C k := ⟨O.sa, O.over, O.hd, O.du, O.meth, O.B3, O.kp⟩
theorem aL.Glob.on (G : Z.Glob) (k : ∀ b o, Z.h₀.get? b = some o → h.get? b = some o) (kt : ∀ P ∈ Z.tabs, h.get? P = none) : (Z.on h).Glob :=
 { g := ll k G.g, b := ll k G.b, inj := G.inj, sys := by refine (G.sys).elim fun o e => ?_; exact ⟨o, k _ _ e⟩, k := fun a o e => k _ _ (G.k a o e), lim := G.lim.keeps k, y6 := G.y6, oY := G.oY, oZ := G.oZ, jb := G.jb, nH := G.nH, o3 := G.o3, o4 := G.o4, fb := G.fb, look := G.look,
   cls := fun C k h x => (G.cls C k h x).on, o5 := fun C k bs h x => (G.o5 C k bs h x).on, exc := G.exc, tabs := kt, Df := fun P hP => vZ k (G.Df P hP), uy := G.uy, uz := G.uz }
theorem iQ.on {a : Nat} {fn : Fn} (k : ∀ b o, Z.h₀.get? b = some o → h.get? b = some o) (x : iQ Z a fn) : iQ (Z.on h) a fn := by
 refine (x.ex).elim fun oc aj => (aj).elim fun od ax => (ax).elim fun u9 aP => (aP).elim fun fd bG => (bG).elim fun body dc => (dc).elim fun m ib => (ib).elim fun k1 pQ => (pQ).elim fun k3 se => (se).elim fun D CO => ?_
 exact ⟨oc, od, u9, fd, body, m, k1, k3, D, fun q => by refine (CO q).elim fun c aj => (aj).elim fun P ax => (ax).elim fun e aP => (aP).elim fun hd hP => ?_; exact ⟨c, P, e, hd.keeps k, hP⟩⟩
structure Known (Z : aL) (tk a b d : Nat) : Prop where
 fn : ∀ x fn, cu x Z.Γ.fns = some fn → iQ Z x fn
 tq : Z.Γ.take = some tk
 take : cu tk Z.Γ.fns = some (eS a b d)
 ab : a ≠ b
 ad : a ≠ d
 bd : b ≠ d
 Lj : fnIn Z.K tk = true
theorem Known.fns (G : Z.Glob) {tk a b d : Nat} (k : Known Z tk a b d) : tP Z :=
 ⟨k.fn, CW G k.fn (fun x e => by rw [k.tq] at e; exact (aO e).symm) k.take k.ab k.ad k.bd, fun x e => by rw [k.tq] at e; obtain rfl := aO e; exact k.Lj⟩
theorem Known.on (kk : ∀ b o, Z.h₀.get? b = some o → h.get? b = some o) {tk a b d : Nat} (k : Known Z tk a b d) : Known (Z.on h) tk a b d := ⟨fun x fn e => (k.fn x fn e).on kk, k.tq, k.take, k.ab, k.ad, k.bd, k.Lj⟩
end
structure iz (Γ : Ctx) where
 a : Nat
 p : Nat
 sr : Nat
 gp : Nat
 ap : Nat
 dg : Nat
 mx : Nat
 nu : Nat
 sz : Nat
 cE : Int
 pre : List S
 t : Nat
 it : E
 b1 : List S
 b2 : List S
 post : List S
noncomputable def iz.fn {Γ : Ctx} (w : iz Γ) : Fn := ⟨[w.p], [], [], .asg (.loc w.sr) (.call (.aH w.gp) [.loc w.p]) :: (w.pre ++ .for_ [w.t] w.it (w.b1 ++ w.b2) :: w.post)⟩
noncomputable def iz.start {Γ : Ctx} (w : iz Γ) : AS := { heap := Tr.yO [.src], n := 1, locs := [(w.sr, .loc 0)], cells := [], vars := [] }
structure ug {Γ : Ctx} (w : iz Γ) (n : Nat) (f : Nat → LS × List Nat) (gR jy : List (List Nat)) (lu : List (List Nat)) : Prop where
 fn : cu w.a Γ.fns = some w.fn
 nt : Γ.take ≠ some w.a
 np : Γ.take ≠ some w.ap
 gp : af w.gp Γ.glob = some (.fn w.ap)
 Fb : cu w.ap Γ.fns = some (gS w.p w.dg w.mx w.nu w.sz w.cE)
 d1 : w.dg ≠ w.mx
 d2 : w.dg ≠ w.sz
 d3 : w.mx ≠ w.sz
 d4 : w.dg ≠ w.nu
 d5 : w.mx ≠ w.nu
 d6 : w.p ≠ w.dg
 d7 : w.p ≠ w.mx
 d8 : w.sr ≠ w.p
 s0 : 0 ≤ w.cE
 s1 : w.cE < 2147483647
 pre : tZ (bI Γ (n + 13)) w.pre w.it (look f gR) w.start lu = true
 turn : ∀ p ∈ iY f gR, HV w.t p = true ∧ jq (bI Γ (n + 13)) w.b1 1 (look f jy) p = true
 mid : ∀ p ∈ iY f jy, jq (bI Γ (n + 13)) w.b2 0 (look f gR) p = true
 post : ∀ p ∈ iY f gR, qD (bI Γ (n + 13)) w.post p.1.as = true
inductive Fc (o : Option (bC Fl)) (B : AS) (cE : Int) (sr : Nat) : Prop
 | mk (d m : Int) (B' : AS) (run : o = ok .next B') (hp : B'.heap = (B.heap.put B.n (.tup [.int (.lit 0), .int (.lit cE)])).put (B.n + 1) (.list [.int (.lit d), .int (.lit m)])) (n : B'.n = B.n + 1 + 1) (hd : B'.hd = none) (vs : B'.vars = B.vars) (cs : B'.cells = B.cells) (ls : B'.locs = fi sr (.loc (B.n + 1)) B.locs) (d0 : 0 ≤ d) (m0 : 0 ≤ m) (m1 : m < 2147483647)
theorem wa {Γ : Ctx} {w : iz Γ} {n : Nat} {f gR jy lu} (W : ug w n f gR jy lu) {B : AS} {i r : Nat} {xs : List Int} (hq : B.hd = none) (hh : B.heap.get i = some (.rl r (xs.map fun x => .int (.lit x)))) (hi : i ≠ B.n) (hp : af w.p B.locs = some (.loc i)) (bx : ∀ x ∈ xs, Int.intBits x ≤ 2 ^ 20) (hl : xs.length ≤ 63) :
 Fc ((bI Γ (n + 13)).s (.asg (.loc w.sr) (.call (.aH w.gp) [.loc w.p])) B) B w.cE w.sr := by
 obtain ⟨d, m, B', r1, r2, r3, r4, r5, r6, r7, r8⟩ := yu (Γ := Γ) (B := { B with locs := [(w.p, .loc i)], cells := [] }) (n + 1) (p := w.p) (i := i) hq hh hi (by rw [aK, if_pos rfl]) W.d1 W.d2 W.d3 W.d4 W.d5 W.d6 W.d7 W.s0 W.s1 bx hl
 have r1 : aW (bI Γ (n + 11)) (gS w.p w.dg w.mx w.nu w.sz w.cE).body { B with locs := [(w.p, .loc i)], cells := [] } = some (.one (.ret (.loc (B.n + 1))) B') := r1
 have yb : dT Γ (bI Γ (n + 11)) w.ap [.loc i] B = ok (.loc (B.n + 1)) { B' with locs := B.locs, cells := B.cells } := by
  exact pT W.np W.Fb (show fj (gS w.p w.dg w.mx w.nu w.sz w.cE).params (gS w.p w.dg w.mx w.nu w.sz w.cE).params.length (gS w.p w.dg w.mx w.nu w.sz w.cE).dflts [.loc i] = some [(w.p, .loc i)] from rfl) rfl r1
 refine ⟨d, m, aN w.sr (.loc (B.n + 1)) { B' with locs := B.locs, cells := B.cells }, ?_, r2, r3, r4, r5, rfl, rfl, r6, r7, r8⟩
 refine ae (yt (k := n + 11)) ?_
 have q1 : (bI Γ (n + 11)).e (.aH w.gp) B = ok (.fn w.ap) B := by
  refine (?_ : bA (af w.gp Γ.glob) B = _)
  refine ae W.gp ?_; rfl
 have q2 : (bI Γ (n + 12)).e (.call (.aH w.gp) [.loc w.p]) B = ok (.loc (B.n + 1)) { B' with locs := B.locs, cells := B.cells } := by
  refine (?_ : Res.bind ((bI Γ (n + 11)).e (.aH w.gp) B) (fun f A => Res.bind (Res.bind ((bI Γ (n + 11)).e (.loc w.p) A) fun v A => Res.bind (ok [] A) fun vs A => ok (v :: vs) A) fun as A => lV Γ (bI Γ (n + 11)) f as A) = _)
  rw [q1, aG, b0 (k := n + 10) hp, aG, aG, aG]
  exact yb
 rw [q2, aG]
 rfl
section
variable {Z : aL} {n : Nat} {Ar : Around} {s : Shared}
theorem law_code (G : Z.Glob) {tk ta tb td : Nat} (Kn : Known Z tk ta tb td) {w : iz Z.Γ} {f gR jy lu} (W : ug w n f gR jy lu) (hd : Ar.depth < recursionLimit) (hn : ∀ env : Env, env.scope.kind ≠ .module → (∃ b, env.frame = some b) → Room (n + 14) (Ar.deeper env) ⟨[], none, [env]⟩) (hh : ∀ env : Env, (Ar.deeper env).handled = none)
 (hg : s.gens = #[]) (oU : s.os = Z.tC) (Av : ∀ P ∈ Z.tabs, TabAt s.heap P) {l : Addr} {vs : Array Value} {ep : Nat} {xs : List Int} (hl : s.heap.get? l = some { cls := .type "list", data := .seq vs ep }) (fh : l ∉ Z.tabs) (kC : ∀ b o, Z.h₀.get? b = some o ↔ (hide (l :: Z.tabs) s.heap).get? b = some o)
 (NP : aS (fun (x : Int) u => ∃ t, u = Value.int x t) xs vs.toList) (bx : ∀ x ∈ xs, Int.intBits x ≤ 2 ^ 20) (hlen : xs.length ≤ 63) :
 bj Z.M Ar (.call (.ref w.a) ⟨[.ref l], []⟩) (fun r s' => r = .ok (.ret (.bool true)) ∧ xY (Z.on (hide Z.tabs s.heap)) s') s := by
 let obj : Obj := { cls := .type "list", data := .seq vs ep }
 let c : Cfg := { ρ := { g := 0, i := fun J => 0, bo := fun J => (fun J => 0, obj) }, σ := fun J => (l, l), n := 1, nv := 1 }
 let A : AS := { heap := Tr.yO [.rl 0 (xs.map fun x => .int (.lit x))], n := 1, locs := [], cells := [], vars := [.oct] }
 have Ib : ∀ {xs : List Int} {us : List Value}, aS (fun (x : Int) u => ∃ t, u = Value.int x t) xs us → aS (VR c) (xs.map fun x => .int (.lit x)) us := fun h => by
  induction h with
  | nil => exact .nil
  | cons h t ih => exact .cons ⟨trivial, h⟩ ih
 have Bk : Z.h₀.get? l = none := by
  cases e : Z.h₀.get? l with
  | none => rfl
  | some o => exact absurd (eV ((kC l o).mp e)).2 (by simp)
 have one : ∀ i o, A.heap.get i = some o → i = 0 ∧ o = .rl 0 (xs.map fun x => .int (.lit x)) := fun i o e => by
  have e : (Tr.yO [aw.rl 0 (xs.map fun x => .int (.lit x))]).get i = some o := e
  rw [fX] at e
  cases i with
  | zero => exact ⟨rfl, (aO e).symm⟩
  | succ i => cases e
 have H : Hp Z c A s := {
  base := fun b o e => (eV ((kC b o).mp e)).1, gens := hg, os := oU, n := rfl, nv := rfl
  vars := fun k d e => by
   cases k with
   | zero => obtain rfl := aO e; exact trivial
   | succ k => cases e
  objs := fun i o e => by
   obtain ⟨rfl, rfl⟩ := one i o e
   exact ⟨Nat.lt_succ_self _, hl, vs, ep, rfl, Ib NP⟩
  lt := fun i o e => by refine ae ((one i o e).1) ?_; exact Nat.lt_succ_self _
  lo := fun i J => ⟨Bk, Bk⟩
  up := fun i J => ⟨⟨_, hl⟩, ⟨_, hl⟩⟩
  apart := fun i j hi hj wW => absurd ((Nat.lt_one_iff.mp hi).trans (Nat.lt_one_iff.mp hj).symm) wW }
 have I := sound G (Kn.fns G) (n + 13)
 have k2 : ∀ b o, Z.h₀.get? b = some o → (hide Z.tabs s.heap).get? b = some o := fun b o e => by
  refine (eV ((kC b o).mp e)).elim fun h1 h2 => ?_
  exact di h1 fun q => h2 (.tail _ q)
 have G2 : (Z.on (hide Z.tabs s.heap)).Glob := G.on k2 fun P hP => oD hP
 have I2 : aC (Z.on (hide Z.tabs s.heap)) (n + 14) (bI Z.Γ (n + 13)) := sound G2 ((Kn.on (h := hide Z.tabs s.heap) k2).fns G2) (n + 13)
 have lJ : s.heap.get? s.heap.objs.size = none := get_size _
 have Ll : (hide Z.tabs s.heap).get? s.heap.objs.size = none := by
  cases e : (hide Z.tabs s.heap).get? s.heap.objs.size with
  | none => rfl
  | some o => rw [(eV e).1] at lJ; cases lJ
 refine kF G hd H (hx := none) (frs := []) trivial (fun b hb => nomatch hb) Av (Kn.fn w.a w.fn W.fn) (as := [.loc 0]) (us := [.ref l]) (.cons ⟨Nat.lt_succ_self _, rfl⟩ .nil) (ab := [(w.p, .loc 0)]) rfl fun {env aU c₁ m sc body} k3 hk hf q2 H1 N1 => ?_
 have E7 : bV [(w.p, V.loc 0)] w.fn.cells A = (A, []) := rfl
 have Ic : ([(w.p, V.loc 0)].filter fun b => !w.fn.cells.contains b.1) = [(w.p, V.loc 0)] := rfl
 rw [E7, Ic] at H1
 rw [E7] at N1
 have hr := hn env hk ⟨_, hf⟩
 -- the text
 refine Classical.byContradiction fun bad => ?_
 obtain ⟨x0, body, rfl, e0, e1⟩ := aQ k3
 obtain ⟨CV, b2, rfl, e2, e3⟩ := gQ (l1 := w.pre) e1
 obtain ⟨xl, x7, rfl, e4, e5⟩ := aQ e3
 obtain ⟨m, rfl⟩ : ∃ m', m = m' + 1 := by
  cases m with
  | zero => exact bf e4
  | succ m => exact ⟨m, rfl⟩
 obtain ⟨d, mm, B', Fd, p1, p2, p3, p4, p5, p6, b1, b2, b3⟩ := wa W (B := { A with locs := [(w.p, .loc 0)], cells := [] }) (i := 0) (r := 0) rfl rfl Nat.zero_ne_one (by rw [aK, if_pos rfl]) bx hlen
 have Ie := x6 hf (hh env) G2 (tR G2) (xD G2) I2 (by omega) hr (L := s.heap.objs.size) (env := env) e2 e4 e5 W.pre W.turn W.mid W.post
 refine bad ?_
 refine aa (au.one (fun l e => I.s e0 hf hr H1 N1 l (Fd.trans e)) fun fl c2 s2 z2 z3 z4 => ?_)
 obtain rfl : fl = .next := z4
 have le2 : Le Z s.heap.objs.size c s c2 s2 := q2.trans z2
 let c3 : Cfg := { c2 with σ := fun J => c2.σ 2, n := 1, nv := 0 }
 have NQ : c2.n = 3 := z3.n.trans p2
 have l2 : 2 < c2.n := by refine ae NQ ?_; decide
 have Fe : ∀ i, B'.heap.get i = if i = 2 then some (.list [.int (.lit d), .int (.lit mm)]) else if i = 1 then some (.tup [.int (.lit 0), .int (.lit w.cE)]) else A.heap.get i := fun i => by
  refine ae p1 ?_
  refine (?_ : ((A.heap.put 1 _).put 2 _).get i = _)
  rw [Tr.ba, Tr.ba]
 have H3 : St (Z.on (hide Z.tabs s.heap)) s.heap.objs.size ⟨[], none, [env]⟩ c3 w.start s2 := {
  base := fun b o e => by
   refine (eV e).elim fun e hb => ?_
   by_cases q : b = l
   ·subst q
    refine (z3.objs 0 (.rl 0 (xs.map fun x => .int (.lit x))) ((Fe 0).trans (by refine ae (if_neg (by decide)) ?_; refine ae (if_neg (by decide)) ?_; rw [fX]; rfl))).elim fun _ aj => (aj).elim fun h2 _ => ?_
    have Bc : (c2.σ 0).1 = b := congrArg Prod.fst (le2.σ 0 (Nat.lt_succ_self _))
    have NR : c2.ρ.o 0 = obj := congrArg Prod.snd (le2.ρ 0 (Nat.lt_succ_self _)).2.1
    have hl : s.heap.get? b = some obj := hl
    rw [Bc, NR] at h2
    rw [hl] at e
    obtain rfl := aO e
    exact h2
   ·exact le2.old b o ((kC b o).mpr (di e fun hm => by
     rcases ff hm with h | h
     ·exact q h
     ·exact hb h)) e
  gens := z3.gens, os := z3.os, n := rfl, nv := rfl
  vars := fun k d e => by cases e
  objs := fun i o e => by
   have e : (Tr.yO [aw.src]).get i = some o := e
   rw [fX] at e
   cases i with
   | succ i => cases e
   | zero =>
    obtain rfl := aO e
    obtain ⟨KA, Be, g1, g2⟩ := z3.objs 2 (.list [.int (.lit d), .int (.lit mm)]) ((Fe 2).trans (if_pos rfl))
    obtain ⟨u1, u2, rfl⟩ := qE g2
    exact ⟨d, mm, u1, u2, Be, g1, b1, b2, b3⟩
  lt := fun i o e => by
   have e : (Tr.yO [aw.src]).get i = some o := e
   rw [fX] at e
   cases i with
   | succ i => cases e
   | zero => exact Nat.lt_succ_self _
  lo := fun i hi => by
   have := le2.new 2 (by refine (?_ : 1 ≤ 2); decide) l2
   have go : ∀ b, s.heap.get? b = none → (hide Z.tabs s.heap).get? b = none := fun b e => by
    cases q : (hide Z.tabs s.heap).get? b with
    | none => rfl
    | some o => rw [(eV q).1] at e; cases e
   exact ⟨go _ this.1, go _ this.2⟩
  up := fun i hi => z3.up 2 l2
  apart := fun i j hi hj wW => absurd ((Nat.lt_one_iff.mp hi).trans (Nat.lt_one_iff.mp hj).symm) wW
  oS := Ll, bw := z3.bw
  off := fun i hi => z3.off 2 l2
  ns := by
   obtain ⟨mp, y1, y2⟩ := z3.ns
   refine ⟨mp, y1, fun y v hv => ?_⟩
   have hv : af y [(w.sr, V.loc 0)] = some v := hv
   rw [aK] at hv
   by_cases hy : w.sr = y
   ·rw [if_pos hy] at hv
    obtain rfl := aO hv
    subst hy
    obtain ⟨u, y3, y4⟩ := y2 w.sr (.loc 2) (by refine ae p6 ?_; rw [bH, if_pos rfl])
    exact ⟨u, y3, Nat.succ_pos _, y4.2⟩
   ·rw [if_neg hy] at hv; cases hv
  cells := rfl
  hd := trivial
  outs := fun b hb => by
   obtain ⟨h1, h2, h3⟩ := z3.outs b hb
   refine ⟨?_, h2, fun i hi => h3 2 l2⟩
   have hb : b ∈ [env].filterMap (·.frame) := hb
   rw [List.filterMap_cons, hf] at hb
   rcases ff hb with rfl | hb
   ·exact Ll
   ·cases hb
  tabs := z3.tabs }
 have N3 : aR (Z.on (hide Z.tabs s.heap)) sc c3 s.heap.objs.size ⟨[], none, [env]⟩ env :=
  ⟨N1.kind, N1.names, N1.locals, N1.globals, N1.builtins, N1.top, N1.has, N1.fr, fun q => by refine (N1.code q).elim fun c aj => (aj).elim fun P ax => (ax).elim fun e aP => (aP).elim fun hd hP => ?_; exact ⟨c, P, e, hd.keeps k2, hP⟩, fun y i h1 h2 => nomatch h2⟩
 refine az (Ie c3 s2 H3 N3) (fun fl s3 q => ?_) fun J J f => f.elim
 obtain ⟨rfl, q⟩ := q
 exact ⟨rfl, q⟩
end
noncomputable def F2 (r : Option CFound) : Bool := Ia r fun g f n t => oq g "classmethod_descriptor.__get__" && (oq f "int.from_bytes" && (ot n && jt t "int"))
theorem C1 {r : Option CFound} (h : F2 r = true) : r = some (.get (.builtin "classmethod_descriptor.__get__") (.builtin "int.from_bytes") .none (.type "int")) := by
 obtain ⟨g, f, n, t, rfl, q⟩ := yk h
 refine ae (f6 (aM q)) ?_; refine ae (f6 (aM (ai q))) ?_; refine ae (i0 (aM (ai (ai q)))) ?_; refine ae (dN (ai (ai (ai q)))) ?_; rfl
noncomputable def Aw (h : Heap) (K : Frag) (as : List Nat) (p : Nat × Nat) : Bool := (match h.get? p.2 with
 | some ⟨.none, none, .fields vs, sl⟩ => vs.isEmpty && sl.isEmpty
 | _ => false) && (yj (K.lookup p.1) (fun o => jt o.cls "code" && ym o.data fun vs => eU (vs.getD 11 .none) p.2) && (!(Am p.2 as) && (!(Nat.beq p.2 mainGlobals) && (!(Nat.beq p.2 builtinsNs) && !(Nat.beq p.2 cStatics)))))
noncomputable def fL (h : Heap) (as : List Nat) (t : List (List Nat)) (Γ : Ctx) (dO : List (Nat × Nat)) (name : Str) (law : Nat) : Bool :=
 i6 (fragOf h as) (iZ t) (dO.map (·.2)) Γ && F2 (findCls (fragOf h as) (.type "int") (.type "type") "from_bytes") && qG (nsIn (fragOf h as) mainGlobals name) law && dO.all (Aw h (fragOf h as) as)
structure lp (nm : Nat → Str) : Prop where
 inj : ∀ x y, nm x = nm y → x = y
 y6 : nm N.init = "__init__"
 oY : nm N.get = "get"
 oZ : nm N.pop = "pop"
 jb : nm N.bO = "setdefault"
 nH : nm N.append = "append"
 o3 : nm N.to_bytes = "to_bytes"
 o4 : nm N.from_bytes = "from_bytes"
theorem wb {a : Nat} {fn : Fn} {B : List (List (Nat × Fn))} (h : cu a B = some fn) : ∃ l, l ∈ B ∧ (a, fn) ∈ l := by
 delta cu at h
 rw [bF] at h
 cases q : B[Nat.mod a 16]? with
 | none => rw [q] at h; cases h
 | some l =>
  rw [q] at h
  exact ⟨l, List.mem_of_getElem? q, bB h⟩
theorem eW {K : Frag} {nm : Nat → Str} {tabs : List Nat} {Γ : Ctx} (e : i6 K nm tabs Γ = true) : (∀ x fn, cu x Γ.fns = some fn → qJ K nm tabs x fn = true) ∧ (∀ x k, af x Γ.dv = some k → af x Γ.cf = none → sX K nm x k = true) ∧ (∀ x k bs, af x Γ.dv = some k → af x Γ.cf = some bs → sZ K nm x k = true) ∧ (∀ x v, af x Γ.glob = some v → jJ K nm x v = true) ∧
 (K.lookup sysModules).isSome = true ∧ (∀ a, Γ.take = some a → fnIn K a = true) ∧ ∀ D C bs qX, af D Γ.cf = some bs → af C Γ.cf = some qX → exmOne K (.ref D) (.ref C) = some (bs.contains C) := by
 delta i6 at e
 refine (ao e).elim fun e k6 => ?_
 refine (ao e).elim fun e k5 => ?_
 refine (ao e).elim fun e k4 => ?_
 refine (ao e).elim fun e k3 => ?_
 refine (ao e).elim fun k1 k2 => ?_
 refine ⟨fun x fn h => (wb h).elim fun l m => lx (lx k1 l m.1) (x, fn) m.2, fun x k h hx => ?_, fun x k bs h hx => ?_, fun x v h => lx k3 (x, v) (bB h), k4, fun a ha => by rw [ha] at k5; exact k5, fun D C bs qX h1 h2 => ?_⟩
 ·have := lx k2 (x, k) (bB h)
  have q : E6 Γ x = false := by delta E6; refine ae hx ?_; rfl
  rw [q] at this
  exact this
 ·have := lx k2 (x, k) (bB h)
  have q : E6 Γ x = true := by delta E6; refine ae hx ?_; rfl
  rw [q] at this
  exact this
 ·exact iB (lx (lx k6 (D, bs) (bB h1)) (C, qX) (bB h2))
set_option tactic.hygienic true in
theorem gT {h : Heap} : ∀ {as : List Nat} {a : Nat} {o : Obj}, (fragOf h as).lookup a = some o → h.get? a = some o ∧ a ∈ as
 | [], _, _, e => by cases e
 | b :: r, a, o, e => by
  delta fragOf at e
  rw [List.filterMap_cons] at e
  cases hb : h.get? b with
  | none =>
   rw [hb] at e
   have := gT (as := r) e
   exact ⟨this.1, .tail _ this.2⟩
  | some p =>
   rw [hb] at e
   dsimp -iota only [Option.map_some] at e
   rw [List.lookup_cons] at e
   split at e
   ·rename_i q
    obtain rfl := aO e
    have q := iB q
    subst q
    exact ⟨hb, .head _⟩
   ·have := gT (as := r) e
    exact ⟨this.1, .tail _ this.2⟩
structure TabsOk (h : Heap) (as : List Nat) (dO : List (Nat × Nat)) : Prop where
 tab : ∀ P ∈ dO.map (·.2), h.get? P = some (tabObj #[])
 code : ∀ P ∈ dO.map (·.2), isCodeTable h P
 out : ∀ P ∈ dO.map (·.2), P ∉ as ∧ P ≠ mainGlobals ∧ P ≠ builtinsNs ∧ P ≠ cStatics
set_option tactic.hygienic true in
theorem tabsOk {h : Heap} {as : List Nat} {dO : List (Nat × Nat)} (e : dO.all (Aw h (fragOf h as) as) = true) : TabsOk h as dO := by
 have each : ∀ P ∈ dO.map (·.2), ∃ c, Aw h (fragOf h as) as (c, P) = true := fun P hP => by
  obtain ⟨p, hp, rfl⟩ := yN hP
  exact ⟨p.1, lx e p hp⟩
 refine ⟨fun P hP => ?_, fun P hP => ?_, fun P hP => ?_⟩
 ·obtain ⟨c, q⟩ := each P hP
  have q := aM q
  dsimp -iota only at q
  cases hg : h.get? P with
  | none => rw [hg] at q; cases q
  | some o =>
   rw [hg] at q
   obtain ⟨oc, od, d, sl⟩ := o
   cases oc <;> first | (cases q; done) | skip
   cases od <;> first | (cases q; done) | skip
   cases d <;> first | (cases q; done) | skip
   rename_i vs
   refine (ao q).elim fun q1 q2 => ?_
   refine ae (Array.isEmpty_iff.mp q1) ?_; refine ae (Array.isEmpty_iff.mp q2) ?_; rfl
 ·obtain ⟨c, q⟩ := each P hP
  refine (jI (aM (ai q))).elim fun o aj => (aj).elim fun ho q1 => ?_
  refine (qH (ai q1)).elim fun vs aj => (aj).elim fun hd q2 => ?_
  have hv := cT q2
  refine ⟨c, o, vs, fZ h as _ _ ho, dN (aM q1), hd, ?_⟩
  rw [Array.getD_eq_getD_getElem?] at hv
  cases q : vs[11]? with
  | none => rw [q] at hv; cases hv
  | some u => rw [q] at hv; exact congrArg some hv
 ·obtain ⟨c, q⟩ := each P hP
  have q := ai (ai q)
  exact ⟨Ao (k9 (aM q)), Nat.ne_of_beq_eq_false (k9 (aM (ai q))), Nat.ne_of_beq_eq_false (k9 (aM (ai (ai q)))), Nat.ne_of_beq_eq_false (k9 (ai (ai (ai q))))⟩
noncomputable def yM (p : Program) (w : World) (Γ : Ctx) (t : List (List Nat)) (as : List Nat) (dO : List (Nat × Nat)) (h : Heap) (os : OsState) (mg mb : Str → Option Value) : aL :=
 { prog := p, w := w, Γ := Γ, nm := iZ t, K := fragOf h as, h₀ := hide (dO.map (·.2)) h, tC := os, mg := mg, mb := mb, tabs := dO.map (·.2), lam := fun b ar x sc => jY ar sc = true ∧ ∃ m, aV (iZ t) m sc.names b x = true }
section
variable {p : Program} {w : World} {Γ : Ctx} {t : List (List Nat)} {as : List Nat} {dO : List (Nat × Nat)} {h : Heap} {os : OsState} {mg mb : Str → Option Value} {name : Str} {law : Nat}
theorem cq (e : fL h as t Γ dO name law = true) : i6 (fragOf h as) (iZ t) (dO.map (·.2)) Γ = true ∧ F2 (findCls (fragOf h as) (.type "int") (.type "type") "from_bytes") = true ∧ qG (nsIn (fragOf h as) mainGlobals name) law = true ∧ TabsOk h as dO := by
 delta fL at e
 refine (ao e).elim fun e e4 => ?_
 refine (ao e).elim fun e e3 => ?_
 refine (ao e).elim fun e e2 => ?_
 exact ⟨e, e2, e3, tabsOk e4⟩
theorem yv (e : TabsOk h as dO) : (fragOf h as).In (hide (dO.map (·.2)) h) := fun a o q => by
 refine (gT q).elim fun q1 q2 => ?_
 exact di q1 fun hm => (e.out a hm).1 q2
theorem oE {ps : List Nat} {a : Nat} {m : Str → Option Value} (x : h.Ns a m) (q : a ∉ ps) : (hide ps h).Ns a m := by
 refine (x).elim fun o aj => (aj).elim fun es ax => (ax).elim fun n aP => (aP).elim fun h1 h2 => ?_
 exact ⟨o, es, n, di h1 q, h2⟩
theorem qP (e : fL h as t Γ dO name law = true) (hn : lp (iZ t)) (hg : h.Ns mainGlobals mg) (hb : h.Ns builtinsNs mb) (hl : h.NoLimit) (Bq : ∃ bm o, mg "__builtins__" = some (.ref bm) ∧ bm ≠ builtinsNs ∧ bm ≠ mainGlobals ∧ h.get? bm = some o ∧ o.cls = .type "module" ∧ o.dict = some builtinsNs ∧ o.data = .plain) : (yM p w Γ t as dO h os mg mb).Glob := by
 refine (cq e).elim fun e1 aj => (aj).elim fun e2 ax => (ax).elim fun _ e4 => ?_
 refine (eW e1).elim fun k1 aj => (aj).elim fun k2 ax => (ax).elim fun NS aP => (aP).elim fun k3 bG => (bG).elim fun k4 dc => (dc).elim fun k5 k6 => ?_
 have X := yv e4
 have no : ∀ a, (∃ o, h.get? a = some o ∧ o.cls ≠ .none) → a ∉ dO.map (·.2) := fun a ⟨o, ho, hc⟩ hm => by
  have := e4.tab a hm
  rw [ho] at this; obtain rfl := aO this; exact hc rfl
 have Bt : (hide (dO.map (·.2)) h).Ns mainGlobals mg := oE hg fun hm => (e4.out _ hm).2.1 rfl
 have qY : (hide (dO.map (·.2)) h).Ns builtinsNs mb := oE hb fun hm => (e4.out _ hm).2.2.1 rfl
 refine {
  g := Bt
  b := qY
  inj := hn.inj
  sys := (by refine (Option.isSome_iff_exists.mp k4).elim fun o ho => ?_; exact ⟨o, X _ _ ho⟩)
  k := X
  lim := ?_
  y6 := hn.y6
  oY := hn.oY
  oZ := hn.oZ
  jb := hn.jb
  nH := hn.nH
  o3 := hn.o3
  o4 := hn.o4
  fb := C1 e2
  cls := fun C k hk hx => oz (Z := yM p w Γ t as dO h os mg mb) (k2 C k hk hx)
  o5 := fun C k bs hk hx => oB (Z := yM p w Γ t as dO h os mg mb) (NS C k bs hk hx)
  exc := fun D C bs qX h1 h2 => k6 D C bs qX h1 h2
  tabs := fun P hP => oD hP
  Df := ?_
  uy := fun h1 h2 => ⟨h1, _, h2⟩
  uz := fun h => h
  look := fun x v hv => lR (Z := yM p w Γ t as dO h os mg mb) X Bt qY (k3 x v hv) }
 ·refine (hl).elim fun mc aj => (aj).elim fun h1 h2 => ?_
  exact ⟨mc, oE h1 fun hm => (e4.out _ hm).2.2.2 rfl, h2⟩
 ·intro P hP
  refine (Bq).elim fun bm aj => (aj).elim fun o ax => (ax).elim fun b1 aP => (aP).elim fun b2 bG => (bG).elim fun b3 dc => (dc).elim fun b5 ib => (ib).elim fun b6 pQ => (pQ).elim fun b7 b8 => ?_
  have Lm : bm ∉ dO.map (·.2) := no bm ⟨o, b5, by refine ae b6 ?_; exact fun q => by cases q⟩
  exact ⟨bm, o, b1, b2, b3, fun q => Lm (q ▸ hP), di b5 Lm, b6, b7, b8⟩
theorem wc (e : fL h as t Γ dO name law = true) : ∀ x fn, cu x Γ.fns = some fn → iQ (yM p w Γ t as dO h os mg mb) x fn := fun x fn hx =>
 qO (Z := yM p w Γ t as dO h os mg mb) (yv (cq e).2.2.2) ((eW (cq e).1).1 x fn hx)
theorem s9 (e : fL h as t Γ dO name law = true) (hg : h.Ns mainGlobals mg) : mg name = some (.ref law) :=
 jK (fZ h as) hg (ow (cq e).2.2.1)
end
theorem nc {P : Params} {h : Heap} : ∀ {ns : List Int} {vs : List Value}, WellAll P h vs (ofPys (ns.map .int)) → aS (fun (x : Int) u => ∃ t, u = Value.int x t) ns vs
 | [], [], _ => .nil
 | [], _ :: _, h => by cases h
 | _ :: _, [], h => by cases h
 | n :: ns, v :: vs, h => by
  cases h with
  | cons h1 h2 =>
   refine .cons ?_ (nc h2)
   cases h1 with
   | int i t => exact ⟨t, rfl⟩
theorem yw {l : OpenLaw} {args : List WData} (hm : l.most = some 63) (hb : l.bound = none) (kY : l.row.toRowW.claim.pre args = true) (lS : WData.layableAll args = true) :
 ∃ ns : List Int, args = [ofPy (.list (ns.map .int))] ∧ ns.length ≤ 63 ∧ ∀ x ∈ ns, Int.intBits x ≤ 2 ^ 20 := by
 have hsh : WShape.hasAll [] args [.list .int] = true := (pre_splitW kY).1
 have ng : l.pre.holds [] { args := args } = true := (pre_splitW kY).2
 obtain ⟨d, r, rfl, h1, h2⟩ := hasAllW_cons hsh
 obtain rfl := hasAllW_nil h2
 refine (layW_cons lS).elim fun h3 _ => ?_
 obtain ⟨q, rfl, h4, h5⟩ := open_plain (.list .int) rfl h1 h3
 obtain ⟨ns, rfl⟩ := has_list_int h4
 refine ⟨ns, rfl, ?_, fun x hx => ?_⟩
 ·delta OpenLaw.pre at ng
  rw [hm, hb] at ng
  dsimp only at ng
  apply Nat.le_of_not_lt
  intro OB
  have e2 : WTm.value [] (.len (.arg 0)) { args := [ofPy (.list (ns.map .int))] } = some (.int ns.length) := by
   simp [WTm.value, ofPy, ofPys_length]
  have e1 : WTm.value [] (.lt (.lit (.int 63)) (.len (.arg 0))) { args := [ofPy (.list (ns.map .int))] } = some (.bool (decide ((63 : Int) < ns.length))) := w_lt rfl e2
  rw [decide_eq_true (by omega)] at e1
  have e3 : WTm.value [] (.not (.lt (.lit (.int 63)) (.len (.arg 0)))) { args := [ofPy (.list (ns.map .int))] } = some (.bool false) := w_not e1
  have e4 : ∀ b, WTm.value [] (.and (.not (.lt (.lit (.int 63)) (.len (.arg 0)))) b) { args := [ofPy (.list (ns.map .int))] } = some (.bool false) := fun b => by
   rw [WTm.value, e3]
  delta WTm.holds at ng
  have hc := e4 (.lit (.bool true))
  rw [show (((63 : Nat) : Int)) = 63 from rfl, hc] at ng
  cases ng
 ·have : PyData.layable0 (.list (ns.map .int)) = true := by
   have := h5
   simp [PyData.layableAll0] at this
   exact this
  exact PyData.bits_item_of_ints this hx
theorem yx {l : OpenLaw} {cl : Str → Option Addr} {Ig : ExcName → Option Value} {args : List WData} {aU s' : Shared} (hold : OldK aU.heap s'.heap) (oU : s'.os = aU.os) (hg : s'.gens = #[]) :
 GoodWG l.row.toRowW.claim cl Ig args aU (.ok (.ret (.bool true))) s' :=
 ⟨.inl ⟨.bool true, .bool true, [], rfl, fun J => rfl, .bool true, postW_of rfl (X := true) (by refine (?_ : some (WData.bool (same (.bool true) (.bool true))) = _); rw [same_self]) rfl, fun J => ⟨.nil, fun J h => nomatch h⟩⟩, hold, oU, .of_eq hg⟩
end aD
end
section
open PySem PySem.Calls PyProof.Rows PySem.W PySem.SeqAt PySem.Builtin
open PySem.Sem (wp)
set_option maxRecDepth 100000
namespace aD
theorem oF : Clean (⟨.builtin "claim.caller" {}, none, none, [], none⟩ : PySem.Ctx) := ⟨by decide +kernel, fun J h => nomatch h⟩
theorem qQ {prog : Program} {w : World} {t : Sem Fin} {s : Shared} {R : Result → Shared → Prop} (Ih : s.asleep)
 (h : bt (model prog w) callerA t (fun fin s' => ∃ f, fin = .done f ∧ R (.ok f) s' ∧ leftWithCleanup s'.gens = false) (fun J J => False) s) :
 ∃ n r s' eB, runN (denote table) prog w n s ⟨t, .builtin "claim.caller" {}, default, []⟩ = .halted (outcomeOf r) s' ∧
  schedN (denote table) prog w n (.single s ⟨t, .builtin "claim.caller" {}, default, []⟩) = .halted (outcomeOf r) s' ∧ s'.forget = eB.forget ∧ R r eB := by
 have hw : wp (model prog w) ⟨.builtin "claim.caller" {}, none, none, [], none⟩ t (Sem.finPost (model prog w) ⟨.builtin "claim.caller" {}, none, none, [], none⟩ fun r s' => R r s' ∧ leftWithCleanup s'.gens = false) (fun e J s' => R (.error e) s' ∧ leftWithCleanup s'.gens = false) default s :=
  Sem.wp_mono _ _ t (fun fin p' s' q => by obtain ⟨f, rfl, q⟩ := q; exact q) (fun J J J f => f.elim) default s (h _ default caller_in oF)
 refine (wp_halts_full (M := model prog w) (R := R) Ih hw).elim fun n aj => (aj).elim fun r ax => (ax).elim fun aU aP => (aP).elim fun gf bG => (bG).elim fun a dc => (dc).elim fun b ib => (ib).elim fun c d => ?_
 exact ⟨n, r, gf, aU, b, a, c, d⟩
def yy (aU : Shared) (v : Value) (s' : Shared) : Prop := v = .bool true ∧ OldK aU.heap s'.heap ∧ s'.os = aU.os ∧ s'.gens = #[]
theorem we {l : OpenLaw} {w : World} {s : Shared} {free : Addr → Prop} {gens : Prop} {kept : Heap → Prop} (hz : s.asleep) (nh : s.gens = #[])
 (Ff : ∀ args, l.row.toRowW.claim.pre args = true → WData.layableAll args = true → ∀ ord : List DictEntry → List DictEntry, (∀ l, (ord l).Perm l) →
  ∃ vs aU, layAllW [] (classAt s.heap) w.params ord args s = some (vs, aU) ∧
   bt (model l.prog w) callerA (callStub l.name vs).cur (fun fin s' => ∃ f, fin = .done f ∧ l.row.toRowW.claim.Ends s args vs aU (.ok f) s' ∧ s'.os = s.os ∧ AllBare s'.gens ∧ kept s'.heap) (fun J J => False) aU) :
 l.row.toRowW.claim.CallFrom (callStub l.name) w free gens kept s := by
 intro args kY lS ord Ax
 refine Classical.byContradiction fun bad => ?_
 refine (Ff args kY lS ord Ax).elim fun vs aj => (aj).elim fun aU ax => (ax).elim fun ju tW => ?_
 have Fg := layAllW_rest _ _ _ ju
 obtain ⟨k, r, s', eB, X⟩ := qQ (R := fun r s' => l.row.toRowW.claim.Ends s args vs aU r s' ∧ s'.os = s.os ∧ kept s'.heap) (Shared.asleep_of_life Fg.2.2.2 hz)
  (az tW (fun fin s' q => by refine (q).elim fun f aj => (aj).elim fun e h => ?_; exact ⟨f, e, ⟨h.1, h.2.1, h.2.2.2⟩, leftWithCleanup_false_of_bare h.2.2.1⟩) fun J J f => f)
 have F := Shared.forget_eq X.2.2.1
 have Fh : s'.heap.life = s.heap.life := (runN_life _ _ _ X.1).trans Fg.2.2.2
 refine bad ⟨vs, aU, ju, k, _, s', X.2.1, ?_, (fun J i x hx => by rw [nh] at hx; simp at hx), by refine ae F.1 ?_; exact X.2.2.2.2.2, by refine ae Fh ?_; rfl, Shared.rest_eq (F.2.2.2.1.trans X.2.2.2.2.1)⟩
 rcases X.2.2.2.1.congr F.1 with ⟨v, h⟩ | ⟨e, ob, cls, h⟩
 ·exact .inl ⟨v, by refine ae h.1 ?_; rfl, h.2.1, h.2.2.1, h.2.2.2.1, fun b o y J => h.2.2.2.2.1 b o y, h.2.2.2.2.2⟩
 ·exact .inr ⟨e, ob, cls, by refine ae h.1 ?_; rfl, h.2.1, h.2.2.1, h.2.2.2.1, h.2.2.2.2.1, fun b o y J => h.2.2.2.2.2 b o y⟩
theorem yz {l : OpenLaw} {q : Program} {loose : List Str} {Xt : Shared → Bool} {α : Type} {Yf : Shared → α} {Ya : World → α} {d : DefRec} {kwd : List (Str × Expr)} {N : Nat} (left : LeftO l.prog q loose Xt Yf Ya N)
 (Ii : defOf q l.name = some (d, kwd)) (hp : l.prog.theDef l.name = some (d.params, d.body, d.scope)) (hk : kwWritten? d.params.kwonlyargs d.params.kw_defaults = some kwd) (said : l.row.wellSaid = true)
 (ok : (chainsOk q && opensWell l.prog && (frees l.row.toRowW && l.row.toRowW.within.isEmpty)) = true) (hb : l.prog.bare) (hw : l.row.toRowW.promised)
 (call : ∀ (w : World) (aE aU : Shared) (mg mb : Str → Option Value), aE.heap.Ns mainGlobals mg → aE.heap.Ns builtinsNs mb → aE.heap.NoLimit → (∃ bm ob, mg "__builtins__" = some (.ref bm) ∧ bm ≠ builtinsNs ∧ aE.heap.get? bm = some ob ∧ ob.cls = .type "module" ∧ ob.dict = some builtinsNs ∧ ob.data = .plain) → Yf aE = Ya w → ∀ (args : List WData) (vs : List Value) (as : List Addr), l.row.toRowW.claim.pre args = true → WData.layableAll args = true →
  Laid [] w aE aU args vs as → ∃ f, mg l.name = some f ∧ bt (model l.prog w) callerA (PySem.call f vs) (yy aU) (fun J J => False) aU) : l.row.Holds := by
 refine (Bool.and_eq_true_iff.mp ok).elim fun ok k5 => ?_
 refine (Bool.and_eq_true_iff.mp ok).elim fun Ln o1 => ?_
 refine (Bool.and_eq_true_iff.mp k5).elim fun k5 k6 => ?_
 refine (frees_parts k5).elim fun Fi aj => (aj).elim fun hu ax => (ax).elim fun ha aP => (aP).elim fun FL hm => ?_
 refine ⟨said, hw, ⟨hb, o1, rfl⟩, hw.witness, fun w => ⟨(left.behind (XP := fun J J => True) (fun J J => trivial) Ln w).1, fun s' jw => ?_⟩⟩
 refine ((left.behind (XP := fun J J => True) (fun J J => trivial) Ln w).2 s' jw).elim fun aE aj => (aj).elim fun hf ax => (ax).elim fun NT aP => (aP).elim fun s bG => (bG).elim fun hT dc => (dc).elim fun hz ib => (ib).elim fun nh pQ => (pQ).elim fun hg se => (se).elim fun G y => ?_
 have nh : s.gens = #[] := Array.eq_empty_of_size_eq_zero (iB nh)
 have RF : RecFacts [] s.heap := recFacts_nil rfl
 refine ⟨aE, hf, NT, s, hT, fun n hn => ?_, RF.1, RF.2.1, ?_⟩
 ·obtain rfl : n = l.name := by
   have hn : n ∈ (if l.row.pinned then [l.name] else []) := hn
   split at hn <;> simp_all
  exact pinned_of_view hg G Ii hp hk
 ·refine we hz nh fun args kY lS ord Ax => ?_
  obtain ⟨⟨vs, aU⟩, ju⟩ := Option.isSome_iff_exists.mp (layAllW_isSome (P := w.params) (ord := ord) G.has args l.row.toRowW.args s (pre_splitW kY).1)
  have keeps := layAllW_keeps _ _ _ ju
  have Fg := layAllW_rest _ _ _ ju
  refine (reads_layAllW Ax _ _ _ ju lS aU.heap (fun J J e => e)).elim fun as aj => (aj).elim fun NU ax => (ax).elim fun NV hold => ?_
  have L : Laid [] w s aU args vs as := ⟨⟨ord, Ax, ju⟩, NU, NV, hold, keeps, Fg.1.trans nh, Fg.2.2.1⟩
  refine (call w s aU _ _ G.T.g G.T.b G.T.nolimit G.T.bmain y args vs as kY lS L).elim fun f aj => (aj).elim fun hf h => ?_
  have hi := ident_freeW hu ha FL
  have NW : l.row.toRowW.claim.within = [] := te k6
  refine ⟨vs, aU, ju, ?_⟩
  refine aa (.of (wpAny_nsGet (ll keeps G.T.g) ?_))
  refine ae hf ?_
  refine aa (az h (fun v gf z => ?_) fun J J f => f)
  obtain ⟨rfl, z1, z2, z3⟩ := z
  have g : GoodWG l.row.toRowW.claim (classAt s.heap) (ExcName.means s.heap) args aU (.ok (.ret (.bool true))) gf := yx z1 z2 z3
  have z := g.laid (c := l.row.toRowW.claim) Fi NW hi L
  exact aq ⟨_, rfl, z.1, z.2.1, z.2.2, fun q => ⟨namesKept_of hT hg l.row.keeps keeps g.2.1.old, fun x hx => nomatch hx⟩⟩
end aD
end
section
open PySem PySem.Calls PyProof.Rows PySem.W PySem.SeqAt PySem.Builtin
set_option maxRecDepth 100000
namespace aD
structure yA (Γ : Ctx) (tk a b d : Nat) : Prop where
 tq : Γ.take = some tk
 take : cu tk Γ.fns = some (eS a b d)
 ab : a ≠ b
 ad : a ≠ d
 bd : b ≠ d
theorem oG {n : Nat} (h : n ≤ 200) (env : Env) (h1 : env.scope.kind ≠ .module) (h2 : ∃ b, env.frame = some b) : Room n (callerA.deeper env) ⟨[], none, [env]⟩ := by
 refine ⟨?_, ?_, rfl, rfl, fun e he => ?_⟩
 ·refine (?_ : 1 + claimMargin + 1 + 2 * n < recursionLimit)
  have h1 : claimMargin = 300 := rfl
  have h2 : recursionLimit = 1000 := rfl
  omega
 ·refine (?_ : 4 + 3 + 8 * n + 64 < cLine)
  have h2 : cLine = 9900 := rfl
  omega
 ·cases msg he
  exact ⟨h1, h2⟩
theorem wg {P : Params} {h : Heap} {v : Value} {xs : List WData} (x : Well P h v (.list xs)) : ∃ a us, v = .ref a ∧ h.get? a = some { cls := .type "list", data := .seq us.toArray } ∧ WellAll P h us xs := by
 cases x with
 | list ho Ij => exact ⟨_, _, rfl, ho, Ij⟩
theorem qR {P : Params} {h : Heap} {vs : List Value} {x : WData} (e : WellAll P h vs [x]) : ∃ v, vs = [v] ∧ Well P h v x := by
 cases e with
 | cons h1 h2 => cases h2; exact ⟨_, rfl, h1⟩
theorem tc {R : WRecords} {cl : Str → Option Addr} {h : Heap} {a : Addr} {xs : List WData} {as : List Addr} (r : ReadsW R cl h (.ref a) (.list xs) as) : a ∈ as := by
 cases r with
 | list _ _ _ _ => exact .head _
theorem oH {R : WRecords} {cl : Str → Option Addr} {h : Heap} {v : Value} {x : WData} {as : List Addr} (r : ReadsAllW R cl h [v] [x] as) : ∃ bs cs, as = bs ++ cs ∧ ReadsW R cl h v x bs := by
 cases r with
 | cons r1 r2 => exact ⟨_, _, rfl, r1⟩
theorem yB {wd : World} {aE aU : Shared} {ns : List Int} {vs : List Value} {bs : List Addr} (L : Laid [] wd aE aU [ofPy (.list (ns.map .int))] vs bs) : ∃ a us, vs = [.ref a] ∧ aU.heap.get? a = some { cls := .type "list", data := .seq us.toArray } ∧ WellAll wd.params aU.heap us (ofPys (ns.map .int)) ∧ aE.heap.get? a = none := by
 obtain ⟨v, rfl, w⟩ := qR L.well
 obtain ⟨a, us, rfl, h1, h2⟩ := wg (xs := ofPys (ns.map .int)) w
 refine (oH L.reads).elim fun b aj => (aj).elim fun d ax => (ax).elim fun e r => ?_
 have hm : a ∈ bs := by refine ae e ?_; exact List.mem_append_left _ (tc (xs := ofPys (ns.map .int)) r)
 exact ⟨a, us, rfl, h1, h2, Heap.get?_none_of_le (L.within.2.2 a hm).1⟩
theorem Ay {l : OpenLaw} (hm : l.most = some 63) (hb : l.bound = none) {Γ : Ctx} {t : List (List Nat)} {as : List Nat} {dO : List (Nat × Nat)} {n : Nat} {f gR jy lu} (w : iz Γ) (W : ug w n f gR jy lu) (hn : lp (iZ t)) {tk ta tb td : Nat} (T : yA Γ tk ta tb td) (Ik : n + 14 ≤ 200) :
 ∀ (wd : World) (aE aU : Shared) (mg mb : Str → Option Value), aE.heap.Ns mainGlobals mg → aE.heap.Ns builtinsNs mb → aE.heap.NoLimit → (∃ bm ob, mg "__builtins__" = some (.ref bm) ∧ bm ≠ builtinsNs ∧ aE.heap.get? bm = some ob ∧ ob.cls = .type "module" ∧ ob.dict = some builtinsNs ∧ ob.data = .plain) →
  fL aE.heap as t Γ dO l.name w.a = true → ∀ (args : List WData) (vs : List Value) (bs : List Addr), l.row.toRowW.claim.pre args = true → WData.layableAll args = true →
  Laid [] wd aE aU args vs bs → ∃ f, mg l.name = some f ∧ bt (model l.prog wd) callerA (PySem.call f vs) (yy aU) (fun J J => False) aU := fun wd aE aU mg mb hg NX hl Bq e args vs bs kY lS L => by
 refine ⟨_, s9 e hg, ?_⟩
 obtain ⟨ns, rfl, NY, Fj⟩ := yw hm hb kY lS
 have Il : ∃ bm o, mg "__builtins__" = some (.ref bm) ∧ bm ≠ builtinsNs ∧ bm ≠ mainGlobals ∧ aE.heap.get? bm = some o ∧ o.cls = .type "module" ∧ o.dict = some builtinsNs ∧ o.data = .plain := by
  refine (Bq).elim fun bm aj => (aj).elim fun ob ax => (ax).elim fun b1 aP => (aP).elim fun b2 bG => (bG).elim fun b3 dc => (dc).elim fun b4 ib => (ib).elim fun b5 b6 => ?_
  refine ⟨bm, ob, b1, b2, fun q => ?_, b3, b4, b5, b6⟩
  refine (Ns.data hg ob (q ▸ b3)).elim fun es aj => (aj).elim fun ep hd => ?_
  rw [b6] at hd; cases hd
 have G0 : (yM l.prog wd Γ t as dO aE.heap aE.os mg mb).Glob := qP e hn hg NX hl Il
 have T4 := (cq e).2.2.2
 have NZ : Known (yM l.prog wd Γ t as dO aE.heap aE.os mg mb) tk ta tb td := ⟨wc e, T.tq, T.take, T.ab, T.ad, T.bd, (eW (cq e).1).2.2.2.2.2.1 tk T.tq⟩
 obtain ⟨a, us, rfl, ho, Ij, ha⟩ := yB L
 have zL : a ∉ dO.map (·.2) := fun hm => by
  have := T4.tab a hm
  rw [ha] at this; cases this
 have kk : ∀ b o, (hide (dO.map (·.2)) aE.heap).get? b = some o → (hide (a :: dO.map (·.2)) aU.heap).get? b = some o := fun b o q => by
  refine (eV q).elim fun q1 q2 => ?_
  refine di (L.keeps b o q1) fun hm => ?_
  rcases ff hm with r | r
  ·rw [r, ha] at q1; cases q1
  ·exact q2 r
 have G : ((yM l.prog wd Γ t as dO aE.heap aE.os mg mb).on (hide (a :: dO.map (·.2)) aU.heap)).Glob := G0.on kk fun P hP => oD (.tail _ hP)
 have Kn := NZ.on (h := hide (a :: dO.map (·.2)) aU.heap) kk
 have Av : ∀ P ∈ dO.map (·.2), aU.heap.get? P = some (tabObj #[]) := fun P hP => L.keeps _ _ (T4.tab P hP)
 refine cz (bg (law_code (Z := (yM l.prog wd Γ t as dO aE.heap aE.os mg mb).on (hide (a :: dO.map (·.2)) aU.heap)) G Kn W (by decide) (oG Ik) (fun J => rfl) L.gens L.os (fun P hP => ⟨_, Av P hP, #[], rfl, trivial, fun pos v q => by cases q⟩) ho zL (by exact fun J J => Iff.rfl) (nc Ij) Fj NY) fun r s' q => ?_)
 obtain ⟨rfl, q⟩ := q
 refine ⟨rfl, ⟨fun b o e => ?_, fun b o e => ?_⟩, q.os.trans L.os.symm, q.gens⟩
 ·by_cases hb : b ∈ dO.map (·.2)
  ·have h1 := Av b hb
   rw [e] at h1
   obtain rfl := aO h1
   obtain ⟨o', h2, ps, rfl, _, _⟩ := q.tabs b hb
   refine (T4.code b hb).elim fun c aj => (aj).elim fun oc ax => (ax).elim fun vs aP => (aP).elim fun k1 bG => (bG).elim fun k2 dc => (dc).elim fun k3 k4 => ?_
   exact .inr (.inl ⟨⟨c, oc, vs, L.keeps _ _ k1, k2, k3, k4⟩, rfl, #[], ps, rfl, by refine ae h2 ?_; simp⟩)
  ·exact .inl (q.base b o (di e hb))
 ·by_cases hb : b ∈ dO.map (·.2)
  ·refine (q.tabs b hb).elim fun o' aj => (aj).elim fun h2 _ => ?_
   exact ⟨o', h2⟩
  ·exact ⟨o, q.base b o (di e hb)⟩
end aD
end
section
open PySem PySem.W
set_option maxRecDepth 100000
set_option maxHeartbeats 0
namespace aD
noncomputable def Fo (b : Nat) : Nat → Nat → List Nat := Nat.rec (fun J => []) (fun J g n => cond (Nat.ble n (nat_lit 1)) [] (Nat.mod n b :: g (Nat.div n b)))
noncomputable def F3 {α : Type} (d : α) (l : List α) (n : Nat) : α := List.rec (motive := fun J => Nat → α) (fun J => d) (fun a J ih n => Nat.rec (motive := fun J => α) a (fun m J => ih m) n) l n
noncomputable def C2 {α : Type} (l : List α) : Nat := List.rec (motive := fun J => Nat) (nat_lit 0) (fun J J n => Nat.succ n) l
noncomputable def Fp (l : Nat) (T : List (List aw)) (n : Nat) : List aw := Nat.rec (motive := fun J => List (List aw) → Nat → List aw) (fun J J => [])
 (fun J ih T n => List.rec (motive := fun J => List aw) [] (fun t r J => F3 .src t (Nat.mod n (C2 t)) :: ih r (Nat.div n (C2 t))) T) l T n
noncomputable def Fq (l : Nat) (T : List (List aw)) (n : Nat) : Nat := Nat.rec (motive := fun J => List (List aw) → Nat → Nat) (fun J n => n)
 (fun J ih T n => List.rec (motive := fun J => Nat) n (fun t r J => ih r (Nat.div n (C2 t))) T) l T n
noncomputable def qI (n : Nat) : V := .int (.lit (.ofNat n))
noncomputable def qV (n : Nat) : V := .int (.va n (.ofNat 0))
noncomputable def qA : V := .str [100,98]
noncomputable def qB : V := .str [100,101,108,101,116,101]
noncomputable def qC : V := .str [100,98,45,106,111,117,114,110,97,108]
noncomputable def qL : Seg := .lit [112,97,103,101,98,97,115,101,0,64]
noncomputable def za : aw := .a5
noncomputable def zl : aw := .list [(.str [105,100,108,101]),.bb,(.bool false)]
noncomputable def zD : aw := .ay [((.ofNat 1),(.bytes [qL,.be 0 (.ofNat 0) 4 0 4,.lit [0,0,0,1,0,0,0,0,0,0,0,0,0,0,0,0,0,0],.rep 2 32]))]
noncomputable def Lp : aw := .inst 481 [(116,(.loc 8)),(54,.bb),(117,(.loc 24)),(118,(.loc 25))]
noncomputable def zc : aw := .ay []
noncomputable def zb : aw := .list []
noncomputable def zN : aw := .bW [qL,.be 0 (.ofNat 0) 4 0 4,.lit [0,0,0,1,0,0,0,0,0,0,0,0,0,0,0,0,0,0],.rep 2 32]
noncomputable def Lq : aw := .aB []
noncomputable def zs : aw := .ay [((.ofNat 1),(.bytes [qL,.be 0 (.ofNat 0) 4 0 4,.lit [0,0,0,2,0,0,0,0,0,0,0,0,0,0,0,0,0,0],.rep 2 32])),((.ofNat 2),(.bytes [.rep 3 64]))]
noncomputable def zz : aw := .bW [qL,.be 0 (.ofNat 0) 4 0 4,.lit [0,0,0,2,0,0,0,0,0,0,0,0,0,0,0,0,0,0],.rep 2 32,.rep 3 64]
noncomputable def zh : aw := .ay [((.ofNat 1),(.bytes [qL,.be 0 (.ofNat 0) 4 0 4,.lit [0,0,0,3,0,0,0,0,0,0,0,0,0,0,0,0,0,0],.rep 2 32])),((.ofNat 2),(.bytes [.rep 3 64])),((.ofNat 3),(.bytes [.rep 4 64]))]
noncomputable def zr : aw := .bW [qL,.be 0 (.ofNat 0) 4 0 4,.lit [0,0,0,3,0,0,0,0,0,0,0,0,0,0,0,0,0,0],.rep 2 32,.rep 3 64,.rep 4 64]
noncomputable def zk : aw := .list [(.str [114,101,97,100,115]),(.loc 3),(.bool false)]
noncomputable def Lr : aw := .aB [((.ofNat 1),(qI 1))]
noncomputable def zQ : aw := .list [(.str [119,114,105,116,101,115]),(.loc 3),(.bool false)]
noncomputable def zF : aw := .aB [((.ofNat 1),(qI 2))]
noncomputable def Ls : aw := .aB [((.ofNat 2),(qI 1))]
noncomputable def zG : aw := .aB [((.ofNat 2),(qI 2))]
noncomputable def z5 : aw := .aB [((.ofNat 1),(qI 1)),((.ofNat 2),(qI 2))]
noncomputable def Lu : aw := .list [(.str [119,114,105,116,101,115]),(.loc 23),(.bool true)]
noncomputable def z7 : aw := .inst 246 [(52,(.loc 1)),(53,qC),(23,(qI 64)),(49,(qV 4)),(54,(qI 1)),(55,(qV 5))]
noncomputable def zJ : aw := .ay [((.ofNat 1),(.bool true))]
noncomputable def zv : aw := .jl 3
noncomputable def z8 : aw := .bW [.ef 7 0 96]
noncomputable def Lv : aw := .ay [((.ofNat 1),(.bytes [qL,.be 0 (.ofNat 0) 4 0 4,.lit [0,0,0,1,0,0,0,0,0,0,0,0,0,0,0,0,0,0],.rep 6 32]))]
noncomputable def z0 : aw := .aB [((.ofNat 1),(qI 2)),((.ofNat 2),(qI 1))]
noncomputable def z6 : aw := .aB [((.ofNat 2),(qI 1)),((.ofNat 1),(qI 2))]
noncomputable def z1 : aw := .aB [((.ofNat 2),(qI 2)),((.ofNat 1),(qI 1))]
noncomputable def zm : aw := .list [(.str [119,114,105,116,101,115]),(.loc 24),(.bool true)]
noncomputable def Lw : aw := .inst 481 [(116,(.loc 9)),(54,(qI 1)),(117,(.loc 32)),(118,(.loc 33))]
noncomputable def Lx : aw := .inst 246 [(52,(.loc 1)),(53,qC),(23,(qI 64)),(49,(qV 3)),(54,(qI 1)),(55,(qV 4))]
noncomputable def Ly : aw := .ay [((.ofNat 1),(.bytes [qL,.be 0 (.ofNat 0) 4 0 4,.lit [0,0,0,1,0,0,0,0,0,0,0,0,0,0,0,0,0,0],.rep 5 32]))]
noncomputable def zR : aw := .inst 246 [(52,(.loc 1)),(53,qC),(23,(qI 64)),(49,(qV 5)),(54,(qI 1)),(55,(qV 6))]
noncomputable def zS : aw := .bW [.ef 8 0 96]
noncomputable def Lz : aw := .ay [((.ofNat 1),(.bytes [qL,.be 0 (.ofNat 0) 4 0 4,.lit [0,0,0,2,0,0,0,0,0,0,0,0,0,0,0,0,0,0],.rep 7 32]))]
noncomputable def Im : aw := .ay [((.ofNat 2),(.bool true))]
noncomputable def F4 : aw := .ay [((.ofNat 2),(.bytes [.rep 7 64]))]
noncomputable def zT : aw := .inst 481 [(116,(.loc 9)),(54,(qI 2)),(117,(.loc 32)),(118,(.loc 33))]
noncomputable def LA : aw := .ay [((.ofNat 1),(.bytes [qL,.be 0 (.ofNat 0) 4 0 4,.lit [0,0,0,2,0,0,0,0,0,0,0,0,0,0,0,0,0,0],.rep 6 32]))]
noncomputable def LB : aw := .ay [((.ofNat 2),(.bytes [.rep 6 64]))]
noncomputable def LC : aw := .inst 246 [(52,(.loc 1)),(53,qC),(23,(qI 64)),(49,(qV 6)),(54,(qI 1)),(55,(qV 7))]
noncomputable def LD : aw := .ay [((.ofNat 1),(.bytes [qL,.be 0 (.ofNat 0) 4 0 4,.lit [0,0,0,3,0,0,0,0,0,0,0,0,0,0,0,0,0,0],.rep 8 32]))]
noncomputable def LF : aw := .ay [((.ofNat 2),(.bytes [.rep 8 64]))]
noncomputable def Io : aw := .ay [((.ofNat 3),(.bool true))]
noncomputable def LG : aw := .ay [((.ofNat 3),(.bytes [.rep 8 64]))]
noncomputable def zw : aw := .inst 481 [(116,(.loc 9)),(54,(qI 3)),(117,(.loc 32)),(118,(.loc 33))]
noncomputable def LH : aw := .ay [((.ofNat 1),(.bytes [qL,.be 0 (.ofNat 0) 4 0 4,.lit [0,0,0,3,0,0,0,0,0,0,0,0,0,0,0,0,0,0],.rep 7 32]))]
noncomputable def LI : aw := .ay [((.ofNat 3),(.bytes [.rep 7 64]))]
noncomputable def zH : aw := .inst 246 [(52,(.loc 1)),(53,qC),(23,(qI 64)),(49,(qV 5)),(54,(qI 2)),(55,(qV 6))]
noncomputable def zO : aw := .ay [((.ofNat 1),(.bool true)),((.ofNat 2),(.bool true))]
noncomputable def zA : aw := .jl 4
noncomputable def zP : aw := .bW [.ef 9 0 168]
noncomputable def LJ : aw := .ay [((.ofNat 1),(.bytes [qL,.be 0 (.ofNat 0) 4 0 4,.lit [0,0,0,2,0,0,0,0,0,0,0,0,0,0,0,0,0,0],.rep 7 32])),((.ofNat 2),(.bytes [.rep 8 64]))]
noncomputable def LK : aw := .inst 246 [(52,(.loc 1)),(53,qC),(23,(qI 64)),(49,(qV 4)),(54,(qI 2)),(55,(qV 5))]
noncomputable def LL : aw := .ay [((.ofNat 1),(.bytes [qL,.be 0 (.ofNat 0) 4 0 4,.lit [0,0,0,2,0,0,0,0,0,0,0,0,0,0,0,0,0,0],.rep 6 32])),((.ofNat 2),(.bytes [.rep 7 64]))]
noncomputable def LM : aw := .inst 246 [(52,(.loc 1)),(53,qC),(23,(qI 64)),(49,(qV 6)),(54,(qI 2)),(55,(qV 7))]
noncomputable def LN : aw := .ay [((.ofNat 1),(.bytes [qL,.be 0 (.ofNat 0) 4 0 4,.lit [0,0,0,3,0,0,0,0,0,0,0,0,0,0,0,0,0,0],.rep 8 32])),((.ofNat 2),(.bytes [.rep 9 64]))]
noncomputable def Ip : aw := .ay [((.ofNat 1),(.bool true)),((.ofNat 3),(.bool true))]
noncomputable def LO : aw := .ay [((.ofNat 1),(.bytes [qL,.be 0 (.ofNat 0) 4 0 4,.lit [0,0,0,3,0,0,0,0,0,0,0,0,0,0,0,0,0,0],.rep 8 32])),((.ofNat 3),(.bytes [.rep 9 64]))]
noncomputable def Iq : aw := .ay [((.ofNat 2),(.bool true)),((.ofNat 3),(.bool true))]
noncomputable def LP : aw := .ay [((.ofNat 2),(.bytes [.rep 8 64])),((.ofNat 3),(.bytes [.rep 9 64]))]
noncomputable def LQ : aw := .ay [((.ofNat 1),(.bytes [qL,.be 0 (.ofNat 0) 4 0 4,.lit [0,0,0,3,0,0,0,0,0,0,0,0,0,0,0,0,0,0],.rep 7 32])),((.ofNat 2),(.bytes [.rep 8 64]))]
noncomputable def LR : aw := .ay [((.ofNat 1),(.bytes [qL,.be 0 (.ofNat 0) 4 0 4,.lit [0,0,0,3,0,0,0,0,0,0,0,0,0,0,0,0,0,0],.rep 7 32])),((.ofNat 3),(.bytes [.rep 8 64]))]
noncomputable def LU : aw := .ay [((.ofNat 2),(.bytes [.rep 7 64])),((.ofNat 3),(.bytes [.rep 8 64]))]
noncomputable def LV : aw := .ay [((.ofNat 1),(.bytes [qL,.ef 7 0 4,.lit [0,0,0,1,0,0,0,0,0,0,0,0,0,0,0,0,0,0],.rep 5 32]))]
noncomputable def LW : aw := .ay [((.ofNat 1),(.bytes [qL,.ef 8 0 4,.lit [0,0,0,2,0,0,0,0,0,0,0,0,0,0,0,0,0,0],.rep 6 32]))]
noncomputable def LX : aw := .ay [((.ofNat 1),(.bytes [qL,.ef 8 0 4,.lit [0,0,0,2,0,0,0,0,0,0,0,0,0,0,0,0,0,0],.rep 2 32])),((.ofNat 2),(.bytes [.rep 6 64]))]
noncomputable def LY : aw := .ay [((.ofNat 1),(.bytes [qL,.ef 9 0 4,.lit [0,0,0,3,0,0,0,0,0,0,0,0,0,0,0,0,0,0],.rep 7 32]))]
noncomputable def L1 : aw := .ay [((.ofNat 1),(.bytes [qL,.ef 9 0 4,.lit [0,0,0,3,0,0,0,0,0,0,0,0,0,0,0,0,0,0],.rep 2 32])),((.ofNat 2),(.bytes [.rep 7 64]))]
noncomputable def L2 : aw := .ay [((.ofNat 1),(.bytes [qL,.ef 9 0 4,.lit [0,0,0,3,0,0,0,0,0,0,0,0,0,0,0,0,0,0],.rep 2 32])),((.ofNat 3),(.bytes [.rep 7 64]))]
noncomputable def L3 : aw := .inst 246 [(52,(.loc 1)),(53,qC),(23,(qI 64)),(49,(qV 6)),(54,(qI 3)),(55,(qV 7))]
noncomputable def Ir : aw := .ay [((.ofNat 1),(.bool true)),((.ofNat 2),(.bool true)),((.ofNat 3),(.bool true))]
noncomputable def L4 : aw := .jl 5
noncomputable def L5 : aw := .ay [((.ofNat 1),(.bytes [qL,.be 0 (.ofNat 0) 4 0 4,.lit [0,0,0,3,0,0,0,0,0,0,0,0,0,0,0,0,0,0],.rep 8 32])),((.ofNat 2),(.bytes [.rep 9 64])),((.ofNat 3),(.bytes [.rep 10 64]))]
noncomputable def L6 : aw := .inst 246 [(52,(.loc 1)),(53,qC),(23,(qI 64)),(49,(qV 5)),(54,(qI 3)),(55,(qV 6))]
noncomputable def L7 : aw := .ay [((.ofNat 1),(.bytes [qL,.be 0 (.ofNat 0) 4 0 4,.lit [0,0,0,3,0,0,0,0,0,0,0,0,0,0,0,0,0,0],.rep 7 32])),((.ofNat 2),(.bytes [.rep 8 64])),((.ofNat 3),(.bytes [.rep 9 64]))]
noncomputable def L8 : aw := .ay [((.ofNat 1),(.bytes [qL,.ef 9 0 4,.lit [0,0,0,2,0,0,0,0,0,0,0,0,0,0,0,0,0,0],.rep 6 32])),((.ofNat 2),(.bytes [.rep 7 64]))]
noncomputable def L9 : aw := .ay [((.ofNat 1),(.bytes [qL,.ef 10 0 4,.lit [0,0,0,3,0,0,0,0,0,0,0,0,0,0,0,0,0,0],.rep 7 32])),((.ofNat 2),(.bytes [.rep 8 64]))]
noncomputable def Ma : aw := .ay [((.ofNat 1),(.bytes [qL,.ef 10 0 4,.lit [0,0,0,3,0,0,0,0,0,0,0,0,0,0,0,0,0,0],.rep 7 32])),((.ofNat 3),(.bytes [.rep 8 64]))]
noncomputable def Mb : aw := .ay [((.ofNat 1),(.bytes [qL,.ef 10 0 4,.lit [0,0,0,3,0,0,0,0,0,0,0,0,0,0,0,0,0,0],.rep 2 32])),((.ofNat 2),(.bytes [.rep 7 64])),((.ofNat 3),(.bytes [.rep 8 64]))]
noncomputable def Mc : aw := .ay [((.ofNat 1),(.bytes [qL,.ef 11 0 4,.lit [0,0,0,3,0,0,0,0,0,0,0,0,0,0,0,0,0,0],.rep 7 32])),((.ofNat 2),(.bytes [.rep 8 64])),((.ofNat 3),(.bytes [.rep 9 64]))]
noncomputable def v0 : List VD := [.gi 1,.any,.int (.ofNat 0) (.ofNat 256),.lt 0]
noncomputable def v1 : List VD := [.gi 1,.any,.int (.ofNat 0) (.ofNat 256),.int (.ofNat 0) (.ofNat 256),.lt 0]
noncomputable def v2 : List VD := [.gi 1,.any,.int (.ofNat 0) (.ofNat 256),.int (.ofNat 0) (.ofNat 256),.int (.ofNat 0) (.ofNat 256),.lt 0]
noncomputable def v3 : List VD := [.gi 1,.any,.int (.ofNat 0) (.ofNat 256)]
noncomputable def v4 : List VD := [.gi 1,.any,.int (.ofNat 0) (.ofNat 256),.int (.ofNat 0) (.ofNat 256)]
noncomputable def v5 : List VD := [.gi 1,.any,.int (.ofNat 0) (.ofNat 256),.int (.ofNat 0) (.ofNat 256),.int (.ofNat 0) (.ofNat 256)]
noncomputable def v6 : List VD := [.gi 1,.any,.int (.ofNat 0) (.ofNat 256),.lt 0,.int (.ofNat 0) (.ofNat 4294967296),.int (.ofNat 0) (.ofNat 4294967296),.int (.ofNat 0) (.ofNat 256),.oct]
noncomputable def v7 : List VD := [.gi 1,.any,.int (.ofNat 0) (.ofNat 256),.int (.ofNat 0) (.ofNat 4294967296),.int (.ofNat 0) (.ofNat 4294967296),.int (.ofNat 0) (.ofNat 256),.oct]
noncomputable def v8 : List VD := [.gi 1,.any,.int (.ofNat 0) (.ofNat 256),.int (.ofNat 0) (.ofNat 256),.lt 0,.int (.ofNat 0) (.ofNat 4294967296),.int (.ofNat 0) (.ofNat 4294967296),.int (.ofNat 0) (.ofNat 256),.oct]
noncomputable def v9 : List VD := [.gi 1,.any,.int (.ofNat 0) (.ofNat 256),.int (.ofNat 0) (.ofNat 256),.int (.ofNat 0) (.ofNat 4294967296),.int (.ofNat 0) (.ofNat 4294967296),.int (.ofNat 0) (.ofNat 256),.oct]
noncomputable def v10 : List VD := [.gi 1,.any,.int (.ofNat 0) (.ofNat 256),.int (.ofNat 0) (.ofNat 256),.int (.ofNat 0) (.ofNat 256),.lt 0,.int (.ofNat 0) (.ofNat 4294967296),.int (.ofNat 0) (.ofNat 4294967296),.int (.ofNat 0) (.ofNat 256),.oct]
noncomputable def v11 : List VD := [.gi 1,.any,.int (.ofNat 0) (.ofNat 256),.int (.ofNat 0) (.ofNat 256),.int (.ofNat 0) (.ofNat 256),.int (.ofNat 0) (.ofNat 4294967296),.int (.ofNat 0) (.ofNat 4294967296),.int (.ofNat 0) (.ofNat 256),.oct]
noncomputable def N0 : List VD := [.gi 1,.any,.int (.ofNat 0) (.ofNat 256),.int (.ofNat 0) (.ofNat 256),.lt 0,.int (.ofNat 0) (.ofNat 4294967296),.int (.ofNat 0) (.ofNat 4294967296),.int (.ofNat 0) (.ofNat 256),.int (.ofNat 0) (.ofNat 256),.oct]
noncomputable def N6 : List VD := [.gi 1,.any,.int (.ofNat 0) (.ofNat 256),.int (.ofNat 0) (.ofNat 256),.int (.ofNat 0) (.ofNat 4294967296),.int (.ofNat 0) (.ofNat 4294967296),.int (.ofNat 0) (.ofNat 256),.int (.ofNat 0) (.ofNat 256),.oct]
noncomputable def N7 : List VD := [.gi 1,.any,.int (.ofNat 0) (.ofNat 256),.int (.ofNat 0) (.ofNat 256),.int (.ofNat 0) (.ofNat 256),.lt 0,.int (.ofNat 0) (.ofNat 4294967296),.int (.ofNat 0) (.ofNat 4294967296),.int (.ofNat 0) (.ofNat 256),.int (.ofNat 0) (.ofNat 256),.oct]
noncomputable def N8 : List VD := [.gi 1,.any,.int (.ofNat 0) (.ofNat 256),.int (.ofNat 0) (.ofNat 256),.int (.ofNat 0) (.ofNat 256),.int (.ofNat 0) (.ofNat 4294967296),.int (.ofNat 0) (.ofNat 4294967296),.int (.ofNat 0) (.ofNat 256),.int (.ofNat 0) (.ofNat 256),.oct]
noncomputable def N9 : List VD := [.gi 1,.any,.int (.ofNat 0) (.ofNat 256),.int (.ofNat 0) (.ofNat 4294967296),.int (.ofNat 0) (.ofNat 4294967296),.int (.ofNat 0) (.ofNat 256),.oct,.oct]
noncomputable def Oa : List VD := [.gi 1,.any,.int (.ofNat 0) (.ofNat 256),.int (.ofNat 0) (.ofNat 256),.int (.ofNat 0) (.ofNat 4294967296),.int (.ofNat 0) (.ofNat 4294967296),.int (.ofNat 0) (.ofNat 256),.oct,.oct]
noncomputable def Ob : List VD := [.gi 1,.any,.int (.ofNat 0) (.ofNat 256),.int (.ofNat 0) (.ofNat 256),.int (.ofNat 0) (.ofNat 256),.int (.ofNat 0) (.ofNat 4294967296),.int (.ofNat 0) (.ofNat 4294967296),.int (.ofNat 0) (.ofNat 256),.oct,.oct]
noncomputable def Oc : List VD := [.gi 1,.any,.int (.ofNat 0) (.ofNat 256),.int (.ofNat 0) (.ofNat 256),.int (.ofNat 0) (.ofNat 256),.lt 0,.int (.ofNat 0) (.ofNat 4294967296),.int (.ofNat 0) (.ofNat 4294967296),.int (.ofNat 0) (.ofNat 256),.int (.ofNat 0) (.ofNat 256),.int (.ofNat 0) (.ofNat 256),.oct]
noncomputable def v20 : List VD := [.gi 1,.any,.int (.ofNat 0) (.ofNat 256),.int (.ofNat 0) (.ofNat 256),.int (.ofNat 0) (.ofNat 256),.int (.ofNat 0) (.ofNat 4294967296),.int (.ofNat 0) (.ofNat 4294967296),.int (.ofNat 0) (.ofNat 256),.int (.ofNat 0) (.ofNat 256),.int (.ofNat 0) (.ofNat 256),.oct]
noncomputable def Od : List VD := [.gi 1,.any,.int (.ofNat 0) (.ofNat 256),.int (.ofNat 0) (.ofNat 256),.int (.ofNat 0) (.ofNat 4294967296),.int (.ofNat 0) (.ofNat 4294967296),.int (.ofNat 0) (.ofNat 256),.int (.ofNat 0) (.ofNat 256),.oct,.oct]
noncomputable def Oe : List VD := [.gi 1,.any,.int (.ofNat 0) (.ofNat 256),.int (.ofNat 0) (.ofNat 256),.int (.ofNat 0) (.ofNat 256),.int (.ofNat 0) (.ofNat 4294967296),.int (.ofNat 0) (.ofNat 4294967296),.int (.ofNat 0) (.ofNat 256),.int (.ofNat 0) (.ofNat 256),.oct,.oct]
noncomputable def Of : List VD := [.gi 1,.any,.int (.ofNat 0) (.ofNat 256),.int (.ofNat 0) (.ofNat 256),.int (.ofNat 0) (.ofNat 256),.int (.ofNat 0) (.ofNat 4294967296),.int (.ofNat 0) (.ofNat 4294967296),.int (.ofNat 0) (.ofNat 256),.int (.ofNat 0) (.ofNat 256),.int (.ofNat 0) (.ofNat 256),.oct,.oct]
noncomputable def Me : List (List aw) := [[.src],
[.inst 910 [(193,(qI 8)),(196,.none),(197,(.loc 5)),(163,(qV 1)),(198,.none),(199,(.loc 6)),(134,(.loc 7))]],
[.list [(.loc 8),(.loc 9)]],
[.list [(qV 2),(qV 3),(qV 4)],.list [(qV 2),(qV 3)],.list [(qV 2)]],
[.list [(.loc 10),(.loc 11)]],
[.aX [([100,98],(.loc 12)),([100,98,45,106,111,117,114,110,97,108],(.loc 13))],.aX [([100,98],(.loc 12))]],
[za],
[.inst 381 [(79,(.loc 14)),(80,(.loc 15)),(81,(.loc 16))],.inst 381 [(79,(.loc 13)),(80,(.loc 14)),(81,(.loc 15))]],
[.inst 769 [(52,(.loc 1)),(53,qA),(82,(qI 1)),(23,(qI 64)),(133,.none),(58,(.loc 12)),(134,(.loc 7)),(135,qB),(136,(.bool true)),(137,(.bool true)),(138,(qV 0)),(139,(.loc 17)),(140,(.loc 18)),(72,(.loc 19)),(142,(.loc 20)),(143,(.bool false)),(144,(qI 3)),(145,(qI 0))],.inst 769 [(52,(.loc 1)),(53,qA),(82,(qI 1)),(23,(qI 64)),(133,.none),(58,(.loc 12)),(134,(.loc 7)),(135,qB),(136,(.bool true)),(137,(.bool false)),(138,(qV 0)),(139,(.loc 17)),(140,(.loc 18)),(72,.none),(142,(.loc 19)),(143,(.bool false)),(144,.bb),(145,(qI 0))],.inst 769 [(52,(.loc 1)),(53,qA),(82,(qI 1)),(23,(qI 64)),(133,.none),(58,(.loc 12)),(134,(.loc 7)),(135,qB),(136,(.bool true)),(137,(.bool false)),(138,(qV 0)),(139,(.loc 16)),(140,(.loc 17)),(72,.none),(142,(.loc 18)),(143,(.bool false)),(144,.bb),(145,(qI 0))],.inst 769 [(52,(.loc 1)),(53,qA),(82,(qI 1)),(23,(qI 64)),(133,.none),(58,(.loc 12)),(134,(.loc 7)),(135,qB),(136,(.bool false)),(137,(.bool false)),(138,(qV 0)),(139,(.loc 17)),(140,(.loc 18)),(72,.none),(142,(.loc 19)),(143,(.bool false)),(144,.bb),(145,(qI 0))],.inst 769 [(52,(.loc 1)),(53,qA),(82,(qI 1)),(23,(qI 64)),(133,.none),(58,(.loc 12)),(134,(.loc 7)),(135,qB),(136,(.bool false)),(137,(.bool false)),(138,(qV 0)),(139,(.loc 16)),(140,(.loc 17)),(72,.none),(142,(.loc 18)),(143,(.bool false)),(144,.bb),(145,(qI 0))],.inst 769 [(52,(.loc 1)),(53,qA),(82,(qI 1)),(23,(qI 64)),(133,.none),(58,(.loc 12)),(134,(.loc 7)),(135,qB),(136,(.bool true)),(137,(.bool true)),(138,(qV 0)),(139,(.loc 17)),(140,(.loc 18)),(72,(.loc 19)),(142,(.loc 20)),(143,(.bool false)),(144,(qI 2)),(145,(qI 0))],.inst 769 [(52,(.loc 1)),(53,qA),(82,(qI 1)),(23,(qI 64)),(133,.none),(58,(.loc 12)),(134,(.loc 7)),(135,qB),(136,(.bool true)),(137,(.bool true)),(138,(qV 0)),(139,(.loc 17)),(140,(.loc 18)),(72,(.loc 19)),(142,(.loc 20)),(143,(.bool false)),(144,(qI 1)),(145,(qI 0))],.inst 769 [(52,(.loc 1)),(53,qA),(82,(qI 1)),(23,(qI 64)),(133,.none),(58,(.loc 12)),(134,(.loc 7)),(135,qB),(136,(.bool false)),(137,(.bool false)),(138,(qV 5)),(139,.bb),(140,(.loc 17)),(72,.none),(142,(.loc 18)),(143,(.bool false)),(144,.bb),(145,(qI 0))],.inst 769 [(52,(.loc 1)),(53,qA),(82,(qI 1)),(23,(qI 64)),(133,.none),(58,(.loc 12)),(134,(.loc 7)),(135,qB),(136,(.bool true)),(137,(.bool true)),(138,(qV 0)),(139,(.loc 16)),(140,(.loc 17)),(72,.none),(142,(.loc 18)),(143,(.bool false)),(144,(qI 1)),(145,(qI 0))],.inst 769 [(52,(.loc 1)),(53,qA),(82,(qI 1)),(23,(qI 64)),(133,.none),(58,(.loc 12)),(134,(.loc 7)),(135,qB),(136,(.bool true)),(137,(.bool true)),(138,(qV 0)),(139,(.loc 16)),(140,(.loc 17)),(72,.none),(142,(.loc 18)),(143,(.bool false)),(144,(qI 2)),(145,(qI 0))],.inst 769 [(52,(.loc 1)),(53,qA),(82,(qI 1)),(23,(qI 64)),(133,.none),(58,(.loc 12)),(134,(.loc 7)),(135,qB),(136,(.bool true)),(137,(.bool true)),(138,(qV 0)),(139,(.loc 16)),(140,(.loc 17)),(72,.none),(142,(.loc 18)),(143,(.bool false)),(144,(qI 3)),(145,(qI 0))],.inst 769 [(52,(.loc 1)),(53,qA),(82,(qI 1)),(23,(qI 64)),(133,.none),(58,(.loc 12)),(134,(.loc 7)),(135,qB),(136,(.bool false)),(137,(.bool false)),(138,(qV 3)),(139,.bb),(140,(.loc 16)),(72,.none),(142,(.loc 17)),(143,(.bool false)),(144,.bb),(145,(qI 0))],.inst 769 [(52,(.loc 1)),(53,qA),(82,(qI 1)),(23,(qI 64)),(133,.none),(58,(.loc 12)),(134,(.loc 7)),(135,qB),(136,(.bool false)),(137,(.bool false)),(138,(qV 4)),(139,.bb),(140,(.loc 16)),(72,.none),(142,(.loc 17)),(143,(.bool false)),(144,.bb),(145,(qI 0))],.inst 769 [(52,(.loc 1)),(53,qA),(82,(qI 1)),(23,(qI 64)),(133,.none),(58,(.loc 12)),(134,(.loc 7)),(135,qB),(136,(.bool false)),(137,(.bool false)),(138,(qV 5)),(139,.bb),(140,(.loc 16)),(72,.none),(142,(.loc 17)),(143,(.bool false)),(144,.bb),(145,(qI 0))],.inst 769 [(52,(.loc 1)),(53,qA),(82,(qI 1)),(23,(qI 64)),(133,.none),(58,(.loc 12)),(134,(.loc 7)),(135,qB),(136,(.bool false)),(137,(.bool false)),(138,(qV 4)),(139,.bb),(140,(.loc 17)),(72,.none),(142,(.loc 18)),(143,(.bool false)),(144,.bb),(145,(qI 0))],.inst 769 [(52,(.loc 1)),(53,qA),(82,(qI 1)),(23,(qI 64)),(133,.none),(58,(.loc 12)),(134,(.loc 7)),(135,qB),(136,(.bool false)),(137,(.bool false)),(138,(qV 3)),(139,.bb),(140,(.loc 17)),(72,.none),(142,(.loc 18)),(143,(.bool false)),(144,.bb),(145,(qI 0))]],
[.inst 769 [(52,(.loc 1)),(53,qA),(82,(qI 2)),(23,(qI 64)),(133,.none),(58,(.loc 12)),(134,(.loc 7)),(135,qB),(136,(.bool true)),(137,(.bool true)),(138,(qV 0)),(139,(.loc 20)),(140,(.loc 21)),(72,(.loc 22)),(142,(.loc 23)),(143,(.bool false)),(144,(qI 3)),(145,(qI 0))],.inst 769 [(52,(.loc 1)),(53,qA),(82,(qI 2)),(23,(qI 64)),(133,.none),(58,(.loc 12)),(134,(.loc 7)),(135,qB),(136,(.bool true)),(137,(.bool false)),(138,(qV 0)),(139,(.loc 21)),(140,(.loc 22)),(72,.none),(142,(.loc 23)),(143,(.bool false)),(144,.bb),(145,(qI 0))],.inst 769 [(52,(.loc 1)),(53,qA),(82,(qI 2)),(23,(qI 64)),(133,.none),(58,(.loc 12)),(134,(.loc 7)),(135,qB),(136,(.bool false)),(137,(.bool false)),(138,(qV 0)),(139,(.loc 21)),(140,(.loc 22)),(72,.none),(142,(.loc 23)),(143,(.bool false)),(144,.bb),(145,(qI 0))],.inst 769 [(52,(.loc 1)),(53,qA),(82,(qI 2)),(23,(qI 64)),(133,.none),(58,(.loc 12)),(134,(.loc 7)),(135,qB),(136,(.bool true)),(137,(.bool false)),(138,(qV 0)),(139,(.loc 19)),(140,(.loc 20)),(72,.none),(142,(.loc 21)),(143,(.bool false)),(144,.bb),(145,(qI 0))],.inst 769 [(52,(.loc 1)),(53,qA),(82,(qI 2)),(23,(qI 64)),(133,.none),(58,(.loc 12)),(134,(.loc 7)),(135,qB),(136,(.bool false)),(137,(.bool false)),(138,(qV 0)),(139,(.loc 19)),(140,(.loc 20)),(72,.none),(142,(.loc 21)),(143,(.bool false)),(144,.bb),(145,(qI 0))],.inst 769 [(52,(.loc 1)),(53,qA),(82,(qI 2)),(23,(qI 64)),(133,.none),(58,(.loc 12)),(134,(.loc 7)),(135,qB),(136,(.bool true)),(137,(.bool true)),(138,(qV 0)),(139,(.loc 20)),(140,(.loc 21)),(72,(.loc 22)),(142,(.loc 23)),(143,(.bool false)),(144,(qI 2)),(145,(qI 0))],.inst 769 [(52,(.loc 1)),(53,qA),(82,(qI 2)),(23,(qI 64)),(133,.none),(58,(.loc 12)),(134,(.loc 7)),(135,qB),(136,(.bool true)),(137,(.bool true)),(138,(qV 0)),(139,(.loc 20)),(140,(.loc 21)),(72,(.loc 22)),(142,(.loc 23)),(143,(.bool false)),(144,(qI 1)),(145,(qI 0))],.inst 769 [(52,(.loc 1)),(53,qA),(82,(qI 2)),(23,(qI 64)),(133,.none),(58,(.loc 12)),(134,(.loc 7)),(135,qB),(136,(.bool false)),(137,(.bool false)),(138,(qV 5)),(139,.bb),(140,(.loc 21)),(72,.none),(142,(.loc 22)),(143,(.bool false)),(144,.bb),(145,(qI 0))],.inst 769 [(52,(.loc 1)),(53,qA),(82,(qI 2)),(23,(qI 64)),(133,.none),(58,(.loc 12)),(134,(.loc 7)),(135,qB),(136,(.bool true)),(137,(.bool true)),(138,(qV 0)),(139,(.loc 19)),(140,(.loc 20)),(72,(.loc 21)),(142,(.loc 22)),(143,(.bool false)),(144,(qI 3)),(145,(qI 0))],.inst 769 [(52,(.loc 1)),(53,qA),(82,(qI 2)),(23,(qI 64)),(133,.none),(58,(.loc 12)),(134,(.loc 7)),(135,qB),(136,(.bool true)),(137,(.bool true)),(138,(qV 0)),(139,(.loc 19)),(140,(.loc 20)),(72,.none),(142,(.loc 21)),(143,(.bool false)),(144,(qI 1)),(145,(qI 0))],.inst 769 [(52,(.loc 1)),(53,qA),(82,(qI 2)),(23,(qI 64)),(133,.none),(58,(.loc 12)),(134,(.loc 7)),(135,qB),(136,(.bool true)),(137,(.bool true)),(138,(qV 0)),(139,(.loc 19)),(140,(.loc 20)),(72,.none),(142,(.loc 21)),(143,(.bool false)),(144,(qI 2)),(145,(qI 0))],.inst 769 [(52,(.loc 1)),(53,qA),(82,(qI 2)),(23,(qI 64)),(133,.none),(58,(.loc 12)),(134,(.loc 7)),(135,qB),(136,(.bool true)),(137,(.bool true)),(138,(qV 0)),(139,(.loc 19)),(140,(.loc 20)),(72,.none),(142,(.loc 21)),(143,(.bool false)),(144,(qI 3)),(145,(qI 0))],.inst 769 [(52,(.loc 1)),(53,qA),(82,(qI 2)),(23,(qI 64)),(133,.none),(58,(.loc 12)),(134,(.loc 7)),(135,qB),(136,(.bool true)),(137,(.bool false)),(138,(qV 0)),(139,(.loc 18)),(140,(.loc 19)),(72,.none),(142,(.loc 20)),(143,(.bool false)),(144,.bb),(145,(qI 0))],.inst 769 [(52,(.loc 1)),(53,qA),(82,(qI 2)),(23,(qI 64)),(133,.none),(58,(.loc 12)),(134,(.loc 7)),(135,qB),(136,(.bool false)),(137,(.bool false)),(138,(qV 3)),(139,.bb),(140,(.loc 19)),(72,.none),(142,(.loc 20)),(143,(.bool false)),(144,.bb),(145,(qI 0))],.inst 769 [(52,(.loc 1)),(53,qA),(82,(qI 2)),(23,(qI 64)),(133,.none),(58,(.loc 12)),(134,(.loc 7)),(135,qB),(136,(.bool false)),(137,(.bool false)),(138,(qV 4)),(139,.bb),(140,(.loc 19)),(72,.none),(142,(.loc 20)),(143,(.bool false)),(144,.bb),(145,(qI 0))],.inst 769 [(52,(.loc 1)),(53,qA),(82,(qI 2)),(23,(qI 64)),(133,.none),(58,(.loc 12)),(134,(.loc 7)),(135,qB),(136,(.bool false)),(137,(.bool false)),(138,(qV 5)),(139,.bb),(140,(.loc 19)),(72,.none),(142,(.loc 20)),(143,(.bool false)),(144,.bb),(145,(qI 0))],.inst 769 [(52,(.loc 1)),(53,qA),(82,(qI 2)),(23,(qI 64)),(133,.none),(58,(.loc 12)),(134,(.loc 7)),(135,qB),(136,(.bool false)),(137,(.bool false)),(138,(qV 4)),(139,.bb),(140,(.loc 21)),(72,.none),(142,(.loc 22)),(143,(.bool false)),(144,.bb),(145,(qI 0))],.inst 769 [(52,(.loc 1)),(53,qA),(82,(qI 2)),(23,(qI 64)),(133,.none),(58,(.loc 12)),(134,(.loc 7)),(135,qB),(136,(.bool false)),(137,(.bool false)),(138,(qV 0)),(139,(.loc 18)),(140,(.loc 19)),(72,.none),(142,(.loc 20)),(143,(.bool false)),(144,.bb),(145,(qI 0))],.inst 769 [(52,(.loc 1)),(53,qA),(82,(qI 2)),(23,(qI 64)),(133,.none),(58,(.loc 12)),(134,(.loc 7)),(135,qB),(136,(.bool true)),(137,(.bool true)),(138,(qV 0)),(139,(.loc 19)),(140,(.loc 20)),(72,(.loc 21)),(142,(.loc 22)),(143,(.bool false)),(144,(qI 2)),(145,(qI 0))],.inst 769 [(52,(.loc 1)),(53,qA),(82,(qI 2)),(23,(qI 64)),(133,.none),(58,(.loc 12)),(134,(.loc 7)),(135,qB),(136,(.bool false)),(137,(.bool false)),(138,(qV 3)),(139,.bb),(140,(.loc 21)),(72,.none),(142,(.loc 22)),(143,(.bool false)),(144,.bb),(145,(qI 0))],.inst 769 [(52,(.loc 1)),(53,qA),(82,(qI 2)),(23,(qI 64)),(133,.none),(58,(.loc 12)),(134,(.loc 7)),(135,qB),(136,(.bool true)),(137,(.bool true)),(138,(qV 0)),(139,(.loc 18)),(140,(.loc 19)),(72,.none),(142,(.loc 20)),(143,(.bool false)),(144,(qI 1)),(145,(qI 0))],.inst 769 [(52,(.loc 1)),(53,qA),(82,(qI 2)),(23,(qI 64)),(133,.none),(58,(.loc 12)),(134,(.loc 7)),(135,qB),(136,(.bool true)),(137,(.bool true)),(138,(qV 0)),(139,(.loc 18)),(140,(.loc 19)),(72,.none),(142,(.loc 20)),(143,(.bool false)),(144,(qI 2)),(145,(qI 0))],.inst 769 [(52,(.loc 1)),(53,qA),(82,(qI 2)),(23,(qI 64)),(133,.none),(58,(.loc 12)),(134,(.loc 7)),(135,qB),(136,(.bool true)),(137,(.bool true)),(138,(qV 0)),(139,(.loc 18)),(140,(.loc 19)),(72,.none),(142,(.loc 20)),(143,(.bool false)),(144,(qI 3)),(145,(qI 0))],.inst 769 [(52,(.loc 1)),(53,qA),(82,(qI 2)),(23,(qI 64)),(133,.none),(58,(.loc 12)),(134,(.loc 7)),(135,qB),(136,(.bool true)),(137,(.bool true)),(138,(qV 0)),(139,(.loc 19)),(140,(.loc 20)),(72,(.loc 21)),(142,(.loc 22)),(143,(.bool false)),(144,(qI 1)),(145,(qI 0))]],
[zk,zl,zm,zQ,Lu],
[zk,zl,zm,zQ,Lu],
[.inst 839 [(52,(.loc 1)),(53,qA),(185,.bb),(186,(.loc 25)),(187,(.loc 26))],.inst 839 [(52,(.loc 1)),(53,qA),(185,.bb),(186,(.loc 22)),(187,(.loc 23))],.inst 839 [(52,(.loc 1)),(53,qA),(185,.bb),(186,(.loc 24)),(187,(.loc 25))],.inst 839 [(52,(.loc 1)),(53,qA),(185,.bb),(186,(.loc 21)),(187,(.loc 22))]],
[.inst 839 [(52,(.loc 1)),(53,qC),(185,.bb),(186,(.loc 27)),(187,(.loc 28))],.aX [([100,98],(.loc 24))],.inst 839 [(52,(.loc 1)),(53,qC),(185,.bb),(186,(.loc 26)),(187,(.loc 27))],.aX [([100,98],(.loc 23))]],
[.aX [([100,98],(.loc 29))],za,.aX [([100,98],(.loc 28))]],
[za],
[za,zc,zD,zs,zh,Lp],
[zh,zs,zc,.inst 481 [(116,(.loc 8)),(54,.bb),(117,(.loc 25)),(118,(.loc 26))],.inst 481 [(116,(.loc 8)),(54,(qI 1)),(117,(.loc 25)),(118,(.loc 26))],.inst 481 [(116,(.loc 8)),(54,(qI 2)),(117,(.loc 25)),(118,(.loc 26))],.inst 481 [(116,(.loc 8)),(54,(qI 3)),(117,(.loc 25)),(118,(.loc 26))],zD,.inst 481 [(116,(.loc 8)),(54,.bb),(117,(.loc 29)),(118,(.loc 30))],Lp,.inst 481 [(116,(.loc 8)),(54,(qI 1)),(117,(.loc 24)),(118,(.loc 25))],.inst 481 [(116,(.loc 8)),(54,(qI 2)),(117,(.loc 24)),(118,(.loc 25))],.inst 481 [(116,(.loc 8)),(54,(qI 3)),(117,(.loc 24)),(118,(.loc 25))]],
[zc,.inst 481 [(116,(.loc 8)),(54,(qI 3)),(117,(.loc 30)),(118,(.loc 31))],.inst 481 [(116,(.loc 8)),(54,(qI 2)),(117,(.loc 30)),(118,(.loc 31))],.inst 481 [(116,(.loc 8)),(54,.bb),(117,(.loc 30)),(118,(.loc 31))],.inst 481 [(116,(.loc 8)),(54,(qI 1)),(117,(.loc 30)),(118,(.loc 31))],.inst 481 [(116,(.loc 8)),(54,(qI 3)),(117,(.loc 29)),(118,(.loc 30))],.inst 481 [(116,(.loc 8)),(54,(qI 2)),(117,(.loc 29)),(118,(.loc 30))],zD,zs,zh,.inst 481 [(116,(.loc 8)),(54,(qI 1)),(117,(.loc 29)),(118,(.loc 30))]],
[zc,zH,zh,zs,zR,zD,.inst 481 [(116,(.loc 9)),(54,.bb),(117,(.loc 26)),(118,(.loc 27))],z7,LK,L6,Lx,LC,LM,.inst 481 [(116,(.loc 9)),(54,(qI 1)),(117,(.loc 26)),(118,(.loc 27))],.inst 481 [(116,(.loc 9)),(54,(qI 2)),(117,(.loc 26)),(118,(.loc 27))],.inst 481 [(116,(.loc 9)),(54,(qI 3)),(117,(.loc 26)),(118,(.loc 27))],L3],
[zh,zJ,.inst 481 [(116,(.loc 9)),(54,.bb),(117,(.loc 27)),(118,(.loc 28))],zO,zs,zc,.inst 481 [(116,(.loc 9)),(54,(qI 1)),(117,(.loc 27)),(118,(.loc 28))],.inst 481 [(116,(.loc 9)),(54,(qI 2)),(117,(.loc 27)),(118,(.loc 28))],.inst 481 [(116,(.loc 9)),(54,(qI 3)),(117,(.loc 27)),(118,(.loc 28))],Ip,Ir,Im,zD,.inst 481 [(116,(.loc 9)),(54,(qI 3)),(117,(.loc 31)),(118,(.loc 32))],Io,Iq,.inst 481 [(116,(.loc 9)),(54,(qI 2)),(117,(.loc 31)),(118,(.loc 32))],.inst 481 [(116,(.loc 9)),(54,(qI 1)),(117,(.loc 31)),(118,(.loc 32))]],
[zc,zw,zh,zT,zb,zs,.inst 481 [(116,(.loc 9)),(54,.bb),(117,(.loc 31)),(118,(.loc 32))],Lw,zD,LC,LM,zR,z7,zH,L3],
[zb,.inst 481 [(116,(.loc 9)),(54,.bb),(117,(.loc 32)),(118,(.loc 33))],zw,zH,zR,zT,z7,zc,LK,L6,Lx,zN,zz,zr,Lw,zJ,Im,zO,Io,Ip,Iq,Ir],
[zc,zN,zz,zr,zJ,zO,Ip,Ir,Im,Lq,Lr,Io,Ls,Iq,zF,zG,.list [(qV 6)],.list [(qV 7),(qV 3)],.list [(qV 2),(qV 7)],.list [(qV 8),(qV 3),(qV 4)],.list [(qV 2),(qV 8),(qV 4)],.list [(qV 2),(qV 3),(qV 8)],.list [(qV 7),(qV 8)],.list [(qV 8),(qV 9),(qV 4)],.list [(qV 8),(qV 3),(qV 9)],.list [(qV 2),(qV 8),(qV 9)],.list [(qV 8),(qV 9),(qV 10)]],
[zb,zc,.list [(qV 5)],.list [(qV 6),(qV 3)],.list [(qV 2),(qV 6)],.list [(qV 7),(qV 3),(qV 4)],.list [(qV 2),(qV 7),(qV 4)],.list [(qV 2),(qV 3),(qV 7)],.list [(qV 6),(qV 7)],.list [(qV 7),(qV 8),(qV 4)],.list [(qV 7),(qV 3),(qV 8)],.list [(qV 2),(qV 7),(qV 8)],.list [(qV 7),(qV 8),(qV 9)],Ls,Lq,Lr,zG,zF,.aB [((.ofNat 1),(qI 1)),((.ofNat 2),(qI 1))],.aB [((.ofNat 2),(qI 1)),((.ofNat 1),(qI 1))],z5,z0,z6,z1],
[zb,zc,zr,zz,zN],
[zr,zb,zz,zc,zN,zv,zA,L4],
[zc,zv,zA,zb,L4,.bW [.ef 9 0 96],.bW [.ef 10 0 168],zS,z8,zP,.bW [.ef 11 0 240]],
[zb,zP,zS,.bW [.ef 8 0 168],z8,.bW [.ef 6 0 96],.bW [.ef 10 0 240],zF,zG,.bW [.ef 7 0 168],.bW [.ef 9 0 240]],
[zG,zF,z0,z1,z5,z6,zc,Lv,Lz,F4,LD,LF,LG,LJ,LN,LO,LP,L5],
[zc,zb,Ly,LA,LB,LH,F4,LI,LL,LQ,LR,LU,L7,LV,LW,LX,LY,L1,L2,L8,L9,Ma,Mb,Mc],
[zb,zc,Lv,Lz,F4,LD,LF,LG,LJ,LN,LO,LP,L5],
[zc,zb,Ly,LA,LB,LH,F4,LI,LL,LQ,LR,LU,L7,LV,LW,LX,LY,L1,L2,L8,L9,Ma,Mb,Mc],
[zb]]
noncomputable def Og : List (Nat × V) := [(211,(.loc 0)),(52,(.loc 1)),(229,(.loc 2)),(221,(.loc 3)),(232,(.loc 4))]
noncomputable def mS (n : Nat) : LS × List Nat := (⟨Fp (F3 0 [nat_lit 28,nat_lit 29,nat_lit 33,nat_lit 34] (Nat.mod n (nat_lit 4))) Me (Nat.div n (nat_lit 96)), Og, [], F3 [] [v0,v1,v2,v3,v4,v5,v6,v7,v8,v9,v10,v11,N0,N6,N7,N8,N9,Oa,Ob,Oc,v20,Od,Oe,Of] (Nat.mod (Nat.div n (nat_lit 4)) (nat_lit 24))⟩, Fo (nat_lit 512) (nat_lit 40) (Fq (F3 0 [nat_lit 28,nat_lit 29,nat_lit 33,nat_lit 34] (Nat.mod n (nat_lit 4))) Me (Nat.div n (nat_lit 96))))
noncomputable def P0 : List (List Nat) := [[0xb26aa88102ab009b9b42653828037e20,0xb427d3b24eb44838788601df5dd7c5c4,0xb5e4fee39abd8fd555c99e8693ac0d68,0x163760cec1431aca570f9fc0b36bdf4b520,0x2c8525298f6a34e40e4489d63693356891020,0x1005164483f740745a02751ba4367fe76e2d,0x1ffa4df58e6cc38a8769a66fcf1946ea6e5e2d,0x166f32b9315dfd0a7a9d73fa7deb1a0fcc4,0x59e9a83f02a5cd5d8b28831b736195b4a355c44,0x107034a92d7648e4914846fcc0eed6836dd1,0x41a08c09468158da274381ec41b035ff410aa5d1,0x16a70fc4b31f4d9d889b4834486a54d4468,0xb592655e5a2cf003e9a86565e6c76de633de1a868,0x10eaa089ef2c0964d0737fe6ae2408c76d75,0x871327184c97ce1b7361dfc1177a9a2334734eed75,0x224fa551b353bd760bdbb803e706830e98a52d],
[0x447e0fa2fb33913b73d5299e597ce75175bf952d,0x81d8906703d12f04a8fdd6517125f13fd67db779b3da,0x45569fe1d7305991e68044b3908d51edd8cd002d,0x1fbdb862683b393620180fbeca5397b087082d,0x224e7af63400d048d4909cb2b6eeda01f8a52d,0x45544b13ef802d878a7fa29734e8f604cc2d002d,0x8028d0a0948ec553d6903996c42c9762d,0x4035fed5f482f826d1bb915de3918b5037df952d,0x84450ca8a909e80709c9a275c2c26d78cc62e7cbfe5f,0x2353ca8f4ef3196e9336d88e955b585b0ca4d1,0x8d0c3a0dc1c987cfbd981e84bee42b3c26c233dcd1,0x10a1727194b690cc633ea247ebb1ea5dbd63d1a18b0d702,0x10a954979d2467ffa28a35d0c4fadb74efe37211660d702,0x8fef4965283ddf0195cebfbcb6c068f20325410451,0x4127ea577681e1a8c8eca7c8a970882a16230c51,0x2352893f957eb74544c7e284980b93166ca4d1],
[0x8fea43f8704c463f6a3ea32a60e8ef293de0a10451,0x8381c3c5e0a59a2d1805545460b3d75d1,0x83c622462d4059c01ae2325da3b572a8094c53dcd1,0x10f6a55578688a3648d5f6feba221e494a56133f8dbb607,0x10fe7f9d4ac84a3e8e38d3a8848ca894c73aeaea4bbb607,0x24d25badac427bb758e193f1e6f0e2f328a475,0x1260a9a252789b3df76dc18e42f7a477cd1b15a502475,0x222f4dbd8778e06af655c1ce3929f87fd956c6e4027b6382a,0x223f19e7cd4af438621ae8f673448b1d3a7cd00472566382a,0x224ede33de26a29edefb2c31f99c682c6aa3c2902b7fe382a,0x12eb033be23390332348360e44577c74ae59dbd5d0875,0x862333b4faeb29e3f8dab735a281b0ddaf4bbf1075,0x24d0d5814469ba99c5070dbd81f8c90688a475,0x12ea401ff3fee45fa3b347afc855d144a30a3d0bd0875,0x875522cbee8cf52e6db92e4a51f597575,0x10f37112625f620749fd1b2c56cceee5c953f3c702475],
[0x22e8bb6e691885125bdda891b3bc118a3890ecc0fc5224daf,0x22f86ffe0e12a88bdf5c19897728cab8840dd198a71024daf,0x2308248db2bf8b850b84e55a5810be9acf808010744c24daf,0x1127da47d18bf43a37cdaad51b32cbfaad2d,0x11ab5d8c2cbbebb6794dfd1316cae542b15656a2bbd355f,0x13f91c3871df1f6d52e265c185597744b53dc6f736de3df,0x8ddece62d3878860f2c0c3d6967b9a33ab09ac9febdf,0x22ab8d08509213134c25ff39e202f6d2cf082d,0x115c9eb9fd81a9da2f7b386ad3e269b2ad2d,0x13f92fe3fb31ff432b84df8eb95787cf9b5960fab6de3df,0x11facffa9d946d2cc8bb69f703900af600a8418c3bd355f,0x1c8e60a9e9ff8720d755aa70763a3a595a0,0x11a9ece69c7ff9f3079940d7a70d5246acd1,0x24621ee33a1a5da14dd198dcae5f52f5576acefcff4dced07,0x2471d376cded7d553349ff8d247de6d7a2e7b3d4aa0bced07,0x1242a6f53034325f2575011bb2be7ce64225ee667a8d712],
[0x28de72160fcff9c66bb47e7da72cc0de4d854be1e12b5df07,0x125157e0037df3e5fefe48e3b15be6d20ba307b0807e707,0x28fde31390ae8fb39b6332489b73f16fe314754bceba5df07,0x1261144ddf633ce59992e60bf1f5afef3a4e77de0f7e707,0x47f86b3e9becd70ff25b13fd3c6c9540611b0c51,0x1204d0a0b47ad8a5190fe8db94300f4eacd1,0x28dea14b5963ac94fe1af042909470e9c19cdd0224ab5df07,0x28fe1248da424281eed7ecada44747f9a9e512ec123a5df07,0x255f95a2779be05282a9b80329e3c2bd4cb6e20d68cdced07,0x256f4a360b6ffad1bdf47c0b54718e9f9833c6e5138bced07,0x12c5f3e2fb060120df9caf5e0d4dc7b048cbba1b63bb617,0x1d782d8e0c111a875a221f0f9dc597599c4,0x12693575c294b0273e551827e66d243aac75,0x4bd66e163017eccc1aa4dc7611d0ed3bc0c865f6fe61d2b84af,0x4bf5d74536762e410e202a8ce438c8afa313e2dbd60c90b84af,0x4c15406c5e2058d6305a6d4ca1e3247b855f558a4dd9ccb84af],
[0x261e693480cb20529e1ebc6042906b8d890bafd0ebd2e383a,0x262e2d8091a6ceb91b3db2713d7f9e89d500a3aeaa23e383a,0x552e3bad15b6cc7bdf2bba4356a618314a54c64ec55e3adc82f,0x264b8f5638490b0d78f90e8b73b22eafe068c19e39fffd02f,0x265d7a64c439d9ecaa77f4c8debe699cfa817d18e874e383a,0x55cb5905f545e2304e3b605ef3bc305660f22a52af4bc9dc82f,0x267ac49fcbf8e60c5530f980f2c304100252bd14a78efd02f,0x560a3b00f7030e0aad98894206d9a2afa316a1658482a75c82f,0x269a3d7b83c3780b89fc27914ca9455415fb45701e6c7d02f,0x975a5e3d4f62505c513e33b2512d993b88a30f1075,0x12f1c46e4ca055ec715e1b0ad9225ceaac75,0x552ea9d416ba18603fe60657c10c5357ae345a556be1badc82f,0x55cbc72cf6492e13354b5fa6f0b934a6bf5814a455cf49dc82f,0x560aa927f80659ed16c4db176d395ca6b9d2d6b72b06275c82f,0x4eae5697cf80cf253bbc498db509aa9d460aae40ba8b52b84af,0x4ecdbfc6d5df09be9fded71721827b8928562b25923610b84af],
[0x4eed28edfd7b7d351097ff0b0117c7550aa19dd40a034cb84af,0x27925613631577d0e95e82e0f75dd1737726e0ad73c924dbf,0x27a20aa307c936596e47dc17c7504d55c2852265860124dbf,0x1f35376cc41420ae5262113a9d407459de8,0x27c173c251bbaee5116464c5d6c5ae2b4b201fe3094524dbf,0x13e89c0732477583e7cc7d2aa4341c5153346c6abbd3583,0x161fe32c9dd16eac7721ef953ea1972f1774a91e36de403,0x9fd1b7569246f5c119902d59f46115afd59d231febdf,0x9bd4ff3cac206418aa25e721be081762d,0x161ff2e90bad55300fdcc1958ce14253171abce1b6de403,0x1418a556592d5c24c7619e9d8bdcd5d8a4b03e543bd3583,0x390c7a87e50e5380740f95a7fee78246d15a0,0xe47ef8ffb9bd4504649c0b8171d0bda0,0x286eacf3560dc8a958b3a500e27ab0e496eb052a1b23ced17,0x287e607b675a9be8e935b7294b013dd8f80febed474dced27,0x288e150efb2cc0d178dbc0820cb09a9d73be5f5e454bced27],
[0x2cdd421cae595da0b3e00c4b916f2499faad92b5ea38ddf17,0x1458a2095c0c5cd96d776354798db49b00d4e8398dfe717,0x2cecfe8a8a3fa1d95157c43fe0b8cfaa1cf2c19e882b5df27,0x14703c2e8af4971691fe6163cbbaeb24cd77d38b217e707,0x2cfcc2d69d13d8c6e7d5b7f014c4f78349b7a11d3f60ddf27,0x147ff89a7047eb77226e2821697a89bd4316c3b8b07e707,0x9fe424efd429a4c5f23531268c84575d1,0x2cdd79302edb03130940c6dc38f630063fab995c6db8ddf17,0x2ced359e0ac1474c638d46cc5af68d260ba5c8450bab5df27,0x2cfcf20be6a78b953b4a723d8ec0d6989612193d82e0ddf27,0x295c6f0764dd9ad5a915b2bea1bdd9918137a2b444a3ced17,0x296c22aaffdced794991bc851f546685e25c897770cdced27,0x297bd73e93b5edf131f85343d00e4b4a5e0afce86ecbced27,0x75bf4aa63baac27aa981c1f820200b1e23d61c4,0xebccaec13b7b9e6a484784d0cbf8c1c4,0x5371e58a0b75ef57828addc46bbcd473901f925cbf1949b84bf],
[0x53914eb133240519fc0e95e2fb24103f726af09e772b81b84bf,0x53b0b5e8acbcaaba3c4b66ee06baebf49b7a0cb35be9d2b84cb,0x53d020ff8372ebcd3618f793af1afc0db7f38b9bf4aec5b84bf,0x53ef8836fd0b916d7655c89ebab1d7c3117a7af0106a27b84cb,0x540ef15e24b9a72fefd980bd4a19138ef3c5d931c87c5fb84cb,0x2a1d297eb71f79052930940346e60dd22d4ed3eae0c46384e,0x5c6f35c94d9210a1515ab395d6b4fe716f801c98ef32a85c83f,0x2a3aaacd319b4af5204464a05556964172726c5ace6d7d03f,0x5cae17c44f4f3c7bb0b898916a3036cc78f7fdad166ead5c83f,0x2a5a23a8e965dcf455eb049bc74e8443676bf6084a727d03f,0x5ccd90a0071bc4eee334c86ee557b9052f3de9d975853adc84b,0x2a991468fd65637c5a8b96dc1c4a10795fc5f42bf7d9fd02f,0x5d0ca1d0526ca0c2be7b9f2992a282fd5e14a53a56aab25c83f,0x2ab88e3c10c592f20da28dab368a45aa1cf9f8cec6777d03f,0x5d2c1aac0a392936ecbe2f017c12f2a07c6ea2612b2b865c84b,0x2ae7c27e94502b8221c110c2af7ef1a2186d832ee568fd02f],
[0x5d4ba3442fe1971219bad27a64909c402a0d50ead8a78b5c84b,0x2b073b565ef6d443435cb6be5059e087b71c0b8a5c467d02f,0xa7c4bffa0110715dcc44d975a58097575,0x5c70025ae1bcbc3a3621b19ca1e76f6b2f331760bb36285c83f,0x5caee455e379e814179ca53e1f23236eb854ad74e2722d5c83f,0x5cce5d319b46708941a5951076dc807bddd299a14188badc84b,0x5d0d3f2c9d039c7f2abd2f9ddbe03021cca6a1a18fee325c83f,0x5d2cb80854d024f4d2a94f6d6abe03e43e6a9ec8646f065c84b,0x5d4c30e40c9cad868224626852b40392be1a1bdc8bab0b5c84b,0x5725adaf9cf2cde9f232f8fb3d1b5ac6d2aed6dd2702c9b84bf,0x574516d6c4ae9acb1d37cbe5aa97a692b4fa351edf1501b84bf,0x57647e4551ac3f337d688c2ce04e8247de095133c3d352b84cb,0x5783e91d36c891f47fb4789d847d9ce8fa82d01c5c9845b84bf,0x57a35093a1f93630522ca4367714789e5409bf707853a7b84cb,0x57c2b9bac9b6f8a828d631d04d6f346a36551db23065dfb84cb,0x2bed69ea23f43f3dec1e69c950e139c8e61f8e26a2c124dd3],
[0xf966e3bced3f9393bc75942002568c69ec80dade8,0xf9b607c65175bf84636c54c3a620c5e8,0xb0afb2e73a18da88dc21d51a6c0b0510cc2f67cbfe83,0xb107cf8ec99e724ee954b39290094d6beb5b931fec03,0x2b2a2ccb497197c08eeeb1916a18798aca5e2d,0xb1c4c01d345517299aaed65d4d062cdd3dbd3383fc5a,0x2c9aa31b28465912ef8b598555c96be9e48f97a0a323ced37,0x1654dc6e5b9b10c632d2eb94c84a1b1f044ffd478dbb627,0x165cb6b62dfe3e9624960ef18a3acb9ab2c36e458bbb627,0x2ff08d751031de16895291f30ac029cb31017df8d138ddf37,0x166fa81efefe66eb27031374cef65386dc342dd42efe717,0x16778655ecf10b6af9543cc2cd3b021991631672217e727,0x167f648ed175a489cfd843211b3c9fb498118ee956fe727,0x2ff0acedebe9ab9b5f455db6440969125501240c94b8ddf37,0x2d1a7541b4450d52819489074453a2d981dffe7f0ca3ced37,0x5800680ad4991ed63ecb2143634b3531c1c2a5d1],
[0x16a6c30770e97479ce73f47a29d7b29cdb1c070065a8f82,0x16ae9d4f434e1a7ac0f2a3de40e97a18fea4d725caa8f82,0x5b0d5c87e141fe0645a932e08677be9a860cd678e40841b84d3,0x5b2cc43d3e0aa0ddaa59a7c351d66e1f91b839a3966149b84db,0x5b4c2d6465d8100ade290ad86f24a9eb740397e54e7381b84db,0x2db4de2fd45f418ec3f9ae5a672df38f439c004a445224dcb,0x5b8affb2b627066acd9072f57f189898094c875bb9e98bb84db,0x2dd4474f1e50cb105a77777cfd62c2d1440a3cfec4a724dcb,0x2de3fbdec31e023f96be4b9c20a0eeb38f687eb6d6df24dcb,0x617abbf5e4a5f46165e85e6f93a29ff457b1a8aa0fbacfdc853,0x2e0a4d687322f8dd83376f84b01ece93b9fd6887d694fd053,0x619a34d19c727cde6e244e155da36896e5b3733892d9a85c85b,0x2e3981c2858508e20f96b3e8f6284323d54f53494c477d03f,0x61b9bd69c21aeab99b2325d7c73a643be94c5fc24055ad5c85b,0x2e58fa9a502bb1a33366a365b055375f6e3bdcf6c84c7d03f,0x2e68b7082c10faa2d6ee43e815ba1afd9a280955ded9fd04b],
[0x61d955be559f3dde45a8ef423fdcf1e40dd4c6779ffe19dc85b,0x2e882febbe235f1e3813e75b07acd4c004139e2a84517d03f,0x2e97ec599a08a81ddb5cb59ed93071fe4410c4ff05257d04b,0x2ea7a8cb6311da5b89bd99f17a1acd6fedcbd926412a7d04b,0x617b59522f3cf01cd663501730037e67fe43a51148fe4fdc853,0x619ad22de709789c540f2faf0dba9894174b6f9fcc1d285c85b,0x61ba4b099ed6012e038cb5a64c3e819dda10f8b3f3592d5c85b,0x61d9c3e556a289bfb30ea21b9cdeafad865e2065468199dc85b,0x5de5446c2479db96ad8dfd67dc058bfc0b4f1ec2a031c1b84d3,0x5e04ac87c9d97c2adfdee5713ec43b8116fa81ed528ac9b84db,0x5e2415aef1c063fecb0bc36eaf5e274cf945e02f0a9d01b84db,0x5e437ed619e7d5e0371038bb05cb0b527383d02fefd30bb84db,0xb7e3179892c37ddc5803b21abb08000b06bc62ed75,0x2f54d81671620c5ded799e619cc743e3849ea6c8819d79faa,0x2f648ca6165c43ecb95767d2edda841c3ed6989ee70279faa,0x2f744135bb315176a43126afb858eb23bafa9844dc4a79faa],
[0xbe8df596b932cfdfee2824205f4f3d54cfc33293fe5f,0x183512d8986322a98468e688eaff80436e2d,0x17ed33051cd36839d61596cc7dcce0572f6104e363bb637,0x17f90ef8e181d1d247d74ff78110140d38c70cbb2efe737,0x1800f80eee4cb20c2ef508607ed9833da921e58b6b3b607,0x1808d256c0baa698d0c22e85eeb4a2c73a6fc376293b607,0x18447382e8d2d15e188fb462ca6c5f3b6dd1,0x18278ac6baad50ba770fbb40b8f707c50d1061d3dfa8f92,0x60d1a94674cc6b4cdf986848fb6b067dddf98667575041b84df,0x30779b6fd41d2a49b0eb676e98aec80800894958fbc924ddb,0x30874fff78fdf95ba1a18667d49d53ea4be78b110e0124ddb,0x3097048f1df73b04d187cfc03ecd5a6089d78bf6440b24ddb,0x6430599045679a8fa1ee7ce7a309dd6238140990bca1cfdc85f,0x30beafa556e8096df5d99916ae0fe67235e5ab73146efd053,0x30ce6c1332cd526d970c6c469698ef604fb039f633477d05b,0x30de2884fbd684ab478240af9689a53165c24e1d6f4c7d05b],
[0x30ede4fab203a0270ef2474868c593fbec1243f097b8fd05b,0x6430a83e6ab31bde1450528d2533c6fbe27508ac56a54fdc85f,0x62113a93f6b26c0038289b645dd5334303acd5b94239c1b84df,0x311d37f08c38aa4d541dd29ea9e8130b03bc7c42140d24daf,0x312cec803131ef644bb07c3dcee9e4ffcb6233263ecb24daf,0x313ca10fd6199a059527289cfdd01ccb54e94aa44c0724daf,0x187a30b86c105c8d6ce748fdaeb7f1db6d75,0x317a87b9ff63ef1c9e2e7e9fbdf5635af0c266a2b62879fba,0x318a3c49a44d8f549349e5ae559362626ce66648ab7079fba,0x31a9a568ee4022d10e1e875b728f1692810e861290d579fba,0xc1a228887ef088e1e8a1183806b25762d,0x18ec8c7998d98209f9741c497800a4cb13ff2527413b617,0xc21e03419e76ca7e83b368baa13f575d1,0x32003d76f05d2f9b57bf3354737570664b84b148aac124ddf,0x3218e164c36a883f2fbc85bd3979ec61d45163a2fb6efd05f,0x3228357a80bcf5360357a4bf9bb5bd8ca7ecd0634b8424dbf],
[0x3237ea0a25ae6bc8a705f68bd6f42558315f7b219dbc24dbf,0x32479e99caa7b5c59745bbfdaaa1db927cfb0318e10024dbf,0xc3cd97bae12b170fb0bc38d44486d7575,0x3275d0b44ee9113c651c718323ae94e97bbe43cd513e79fce,0x32a5d9f7a87f8645e6ce9e50c1fb4a4e3b10e723fa7c24dd3]]
noncomputable def P1 : List (List Nat) := [[0x596f0c967684665f4b520,0x599b7acee1f42fe891020,0x58e9c25d8a53828037e20,0x3db01a5079837dc59f6e2d,0x3dcea62ee11e0890265e2d,0x5a20c4d5351b921a0fcc4,0x5a4d330da08b5ba355c44,0x5916306d9319a7dd7c5c4,0x3e2a48fbee456c238b6dd1,0x3e48d4da55dff6ee12a5d1,0x5ad27d13f3b2bdd4d4468,0x5afeeb4c5f22875e1a868,0x59429e7d9bdfcd3ac0d68,0x3ea477a763075a81776d75,0x3ec30385caa1e54bfeed75,0x3ee18f51afa0998c50a52d],
[0x3f001b1edb795e8b77952d,0x81d348047d1f33567db779b3da,0x596f0c96768464650b520,0x3f3d32857fe5972685002d,0x3f5bbdeb45178e4887082d,0x3f7a49b8710e9099f8a52d,0x3f98d596d8a91b642d002d,0x3db01a5079858fffe76e2d,0x3dcea62ee1201aca6e5e2d,0x3fb760b7aed3fa9ac9762d,0x3fd5ecfd7d1553ffdf952d,0x838d6f43c4ce2c48dae7cbfe5f,0x401303fd5e61e11814a4d1,0x40318fca8a3aa6173bdcd1,0x84477e948d599be3ee18b0d702,0x848650f1ace63a75f51660d702],
[0x5a20c4d5351b8e258fcc4,0x408d32dbe2fc181a490451,0x40abbe41a8270476230c51,0x40ca4a0ed4243d766ca4d1,0x40e8d5ed3bbec840a10451,0x3e2a48fbee46aa46836dd1,0x3e48d4da55e135110aa5d1,0x4107610e11e29bf33d75d1,0x4125ed53e02b00dc53dcd1,0x8643160939585f28fbf8dbb607,0x8684865fbe217cae76a4bbb607,0x41818ffe75cd9b73d8a475,0x41a01bcba1a66073002475,0x873959c01061d2abe827b6382a,0x87782c1d2fee713def2566382a,0x87b6fe7a4f7b0f9eaab7fe382a],
[0x5ad27d13f3b2b7e614468,0x421a4a87aebd0bde0d0875,0x4238d5ed73e0ed73bf1075,0x425761ba9fe4c72e88a475,0x4275ed99077f51f8bd0875,0x3ea477a763082e98c76d75,0x3ec30385caa2b9634eed75,0x429478b9dd9c1a27597575,0x42b304ffabeb8a94702475,0x8978ff60ffa97f5c6bc5224daf,0x89ba6fb784729ce1e671024daf,0x89fbe00e093b17016344c24daf,0x3ee18f51afa2abc698a52d,0x3f3d32857fe7a960cd002d,0x3f001b1edb7b70c5bf952d,0x432d331f583d41ebfaad2d],
[0x8a6c6e96201cb568ba2bbd355f,0x8aa608b35eff6070e7fcede3df,0x8ae4dad36735921e59ac9febdf,0x8aa608b35eff6466f7736de3df,0x3ee18f51afa2aba6f4a52d,0x43a761eca115b322cf082d,0x43c5ed74dde54eb9b2ad2d,0x43c5ed74dde54e9a0ead2d,0x8ba1520951849ba833ab6de3df,0x3f7a49b8710e907a54a52d,0x8be55bef0bb9a875d8c3bd355f,0x3f7a49b8710c7e5fb0a52d,0x63272012d008a93a595a0,0x401303fd5e631f3b0ca4d1,0x408d32dbe2fd563d410451,0x40318fca8a3be43a33dcd1],
[0x44401c2052a1713246acd1,0x8ca470de6ce45b27fff4dced07,0x8ce5e134f1ad78ad7aa0bced07,0x8d1d0ffa9cb46f071667a8d712,0x8d591386b4b610c2f468a5df07,0x8d97e5a6bcec8548ab0807e707,0x8dd6ba29ae8a87e9f74195df07,0x8e158c49b6c0fc6fade0f7e707,0x8d591386b4b6133cbe12b5df07,0x8dd6ba29ae8a8a63c0eba5df07,0x401303fd5e631efbc4a4d1,0x453479986ccec8091b0c51,0x45530520a99f37b74eacd1,0x45530520a99f377806acd1,0x8ed20159cefdd79ec24ab5df07,0x8f10d5be34f108356123a5df07],
[0x40ca4a0ed4243d3724a4d1,0x8f5779703be7af07128cdced07,0x8f98e9c6c0b0cc8c8d38bced07,0x40ca4a0ed422ff5374a4d1,0x8fe23406eee45dc141b63bb617,0x65ee010c65eaec17599c4,0x41818ffe75ce6f8b28a475,0x421a4a87aebddff55d0875,0x41a01bcba1a7348a502475,0x4628d6cc3b5a9c5c3aac75,0x9096d0f1eed94f0c921d2b84af,0x90d8414873a26c920cc90b84af,0x9119b19ef86ae6b1899ccb84af,0x9149064036d79841babd2e383a,0x9187d89d566436b796a23e383a,0x91c3e03320c6cc38c2060dc82f],
[0x9202b25328fd57068f9fffd02f,0x92444f779db3624e3a874e383a,0x92805914ae7c89f028defdc82f,0x92bf2b34b6b314bdf678efd02f,0x92fdffb7a85100e5e04cd5c82f,0x933cd1d7b0878bb3ade6c7d02f,0x91c3e03320c6cd3645e3adc82f,0x92805914ae7c8aedacbc9dc82f,0x92fdffb7a85101e3642a75c82f,0x41818ffe75ce6f2c3ca475,0x47b5ee99db32123b0f1075,0x47d47a221802ebf4eaac75,0x47d47a221802eb95feac75,0x93f944c1f6b26549761badc82f,0x943819265ca595e014f49dc82f,0x9476ed8ac298c645686275c82f],
[0x425761ba9fe4c6cf9ca475,0x94c2c6fb35244a4dfcb52b84af,0x95043751b9ed67d377610b84af,0x9545a7a83eb5e1f2f434cb84af,0x425761ba9fe3f31738a475,0x9589b5b88b1cdff3633c924dbf,0x95cb260f0fe41346e460124dbf,0x6a1852828b4fcaf459de8,0x964b68a42890618ebc94524dbf,0x968f7797c757ccb8b6abbd3583,0x96ac5e4db3255ff481e36de403,0x96eb18cdb55417b78d231febdf,0x432d331f583d41cc56ad2d,0x49801d65721e4bb081762d,0x9768d56511c950a55a1b6de403,0x97c992b21f1379357143bd3583],
[0x3f98d596d8a91b4489002d,0x6b7bc31cd037e9c6d15a0,0x6ba830ef1bbaa71d0bda0,0x9878f30f555bd4d3c9b23ced17,0x98c779e0141f7277fc74dced27,0x9908ea44bbeba8e70c54bced27,0x992089fd030bfa29f4f97ddf17,0x995f5c1d0b426eafab98dfe717,0x992089fd030bfca3bea38ddf17,0x999e3b5f9cbd555aac82b5df27,0x99dcf5df9eec4ff5fcb217e707,0x9a1be210b996c08a97f60ddf27,0x9a5a9c8298c0c71cff8b07e707,0x44401c2052a170f2feacd1,0x4b2bc0bbf22d6d584575d1,0x9ad84a0eb135079626db8ddf17],
[0x9b172932b70519bcb0bab5df27,0x9b55fda53ffd3e5c382e0ddf27,0x9ba9a01e4c21b5d3a44a3ced17,0x9bf826ef0ae55377d70cdced27,0x9c399753b2b189e6e6ecbced27,0x40e8d5ed3bbec801590451,0x6e9b803589fad3a3d61c4,0x6ec7ee07d576f03f8c1c4,0x9ce659880e2df633ed949b84bf,0x9d27c9de92f529876eb81b84bf,0x9d7650af51b83a0dba9d2b84cb,0x9da80c73aba177cf46ec5b84bf,0x9df6934771e1bc4902a27b84cb,0x9e38039df6a8ef9c83c5fb84cb,0x9e4a8d91821198f6aa0c46384e,0x9e869d7dec8fe61fdb4ce5c83f],
[0x9ec56f9df4c670eda8e6d7d03f,0x9f044420e6645d2ab30d35c83f,0x9f431640ee9ae7f880a727d03f,0x9e869d7dec8fe71d5f2a85c83f,0x9f044420e6645e2836ead5c83f,0x9f81f5838015b6b68c53adc84b,0x9fc0b0038244c799f37d9fd02f,0x9fff8f4107fb615652cd85c83f,0xa03e61611031ec24206777d03f,0x9fff8f4107fb6253d6ab25c83f,0xa07d40a6a92dca8982b865c84b,0xa0bbfb23a3dbcbe1be568fd02f,0xa0fae749a30241945a78b5c84b,0xa139a1c69db042d775c467d02f,0x4628d6cc3b5a9bfd4eac75,0x4e8307684ee5b2b0097575],
[0xa1b74b07120099721f6285c83f,0xa1f61f6b77f3c9ec9322d5c83f,0xa234fe8f7dc3dbea848badc84b,0xa273c60e71c840f76ae325c83f,0xa2b2a5357f19629cb2f065c84b,0xa2f17999e50c931726b0b5c84b,0xa347b3c487646c88dc2c9b84bf,0xa389241b0c2b9fdc5d501b84bf,0xa3d7aaebcaeeb062a9352b84cb,0xa40966b024d7ee2435845b84bf,0xa457ed83eb18329df13a7b84cb,0xa4995dda6fdf65f1725dfb84cb,0xa4c87b3692025145b22c124dd3,0x4275ed99077f5199d10875,0x74ae8c56f4b34900dade8,0x74dafa294028c4e20c5e8],
[0xa5879006d55acbcb9b67cbfe83,0xa5a4771864281b7963931fec03,0x3fd5ecfd7d1553e03b952d,0x50a8d98a2db988daca5e2d,0xa62507a1e6a2d23de53383fc5a,0x63272012d004717dd95a0,0x43a761eca115b3032b082d,0xa6928e059ba120a6e6323ced37,0xa6c44954d29d57496478dbb627,0xa705b9b97a698db87458bbb627,0xa71d718bf63c2cb469138ddf37,0xa75c2c0bf86b274fb942efe717,0xa79b0b2ffe3b3976432217e727,0xa7d9dfa287335e15ca956fe727,0xa818bae1e8c163f5a54b8ddf37,0xa8891fdbaf00a0d4ccca3ced37],
[0x4125ed53e02b009d0bdcd1,0x51f8d9e090cf34d9c2a5d1,0xa8d843ddaf241c5228065a8f82,0xa91749a7f3165d86c65caa8f82,0x65ee010c65e61a1b599c4,0x453479986ccec7c9d30c51,0xa9721655ba655f51f0841b84d3,0xa9c5d945710ce13516149b84db,0xaa07499bf5d4148897381b84db,0xaa3904eb2ccfbe0d3845224dcb,0xaa878c4a8da5aa5f4e98bb84db,0xaab947834cf94048804a724dcb,0xaafab7d9d1c0739c016df24dcb,0xab0a86753c4bbd3e5fcf5dc853,0xab4958954482480c2d694fd053,0xab0a86753c4bbe3be3acfdc853],
[0xab883c12903afcec799a85c85b,0xabc6f692926a0dcfe0c477d03f,0xac05e2b58a0f73f7515ad5c85b,0xac449d358c3e84dab884c7d03f,0xac837c59920e96d8a9ed9fd04b,0xacc25bb096ee20d54be19dc85b,0xad01161719f44275f44517d03f,0xad3ff53e2745641b3c5257d04b,0xad7ec9a28d389495b012a7d04b,0xadbd8f8139f9e36fdbe4fdc853,0xadfc72dffa07db900dd285c85b,0xae3b47445ffb0c0a8192d5c85b,0xae7a1bc245172bc7b4199dc85b,0xaed82797e416bb654f1c1b84d3,0xaf2bea879abe3d4874ac9b84db,0xaf6d5ade1f85709bf5d01b84db],
[0xafaecb4e2375bfe24930bb84db,0x42b304ffabeb8a35842475,0x556eac37a1e3543462ed75,0xaff67c0b4ced38922819d79faa,0xb03581d590df79c6c670279faa,0xb074879fd4d1c268c1c4a79faa,0x6a1852828b4a5eb8d9de8,0x47b5ee99db3211dc231075,0xb0b48c3e0eb8e410b73293fe5f,0x560766582d6f4ec0436e2d,0x560766582d6d3c85fb6e2d,0x8be55bef0bb9a875d50e85355f,0xb15eb04cd7ae70233a363bb637,0xb16befb1ad86ee5a23b2efe737,0xb1b2734d781a28fe20b6b3b607,0xb1f3e3a3fce346839b6293b607],
[0x56a020ae5685a24f3b6dd1,0x56a020ae5684642c436dd1,0x8f5779703be7af07134ab4ed07,0xb26b4d21301edc5c213dfa8f92,0x8f98e9c6c0b0cc8c8df694ed07,0xb2e216a706f26e6da1041b84df,0xb3190e1535d2894f1bbc924ddb,0xb35a7e6bba99bca29ce0124ddb,0xb39beedbbe8a0be8f040b24ddb,0xb3a15ca37a1fdde3f61cfdc85f,0xb3e017237c4eeec75d46efd053,0xb41efa823c5ce6e78f3477d05b,0xb45dcee6a250176202f4c7d05b,0xb49ca364876c371f357b8fd05b,0xb4db783800865bb59654fdc85f,0xb5564cfa42147bbc4f9c1b84df],
[0xb5660122662dd6525940d24daf,0xb5a77178eaf6f3d7d3ecb24daf,0xb5e8e1cf6fbf6df750c0724daf,0x5888db5a3f45d761db6d75,0x5888db5a3f45034a8b6d75,0x94c2c6fb35244a4dfe30db84af,0xb658a4955ac658ebb362879fba,0xb697aa5f9eb8a18daeb7079fba,0x95043751b9ed67d378dcbb84af,0xb6d6b029e2aae2c24d0d579fba,0x9545a7a83eb5e1f2f5b07b84af,0x59030a150567849b25762d,0xb7646d61ef91be90267413b617,0x5940216b1177212bf575d1,0x9ba9a01e4c21b5d3a50814ed17,0xb809554ef9c266f102ac124ddf],
[0xb80c24eb544c184867b6efd05f,0xb862546e9212040adcb8424dbf,0xb8a3c4c516d9375e5ddbc24dbf,0xb8e5351b9ba43f15d210024dbf,0x59f7676beedc0d686d7575,0xa347b3c487646c88dda84b84bf,0xb94b1a28641cfe711913e79fce,0xa389241b0c2b9fdc5ecbcb84bf,0xa40966b024d7ee2437000b84bf,0xb9a449fdabcebf36e7a7c24dd3,0xaed82797e416bb655097cb84d3]]
end aD
end
section
namespace aD
set_option maxRecDepth 100000
noncomputable def ci (n : Nat) : E := .cst (.int (.lit (.ofNat n)))
noncomputable def Oh : Fn := ⟨[9,10],[],[],[.asg (.av (.loc 9) 10) (.loc 10)]⟩
noncomputable def Iu : Fn := ⟨[16,17],[],[],[.ret (.some (.meth (.bin .mod (.loc 16) (.bin .pow (ci 256) (.loc 17))) 5 [.loc 17,.cst (.str [98,105,103])]))]⟩
noncomputable def Iv : Fn := ⟨[19,20,17],[],[],[.ret (.some (.meth (.aH 18) 6 [.iC (.loc 19) (.some (.loc 20)) (.some (.bin .add (.loc 20) (.loc 17))),.cst (.str [98,105,103])]))]⟩
noncomputable def Iw : Fn := ⟨[17],[],[],[.ret (.some (.cmp (.aH 21) [.le,.le] [.loc 17,.aH 22]))]⟩
noncomputable def Iy : Fn := ⟨[9,23,24,25,26,27,28,29,30],[.int (.lit (.ofNat 0)),.int (.lit (.ofNat 0)),.int (.lit (.ofNat 0)),.int (.lit (.ofNat 0)),.int (.lit (.ofNat 0)),.int (.lit (.ofNat 0)),.int (.lit (.ofNat 0))],[],[.asg (.av (.loc 9) 23) (.loc 23),.asg (.av (.loc 9) 24) (.loc 24),.asg (.av (.loc 9) 25) (.loc 25),.asg (.av (.loc 9) 26) (.loc 26),.asg (.av (.loc 9) 27) (.loc 27),.asg (.av (.loc 9) 28) (.loc 28),.asg (.av (.loc 9) 29) (.loc 29),.asg (.av (.loc 9) 30) (.loc 30)]⟩
noncomputable def Iz : Fn := ⟨[9],[],[],[.asg (.loc 31) (.bin .add (.aH 32) (.call (.aH 33) [.av (.loc 9) 23,ci 2])),.for_ [16] (.tup [.av (.loc 9) 24,.av (.loc 9) 25,.av (.loc 9) 26,.av (.loc 9) 27,.av (.loc 9) 28]) [.aug 31 .add (.call (.aH 33) [.loc 16,ci 4])],.ret (.some (.bin .add (.bin .add (.loc 31) (.call (.aH 33) [.av (.loc 9) 29,ci 1])) (.call (.aH 33) [.av (.loc 9) 30,ci 1])))]⟩
noncomputable def IA : Fn := ⟨[19],[],[19],[.bE (.or_ [.cmp (.call (.aH 34) [.dj 19]) [.lt] [.aH 35],.cmp (.call (.aH 36) [.iC (.dj 19) .none (.some (ci 8))]) [.ne] [.aH 32]]) [.iD (.some (.call (.aH 37) [.cst (.str [102,105,108,101,32,105,115,32,110,111,116,32,97,32,100,97,116,97,98,97,115,101])]))] [],.asg (.loc 38) (.eK (.call (.aH 40) [.dj 19,.bin .add (ci 10) (.bin .mul (ci 4) (.loc 39)),ci 4]) [39] (.call (.aH 41) [ci 5])),.asg (.loc 42) (.call (.aH 43) [.call (.aH 40) [.dj 19,ci 8,ci 2],.sub (.loc 38) (ci 0),.sub (.loc 38) (ci 1),.sub (.loc 38) (ci 2),.sub (.loc 38) (ci 3),.sub (.loc 38) (ci 4),.sub (.dj 19) (ci 30),.sub (.dj 19) (ci 31)]),.bE (.or_ [.not_ (.call (.aH 44) [.av (.loc 42) 23]),.cmp (.av (.loc 42) 29) [.gt] [ci 1]]) [.iD (.some (.call (.aH 37) [.cst (.str [116,104,101,32,104,101,97,100,32,111,102,32,116,104,101,32,100,97,116,97,98,97,115,101,32,105,115,32,119,114,111,110,103])]))] [],.ret (.some (.loc 42))]⟩
noncomputable def IB : Fn := ⟨[49,50,19],[],[],[.asg (.loc 48) (.bin .add (.loc 49) (.loc 50)),.for_ [39] (.call (.aH 41) [.bin .sub (.call (.aH 34) [.loc 19]) (ci 1),.neg (ci 1),.neg (ci 8)]) [.aug 48 .add (.bin .mul (.sub (.loc 19) (.loc 39)) (.bin .add (.loc 39) (ci 1)))],.ret (.some (.bin .mod (.loc 48) (.aH 51)))]⟩
noncomputable def IC : Fn := ⟨[9,52,53,23],[],[],[.asg (.av (.loc 9) 52) (.loc 52),.asg (.av (.loc 9) 53) (.bin .add (.loc 53) (.cst (.str [45,106,111,117,114,110,97,108]))),.asg (.av (.loc 9) 23) (.loc 23),.asg (.av (.loc 9) 49) (ci 0),.asg (.av (.loc 9) 54) (ci 0),.asg (.av (.loc 9) 55) (.aH 56)]⟩
noncomputable def ID : Fn := ⟨[9],[],[],[.ret (.some (.meth (.av (.loc 9) 52) 57 [.av (.loc 9) 53]))]⟩
noncomputable def IE : Fn := ⟨[9],[],[],[.ret (.some (.bin .add (.av (.loc 9) 23) (ci 8)))]⟩
noncomputable def IF : Fn := ⟨[9,25,49],[],[],[.asg (.av (.loc 9) 49) (.bin .mod (.loc 49) (.aH 51)),.asg (.av (.loc 9) 54) (ci 0),.asg (.av (.loc 9) 55) (.aH 56),.asg (.loc 58) (.meth (.loc 9) 58 []),.bE (.cmp (.meth (.loc 58) 17 []) [.gt] [ci 0]) [.exp (.meth (.loc 58) 59 [ci 0])] [],.asg (.loc 60) (.bin .add (.bin .add (.aH 61) (.call (.aH 33) [.aH 56,ci 4])) (.call (.aH 33) [.av (.loc 9) 49,ci 4])),.exp (.meth (.loc 58) 62 [ci 0,.bin .add (.bin .add (.loc 60) (.call (.aH 33) [.loc 25,ci 4])) (.call (.aH 33) [.av (.loc 9) 23,ci 4])])]⟩
noncomputable def IG : Fn := ⟨[9,50,19],[],[],[.asg (.loc 20) (.bin .add (.aH 63) (.bin .mul (.av (.loc 9) 54) (.meth (.loc 9) 64 []))),.asg (.loc 65) (.bin .add (.bin .add (.call (.aH 33) [.loc 50,ci 4]) (.call (.aH 36) [.loc 19])) (.call (.aH 33) [.call (.aH 66) [.av (.loc 9) 49,.loc 50,.loc 19],ci 4])),.exp (.meth (.meth (.loc 9) 58 []) 62 [.loc 20,.loc 65]),.nq (.loc 9) 54 .add (ci 1)]⟩
noncomputable def II : Fn := ⟨[9],[],[],[.bE (.cmp (.av (.loc 9) 55) [.eq] [.av (.loc 9) 54]) [.ret .none] [],.asg (.loc 58) (.meth (.loc 9) 58 []),.exp (.meth (.loc 58) 67 []),.exp (.meth (.loc 58) 62 [.aH 68,.call (.aH 33) [.av (.loc 9) 54,ci 4]]),.exp (.meth (.loc 58) 67 []),.asg (.av (.loc 9) 55) (.av (.loc 9) 54)]⟩
noncomputable def IJ : Fn := ⟨[9],[],[],[.exp (.meth (.av (.loc 9) 52) 73 [.av (.loc 9) 53])]⟩
noncomputable def IK : Fn := ⟨[9],[],[],[.asg (.av (.loc 9) 79) .emp,.asg (.av (.loc 9) 80) .emp,.asg (.av (.loc 9) 81) .emp]⟩
noncomputable def IL : Fn := ⟨[9,82,53],[],[],[.ret (.some (.meth (.meth (.av (.loc 9) 79) 0 [.loc 53,.emp]) 0 [.loc 82,.aH 83]))]⟩
noncomputable def IM : Fn := ⟨[9,82,53],[],[],[.asg (.loc 84) (.aH 83),.asg (.loc 85) (.meth (.av (.loc 9) 79) 0 [.loc 53,.emp]),.for_ [86] (.loc 85) [.bE (.and_ [.cmp (.loc 86) [.ne] [.loc 82],.cmp (.sub (.loc 85) (.loc 86)) [.gt] [.loc 84]]) [.asg (.loc 84) (.sub (.loc 85) (.loc 86))] []],.ret (.some (.loc 84))]⟩
noncomputable def IP : Fn := ⟨[9,82,53],[],[],[.ret (.some (.cmp (.meth (.loc 9) 87 [.loc 82,.loc 53]) [.ge] [.aH 88]))]⟩
noncomputable def IQ : Fn := ⟨[9,82,53],[],[],[.ret (.some (.cmp (.meth (.loc 9) 87 [.loc 82,.loc 53]) [.ge] [.aH 89]))]⟩
noncomputable def IS : Fn := ⟨[9,82,53,90],[],[],[.asg (.loc 85) (.meth (.av (.loc 9) 79) 2 [.loc 53,.emp]),.bE (.cmp (.loc 90) [.eq] [.aH 83]) [.exp (.meth (.loc 85) 1 [.loc 82,.cst .none])] [.asg (.sub (.loc 85) (.loc 82)) (.loc 90)]]⟩
noncomputable def IT : Fn := ⟨[9,82,53,90],[],[],[.asg (.loc 91) (.meth (.loc 9) 92 [.loc 82,.loc 53]),.bE (.cmp (.loc 90) [.le] [.loc 91]) [.ret .none] [],.bE (.cmp (.loc 91) [.eq] [.aH 83]) [.exp (.meth (.loc 9) 93 [.loc 82,.loc 53])] [],.bE (.and_ [.cmp (.loc 90) [.ge] [.aH 89],.cmp (.meth (.loc 9) 92 [.loc 82,.loc 53]) [.lt] [.aH 89]]) [.exp (.meth (.loc 9) 94 [.loc 82,.loc 53])] [],.bE (.cmp (.loc 90) [.ge] [.aH 95]) [.exp (.meth (.loc 9) 96 [.loc 82,.loc 53,.loc 90])] []]⟩
noncomputable def IU : Fn := ⟨[9,82,53],[],[],[.bE (.cmp (.meth (.loc 9) 87 [.loc 82,.loc 53]) [.ge] [.aH 95]) [.iD (.some (.call (.aH 97) [.cst (.str [100,97,116,97,98,97,115,101,32,105,115,32,108,111,99,107,101,100])]))] [],.exp (.meth (.loc 9) 98 [.loc 82,.loc 53,.aH 88])]⟩
noncomputable def IV : Fn := ⟨[9,82,53],[],[],[.bE (.cmp (.meth (.loc 9) 87 [.loc 82,.loc 53]) [.ge] [.aH 89]) [.iD (.some (.call (.aH 97) [.cst (.str [100,97,116,97,98,97,115,101,32,105,115,32,108,111,99,107,101,100])]))] [],.exp (.meth (.loc 9) 98 [.loc 82,.loc 53,.aH 89])]⟩
noncomputable def IW : Fn := ⟨[9,82,53,90],[],[],[.exp (.meth (.loc 9) 98 [.loc 82,.loc 53,.aH 95]),.bE (.cmp (.loc 90) [.eq] [.aH 99]) [.bE (.meth (.loc 9) 100 [.loc 82,.loc 53]) [.iD (.some (.call (.aH 97) [.cst (.str [100,97,116,97,98,97,115,101,32,105,115,32,108,111,99,107,101,100])]))] [],.exp (.meth (.loc 9) 98 [.loc 82,.loc 53,.aH 99])] []]⟩
noncomputable def IX : Fn := ⟨[9,82,53,90],[.int (.lit (.ofNat 0))],[],[.bE (.cmp (.loc 90) [.lt] [.meth (.loc 9) 92 [.loc 82,.loc 53]]) [.exp (.meth (.loc 9) 98 [.loc 82,.loc 53,.loc 90])] []]⟩
noncomputable def IY : Fn := ⟨[9,116,54],[.int (.lit (.ofNat 0))],[],[.asg (.av (.loc 9) 116) (.loc 116),.asg (.av (.loc 9) 54) (.loc 54),.asg (.av (.loc 9) 117) .emp,.asg (.av (.loc 9) 118) (.lst [])]⟩
noncomputable def IZ : Fn := ⟨[9,54],[],[],[.asg (.av (.loc 9) 54) (.loc 54),.asg (.av (.loc 9) 117) .emp,.for_ [119] (.av (.loc 9) 118) [.asg (.av (.loc 119) 54) (.loc 54),.asg (.av (.loc 119) 117) .emp]]⟩
noncomputable def I0 : Fn := ⟨[9],[],[],[.asg (.av (.loc 9) 117) .emp,.asg (.av (.loc 9) 118) (.lst [])]⟩
noncomputable def I1 : Fn := ⟨[9,50],[],[],[.asg (.loc 31) (.meth (.av (.loc 9) 117) 0 [.loc 50]),.ret (.some (.ite_ (.cmp (.loc 31) [.is_] [.cst .none]) (.meth (.av (.loc 9) 116) 120 [.loc 50]) (.loc 31)))]⟩
noncomputable def I3 : Fn := ⟨[9,50],[],[],[.for_ [119] (.av (.loc 9) 118) [.bE (.and_ [.cmp (.loc 50) [.le] [.av (.loc 119) 54],.cmp (.loc 50) [.jL] [.av (.loc 119) 117]]) [.asg (.sub (.av (.loc 119) 117) (.loc 50)) (.meth (.loc 9) 69 [.loc 50])] []]]⟩
noncomputable def I4 : Fn := ⟨[9,50,19],[],[],[.exp (.meth (.loc 9) 121 [.loc 50]),.asg (.sub (.av (.loc 9) 117) (.loc 50)) (.call (.aH 36) [.loc 19])]⟩
noncomputable def I5 : Fn := ⟨[9,23],[],[],[.nq (.loc 9) 54 .add (ci 1),.asg (.sub (.av (.loc 9) 117) (.av (.loc 9) 54)) (.call (.aH 36) [.loc 23]),.ret (.some (.av (.loc 9) 54))]⟩
noncomputable def I6 : Fn := ⟨[9,122],[],[],[.bE (.or_ [.cmp (.loc 122) [.lt] [ci 0],.cmp (.loc 122) [.ge] [.call (.aH 34) [.av (.loc 9) 118]]]) [.iD (.some (.call (.aH 123) [.cst (.str [110,111,32,115,117,99,104,32,115,97,118,101,112,111,105,110,116])]))] []]⟩
noncomputable def I7 : Fn := ⟨[9,122],[],[],[.exp (.meth (.loc 9) 124 [.loc 122]),.bad]⟩
noncomputable def I8 : Fn := ⟨[9,122,125],[.bool true],[],[.exp (.meth (.loc 9) 124 [.loc 122]),.bad,.bad,.bad,.bad,.bad,.bad,.bad]⟩
noncomputable def I9 : Fn := ⟨[9,52,53,82,23,133],[.int (.lit (.ofNat 128)),.none],[],[.bE (.not_ (.call (.aH 44) [.loc 23])) [.iD (.some (.call (.aH 123) [.cst (.str [110,111,32,115,117,99,104,32,112,97,103,101,32,115,105,122,101])]))] [],.asg (.av (.loc 9) 52) (.loc 52),.asg (.av (.loc 9) 53) (.loc 53),.asg (.av (.loc 9) 82) (.loc 82),.asg (.av (.loc 9) 23) (.loc 23),.asg (.av (.loc 9) 133) (.loc 133),.asg (.av (.loc 9) 58) (.meth (.loc 52) 57 [.loc 53]),.asg (.av (.loc 9) 134) (.av (.loc 52) 134),.asg (.av (.loc 9) 135) (.cst (.str [100,101,108,101,116,101])),.asg (.av (.loc 9) 136) (.cst (.bool false)),.asg (.av (.loc 9) 137) (.cst (.bool false)),.asg (.av (.loc 9) 138) (ci 0),.asg (.av (.loc 9) 139) .emp,.asg (.av (.loc 9) 140) (.call (.aH 141) [.loc 9]),.asg (.av (.loc 9) 72) (.cst .none),.asg (.av (.loc 9) 142) .emp,.asg (.av (.loc 9) 143) (.cst (.bool false)),.asg (.av (.loc 9) 144) (ci 0),.asg (.av (.loc 9) 145) (ci 0)]⟩
noncomputable def Ja : Fn := ⟨[9],[],[],[.ret (.some (.av (.loc 9) 136))]⟩
noncomputable def Jb : Fn := ⟨[9],[],[],[.ret (.some (.av (.loc 9) 137))]⟩
noncomputable def Jc : Fn := ⟨[9],[],[],[.bE (.av (.loc 9) 136) [.ret .none] [],.exp (.meth (.av (.loc 9) 134) 108 [.av (.loc 9) 82,.av (.loc 9) 53,.aH 88]),.try_ [.exp (.meth (.loc 9) 148 []),.exp (.meth (.loc 9) 149 [])] [((.aH 146),[.exp (.meth (.loc 9) 147 []),.iD .none])],.asg (.av (.loc 9) 136) (.cst (.bool true))]⟩
noncomputable def Jd : Fn := ⟨[9],[],[],[.asg (.loc 72) (.call (.aH 150) [.av (.loc 9) 52,.av (.loc 9) 53,.av (.loc 9) 23]),.bE (.or_ [.not_ (.meth (.av (.loc 9) 52) 70 [.av (.loc 72) 53]),.meth (.av (.loc 9) 134) 107 [.av (.loc 9) 82,.av (.loc 9) 53]]) [.ret .none] [],.bE (.meth (.loc 72) 76 []) [.exp (.meth (.av (.loc 9) 134) 108 [.av (.loc 9) 82,.av (.loc 9) 53,.aH 99]),.exp (.meth (.loc 72) 77 [.av (.loc 9) 58]),.exp (.meth (.loc 72) 78 []),.asg (.av (.loc 9) 139) .emp,.asg (.av (.loc 9) 138) (.neg (ci 1))] [.exp (.meth (.av (.loc 9) 134) 108 [.av (.loc 9) 82,.av (.loc 9) 53,.aH 89]),.exp (.meth (.loc 72) 78 [])],.exp (.meth (.av (.loc 9) 134) 109 [.av (.loc 9) 82,.av (.loc 9) 53,.aH 88])]⟩
noncomputable def Je : Fn := ⟨[9],[],[],[.bE (.cmp (.meth (.av (.loc 9) 58) 17 []) [.eq] [ci 0]) [.asg (.av (.loc 9) 135) (.cst (.str [100,101,108,101,116,101])),.asg (.av (.av (.loc 9) 140) 54) (ci 0),.exp (.meth (.loc 9) 151 [ci 0]),.ret .none] [],.asg (.loc 42) (.meth (.aH 43) 46 [.meth (.av (.loc 9) 58) 69 [ci 0,.aH 35]]),.bE (.cmp (.av (.loc 42) 23) [.ne] [.av (.loc 9) 23]) [.asg (.av (.loc 9) 23) (.av (.loc 42) 23),.asg (.av (.loc 9) 139) .emp] [],.asg (.av (.loc 9) 145) (.av (.loc 42) 29),.asg (.av (.av (.loc 9) 140) 54) (.av (.loc 42) 25),.bE (.cmp (.av (.loc 42) 29) [.eq] [ci 1]) [.exp (.meth (.loc 9) 152 []),.ret .none] [],.asg (.av (.loc 9) 135) (.cst (.str [100,101,108,101,116,101])),.bE (.or_ [.cmp (.av (.loc 42) 25) [.lt] [ci 1],.cmp (.meth (.av (.loc 9) 58) 17 []) [.lt] [.bin .mul (.av (.loc 42) 25) (.av (.loc 9) 23)]]) [.iD (.some (.call (.aH 37) [.cst (.str [116,104,101,32,100,97,116,97,98,97,115,101,32,105,115,32,116,111,111,32,115,104,111,114,116])]))] [],.exp (.meth (.loc 9) 151 [.av (.loc 42) 24])]⟩
noncomputable def Jf : Fn := ⟨[9,138],[],[],[.bE (.cmp (.loc 138) [.ne] [.av (.loc 9) 138]) [.asg (.av (.loc 9) 139) .emp] [],.asg (.av (.loc 9) 138) (.loc 138)]⟩
noncomputable def Jg : Fn := ⟨[9],[],[],[.bE (.av (.loc 9) 137) [.iD (.some (.call (.aH 123) [.cst (.str [97,32,119,114,105,116,101,32,116,114,97,110,115,97,99,116,105,111,110,32,105,115,32,111,112,101,110])]))] [],.bE (.av (.loc 9) 136) [.asg (.av (.loc 9) 136) (.cst (.bool false)),.exp (.meth (.loc 9) 147 [])] []]⟩
noncomputable def Jh : Fn := ⟨[9],[],[],[.exp (.meth (.av (.loc 9) 134) 109 [.av (.loc 9) 82,.av (.loc 9) 53,.aH 83])]⟩
noncomputable def Ji : Fn := ⟨[9,50],[],[],[.ret (.some (.meth (.av (.loc 9) 58) 69 [.bin .mul (.bin .sub (.loc 50) (ci 1)) (.av (.loc 9) 23),.av (.loc 9) 23]))]⟩
noncomputable def Jj : Fn := ⟨[9,50],[],[],[.asg (.loc 31) (.meth (.av (.loc 9) 139) 0 [.loc 50]),.bE (.cmp (.loc 31) [.is_] [.cst .none]) [.asg (.loc 31) (.meth (.loc 9) 153 [.loc 50]),.bE (.cmp (.call (.aH 34) [.loc 31]) [.ne] [.av (.loc 9) 23]) [.iD (.some (.call (.aH 37) [.cst (.str [97,32,112,97,103,101,32,105,115,32,109,105,115,115,105,110,103])]))] [],.asg (.sub (.av (.loc 9) 139) (.loc 50)) (.loc 31)] [],.ret (.some (.loc 31))]⟩
noncomputable def Jk : Fn := ⟨[9,50],[],[],[.bE (.not_ (.av (.loc 9) 136)) [.iD (.some (.call (.aH 123) [.cst (.str [110,111,32,116,114,97,110,115,97,99,116,105,111,110,32,105,115,32,111,112,101,110])]))] [],.bE (.or_ [.cmp (.loc 50) [.lt] [ci 1],.cmp (.loc 50) [.gt] [.av (.av (.loc 9) 140) 54]]) [.iD (.some (.call (.aH 37) [.bin .add (.cst (.str [116,104,101,114,101,32,105,115,32,110,111,32,112,97,103,101,32])) (.call (.aH 154) [.loc 50])]))] [],.ret (.some (.meth (.av (.loc 9) 140) 69 [.loc 50]))]⟩
noncomputable def Jl : Fn := ⟨[9],[],[],[.bE (.not_ (.av (.loc 9) 136)) [.iD (.some (.call (.aH 123) [.cst (.str [110,111,32,116,114,97,110,115,97,99,116,105,111,110,32,105,115,32,111,112,101,110])]))] [],.ret (.some (.av (.av (.loc 9) 140) 54))]⟩
noncomputable def Jm : Fn := ⟨[9],[],[],[.asg (.loc 42) (.cst .none),.bE (.cmp (.meth (.loc 9) 25 []) [.gt] [ci 0]) [.asg (.loc 19) (.meth (.loc 9) 155 [ci 1]),.bE (.cmp (.iC (.loc 19) .none (.some (ci 8))) [.eq] [.aH 32]) [.asg (.loc 42) (.meth (.aH 43) 46 [.loc 19])] []] [],.bE (.cmp (.loc 42) [.is_] [.cst .none]) [.asg (.loc 42) (.call (.aH 43) [.av (.loc 9) 23])] [],.asg (.av (.loc 42) 25) (.av (.av (.loc 9) 140) 54),.asg (.av (.loc 42) 29) (.av (.loc 9) 145),.ret (.some (.loc 42))]⟩
noncomputable def Jn : Fn := ⟨[9],[],[],[.bE (.av (.loc 9) 137) [.ret .none] [],.asg (.loc 156) (.av (.loc 9) 136),.exp (.meth (.loc 9) 157 []),.try_ [.exp (.meth (.loc 9) 159 [])] [((.aH 97),[.bE (.not_ (.loc 156)) [.exp (.meth (.loc 9) 158 [])] [],.iD .none])],.asg (.av (.loc 9) 137) (.cst (.bool true)),.asg (.av (.loc 9) 72) (.cst .none),.asg (.av (.loc 9) 142) .emp,.asg (.av (.loc 9) 143) (.cst (.bool false)),.asg (.av (.loc 9) 144) (.av (.av (.loc 9) 140) 54),.exp (.meth (.av (.loc 9) 140) 74 [.av (.loc 9) 144])]⟩
noncomputable def Jo : Fn := ⟨[9],[],[],[.exp (.meth (.av (.loc 9) 134) 108 [.av (.loc 9) 82,.av (.loc 9) 53,.aH 89])]⟩
noncomputable def Jp : Fn := ⟨[9],[],[],[.exp (.meth (.loc 9) 160 []),.exp (.meth (.loc 9) 161 [])]⟩
noncomputable def Jq : Fn := ⟨[9],[],[],[.asg (.loc 162) (.meth (.av (.loc 9) 134) 92 [.av (.loc 9) 82,.av (.loc 9) 53]),.try_ [.exp (.meth (.av (.loc 9) 134) 108 [.av (.loc 9) 82,.av (.loc 9) 53,.aH 99])] [((.aH 97),[.exp (.meth (.av (.loc 9) 134) 109 [.av (.loc 9) 82,.av (.loc 9) 53,.loc 162]),.iD .none])]]⟩
noncomputable def Jr : Fn := ⟨[9],[],[],[.bE (.not_ (.av (.loc 9) 137)) [.iD (.some (.call (.aH 123) [.cst (.str [110,111,32,119,114,105,116,101,32,116,114,97,110,115,97,99,116,105,111,110,32,105,115,32,111,112,101,110])]))] []]⟩
noncomputable def Js : Fn := ⟨[9],[],[],[.bE (.cmp (.av (.loc 9) 72) [.is_] [.cst .none]) [.asg (.loc 72) (.call (.aH 150) [.av (.loc 9) 52,.av (.loc 9) 53,.av (.loc 9) 23]),.exp (.meth (.loc 72) 74 [.av (.loc 9) 144,.bin .add (.bin .mul (.bin .add (.av (.loc 9) 138) (ci 1)) (ci 40503)) (.av (.av (.loc 9) 52) 163)]),.asg (.av (.loc 9) 72) (.loc 72)] []]⟩
noncomputable def Jt : Fn := ⟨[9,50],[],[],[.bE (.or_ [.cmp (.loc 50) [.gt] [.av (.loc 9) 144],.cmp (.loc 50) [.in_] [.av (.loc 9) 142]]) [.ret .none] [],.asg (.loc 19) (.meth (.loc 9) 120 [.loc 50]),.exp (.meth (.loc 9) 164 []),.exp (.meth (.av (.loc 9) 72) 75 [.loc 50,.loc 19]),.asg (.sub (.av (.loc 9) 142) (.loc 50)) (.cst (.bool true))]⟩
noncomputable def Ju : Fn := ⟨[9,50,19],[],[],[.exp (.meth (.loc 9) 165 [.loc 50]),.exp (.meth (.av (.loc 9) 140) 128 [.loc 50,.loc 19]),.bE (.and_ [.cmp (.av (.loc 9) 133) [.lT] [.cst .none],.cmp (.call (.aH 34) [.av (.av (.loc 9) 140) 117]) [.gt] [.av (.loc 9) 133]]) [.exp (.meth (.loc 9) 166 [])] []]⟩
noncomputable def Jv : Fn := ⟨[9,50,19],[],[],[.exp (.meth (.loc 9) 160 []),.bE (.cmp (.call (.aH 34) [.loc 19]) [.ne] [.av (.loc 9) 23]) [.iD (.some (.call (.aH 123) [.cst (.str [97,32,112,97,103,101,32,111,102,32,97,110,111,116,104,101,114,32,115,105,122,101])]))] [],.asg (.loc 162) (.meth (.loc 9) 155 [.loc 50]),.bE (.and_ [.cmp (.loc 50) [.eq] [ci 1],.cmp (.iC (.loc 162) .none (.some (ci 8))) [.eq] [.aH 32]]) [.asg (.loc 19) (.bin .add (.iC (.loc 162) .none (.some (.aH 35))) (.call (.aH 36) [.iC (.loc 19) (.some (.aH 35)) .none]))] [],.exp (.meth (.loc 9) 167 [.loc 50,.loc 19])]⟩
noncomputable def Jw : Fn := ⟨[9,42],[],[],[.exp (.meth (.loc 9) 160 []),.bE (.cmp (.av (.av (.loc 9) 140) 54) [.eq] [ci 0]) [.exp (.meth (.loc 9) 4 [])] [],.asg (.av (.loc 42) 23) (.av (.loc 9) 23),.asg (.av (.loc 42) 25) (.av (.av (.loc 9) 140) 54),.asg (.av (.loc 42) 24) (.call (.aH 168) [ci 0,.av (.loc 9) 138]),.asg (.av (.loc 42) 29) (.av (.loc 9) 145),.exp (.meth (.loc 9) 167 [ci 1,.bin .add (.meth (.loc 42) 45 []) (.iC (.meth (.loc 9) 155 [ci 1]) (.some (.aH 35)) .none)])]⟩
noncomputable def Jx : Fn := ⟨[9],[],[],[.exp (.meth (.loc 9) 160 []),.exp (.meth (.av (.loc 9) 139) 1 [.bin .add (.av (.av (.loc 9) 140) 54) (ci 1),.cst .none]),.ret (.some (.meth (.av (.loc 9) 140) 4 [.av (.loc 9) 23]))]⟩
noncomputable def Jy : Fn := ⟨[9,54],[],[],[.exp (.meth (.loc 9) 160 []),.bE (.or_ [.cmp (.loc 54) [.lt] [ci 1],.cmp (.loc 54) [.gt] [.av (.av (.loc 9) 140) 54]]) [.iD (.some (.call (.aH 123) [.cst (.str [110,111,32,115,117,99,104,32,112,97,103,101,32,99,111,117,110,116])]))] [],.asg (.loc 169) (.av (.av (.loc 9) 140) 54),.for_ [50] (.call (.aH 41) [.bin .add (.loc 54) (ci 1),.bin .add (.loc 169) (ci 1)]) [.exp (.meth (.loc 9) 165 [.loc 50])],.exp (.meth (.av (.loc 9) 140) 129 [.loc 54]),.for_ [50] (.call (.aH 41) [.bin .add (.loc 54) (ci 1),.bin .add (.loc 169) (ci 1)]) [.exp (.meth (.av (.loc 9) 139) 1 [.loc 50,.cst .none])]]⟩
noncomputable def Jz : Fn := ⟨[9],[],[],[.asg (.av (.loc 9) 143) (.cst (.bool true)),.asg (.loc 117) (.av (.av (.loc 9) 140) 117),.for_ [50] (.call (.aH 126) [.loc 117]) [.asg (.loc 19) (.sub (.loc 117) (.loc 50)),.exp (.meth (.av (.loc 9) 58) 62 [.bin .mul (.bin .sub (.loc 50) (ci 1)) (.av (.loc 9) 23),.loc 19]),.asg (.sub (.av (.loc 9) 139) (.loc 50)) (.loc 19),.del (.loc 117) (.loc 50)]]⟩
noncomputable def JA : Fn := ⟨[9],[],[],[.ret (.some (.or_ [.av (.loc 9) 143,.cmp (.av (.av (.loc 9) 140) 117) [.ne] [.emp],.cmp (.av (.av (.loc 9) 140) 54) [.ne] [.av (.loc 9) 144]]))]⟩
noncomputable def JB : Fn := ⟨[9],[],[],[.exp (.meth (.loc 9) 160 []),.bE (.meth (.loc 9) 171 []) [.asg (.loc 42) (.meth (.loc 9) 172 []),.asg (.av (.loc 42) 24) (.bin .mod (.bin .add (.call (.aH 168) [ci 0,.av (.loc 9) 138]) (ci 1)) (.aH 51)),.exp (.meth (.loc 9) 167 [ci 1,.bin .add (.meth (.loc 42) 45 []) (.iC (.meth (.loc 9) 155 [ci 1]) (.some (.aH 35)) .none)]),.exp (.meth (.loc 9) 173 []),.asg (.av (.loc 9) 138) (.av (.loc 42) 24)] [],.exp (.meth (.loc 9) 174 [.cst (.bool true)])]⟩
noncomputable def JC : Fn := ⟨[9],[],[],[.exp (.meth (.loc 9) 164 []),.exp (.meth (.av (.loc 9) 72) 67 []),.exp (.meth (.loc 9) 161 []),.exp (.meth (.loc 9) 170 []),.bE (.cmp (.meth (.av (.loc 9) 58) 17 []) [.gt] [.bin .mul (.av (.av (.loc 9) 140) 54) (.av (.loc 9) 23)]) [.exp (.meth (.av (.loc 9) 58) 59 [.bin .mul (.av (.av (.loc 9) 140) 54) (.av (.loc 9) 23)])] [],.exp (.meth (.av (.loc 9) 58) 67 []),.exp (.meth (.av (.loc 9) 72) 78 []),.asg (.av (.loc 9) 72) (.cst .none)]⟩
noncomputable def JD : Fn := ⟨[9,175],[],[],[.bE (.cmp (.av (.loc 9) 72) [.lT] [.cst .none]) [.exp (.meth (.av (.loc 9) 72) 78 [])] [],.asg (.av (.loc 9) 72) (.cst .none),.asg (.av (.loc 9) 142) .emp,.asg (.av (.loc 9) 143) (.cst (.bool false)),.exp (.meth (.av (.loc 9) 140) 127 []),.asg (.av (.loc 9) 137) (.cst (.bool false)),.bE (.not_ (.loc 175)) [.asg (.av (.loc 9) 139) .emp,.asg (.av (.av (.loc 9) 140) 54) (.av (.loc 9) 144)] [],.exp (.meth (.loc 9) 176 [])]⟩
noncomputable def JE : Fn := ⟨[9],[],[],[.exp (.meth (.av (.loc 9) 134) 109 [.av (.loc 9) 82,.av (.loc 9) 53,.aH 88])]⟩
noncomputable def JF : Fn := ⟨[9],[],[],[.bE (.not_ (.av (.loc 9) 137)) [.exp (.meth (.av (.loc 9) 140) 127 []),.ret .none] [],.bE (.av (.loc 9) 143) [.exp (.meth (.av (.loc 9) 72) 77 [.av (.loc 9) 58])] [],.exp (.meth (.loc 9) 174 [.cst (.bool false)])]⟩
noncomputable def JG : Fn := ⟨[9,122],[],[],[.exp (.meth (.av (.loc 9) 140) 131 [.loc 122])]⟩
noncomputable def JH : Fn := ⟨[9,122],[],[],[.exp (.meth (.av (.loc 9) 140) 132 [.loc 122,.av (.loc 9) 137])]⟩
noncomputable def JI : Fn := ⟨[9,52,53],[],[],[.asg (.av (.loc 9) 52) (.loc 52),.asg (.av (.loc 9) 53) (.loc 53),.asg (.av (.loc 9) 185) (.cst (.bytes [])),.asg (.av (.loc 9) 186) (.lst []),.asg (.av (.loc 9) 187) (.call (.aH 188) [])]⟩
noncomputable def JJ : Fn := ⟨[9],[],[],[.ret (.some (.call (.aH 34) [.av (.loc 9) 187]))]⟩
noncomputable def JK : Fn := ⟨[9,20,17],[],[],[.ret (.some (.call (.aH 36) [.iC (.av (.loc 9) 187) (.some (.loc 20)) (.some (.bin .add (.loc 20) (.loc 17)))]))]⟩
noncomputable def JL : Fn := ⟨[9,20,19],[],[],[.exp (.meth (.av (.loc 9) 52) 189 [.loc 9,.bin .add (.loc 20) (.call (.aH 34) [.loc 19])]),.exp (.meth (.av (.loc 9) 52) 190 []),.exp (.meth (.av (.loc 9) 186) 3 [.tup [.cst (.str [119,114,105,116,101]),.loc 20,.call (.aH 36) [.loc 19]]]),.exp (.call (.aH 191) [.av (.loc 9) 187,.loc 20,.loc 19])]⟩
noncomputable def JM : Fn := ⟨[9],[],[],[.exp (.meth (.av (.loc 9) 52) 190 []),.asg (.av (.loc 9) 185) (.call (.aH 36) [.av (.loc 9) 187]),.asg (.av (.loc 9) 186) (.lst [])]⟩
noncomputable def JN : Fn := ⟨[9,193,196],[.int (.lit (.ofNat 8)),.none],[],[.asg (.av (.loc 9) 193) (.loc 193),.asg (.av (.loc 9) 196) (.loc 196),.asg (.av (.loc 9) 197) .emp,.asg (.av (.loc 9) 163) (ci 0),.asg (.av (.loc 9) 198) (.cst .none),.asg (.av (.loc 9) 199) .emp,.asg (.av (.loc 9) 134) (.call (.aH 200) [])]⟩
noncomputable def JO : Fn := ⟨[9],[],[],[.bE (.and_ [.cmp (.av (.loc 9) 198) [.lT] [.cst .none],.cmp (.bin .add (.av (.loc 9) 163) (ci 1)) [.ge] [.av (.loc 9) 198]]) [.iD (.some (.call (.aH 201) [.cst (.str [99,114,97,115,104])]))] [],.nq (.loc 9) 163 .add (ci 1)]⟩
noncomputable def JP : Fn := ⟨[9,58,17],[],[],[.bE (.or_ [.cmp (.av (.loc 9) 196) [.is_] [.cst .none],.cmp (.loc 17) [.le] [.meth (.loc 58) 17 []]]) [.ret .none] [],.asg (.loc 48) (ci 0),.for_ [86] (.meth (.av (.loc 9) 197) 7 []) [.aug 48 .add (.meth (.loc 86) 17 [])],.bE (.cmp (.bin .add (.bin .sub (.loc 48) (.meth (.loc 58) 17 [])) (.loc 17)) [.gt] [.av (.loc 9) 196]) [.iD (.some (.call (.aH 202) [.cst (.str [100,105,115,107,32,102,117,108,108])]))] []]⟩
noncomputable def JQ : Fn := ⟨[9,53],[],[],[.ret (.some (.cmp (.loc 53) [.in_] [.av (.loc 9) 197]))]⟩
noncomputable def JR : Fn := ⟨[9,53],[],[],[.bE (.cmp (.loc 53) [.jL] [.av (.loc 9) 197]) [.asg (.sub (.av (.loc 9) 197) (.loc 53)) (.call (.aH 203) [.loc 9,.loc 53])] [],.ret (.some (.sub (.av (.loc 9) 197) (.loc 53)))]⟩
noncomputable def JS : Fn := ⟨[9,53],[],[],[.bE (.cmp (.loc 53) [.jL] [.av (.loc 9) 197]) [.ret .none] [],.exp (.meth (.loc 9) 190 []),.del (.av (.loc 9) 197) (.loc 53)]⟩
noncomputable def JT : Fn := ⟨[207,20,19],[],[],[.bE (.cmp (.loc 20) [.gt] [.call (.aH 34) [.loc 207]]) [.exp (.meth (.loc 207) 4 [.call (.aH 36) [.bin .sub (.loc 20) (.call (.aH 34) [.loc 207])]])] [],.asg (.iC (.loc 207) (.some (.loc 20)) (.some (.bin .add (.loc 20) (.call (.aH 34) [.loc 19])))) (.loc 19)]⟩
noncomputable def JU : Fn := ⟨[210],[],[],[.asg (.tup [208,209]) (.tup [ci 0,ci 41]),.for_ [16] (.loc 210) [.asg (.loc 17) (.ite_ (.cmp (.loc 16) [.ge] [ci 0]) (.loc 16) (.bin .sub (.neg (ci 1)) (.loc 16))),.bE (.cmp (.loc 17) [.ge] [.bin .pow (ci 10) (ci 18)]) [.asg (.loc 208) (.bin .add (.bin .mul (.loc 208) (.loc 17)) (.loc 17))] [],.asg (.loc 209) (.bin .mod (.bin .add (.bin .add (.bin .mul (.loc 209) (ci 48271)) (.bin .mod (.loc 17) (ci 2147483629))) (ci 7919)) (ci 2147483647))],.ret (.some (.lst [.loc 208,.loc 209]))]⟩
noncomputable def JV : Fn := ⟨[211,213],[],[],[.bE (.cmp (.sub (.loc 211) (ci 0)) [.gt] [ci 0]) [.asg (.loc 212) (.bin .mod (.sub (.loc 211) (ci 0)) (.loc 213)),.asg (.sub (.loc 211) (ci 0)) (.bin .div (.sub (.loc 211) (ci 0)) (.loc 213)),.ret (.some (.loc 212))] [],.asg (.sub (.loc 211) (ci 1)) (.bin .mod (.bin .add (.bin .mul (.sub (.loc 211) (ci 1)) (ci 39373)) (ci 7)) (ci 2147483647)),.ret (.some (.bin .mod (.bin .div (.bin .mod (.bin .mul (.sub (.loc 211) (ci 1)) (.sub (.loc 211) (ci 1))) (ci 2147483629)) (ci 32)) (.loc 213)))]⟩
noncomputable def JW : Fn := ⟨[214],[],[],[.ret (.some (.bin .mul (.call (.aH 36) [.lst [.loc 214]]) (ci 64)))]⟩
noncomputable def JX : Fn := ⟨[215],[],[],[.try_ [.exp (.call (.loc 215) [])] [((.aH 123),[.ret (.some (.cst (.str [109,105,115,117,115,101])))]),((.aH 37),[.ret (.some (.cst (.str [99,111,114,114,117,112,116])))]),((.aH 97),[.ret (.some (.cst (.str [98,117,115,121])))])],.ret (.some (.cst (.str [])))]⟩
noncomputable def JY : Fn := ⟨[217,117],[],[217,117],[.asg (.loc 216) (.lst []),.bE (.not_ (.meth (.dj 217) 125 [])) [.exp (.meth (.loc 216) 3 [.cmp (.call (.aH 218) [.lam [217] (.meth (.dj 217) 181 [ci 1,.call (.aH 219) [ci 9]])]) [.eq] [.cst (.str [109,105,115,117,115,101])]]),.exp (.meth (.loc 216) 3 [.cmp (.call (.aH 218) [.lam [217] (.meth (.dj 217) 182 [.call (.aH 43) [ci 64]])]) [.eq] [.cst (.str [109,105,115,117,115,101])]]),.exp (.meth (.loc 216) 3 [.cmp (.call (.aH 218) [.lam [217] (.meth (.dj 217) 4 [])]) [.eq] [.cst (.str [109,105,115,117,115,101])]]),.exp (.meth (.loc 216) 3 [.cmp (.call (.aH 218) [.lam [217] (.meth (.dj 217) 59 [ci 1])]) [.eq] [.cst (.str [109,105,115,117,115,101])]]),.exp (.meth (.loc 216) 3 [.cmp (.call (.aH 218) [.lam [217] (.meth (.dj 217) 183 [])]) [.eq] [.cst (.str [109,105,115,117,115,101])]]),.exp (.meth (.loc 216) 3 [.cmp (.call (.aH 218) [.lam [217] (.meth (.dj 217) 180 [])]) [.eq] [.cst (.str [109,105,115,117,115,101])]])] [.exp (.meth (.loc 216) 3 [.cmp (.call (.aH 218) [.lam [217] (.meth (.dj 217) 158 [])]) [.eq] [.cst (.str [109,105,115,117,115,101])]]),.exp (.meth (.loc 216) 3 [.cmp (.call (.aH 218) [.lam [217] (.meth (.dj 217) 181 [ci 1,.call (.aH 36) [ci 63]])]) [.eq] [.cst (.str [109,105,115,117,115,101])]]),.exp (.meth (.loc 216) 3 [.cmp (.call (.aH 218) [.lam [217,117] (.meth (.dj 217) 181 [.bin .add (.call (.aH 34) [.dj 117]) (ci 1),.call (.aH 219) [ci 9]])]) [.eq] [.cst (.str [99,111,114,114,117,112,116])]]),.exp (.meth (.loc 216) 3 [.cmp (.call (.aH 218) [.lam [217] (.meth (.dj 217) 59 [ci 0])]) [.eq] [.cst (.str [109,105,115,117,115,101])]]),.exp (.meth (.loc 216) 3 [.cmp (.call (.aH 218) [.lam [217,117] (.meth (.dj 217) 59 [.bin .add (.call (.aH 34) [.dj 117]) (ci 1)])]) [.eq] [.cst (.str [109,105,115,117,115,101])]])],.bE (.meth (.dj 217) 178 []) [.exp (.meth (.loc 216) 3 [.cmp (.call (.aH 218) [.lam [217] (.meth (.dj 217) 155 [ci 0])]) [.eq] [.cst (.str [99,111,114,114,117,112,116])]]),.exp (.meth (.loc 216) 3 [.cmp (.call (.aH 218) [.lam [217,117] (.meth (.dj 217) 155 [.bin .add (.call (.aH 34) [.dj 117]) (ci 1)])]) [.eq] [.cst (.str [99,111,114,114,117,112,116])]])] [.exp (.meth (.loc 216) 3 [.cmp (.call (.aH 218) [.lam [217] (.meth (.dj 217) 155 [ci 1])]) [.eq] [.cst (.str [109,105,115,117,115,101])]]),.exp (.meth (.loc 216) 3 [.cmp (.call (.aH 218) [.lam [217] (.meth (.dj 217) 25 [])]) [.eq] [.cst (.str [109,105,115,117,115,101])]]),.exp (.meth (.loc 216) 3 [.cmp (.call (.aH 218) [.lam [217] (.meth (.dj 217) 172 [])]) [.eq] [.cst (.str [109,105,115,117,115,101])]])],.exp (.meth (.loc 216) 3 [.cmp (.call (.aH 218) [.lam [217] (.meth (.dj 217) 131 [ci 0])]) [.eq] [.cst (.str [109,105,115,117,115,101])]]),.exp (.meth (.loc 216) 3 [.cmp (.call (.aH 218) [.lam [217] (.meth (.dj 217) 132 [ci 0])]) [.eq] [.cst (.str [109,105,115,117,115,101])]]),.ret (.some (.cmp (.cst (.bool false)) [.jL] [.loc 216]))]⟩
noncomputable def JZ : Fn := ⟨[217],[],[],[.asg (.loc 31) (.lst []),.for_ [16] (.call (.aH 41) [ci 1,.bin .add (.meth (.loc 217) 25 []) (ci 1)]) [.asg (.loc 19) (.iC (.meth (.loc 217) 155 [.loc 16]) (.some (.bin .mul (ci 32) (.call (.aH 18) [.cmp (.loc 16) [.eq] [ci 1]]))) .none),.exp (.meth (.loc 31) 3 [.ite_ (.cmp (.loc 19) [.eq] [.bin .mul (.iC (.loc 19) .none (.some (ci 1))) (.call (.aH 34) [.loc 19])]) (.sub (.loc 19) (ci 0)) (.neg (ci 1))])],.ret (.some (.loc 31))]⟩
noncomputable def J0 : Fn := ⟨[217,91,86,221],[],[217],[.asg (.loc 220) (.ite_ (.cmp (.sub (.loc 86) (ci 0)) [.eq] [.cst (.str [119,114,105,116,101,115])]) (.cst (.str [98,117,115,121])) (.cst (.str []))),.bE (.cmp (.call (.aH 218) [.lam [217] (.meth (.dj 217) 179 [])]) [.ne] [.loc 220]) [.ret (.some (.cst (.bool false)))] [],.bE (.cmp (.loc 220) [.eq] [.cst (.str [])]) [.ly [.sub (.loc 91) (ci 0),.sub (.loc 91) (ci 1)] [.cst (.str [119,114,105,116,101,115]),.ite_ (.cmp (.sub (.loc 91) (ci 0)) [.eq] [.cst (.str [105,100,108,101])]) (.loc 221) (.sub (.loc 91) (ci 1))]] [],.ret (.some (.cst (.bool true)))]⟩
noncomputable def J1 : Fn := ⟨[217,91,86,221],[],[217],[.bE (.and_ [.sub (.loc 91) (ci 2),.cmp (.sub (.loc 86) (ci 0)) [.ne] [.cst (.str [105,100,108,101])]]) [.ret (.some (.ite_ (.cmp (.call (.aH 218) [.lam [217] (.meth (.dj 217) 183 [])]) [.eq] [.cst (.str [98,117,115,121])]) (.loc 221) (.cst .none)))] [],.bE (.cmp (.call (.aH 218) [.lam [217] (.meth (.dj 217) 183 [])]) [.ne] [.cst (.str [])]) [.ret (.some (.cst .none))] [],.ly [.sub (.loc 91) (ci 0),.sub (.loc 91) (ci 2)] [.cst (.str [114,101,97,100,115]),.cst (.bool false)],.ret (.some (.sub (.loc 91) (ci 1)))]⟩
noncomputable def J2 : Fn := ⟨[211,217,91,86,221],[],[217],[.asg (.loc 222) (.call (.aH 223) [.loc 211,ci 8]),.bE (.cmp (.loc 222) [.eq] [ci 0]) [.bE (.cmp (.sub (.loc 91) (ci 0)) [.eq] [.cst (.str [105,100,108,101])]) [.ly [.sub (.loc 91) (ci 0),.sub (.loc 91) (ci 1)] [.cst (.str [114,101,97,100,115]),.loc 221]] [],.ret (.some (.ite_ (.cmp (.call (.aH 218) [.lam [217] (.meth (.dj 217) 157 [])]) [.eq] [.cst (.str [])]) (.loc 221) (.cst .none)))] [],.bE (.and_ [.cmp (.loc 222) [.lt] [ci 3],.cmp (.sub (.loc 91) (ci 0)) [.ne] [.cst (.str [119,114,105,116,101,115])]]) [.ret (.some (.ite_ (.call (.aH 224) [.dj 217,.loc 91,.loc 86,.loc 221]) (.loc 221) (.cst .none)))] [],.bE (.and_ [.cmp (.loc 222) [.lt] [ci 5],.cmp (.sub (.loc 91) (ci 0)) [.eq] [.cst (.str [119,114,105,116,101,115])]]) [.asg (.tup [16,214]) (.tup [.bin .add (ci 1) (.call (.aH 223) [.loc 211,.call (.aH 34) [.sub (.loc 91) (ci 1)]]),.call (.aH 223) [.loc 211,ci 256]]),.exp (.meth (.dj 217) 181 [.loc 16,.call (.aH 219) [.loc 214]]),.asg (.sub (.loc 91) (ci 1)) (.bin .add (.bin .add (.iC (.sub (.loc 91) (ci 1)) .none (.some (.bin .sub (.loc 16) (ci 1)))) (.lst [.loc 214])) (.iC (.sub (.loc 91) (ci 1)) (.some (.loc 16)) .none)),.asg (.sub (.loc 91) (ci 2)) (.cst (.bool true)),.ret (.some (.loc 221))] [],.bE (.and_ [.cmp (.loc 222) [.eq] [ci 5],.cmp (.sub (.loc 91) (ci 0)) [.eq] [.cst (.str [119,114,105,116,101,115])]]) [.ret (.some (.call (.aH 225) [.dj 217,.loc 91,.loc 86,.loc 221]))] [],.bE (.and_ [.cmp (.loc 222) [.eq] [ci 6],.cmp (.sub (.loc 91) (ci 0)) [.eq] [.cst (.str [119,114,105,116,101,115])]]) [.exp (.meth (.dj 217) 177 []),.ly [.sub (.loc 91) (ci 0),.sub (.loc 91) (ci 1),.sub (.loc 91) (ci 2)] [.cst (.str [114,101,97,100,115]),.loc 221,.cst (.bool false)],.ret (.some (.loc 221))] [],.bE (.and_ [.cmp (.loc 222) [.eq] [ci 7],.cmp (.sub (.loc 91) (ci 0)) [.eq] [.cst (.str [114,101,97,100,115])]]) [.exp (.meth (.dj 217) 158 []),.asg (.sub (.loc 91) (ci 0)) (.cst (.str [105,100,108,101])),.ret (.some (.loc 221))] [],.ret (.some (.ite_ (.call (.aH 226) [.dj 217,.sub (.loc 91) (ci 1)]) (.loc 221) (.cst .none)))]⟩
noncomputable def Az : Fn := ⟨[210],[],[],[.asg (.loc 211) (.call (.aH 227) [.loc 210]),.asg (.loc 52) (.call (.aH 228) [ci 8]),.asg (.loc 229) (.lst [.call (.aH 230) [.loc 52,.cst (.str [100,98]),ci 1,ci 64],.call (.aH 230) [.loc 52,.cst (.str [100,98]),ci 2,ci 64]]),.asg (.loc 221) (.lst [ci 7]),.exp (.meth (.sub (.loc 229) (ci 0)) 179 []),.exp (.meth (.sub (.loc 229) (ci 0)) 182 [.call (.aH 43) [ci 64]]),.exp (.meth (.sub (.loc 229) (ci 0)) 181 [ci 1,.call (.aH 219) [ci 7]]),.for_ [231] (.call (.aH 41) [.call (.aH 223) [.loc 211,ci 3]]) [.exp (.meth (.sub (.loc 229) (ci 0)) 181 [.meth (.sub (.loc 229) (ci 0)) 4 [],.call (.aH 219) [.loc 231]]),.asg (.loc 221) (.bin .add (.loc 221) (.lst [.loc 231]))],.exp (.meth (.sub (.loc 229) (ci 0)) 183 []),.exp (.meth (.sub (.loc 229) (ci 0)) 158 []),.asg (.loc 232) (.lst [.lst [.cst (.str [105,100,108,101]),.loc 221,.cst (.bool false)],.lst [.cst (.str [105,100,108,101]),.loc 221,.cst (.bool false)]]),.for_ [231] (.call (.aH 41) [.bin .add (ci 4) (.call (.aH 223) [.loc 211,ci 5])]) [.asg (.loc 233) (.call (.aH 223) [.loc 211,ci 2]),.asg (.loc 221) (.call (.aH 234) [.loc 211,.sub (.loc 229) (.loc 233),.sub (.loc 232) (.loc 233),.sub (.loc 232) (.bin .sub (ci 1) (.loc 233)),.loc 221]),.bE (.cmp (.loc 221) [.is_] [.cst .none]) [.ret (.some (.cst (.bool false)))] [],.for_ [20] (.call (.aH 41) [ci 2]) [.asg (.loc 235) (.sub (.loc 232) (.loc 20)),.bE (.cmp (.meth (.sub (.loc 229) (.loc 20)) 178 []) [.ne] [.cmp (.sub (.loc 235) (ci 0)) [.ne] [.cst (.str [105,100,108,101])]]) [.ret (.some (.cst (.bool false)))] [],.bE (.cmp (.meth (.sub (.loc 229) (.loc 20)) 125 []) [.ne] [.cmp (.sub (.loc 235) (ci 0)) [.eq] [.cst (.str [119,114,105,116,101,115])]]) [.ret (.some (.cst (.bool false)))] [],.bE (.and_ [.cmp (.sub (.loc 235) (ci 0)) [.ne] [.cst (.str [105,100,108,101])],.cmp (.call (.aH 236) [.sub (.loc 229) (.loc 20)]) [.ne] [.sub (.loc 235) (ci 1)]]) [.ret (.some (.cst (.bool false)))] []]],.ret (.some (.cst (.bool true)))]⟩
noncomputable def Oi : gU := ⟨[(8,false,35)],[10]⟩
noncomputable def Oj : gU := ⟨[(8,false,35)],[10]⟩
noncomputable def Ol : gU := ⟨[(8,false,35)],[10]⟩
noncomputable def Om : gU := ⟨[(8,false,35)],[10]⟩
noncomputable def Oo : gU := ⟨[(8,false,35)],[10]⟩
noncomputable def Oq : gU := ⟨[(8,false,35)],[10]⟩
noncomputable def J3 : gU := ⟨[(46,true,149),(45,false,144),(8,false,137)],[23,24,25,26,27,28,29,30]⟩
noncomputable def J4 : gU := ⟨[(67,false,215),(58,false,187),(78,false,243),(64,false,194),(75,false,208),(74,false,201),(8,false,180)],[52,53,23,49,54,55]⟩
noncomputable def J5 : gU := ⟨[(92,false,271),(98,false,299),(87,false,278),(108,false,306),(109,false,335),(100,false,285),(96,false,327),(93,false,313),(94,false,320),(107,false,292),(8,false,264)],[79,80,81]⟩
noncomputable def J6 : gU := ⟨[(69,false,421),(124,false,463),(131,false,470),(132,false,478),(121,false,428),(128,false,435),(127,false,414),(4,false,442),(74,false,407),(8,false,400)],[116,54,117,118]⟩
noncomputable def J7 : gU := ⟨[(160,false,633),(155,false,584),(120,false,577),(181,false,661),(178,false,507),(125,false,514),(131,false,752),(132,false,759),(25,false,591),(157,false,521),(59,false,682),(165,false,647),(167,false,654),(183,false,710),(158,false,556),(164,false,640),(174,false,724),(176,false,731),(161,false,626),(172,false,598),(148,false,528),(149,false,535),(151,false,549),(4,false,675),(179,false,605),(159,false,612),(182,false,668),(180,false,619),(147,false,563),(171,false,703),(177,false,738),(170,false,696),(173,false,717),(153,false,570),(8,false,500)],[52,53,82,23,133,58,134,135,136,137,138,139,140,72,142,143,144,145]⟩
noncomputable def J8 : gU := ⟨[(69,false,801),(17,false,794),(62,false,808),(67,false,822),(8,false,787)],[52,53,185,186,187]⟩
noncomputable def J9 : gU := ⟨[(190,false,865),(189,false,872),(57,false,886),(73,false,893),(70,false,879),(8,false,858)],[193,196,197,163,198,199,134]⟩
noncomputable def ctx : Ctx := ⟨[(34,(.bi .len)),(83,(.int (.lit (.ofNat 0)))),(218,(.fn 956)),(36,(.ty .bytes)),(18,(.ty .int)),(123,(.cls 87)),(40,(.fn 115)),(89,(.int (.lit (.ofNat 2)))),(33,(.fn 108)),(41,(.bi .range)),(223,(.fn 942)),(95,(.int (.lit (.ofNat 3)))),(35,(.int (.lit (.ofNat 32)))),(88,(.int (.lit (.ofNat 1)))),(43,(.cls 155)),(32,(.bytes [.lit [112,97,103,101,98,97,115,101]])),(219,(.fn 949)),(99,(.int (.lit (.ofNat 4)))),(37,(.cls 63)),(154,(.ty .str)),(191,(.fn 921)),(56,(.int (.lit (.ofNat 4294967295)))),(51,(.int (.lit (.ofNat 4294967296)))),(226,(.fn 963)),(234,(.fn 991)),(21,(.int (.lit (.ofNat 64)))),(22,(.int (.lit (.ofNat 32768)))),(44,(.fn 122)),(236,(.fn 970)),(97,(.cls 51)),(150,(.cls 246)),(224,(.fn 977)),(63,(.int (.lit (.ofNat 24)))),(66,(.fn 166)),(225,(.fn 984)),(168,(.bi .max)),(68,(.int (.lit (.ofNat 8)))),(126,(.bi .sorted)),(203,(.cls 839)),(188,(.ty .bytearray)),(61,(.bytes [.lit [112,98,106,111,117,114,110,108]])),(141,(.cls 481)),(230,(.cls 769)),(200,(.cls 381)),(228,(.cls 910)),(227,(.fn 935))],[[(752, JG), (640, Js), (528, Jd), (320, IV), (208, IG), (144, Iz), (400, IY)], [(865, JO), (577, Jj), (801, JK), (977, J0)], [(514, Jb), (306, IT), (626, Jq), (194, IE), (738, JF)], [(35, Oh), (115, Iv), (435, I4), (963, JY), (243, IJ), (675, Jx), (563, Jh), (787, JI)], [(724, JD), (180, IC), (612, Jo), (292, IQ), (500, I9)], [(421, I1), (661, Jv), (949, JW), (149, IA), (549, Jf)], [(278, IM), (822, JM), (886, JR), (710, JB), (470, I7), (598, Jm), (166, IB), (998, Az)], [(647, Jt), (759, JH), (327, IW), (535, Je), (215, II), (407, IZ), (935, JU)], [(584, Jk), (808, JL), (872, JP), (984, J1), (696, Jz), (264, IK)], [(633, Jr), (921, JT), (521, Jc), (137, Iy), (313, IU), (201, IF)], [(794, JJ), (682, Jy), (122, Iw), (970, JZ), (570, Ji), (442, I5), (858, JN)], [(299, IS), (507, Ja), (187, ID), (731, JE), (619, Jp)], [(956, JX), (108, Iu), (428, I3), (556, Jg), (668, Jw)], [(285, IP), (893, JS), (605, Jn), (717, JC)], [(654, Ju), (478, I8), (414, I0), (942, JV)], [(271, IL), (463, I6), (591, Jl), (335, IX), (991, J2), (879, JQ), (703, JA)]],[(38, Oi), (51, Oj), (63, Ol), (75, Om), (87, Oo), (99, Oq), (155, J3), (246, J4), (381, J5), (481, J6), (769, J7), (839, J8), (910, J9)], (.some 942), [(38,[38]),(51,[51,38]),(63,[63,38]),(75,[75,38]),(87,[87,38]),(99,[99,38])]⟩
noncomputable def Ot (l : List Nat) : List (List Nat) := List.rec (motive := fun J => List (List Nat)) [] (fun n J ih => Fo (nat_lit 128) (nat_lit 40) n :: ih) l
noncomputable def ni : List (List Nat) := Ot [4010727,3946480,2258351292435740308211,7863761909857,7863761976421,137245059796432884,2248623059704752109926,8376775553270,125959668179300319,484127475,1010717985403629,2063714772633704427487,70908893365435618644874575327199,311860945451106816150315192791040768591327199,264155559001101134852063,984055356665823,8342375987950,482260211,4011881,8380768661999,31329,62656045949072124536599557989068,489500358977125972942184048589,16570334700971356400,601134263515273059444018672739,2258495469091779375344,2175485134538341448038,2258495469091779344742,4445498709602702318315909619,3879159,36097565608746612294253045,61435901926,52499177677,2239389502449009900272,3912428,233411960114508442133192,65443544290,36702111431577687077730243,1072669631675118,233,2239389502449009898215,61689540850,8342379983592,8342379983560,34750510558811482018544105,494465264,8101318899573,125959666558119903,63556106228,61681154030,481947888,412395479,494728420,482046190,65730869219,481931507,1812790956987157653454,500791407,482030822,129429072431118708,479752936,3782964432428131340590081994,61716724087,14246335456178365128,271488363740683325469426,7864856408818,2194435071762891338482,477871347,119634550037243843,479752946,8380797844581,16484185387952534258,1041301640148970,7899732194020,64109540066,3748449,8413792172521,523794032,8002551395558,8378621211372,65474918003,2249054174193894766580,65175010287,414427086,1077102050407656,479933160,65174911599,1266384793943432900733263529264149736,6753203807315,110644633175122642,63564526316,482063597,129969965829567212,270114719732531837202676,4425564447045463166533955828,877911054983888,569274993946528422070985617652,17500930515098467010,17062972607260605168,14244083653697137733,4425559568097802103652235887,63578864607,513537651,16568082907077868645,494711021,513340644,4092651,72508447900392868520975255878255,494467052,8101348194165,479934440,481917286,1072669635852264,132797978711503603,65456091373,505149796,61712628339,65443328240,2249700475998079660275,17644443079223914739,62486557414,504984299,62522143460,286735245558686089540813,274975294914289878004835,2138584899414755113449,7861377480691,3749733,4012784,4012771,606258447851202006946512730223,1271416116428043991271853959784641266,162741262902789630882800614182605240306,289040723384695770478707,65455847404,481900525,1019756712325874,1019756746013047,1067828960393187,61691457763,1072223516914787,287822808696936185065680,16486467737629849578,1006254157363315,2258495469091779571938,130471788185071863,4697870263233512199270559952,2119993978233229439724,1067829499065074,34569842354785800244951020,1041301640148938,2119702348302940467947,16708269951604832101,36859010374277732478300902,3979891,16559603364402852594,273738858082257008914679,2109975773641090659042,128782701027735397,2120570492585078616308,35038574992011347747238638,16562452954959378412,61408375905,65466366579,35778851917687919478405231,4579692961441557075415626475,63578994803,129371901284662000,4075757,513601772,4715688897690742986949425527,287822808696944762613992,286641993602686965543666,603608178904415102841978058723,271433023050890079893091,1010962229885417,271433023050890085954284,132732005088180210,2138584828767632882153,271433023050892474708706,569274993946528422070998071276,2119629230643873479031,36690175181143931897936247,8412192274403,61714724451,7861341764851,1019756712538864,4061166,17997452381490330850,2194000557788030923875,504986227,2249695457414412581616,2249695457414412581603,8345097925363,136725602340976611,16707694595405560563,498857970,65443411174,137789691481586019,7861373006963,16562421993882318796,2240119105928040053059,17500930515071089350,129394155145983172,1072222432916579,136726154774887155,524040163,8411106029812,8380776838372,61417075949,8414063014387,7895196202995,64138803556,3946484,65711976943,496709859,479934452,65174892784,16493800033061729887,270114293583368504768095,3767012,513553131,4092151,16561855301695338079,2203651714714781120095,566471949388013256218408154719,4716739671790077095458666079,17068571694986720863,494728388,8380231577840,4696345963449782260154972114,501005044,8376773278323,3929207,16486437050367112799,61716593267,17855549547749078623,4059372,16566921784146622309]
noncomputable def qS : List Nat := [0,1,2,3,35,34,108,107,115,114,122,121,137,136,130,144,143,149,148,166,165,180,179,187,186,194,193,201,200,208,207,215,214,243,242,264,263,271,270,278,277,285,284,292,291,299,298,306,305,313,312,320,319,327,326,335,334,328,400,399,393,407,406,414,413,421,420,428,427,435,434,442,441,463,462,470,469,478,477,471,500,499,493,507,506,514,513,521,520,528,527,535,534,549,548,556,555,563,562,570,569,577,576,584,583,591,590,598,597,605,604,612,611,619,618,626,625,633,632,640,639,647,646,654,653,661,660,668,667,675,674,682,681,696,695,703,702,710,709,717,716,724,723,731,730,738,737,752,751,759,758,787,786,794,793,801,800,808,807,822,821,858,857,851,865,864,872,871,879,878,886,885,893,892,921,920,935,934,942,941,949,948,956,955,963,962,970,969,977,976,984,983,991,990,998,997,38,37,51,50,63,62,75,74,87,86,99,98,155,154,151,246,245,381,380,481,480,769,768,839,838,910,909]
noncomputable def yC : List (Nat × Nat) := [(148,146),(962,958),(976,972),(983,979),(990,986)]
end aD
end
section
open PySem PySem.Calls PyProof.Rows PySem.W
set_option maxRecDepth 100000
set_option maxHeartbeats 0
namespace aD
noncomputable def oI : Nat × E × List aD.S := match Az.body[(nat_lit 11)]? with
 | some (aD.S.for_ (t :: _) it b) => (t, it, b)
 | _ => (0, .emp, [])
noncomputable def b1 : List aD.S := oI.2.2.take (nat_lit 3)
noncomputable def b2 : List aD.S := oI.2.2.drop (nat_lit 3)
noncomputable def qT : iz ctx where
 a := nat_lit 998
 p := nat_lit 210
 sr := nat_lit 211
 gp := nat_lit 227
 ap := nat_lit 935
 dg := nat_lit 208
 mx := nat_lit 209
 nu := nat_lit 16
 sz := nat_lit 17
 cE := 41
 pre := (Az.body.drop (nat_lit 1)).take (nat_lit 10)
 t := nat_lit 231
 it := oI.2.1
 b1 := b1
 b2 := b2
 post := Az.body.drop (nat_lit 12)
theorem Ft : cu qT.a ctx.fns = some qT.fn := by kernel_rfl
theorem AA : cu qT.ap ctx.fns = some (gS qT.p qT.dg qT.mx qT.nu qT.sz qT.cE) := by kernel_rfl
theorem AB : cu (nat_lit 942) ctx.fns = some (eS (nat_lit 211) (nat_lit 213) (nat_lit 212)) := by kernel_rfl
theorem AD : af qT.gp ctx.glob = some (.fn qT.ap) := by kernel_rfl
theorem AE : yA ctx (nat_lit 942) (nat_lit 211) (nat_lit 213) (nat_lit 212) := ⟨by kernel_rfl, AB, by decide, by decide, by decide⟩
theorem yD : om ni = true := by kernel_rfl
theorem wh : lp (iZ ni) := ⟨yd yD, by kernel_rfl, by kernel_rfl, by kernel_rfl, by kernel_rfl, by kernel_rfl, by kernel_rfl, by kernel_rfl⟩
noncomputable def Fu : List (List Nat) := [[0,0,0,0,0],[1,1,1,1,1],[2,2,2,2,2]]
theorem C3 : tZ (bI ctx (nat_lit 100)) qT.pre qT.it (look mS P0) qT.start Fu = true := by kernel_rfl
theorem C4 (A : AS) : qD (bI ctx (nat_lit 100)) qT.post A = true := by kernel_rfl
noncomputable def Fv (p : LS × List Nat) : Bool := HV (nat_lit 231) p && jq (bI ctx (nat_lit 100)) b1 (nat_lit 1) (look mS P1) p
noncomputable def Ka (p : LS × List Nat) : Bool := jq (bI ctx (nat_lit 100)) b2 (nat_lit 0) (look mS P0) p
def Al (q : LS × List Nat → Bool) (l : List Nat) : Prop := ∀ k ∈ l, q (mS k) = true
theorem Mf {q} : Al q [] := fun J h => nomatch h
theorem Mh {q k l} (h : q (mS k) = true) (t : Al q l) : Al q (k :: l) := fun j hj => (List.mem_cons.mp hj).elim (fun e => e ▸ h) (t j)
def AL (q : LS × List Nat → Bool) (N : List (List Nat)) : Prop := ∀ l ∈ N, Al q l
theorem Mi {q} : AL q [] := fun J h => nomatch h
theorem Mj {q l N} (h : Al q l) (t : AL q N) : AL q (l :: N) := fun j hj => (List.mem_cons.mp hj).elim (fun e => e ▸ h) (t j)
theorem uh {q N} (h : AL q N) (p) (hp : p ∈ iY mS N) : q p = true := (List.mem_map.mp hp).elim fun k e => (List.mem_flatten.mp e.1).elim fun l m => e.2 ▸ h l m.1 k m.2
end aD
end
section
open PySem PySem.W PySem.W.X PySem.Calls PyProof.Rows
set_option maxRecDepth 100000
set_option maxHeartbeats 0
namespace aD
abbrev pw : Program := PySem.Challenge.pw_nt0139_02
noncomputable def f7 (tb : String → Option Builtin) (p : Program) (w : World) (n₀ : Nat) (ann : Option Value) : Nat → SharedT → Thread → Option SharedT
 | 0, _, _ => none
 | n + 1, s, t => match through t with
  | true => some s
  | false => match stepOk n₀ ann t with
   | false => none
   | true => match stepT (denote tb) p w s t with
    | some (s', t') => f7 tb p w n₀ ann n s' t'
    | none => none
theorem nj {tb : String → Option Builtin} {p : Program} {w : World} {n₀ : Nat} {ann : Option Value} : ∀ {n : Nat} {s s' : SharedT} {t : Thread},
 f7 tb p w n₀ ann n s t = some s' → topRun tb p w n₀ ann n s.abs t = some s'.abs
 | 0, _, _, _, h => by cases h
 | n + 1, s, s', t, h => by
  unfold f7 at h
  unfold topRun
  cases he : through t with
  | true => rw [he] at h; cases h; rfl
  | false =>
   rw [he] at h
   cases hk : stepOk n₀ ann t with
   | false => rw [hk] at h; cases h
   | true =>
    rw [hk] at h
    cases hs : stepT (denote tb) p w s t with
    | none => rw [hs] at h; cases h
    | some r => obtain ⟨gf, Ou⟩ := r; rw [hs] at h; rw [stepT_spec hs]; exact nj h
noncomputable def f9 (den : Code → Sem Fin) (p : Program) (w : World) (n₀ : Nat) (ann : Option Value) : Nat → SharedT → Thread → Option SharedT
 | 0, _, _ => none
 | n + 1, s, t => match through t with
  | true => some s
  | false => match Fast.tw6613529449190102663 n₀ ann t with
   | false => none
   | true => match Fast.tw10156331382660048174 den p w s t with
    | some (s', t') => f9 den p w n₀ ann n s' t'
    | none => none
theorem lq {p : Program} {w : World} {n₀ : Nat} {ann : Option Value} : ∀ (n : Nat) (s : SharedT) (t : Thread),
 f7 treeTable p w n₀ ann n s t = f9 (Fast.tw11892475500146522536 Fast.tw14364793385576792824) p w n₀ ann n s t
 | 0, _, _ => rfl
 | n + 1, s, t => by
  unfold f7 f9
  rw [← Fast.te6613529449190102663, ← Fast.te10156331382660048174, ← Fast.te11892475500146522536, ← Fast.te14364793385576792824]
  cases through t with
  | true => rfl
  | false =>
   cases stepOk n₀ ann t with
   | false => rfl
   | true =>
    cases stepT (denote treeTable) p w s t with
    | none => rfl
    | some r =>
     have := lq (p := p) (w := w) (n₀ := n₀) (ann := ann) n r.1 r.2
     rw [← Fast.te11892475500146522536, ← Fast.te14364793385576792824] at this
     exact this
noncomputable def nk (P : Params) : BT := .node (boot_o_0 P)
 (.node (boot_o_1 P) (.node (boot_o_3 P) (.node (boot_o_7 P) .nil .nil) .nil) (.node (boot_o_5 P) (.node (boot_o_9 P) .nil .nil) .nil))
 (.node (boot_o_2 P) (.node (boot_o_4 P) (.node (boot_o_8 P) .nil .nil) .nil) (.node (boot_o_6 P) (.node (boot_o_10 P) .nil .nil) .nil))
theorem qU (P : Params) : absHeap (nk P) 11 (boot_heap P).life = boot_heap P := by kernel_rfl
theorem wi {p q : Program} {loose : List Str} {Xt : Shared → Bool} {α : Type} {Yf : Shared → α} {Ya : World → α} {N M : Nat} {g0 : Bool} {life : Life}
 (open_ : ∀ w : World, (fencedOpening treeTable p w N).map (fun s => (s.heap, s.gens, s.drawn, s.toks)) = some (boot_heap w.params, #[], boot_drawn, boot_toks))
 (hl : ∀ P, (boot_heap P).life = life)
 (size : ∀ w : World, ((boot_heap w.params).isNs mainGlobals, (boot_heap w.params).nsMap mainGlobals "__annotations__") = (true, some (.ref 6)))
 (le : Nat.ble M N = true)
 (run : ∀ (w : World) (os : OsState), (f7 treeTable p w 11 (some (.ref 6)) M ⟨nk w.params, 11, life, #[], boot_drawn, boot_toks, os⟩ (topStub p)).map (fun s =>
  ((staticsOk (importedModules p.main.body) (boot_heap w.params) s.abs.heap && namesBound p s.abs.heap && gensDone s.abs && laidKept (boot_heap w.params) s.abs.heap),
   openSeen q loose (importedModules p.main.body) Xt g0 s.abs, Yf s.abs)) = some (true, openGood q loose, Ya w)) : LeftO p q loose Xt Yf Ya N g0 := fun w => by
 obtain ⟨⟨h, gs, d, k, os⟩, e, e'⟩ := Option.map_eq_some_iff.mp (open_ w)
 obtain ⟨rfl, rfl, rfl, rfl⟩ : h = boot_heap w.params ∧ gs = #[] ∧ d = boot_drawn ∧ k = boot_toks := by simpa using e'
 obtain ⟨z1, z3⟩ : _ ∧ _ := by simpa only [Prod.mk.injEq] using size w
 obtain ⟨aU, hr, FV⟩ := Option.map_eq_some_iff.mp (run w os)
 obtain ⟨l1, l2, l3⟩ : _ ∧ _ ∧ _ := by simpa only [Prod.mk.injEq] using FV
 have r0 := nj hr
 have hb : SharedT.abs ⟨nk w.params, 11, life, #[], boot_drawn, boot_toks, os⟩ = ⟨boot_heap w.params, #[], boot_drawn, boot_toks, os⟩ := by
  unfold SharedT.abs
  rw [← hl w.params]
  dsimp only
  rw [qU]
 rw [hb] at r0
 have r := topRun_mono (N - M) _ _ _ _ r0
 rw [show M + (N - M) = N by have := Nat.le_of_ble_eq_true le; omega] at r
 have rD : (boot_heap w.params).objs.size = 11 := by rw [← qU, absHeap_size]
 have t : topFrom treeTable p w N ⟨boot_heap w.params, #[], boot_drawn, boot_toks, os⟩ = some aU.abs := by
  unfold topFrom
  dsimp only
  rw [z1, z3, rD, r]
  show (match staticsOk (importedModules p.main.body) (boot_heap w.params) aU.abs.heap && namesBound p aU.abs.heap && gensDone aU.abs && laidKept (boot_heap w.params) aU.abs.heap with | true => _ | false => _) = _
  rw [l1]
 unfold openEnds
 rw [e]
 show (topFrom treeTable p w N _).map _ = _
 rw [t]
 exact congrArg some (Prod.ext l2 l3)
end aD
end
section
open PySem PySem.W PySem.W.X PySem.Calls PyProof.Rows
set_option maxRecDepth 100000
set_option maxHeartbeats 0
namespace aD
noncomputable def qv : Program := { pw with main := { pw.main with body := pw.main.body.drop 51 } }
noncomputable def lo : List Str := (pw.main.scope.names.map (·.1)).filter fun n => n != Str.ofString "law"
noncomputable def ui : Life := (boot_heap { strHash := fun J => 0, shareClass := fun a => a, mergeTok := id, idOf := fun a => a, idOfShared := fun J J => 0, followText := fun J => false, idOfImm := fun J => 0 }).life
theorem AF (P : Params) : (boot_heap P).life = ui := by kernel_rfl
noncomputable def Y2 (s : Shared) : Bool := fL s.heap qS ni ctx yC (Str.ofString "law") (nat_lit 998)
noncomputable def AG (s : SharedT) (a : Nat) : Option Obj := Bool.rec (motive := fun J => Option Obj) none (alive ((s.tree.get a).getD default)) (Nat.blt a s.n)
theorem AH (s : SharedT) (a : Nat) : s.abs.heap.get? a = AG s a := by
 show (absHeap s.tree s.n s.life).get? a = _
 unfold Heap.get?
 rw [absHeap_at]
 by_cases h : a < s.n
 ·rw [if_pos h, show AG s a = alive ((s.tree.get a).getD default) from C7 (Nat.blt_eq.mpr h)]
  generalize (s.tree.get a).getD default = o
  obtain ⟨c, d, dt, sl⟩ := o
  cases dt <;> rfl
 ·rw [if_neg h, show AG s a = none from C8 fun z => h (Nat.blt_eq.mp z)]
noncomputable def lr (s : SharedT) : Frag := qS.filterMap fun a => (AG s a).map fun o => (a, o)
theorem AI (s : SharedT) : fragOf s.abs.heap qS = lr s := congrArg (fun f => qS.filterMap f) (funext fun a => congrArg (Option.map fun o => (a, o)) (AH s a))
noncomputable def Fw (s : SharedT) : Bool := ctx.fns.all fun l => l.all fun x => qJ (lr s) (iZ ni) (yC.map (·.2)) x.1 x.2
noncomputable def BG (s : SharedT) : Bool := i6 (lr s) (iZ ni) (yC.map (·.2)) { ctx with fns := [] } && F2 (findCls (lr s) (.type "int") (.type "type") "from_bytes") && qG (nsIn (lr s) mainGlobals (Str.ofString "law")) (nat_lit 998) && yC.all (Aw s.abs.heap (lr s) qS)
theorem Fx {s : SharedT} (h : Fw s = true) (k : BG s = true) : Y2 s.abs = true := by
 unfold Y2 fL i6
 rw [AI, show (ctx.fns.all fun l => l.all fun x => qJ (lr s) (iZ ni) (yC.map (·.2)) x.1 x.2) = true from h]
 exact k
theorem Kb (w : World) (os : OsState) : (f9 (Fast.tw11892475500146522536 Fast.tw14364793385576792824) pw w 11 (some (.ref 6)) 6900 ⟨nk w.params, 11, ui, #[], boot_drawn, boot_toks, os⟩ (topStub pw)).map (fun s => Fw s) = some true := by kernel_rfl
theorem Kg (w : World) (os : OsState) : (f9 (Fast.tw11892475500146522536 Fast.tw14364793385576792824) pw w 11 (some (.ref 6)) 6900 ⟨nk w.params, 11, ui, #[], boot_drawn, boot_toks, os⟩ (topStub pw)).map (fun s =>
 ((staticsOk (importedModules pw.main.body) (boot_heap w.params) s.abs.heap && namesBound pw s.abs.heap && gensDone s.abs && laidKept (boot_heap w.params) s.abs.heap),
  Fast.tw4187177175401517315 qv lo (importedModules pw.main.body) (fun J => true) true s.abs, BG s)) = some (true, openGood qv lo, true) := by kernel_rfl
theorem Kh {α β γ : Type} {o : Option α} {f : α → β} {g : α → γ} {a b c d} {p q t : α → Bool} (h1 : o.map (fun s => (f s, g s, p s)) = some (a, b, c)) (h2 : o.map q = some d) (h : ∀ s, p s = c → q s = d → t s = true) : o.map (fun s => (f s, g s, t s)) = some (a, b, true) := by
 cases o with
 | none => cases h1
 | some s =>
  cases h1; cases h2
  show some (f s, g s, t s) = _
  rw [h s rfl rfl]
theorem Fy (w : World) (os : OsState) : (f9 (Fast.tw11892475500146522536 Fast.tw14364793385576792824) pw w 11 (some (.ref 6)) 6900 ⟨nk w.params, 11, ui, #[], boot_drawn, boot_toks, os⟩ (topStub pw)).map (fun s =>
 ((staticsOk (importedModules pw.main.body) (boot_heap w.params) s.abs.heap && namesBound pw s.abs.heap && gensDone s.abs && laidKept (boot_heap w.params) s.abs.heap),
  Fast.tw4187177175401517315 qv lo (importedModules pw.main.body) (fun J => true) true s.abs, Y2 s.abs)) = some (true, openGood qv lo, true) :=
 Kh (Kg w os) (Kb w os) fun s h1 h2 => Fx h2 h1
theorem AJ : opening pw = plainProg pw.main.scope.names := by rfl
theorem AK (s : Shared) : fenceModules? pw s = some s := by rfl
theorem Fz (w : World) : ((boot_heap w.params).isNs mainGlobals, (boot_heap w.params).nsMap mainGlobals "__annotations__") = (true, some (.ref 6)) := by kernel_rfl
theorem C5 : LeftO pw qv lo (fun J => true) Y2 (fun J => true) 6900 := by
 refine wi (M := 6900) (boot_open AJ (by decide) AK) AF Fz (by decide) fun w os => ?_
 rw [lq, Fast.te4187177175401517315]
 exact Fy w os
end aD
end
section
open PySem PySem.Calls PyProof.Rows PySem.W
set_option maxRecDepth 100000
set_option maxHeartbeats 0
namespace aD
theorem yE : AL Fv P0 := by
 delta P0
 repeat refine Mj (by (repeat refine Mh (by decide +kernel) ?_); exact Mf) ?_
 exact Mi
theorem AM : AL Ka P1 := by
 delta P1
 repeat refine Mj (by (repeat refine Mh (by decide +kernel) ?_); exact Mf) ?_
 exact Mi
theorem C6 : ug qT 87 mS P0 P1 Fu where
 fn := Ft
 nt := by show some 942 ≠ some 998; decide
 np := by show some 942 ≠ some 935; decide
 gp := AD
 Fb := AA
 d1 := by show 208 ≠ 209; decide
 d2 := by show 208 ≠ 17; decide
 d3 := by show 209 ≠ 17; decide
 d4 := by show 208 ≠ 16; decide
 d5 := by show 209 ≠ 16; decide
 d6 := by show 210 ≠ 208; decide
 d7 := by show 210 ≠ 209; decide
 d8 := by show 211 ≠ 210; decide
 s0 := by show (0 : Int) ≤ 41; decide
 s1 := by show (41 : Int) < 2147483647; decide
 pre := C3
 turn := fun p h => ao (uh yE p h)
 mid := uh AM
 post := fun p J => C4 p.1.as
end aD
end
open PySem PySem.W PySem.W.X PySem.Calls PyProof.Rows
set_option maxRecDepth 100000
set_option maxHeartbeats 0
namespace aD
theorem FA (said : oK.row.wellSaid = true) : oK.row.Holds :=
 yz (l := oK) (q := qv) (loose := lo) C5 (by rfl) (by rfl) (by rfl) said (by decide +kernel) ⟨rfl, rfl, rfl, rfl, rfl, by decide +kernel⟩ ⟨[.list [.int 3, .int 1]], by decide +kernel, by decide +kernel⟩
  (fun w aE aU mg mb hg hb hl Bq y args vs bs hp lS L => Ay (l := oK) rfl rfl qT C6 wh AE (by decide) w aE aU mg mb hg hb hl Bq y args vs bs hp lS L)
end aD
theorem PySem.Challenge.cw_nt0139_02_holds : PySem.Challenge.rw_nt0139_02.Holds :=
 holds_law aD.BH aD.FA
