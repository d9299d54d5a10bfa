import PyProof.Rows.All
import Wide.All
import OpenK.AllK
import Wide.FinOn
import Lean
import PySem.Challenge.RW_oj0056_01
set_option linter.all false
set_option Elab.async false
set_option maxRecDepth 100000
set_option genSizeOf false
set_option genInjectivity false
set_option tactic.hygienic false
set_option genCtorIdx false
set_option bootstrap.genMatcherCode false
namespace Mine
theorem sI {α : Type} {a b : α} (h : some a = some b) : a = b:=Option.some.inj h
theorem nS {α : Type} {a : α} {C : Prop} (h : none = some a) : C:=nomatch h
theorem sN {α : Type} {a : α} {C : Prop} (h : some a = none) : C:=nomatch h
theorem fT {C : Prop} (h : false = true) : C:=nomatch h
theorem tF {C : Prop} (h : true = false) : C:=nomatch h
theorem nM {α : Type} {a : α} {C : Prop} (h : a ∈ []) : C:=nomatch h
theorem nL {n : Nat} {C : Prop} (h : n < 0) : C:=nomatch h
theorem cN {α : Type} {a : α} {l : List α} {C : Prop} (h : a :: l = []) : C:=nomatch h
theorem nC {α : Type} {a : α} {l : List α} {C : Prop} (h : [] = a :: l) : C:=nomatch h
theorem cI {α : Type} {a b : α} {l r : List α} (h : a :: l = b :: r) : a = b ∧ l = r:=List.cons.inj h
theorem pI {α β : Type} {a b : α} {l r : β} (h : (a,l) = (b,r)) : a = b ∧ l = r:=Prod.mk.inj h
theorem memc {α : Type} {a b : α} {l : List α} (h : a ∈ b :: l) : a = b ∨ a ∈ l:=List.mem_cons.mp h
theorem mems {α : Type} {a b : α} (h : a ∈ [b]) : a = b:=List.mem_singleton.mp h
theorem mapS {α β : Type} {f : α → β} {o : Option α} {b : β} (h : o.map f = some b) : ∃ a,o = some a ∧ f a = b:=Option.map_eq_some_iff.mp h
theorem binS {α β : Type} {f : α → Option β} {o : Option α} {b : β} (h : o.bind f = some b) : ∃ a,o = some a ∧ f a = some b:=Option.bind_eq_some_iff.mp h
theorem allT {α : Type} {f : α → Bool} {l : List α} (h : l.all f = true) : ∀ x,x ∈ l → f x = true:=List.all_eq_true.mp h
theorem memM {α β : Type} {f : α → β} {l : List α} {b : β} (h : b ∈ l.map f) : ∃ a,a ∈ l ∧ f a = b:=List.mem_map.mp h
theorem lenP {α : Type} {l : List α} (h : l ≠ []) : 0 < l.length:=List.length_pos_iff.mpr h
theorem memA {α : Type} {a : α} {l r : List α} (h : a ∈ l ++ r) : a ∈ l ∨ a ∈ r:=List.mem_append.mp h
theorem len0 {α : Type} {l : List α} (h : l.length = 0) : l = []:=List.length_eq_zero_iff.mp h
theorem nlt {a b : Nat} (h : b ≤ a) : ¬ a < b:=Nat.not_lt.mpr h
theorem gG {G : Prop} (k : ∀ P : Prop,(G → P) → P) : G:=k G id
abbrev Tx:=List Nat
inductive V where
 | none
 | bool (b : Bool)
 | int (i : Int)
 | str (s : Tx)
 | tup (vs : List V)
 | lst (vs : List V)
 | dct (ks : List Tx) (vs : List V)
 | exc (t : Tx) (c : List Tx)
 | pen
inductive Sl where
 | un
 | val (v : V)
 | own (xs : List V)
 | ownD (kv : List (Int × V))
noncomputable def Sl.isOwn : Sl → Bool
 | .own _=>true
 | .ownD _=>true
 | _=>false
set_option genCtorIdx true in
inductive Op where | add | sub | mul | fdiv | mod | band | shl | shr | pow
set_option genCtorIdx true in
inductive Cp where | eq | ne | lt | le | gt | ge | inn | nin | is | nis
set_option genCtorIdx true in
inductive Bi where | len | ord | chr | str | abs | max | min | sum | upper | lower | index | join
inductive CE where
 | lit (v : V)
 | var (i : Nat)
 | bin (o : Op) (a b : CE)
 | neg (a : CE)
 | not (a : CE)
 | and (a b : CE)
 | or (a b : CE)
 | ite (t a b : CE)
 | cmp (a : CE) (o : Cp) (b : CE)
 | cmp2 (a : CE) (o : Cp) (b : CE) (o' : Cp) (c : CE)
 | call (f : Nat) (as : CE)
 | bi (b : Bi) (as : CE)
 | meth (b : Bi) (o as : CE)
 | joinv (i : Nat)
 | item (a i : CE)
 | itemD (i : Nat) (k : CE)
 | slc (a lo hi : CE)
 | tup (es : CE)
 | lst (es : CE)
 | dct (ks : List Tx) (vs : List V)
 | cmpr (j : Nat) (n elt cnd : CE)
 | nil
 | cons (a r : CE)
inductive CS where
 | done
 | asg (i : Nat) (e : CE) (k : CS)
 | asgT (is : List Nat) (e : CE) (k : CS)
 | newL (i : Nat) (k : CS)
 | newD (i : Nat) (k : CS)
 | app (i : Nat) (e : CE) (k : CS)
 | rev (i : Nat) (k : CS)
 | setD (i : Nat) (ke ve : CE) (k : CS)
 | setP (i : Nat) (e : CE) (k : CS)
 | aug (i : Nat) (o : Op) (e : CE) (k : CS)
 | ifs (t : CE) (b o k : CS)
 | whl (t : CE) (b k : CS)
 | for1 (i : Nat) (e : CE) (b k : CS)
 | for2 (i j : Nat) (e : CE) (b k : CS)
 | ret (e : CE)
 | retO (i : Nat)
 | rai (e : CE)
 | brk
 | cont
 | exp (e : CE) (k : CS)
set_option genCtorIdx true in
inductive RE (α : Type) where
 | ok (a : α) (p : Int)
 | exc (t : Tx) (c : List Tx) (p : Int)
 | fail
noncomputable def RE.bind {α β : Type} : RE α → (α → Int → RE β) → RE β
 | .ok a p,f=>f a p
 | .exc t c p,_=>.exc t c p
 | .fail,_=>.fail
noncomputable def RE.ofO {α : Type} (o : Option α) (p : Int) : RE α:=match o with | some a=>.ok a p | .none=>.fail
set_option genCtorIdx true in
inductive Fl where | next | brk | cont | ret (v : V)
set_option genCtorIdx true in
inductive RS where
 | ok (f : Fl) (vs : List Sl) (p : Int)
 | exc (t : Tx) (c : List Tx) (p : Int)
 | fail
noncomputable def RS.next : RS → (List Sl → Int → RS) → RS
 | .ok .next vs p,f=>f vs p
 | .ok g vs p,_=>.ok g vs p
 | .exc t c p,_=>.exc t c p
 | .fail,_=>.fail
noncomputable def RE.bindS {α : Type} : RE α → (α → Int → RS) → RS
 | .ok a p,f=>f a p
 | .exc t c p,_=>.exc t c p
 | .fail,_=>.fail
noncomputable def SZ : Nat:=16777216
noncomputable def sz {α β : Type} (l : List α) (x : β) : Option β:=if l.length ≤ SZ then some x else .none
noncomputable def itx (i : Int) : Tx:=(toString i).toList.map Char.toNat
noncomputable def mulT (s : Tx) (n : Int) : Tx:=(List.replicate n.toNat s).flatten
inductive Ex2 {α0 α1 : Type} (P : α0 → α1 → Prop) : Prop where | mk (x0 : α0) (x1 : α1) (h : P x0 x1)
inductive Ex3 {α0 α1 α2 : Type} (P : α0 → α1 → α2 → Prop) : Prop where | mk (x0 : α0) (x1 : α1) (x2 : α2) (h : P x0 x1 x2)
inductive Ex4 {α0 α1 α2 α3 : Type} (P : α0 → α1 → α2 → α3 → Prop) : Prop where | mk (x0 : α0) (x1 : α1) (x2 : α2) (x3 : α3) (h : P x0 x1 x2 x3)
inductive Ex5 {α0 α1 α2 α3 α4 : Type} (P : α0 → α1 → α2 → α3 → α4 → Prop) : Prop where | mk (x0 : α0) (x1 : α1) (x2 : α2) (x3 : α3) (x4 : α4) (h : P x0 x1 x2 x3 x4)
inductive Ex6 {α0 α1 α2 α3 α4 α5 : Type} (P : α0 → α1 → α2 → α3 → α4 → α5 → Prop) : Prop where | mk (x0 : α0) (x1 : α1) (x2 : α2) (x3 : α3) (x4 : α4) (x5 : α5) (h : P x0 x1 x2 x3 x4 x5)
inductive Ex7 {α0 α1 α2 α3 α4 α5 α6 : Type} (P : α0 → α1 → α2 → α3 → α4 → α5 → α6 → Prop) : Prop where | mk (x0 : α0) (x1 : α1) (x2 : α2) (x3 : α3) (x4 : α4) (x5 : α5) (x6 : α6) (h : P x0 x1 x2 x3 x4 x5 x6)
inductive Ex8 {α0 α1 α2 α3 α4 α5 α6 α7 : Type} (P : α0 → α1 → α2 → α3 → α4 → α5 → α6 → α7 → Prop) : Prop where | mk (x0 : α0) (x1 : α1) (x2 : α2) (x3 : α3) (x4 : α4) (x5 : α5) (x6 : α6) (x7 : α7) (h : P x0 x1 x2 x3 x4 x5 x6 x7)
inductive A3 (p0 p1 p2 : Prop) : Prop where | mk (h0 : p0) (h1 : p1) (h2 : p2)
inductive A4 (p0 p1 p2 p3 : Prop) : Prop where | mk (h0 : p0) (h1 : p1) (h2 : p2) (h3 : p3)
inductive A5 (p0 p1 p2 p3 p4 : Prop) : Prop where | mk (h0 : p0) (h1 : p1) (h2 : p2) (h3 : p3) (h4 : p4)
inductive A6 (p0 p1 p2 p3 p4 p5 : Prop) : Prop where | mk (h0 : p0) (h1 : p1) (h2 : p2) (h3 : p3) (h4 : p4) (h5 : p5)
inductive A7 (p0 p1 p2 p3 p4 p5 p6 : Prop) : Prop where | mk (h0 : p0) (h1 : p1) (h2 : p2) (h3 : p3) (h4 : p4) (h5 : p5) (h6 : p6)
inductive A8 (p0 p1 p2 p3 p4 p5 p6 p7 : Prop) : Prop where | mk (h0 : p0) (h1 : p1) (h2 : p2) (h3 : p3) (h4 : p4) (h5 : p5) (h6 : p6) (h7 : p7)
inductive A9 (p0 p1 p2 p3 p4 p5 p6 p7 p8 : Prop) : Prop where | mk (h0 : p0) (h1 : p1) (h2 : p2) (h3 : p3) (h4 : p4) (h5 : p5) (h6 : p6) (h7 : p7) (h8 : p8)
inductive A10 (p0 p1 p2 p3 p4 p5 p6 p7 p8 p9 : Prop) : Prop where | mk (h0 : p0) (h1 : p1) (h2 : p2) (h3 : p3) (h4 : p4) (h5 : p5) (h6 : p6) (h7 : p7) (h8 : p8) (h9 : p9)
theorem okI {α : Type} {a b : α} {p q : Int} (h : RE.ok a p = RE.ok b q) : a = b ∧ p = q:=by cases h;exact ⟨rfl,rfl⟩
theorem excI {α : Type} {t u : Tx} {c d : List Tx} {p q : Int} (h : (RE.exc t c p : RE α) = RE.exc u d q) : A3 (t = u) (c = d) (p = q):=by cases h;exact ⟨rfl,rfl,rfl⟩
theorem fOk {α : Type} {a : α} {p : Int} {C : Prop} (h : RE.fail = RE.ok a p) : C:=nomatch h
theorem okF {α : Type} {a : α} {p : Int} {C : Prop} (h : RE.ok a p = RE.fail) : C:=nomatch h
theorem eOk {α : Type} {a : α} {t : Tx} {c : List Tx} {p q : Int} {C : Prop} (h : RE.exc t c q = RE.ok a p) : C:=nomatch h
theorem okE {α : Type} {a : α} {t : Tx} {c : List Tx} {p q : Int} {C : Prop} (h : RE.ok a p = RE.exc t c q) : C:=nomatch h
theorem rsI {f g : Fl} {vs us : List Sl} {p q : Int} (h : RS.ok f vs p = RS.ok g us q) : A3 (f = g) (vs = us) (p = q):=by cases h;exact ⟨rfl,rfl,rfl⟩
theorem sstI {a b : Tx} (h : V.str a = V.str b) : a = b:=by cases h;rfl
theorem intI {a b : Int} (h : V.int a = V.int b) : a = b:=by cases h;rfl
theorem booI {a b : Bool} (h : V.bool a = V.bool b) : a = b:=by cases h;rfl
theorem lstI {a b : List V} (h : V.lst a = V.lst b) : a = b:=by cases h;rfl
theorem tupI {a b : List V} (h : V.tup a = V.tup b) : a = b:=by cases h;rfl
theorem valI {a b : V} (h : Sl.val a = Sl.val b) : a = b:=by cases h;rfl
theorem ownI {a b : List V} (h : Sl.own a = Sl.own b) : a = b:=by cases h;rfl
theorem byG {P : Prop} (h : ∀ G : Prop,(P → G) → G) : P:=h P id
theorem no3 {α : Type} {A C : Prop} {r : α} (_ : A) (h : Option.none = some r) : C:=nomatch h
noncomputable def n1 {α β : Type} (_ : α) : Option β:=.none
noncomputable def n2 {α β γ : Type} (_ : α) (_ : β) : Option γ:=.none
section
variable {α β : Type} {C : Prop}
noncomputable def vN (f : Option α) (v : V) : Option α:=V.casesOn (motive_1:=fun Z=>Option α) v f (fun Z=>.none) (fun Z=>.none) (fun Z=>.none) (fun Z=>.none) (fun Z=>.none) (fun Z Z=>.none) (fun Z Z=>.none) .none
theorem vN_inv {f : Option α} {v : V} {r : α} (h : vN f v = some r) (k : v = .none → f = some r → C) : C:=V.casesOn (motive_1:=fun y=>v = y → vN f y = some r → C) v k (fun Z=>no3) (fun Z=>no3) (fun Z=>no3) (fun Z=>no3) (fun Z=>no3) (fun Z Z=>no3) (fun Z Z=>no3) no3 rfl h
noncomputable def vI (f : Int → Option α) (v : V) : Option α:=V.casesOn (motive_1:=fun Z=>Option α) v .none (fun Z=>.none) f (fun Z=>.none) (fun Z=>.none) (fun Z=>.none) (fun Z Z=>.none) (fun Z Z=>.none) .none
theorem vI_inv {f : Int → Option α} {v : V} {r : α} (h : vI f v = some r) (k : ∀ x,v = .int x → f x = some r → C) : C:=V.casesOn (motive_1:=fun y=>v = y → vI f y = some r → C) v no3 (fun Z=>no3) k (fun Z=>no3) (fun Z=>no3) (fun Z=>no3) (fun Z Z=>no3) (fun Z Z=>no3) no3 rfl h
noncomputable def vS (f : Tx → Option α) (v : V) : Option α:=V.casesOn (motive_1:=fun Z=>Option α) v .none (fun Z=>.none) (fun Z=>.none) f (fun Z=>.none) (fun Z=>.none) (fun Z Z=>.none) (fun Z Z=>.none) .none
theorem vS_inv {f : Tx → Option α} {v : V} {r : α} (h : vS f v = some r) (k : ∀ x,v = .str x → f x = some r → C) : C:=V.casesOn (motive_1:=fun y=>v = y → vS f y = some r → C) v no3 (fun Z=>no3) (fun Z=>no3) k (fun Z=>no3) (fun Z=>no3) (fun Z Z=>no3) (fun Z Z=>no3) no3 rfl h
noncomputable def vT (f : List V → Option α) (v : V) : Option α:=V.casesOn (motive_1:=fun Z=>Option α) v .none (fun Z=>.none) (fun Z=>.none) (fun Z=>.none) f (fun Z=>.none) (fun Z Z=>.none) (fun Z Z=>.none) .none
theorem vT_inv {f : List V → Option α} {v : V} {r : α} (h : vT f v = some r) (k : ∀ x,v = .tup x → f x = some r → C) : C:=V.casesOn (motive_1:=fun y=>v = y → vT f y = some r → C) v no3 (fun Z=>no3) (fun Z=>no3) (fun Z=>no3) k (fun Z=>no3) (fun Z Z=>no3) (fun Z Z=>no3) no3 rfl h
noncomputable def vL (f : List V → Option α) (v : V) : Option α:=V.casesOn (motive_1:=fun Z=>Option α) v .none (fun Z=>.none) (fun Z=>.none) (fun Z=>.none) (fun Z=>.none) f (fun Z Z=>.none) (fun Z Z=>.none) .none
theorem vL_inv {f : List V → Option α} {v : V} {r : α} (h : vL f v = some r) (k : ∀ x,v = .lst x → f x = some r → C) : C:=V.casesOn (motive_1:=fun y=>v = y → vL f y = some r → C) v no3 (fun Z=>no3) (fun Z=>no3) (fun Z=>no3) (fun Z=>no3) k (fun Z Z=>no3) (fun Z Z=>no3) no3 rfl h
noncomputable def vC (n : Option α) (i : Int → Option α) (s : Tx → Option α) (t l : List V → Option α) (d : List Tx → List V → Option α) (p : Option α) (v : V) : Option α:=V.casesOn (motive_1:=fun Z=>Option α) v n n1 i s t l d n2 p
theorem vC_inv {n : Option α} {i : Int → Option α} {s : Tx → Option α} {t l : List V → Option α} {d : List Tx → List V → Option α} {p : Option α} {v : V} {r : α} (h : vC n i s t l d p v = some r) (kn : v = .none → n = some r → C) (ki : ∀ x,v = .int x → i x = some r → C) (ks : ∀ x,v = .str x → s x = some r → C) (kt : ∀ x,v = .tup x → t x = some r → C) (kl : ∀ x,v = .lst x → l x = some r → C) (kd : ∀ x y,v = .dct x y → d x y = some r → C) (kp : v = .pen → p = some r → C) : C :=
 V.casesOn (motive_1:=fun y=>v = y → vC n i s t l d p y = some r → C) v kn (fun Z=>no3) ki ks kt kl kd (fun Z Z=>no3) kp rfl h
theorem vX {A : Prop} {r : β} (_ : α) (_ : A) (h : (Option.none : Option β) = some r) : C:=nomatch h
noncomputable def o0 (r : Option β) (l : List α) : Option β:=List.casesOn (motive:=fun Z=>Option β) l r n2
theorem o0_inv {b : Option β} {l : List α} {r : β} (h : o0 b l = some r) (k : l = [] → b = some r → C) : C:=List.casesOn (motive:=fun y=>l = y → o0 b y = some r → C) l k (fun Z Z=>no3) rfl h
noncomputable def oC (f : α → List α → Option β) (l : List α) : Option β:=List.casesOn (motive:=fun Z=>Option β) l .none f
theorem oC_inv {f : α → List α → Option β} {l : List α} {r : β} (h : oC f l = some r) (k : ∀ a t,l = a :: t → f a t = some r → C) : C:=List.casesOn (motive:=fun y=>l = y → oC f y = some r → C) l no3 k rfl h
noncomputable def o1 (f : α → Option β) : List α → Option β:=oC fun a t=>o0 (f a) t
theorem o1_inv {f : α → Option β} {l : List α} {r : β} (h : o1 f l = some r) (k : ∀ a,l = [a] → f a = some r → C) : C:=oC_inv h fun a Z e h=>o0_inv h fun e2 h=>k a (e.trans (congrArg (List.cons a) e2)) h
noncomputable def o2 (f : α → α → Option β) : List α → Option β:=oC fun a t=>o1 (f a) t
theorem o2_inv {f : α → α → Option β} {l : List α} {r : β} (h : o2 f l = some r) (k : ∀ a b,l = [a,b] → f a b = some r → C) : C:=oC_inv h fun a Z e h=>o1_inv h fun b e2 h=>k a b (e.trans (congrArg (List.cons a) e2)) h
noncomputable def o3 (f : α → α → α → Option β) : List α → Option β:=oC fun a t=>o2 (f a) t
theorem o3_inv {f : α → α → α → Option β} {l : List α} {r : β} (h : o3 f l = some r) (k : ∀ a b c,l = [a,b,c] → f a b c = some r → C) : C:=oC_inv h fun a Z e h=>o2_inv h fun b c e2 h=>k a b c (e.trans (congrArg (List.cons a) e2)) h
theorem if_inv {c : Prop} [Decidable c] {a : Option β} {r : β} (h : (if c then a else .none) = some r) : c ∧ a = some r:=by
 by_cases hc : c
 ·rw [if_pos hc] at h;exact ⟨hc,h⟩
 ·rw [if_neg hc] at h;exact nS h
end
noncomputable def binV (o : Op) (a b : V) : Option V:=match o with
 | .add=>vC .none (fun x=>vI (fun y=>some (.int (x + y))) b) (fun x=>vS (fun y=>if x.length + y.length ≤ SZ then some (.str (x ++ y)) else .none) b) n1 (fun x=>vL (fun y=>if x.length + y.length ≤ SZ then some (.lst (x ++ y)) else .none) b) n2 .none a
 | .sub=>vI (fun x=>vI (fun y=>some (.int (x - y))) b) a
 | .mul=>vC .none (fun x=>vI (fun y=>if x.natAbs < 2 ^ 63 ∨ y.natAbs < 2 ^ 63 then some (.int (x * y)) else .none) b) (fun x=>vI (fun y=>if x.length = 1 ∧ -1000000000000 ≤ y ∧ y ≤ 1000000 then some (.str (mulT x y)) else .none) b) n1 n1 n2 .none a
 | .fdiv=>vI (fun x=>vI (fun y=>if 0 < y ∧ y < 2 ^ 200 then some (.int (x / y)) else .none) b) a
 | .mod=>vI (fun x=>vI (fun y=>if 0 < y ∧ y < 2 ^ 200 then some (.int (x % y)) else .none) b) a
 | .band=>vI (fun x=>vI (fun y=>if y = 65535 then some (.int (x % 65536)) else if y = 18446744073709551615 then some (.int (x % 18446744073709551616)) else .none) b) a
 | .shl=>vI (fun x=>vI (fun y=>if x = 1 ∧ 0 ≤ y ∧ y ≤ 100 then some (.int (2 ^ y.toNat)) else .none) b) a
 | .shr=>vI (fun x=>vI (fun y=>if 0 ≤ y ∧ y ≤ 100 then some (.int (x / 2 ^ y.toNat)) else .none) b) a
 | .pow=>vI (fun x=>vI (fun y=>if x = 2 ∧ 0 ≤ y ∧ y ≤ 100 then some (.int (2 ^ y.toNat)) else .none) b) a
noncomputable def augV (o : Op) (a b : V) : Option V:=match o with
 | .add=>vI (fun x=>vI (fun y=>some (.int (x + y))) b) a
 | .sub=>vI (fun x=>vI (fun y=>some (.int (x - y))) b) a
 | _=>.none
noncomputable def strsOf : List V → Option (List Tx)
 | []=>some []
 | d :: r=>vS (fun s=>(strsOf r).map (s :: ·)) d
noncomputable def toldOf : V → Option (Int × Tx × List Tx):=vT (o3 fun x y z=>vI (fun a=>vS (fun s=>vT (fun c=>(strsOf c).map fun c=>(a,s,c)) z) y) x)
noncomputable def eqV (a b : V) : Option Bool:=vC .none (fun x=>vI (fun y=>some (x == y)) b) (fun x=>vS (fun y=>some (x == y)) b)
 (fun l=>(toldOf (.tup l)).bind fun x=>(toldOf b).bind fun y=>some (x.1 == y.1 && (x.2.1 == y.2.1 && x.2.2 == y.2.2))) n1 n2 .none a
noncomputable def inV (a b : V) : Option Bool:=vS (fun x=>vC .none n1 (fun y=>o1 (fun c=>some (y.contains c)) x) (fun l=>(strsOf l).map fun l=>l.contains x) (fun l=>(strsOf l).map fun l=>l.contains x) (fun ks Z=>some (ks.contains x)) .none b) a
noncomputable def isV (a b : V) : Option Bool:=vN (vC (some true) (fun Z=>some false) (fun Z=>some false) (fun Z=>some false) n1 n2 .none a) b
noncomputable def cmpV (o : Cp) (a b : V) : Option Bool:=match o with
 | .eq=>eqV a b
 | .ne=>(eqV a b).map (!·)
 | .lt=>vI (fun x=>vI (fun y=>some (decide (x < y))) b) a
 | .le=>vI (fun x=>vI (fun y=>some (decide (x ≤ y))) b) a
 | .gt=>vI (fun x=>vI (fun y=>some (decide (y < x))) b) a
 | .ge=>vI (fun x=>vI (fun y=>some (decide (y ≤ x))) b) a
 | .inn=>inV a b
 | .nin=>(inV a b).map (!·)
 | .is=>isV a b
 | .nis=>(isV a b).map (!·)
noncomputable def truV : V → Option Bool
 | .bool b=>some b
 | _=>.none
noncomputable def intsOf : List V → Option (List Int)
 | []=>some []
 | d :: r=>vI (fun i=>(intsOf r).map (i :: ·)) d
noncomputable def upc (c : Nat) : Nat:=if 97 ≤ c ∧ c ≤ 122 then c - 32 else c
noncomputable def loc (c : Nat) : Nat:=if 65 ≤ c ∧ c ≤ 90 then c + 32 else c
noncomputable def strI (i : Int) : Option V:=if i.natAbs < 2 ^ 1900 then some (.str (itx i)) else .none
theorem strI_inv {i : Int} {d : V} (h : strI i = some d) : i.natAbs < 2 ^ 1900 ∧ some (.str (itx i)) = some d:=if_inv h
noncomputable def biV (b : Bi) (l : List V) : Option V:=match b with
 | .len=>o1 (vC .none n1 (fun s=>some (.int s.length)) n1 (fun l=>some (.int l.length)) n2 .none) l
 | .ord=>o1 (vS (o1 fun c=>some (.int c))) l
 | .chr=>o1 (vI fun i=>if 0 ≤ i ∧ i ≤ 1114111 then some (.str [i.toNat]) else .none) l
 | .str=>o1 (vI strI) l
 | .abs=>o1 (vI fun i=>some (.int i.natAbs)) l
 | .max=>o2 (fun a b=>vI (fun a=>vI (fun b=>some (.int (if a < b then b else a))) b) a) l
 | .min=>o2 (fun a b=>vI (fun a=>vI (fun b=>some (.int (if b < a then b else a))) b) a) l
 | .sum=>o1 (vL fun l=>(intsOf l).map fun l=>.int l.sum) l
 | .upper=>o1 (vS fun s=>if s.all (· < 128) then some (.str (s.map upc)) else .none) l
 | .lower=>o1 (vS fun s=>if s.all (· < 128) then some (.str (s.map loc)) else .none) l
 | .index=>o2 (fun a b=>vS (fun s=>vS (o1 fun c=>if s.contains c then some (.int (s.idxOf c)) else .none) b) a) l
 | .join=>o2 (fun a b=>vS (o0 (vL (fun l=>(strsOf l).bind fun l=>if l.flatten.length ≤ SZ then some (.str l.flatten) else .none) b)) a) l
noncomputable def getI {α : Type} (l : List α) (i : Int) : Option α:=if 0 ≤ i then l[i.toNat]? else .none
noncomputable def itemV (a i : V) (p : Int) : Option V:=vC .none n1 (fun s=>vI (fun k=>(getI s k).map fun c=>.str [c]) i) (fun l=>vI (getI l) i) (fun l=>vI (getI l) i) (fun ks vs=>vS (fun k=>(ks.idxOf? k).bind fun j=>vs[j]?) i) (vI (fun k=>if k = 0 then some (.int p) else .none) i) a
noncomputable def sliceL {α : Type} (l : List α) (lo hi : Option Int) : Option (List α) :=
 match lo,hi with
 | .none,.none=>some l
 | some a,.none=>if 0 ≤ a then some (l.drop a.toNat) else .none
 | .none,some b=>if 0 ≤ b then some (l.take b.toNat) else .none
 | some a,some b=>if 0 ≤ a ∧ 0 ≤ b then some ((l.drop a.toNat).take (b.toNat - a.toNat)) else .none
noncomputable def bndI (i : Int) : Option (Option Int):=if i < 2 ^ 62 then some (some i) else .none
noncomputable def bndV : V → Option (Option Int):=vC (some .none) bndI n1 n1 n1 n2 .none
noncomputable def sliceV (a lo hi : V) : Option V:=(bndV lo).bind fun l=>(bndV hi).bind fun h=>vC .none n1 (fun s=>(sliceL s l h).map .str) n1 (fun s=>(sliceL s l h).map .lst) n2 .none a
noncomputable def cmprL (f : Int → Option (Option V)) : List Int → Option (List V)
 | []=>some []
 | i :: r=>(f i).bind fun o=>(cmprL f r).bind fun l=>some (match o with | some v=>v :: l | .none=>l)
noncomputable def ranI (n : Int) : List Int:=(List.range n.toNat).map Int.ofNat
noncomputable def putD (k : Int) (v : V) : List (Int × V) → List (Int × V)
 | []=>[(k,v)]
 | (k',v') :: r=>if k' = k then (k,v) :: r else (k',v') :: putD k v r
abbrev Gam:=Nat → List V → Int → RE V
noncomputable def okO {α : Type} : RE α → Option α | .ok a _=>some a | _=>.none
noncomputable def flatV : V → Option V
 | .int i=>some (.int i)
 | .str s=>some (.str s)
 | _=>.none
noncomputable def noX : V → Int → RE V
 | .exc _ _,_=>.fail
 | x,p=>.ok x p
noncomputable def Γ0 : Gam:=fun Z Z Z=>.fail
section
variable {β : Type}
noncomputable def dI (d : β) (f : Int → β) (v : V) : β:=V.casesOn (motive_1:=fun Z=>β) v d (fun Z=>d) f (fun Z=>d) (fun Z=>d) (fun Z=>d) (fun Z Z=>d) (fun Z Z=>d) d
noncomputable def dS (d : β) (f : Tx → β) (v : V) : β:=V.casesOn (motive_1:=fun Z=>β) v d (fun Z=>d) (fun Z=>d) f (fun Z=>d) (fun Z=>d) (fun Z Z=>d) (fun Z Z=>d) d
noncomputable def dT (d : β) (f : List V → β) (v : V) : β:=V.casesOn (motive_1:=fun Z=>β) v d (fun Z=>d) (fun Z=>d) (fun Z=>d) f (fun Z=>d) (fun Z Z=>d) (fun Z Z=>d) d
noncomputable def dL (d : β) (f : List V → β) (v : V) : β:=V.casesOn (motive_1:=fun Z=>β) v d (fun Z=>d) (fun Z=>d) (fun Z=>d) (fun Z=>d) f (fun Z Z=>d) (fun Z Z=>d) d
noncomputable def dX (d : β) (f : Tx → List Tx → β) (v : V) : β:=V.casesOn (motive_1:=fun Z=>β) v d (fun Z=>d) (fun Z=>d) (fun Z=>d) (fun Z=>d) (fun Z=>d) (fun Z Z=>d) f d
noncomputable def dN (d f : β) (v : V) : β:=V.casesOn (motive_1:=fun Z=>β) v f (fun Z=>d) (fun Z=>d) (fun Z=>d) (fun Z=>d) (fun Z=>d) (fun Z Z=>d) (fun Z Z=>d) d
noncomputable def dP (d f : β) (v : V) : β:=V.casesOn (motive_1:=fun Z=>β) v d (fun Z=>d) (fun Z=>d) (fun Z=>d) (fun Z=>d) (fun Z=>d) (fun Z Z=>d) (fun Z Z=>d) f
noncomputable def dO {α : Type} (d : β) (f : α → β) (o : Option α) : β:=Option.casesOn (motive:=fun Z=>β) o d f
noncomputable def sV (d : β) (f : V → β) (o : Option Sl) : β:=dO d (fun s=>Sl.casesOn (motive:=fun Z=>β) s d f (fun Z=>d) (fun Z=>d)) o
noncomputable def sO (d : β) (f : List V → β) (o : Option Sl) : β:=dO d (fun s=>Sl.casesOn (motive:=fun Z=>β) s d (fun Z=>d) f (fun Z=>d)) o
noncomputable def sD (d : β) (f : List (Int × V) → β) (o : Option Sl) : β:=dO d (fun s=>Sl.casesOn (motive:=fun Z=>β) s d (fun Z=>d) (fun Z=>d) f) o
variable {d : β} {P : β → Prop}
theorem dO_k {α : Type} {f : α → β} {x : Option α} (h : P (dO d f x)) (hd : P d → False) : ∃ a,x = some a ∧ P (f a):=by cases x <;> first | exact ⟨_,rfl,h⟩ | exact (hd h).elim
theorem dS_k {f : Tx → β} {x : V} (h : P (dS d f x)) (hd : P d → False) : ∃ a,x = .str a ∧ P (f a):=by cases x <;> first | exact ⟨_,rfl,h⟩ | exact (hd h).elim
theorem dT_k {f : List V → β} {x : V} (h : P (dT d f x)) (hd : P d → False) : ∃ a,x = .tup a ∧ P (f a):=by cases x <;> first | exact ⟨_,rfl,h⟩ | exact (hd h).elim
theorem dL_k {f : List V → β} {x : V} (h : P (dL d f x)) (hd : P d → False) : ∃ a,x = .lst a ∧ P (f a):=by cases x <;> first | exact ⟨_,rfl,h⟩ | exact (hd h).elim
noncomputable def oL2 {α : Type} (d : β) (f : α → α → β) (l : List α) : β:=List.casesOn (motive:=fun Z=>β) l d fun a l=>List.casesOn (motive:=fun Z=>β) l d fun b l=>List.casesOn (motive:=fun Z=>β) l (f a b) fun Z Z=>d
theorem oL2_k {α : Type} {f : α → α → β} {l : List α} (h : P (oL2 d f l)) (hd : P d → False) : Ex2 fun a b=>l = [a,b] ∧ P (f a b):=by
 rcases l with _ | ⟨a,_ | ⟨b,_ | ⟨c,l⟩⟩⟩ <;> first | exact ⟨_,_,rfl,h⟩ | exact (hd h).elim
theorem sV_k {f : V → β} {o : Option Sl} (h : P (sV d f o)) (hd : P d → False) : ∃ x,o = some (.val x) ∧ P (f x):=by
 cases o with
 | none=>exact (hd h).elim
 | some s=>cases s <;> first | exact ⟨_,rfl,h⟩ | exact (hd h).elim
theorem sO_k {f : List V → β} {o : Option Sl} (h : P (sO d f o)) (hd : P d → False) : ∃ x,o = some (.own x) ∧ P (f x):=by
 cases o with
 | none=>exact (hd h).elim
 | some s=>cases s <;> first | exact ⟨_,rfl,h⟩ | exact (hd h).elim
theorem sD_k {f : List (Int × V) → β} {o : Option Sl} (h : P (sD d f o)) (hd : P d → False) : ∃ x,o = some (.ownD x) ∧ P (f x):=by
 cases o with
 | none=>exact (hd h).elim
 | some s=>cases s <;> first | exact ⟨_,rfl,h⟩ | exact (hd h).elim
end
structure E3 where
 e : Gam → List Sl → Int → RE V
 s : Gam → List Sl → Int → RE (List V)
 b : Gam → List Sl → Int → RE Bool
noncomputable def F3 {α : Type} : Gam → List Sl → Int → RE α:=fun Z Z Z=>.fail
noncomputable def ev3 (c : CE) : E3 := CE.rec (motive := fun Z => E3)
  (fun v => ⟨fun Z Z p => .ok v p, F3, fun Z Z p => .ofO (truV v) p⟩)
  (fun i => ⟨fun Z vs p => sV .fail (fun v => .ok v p) vs[i]?, F3, fun Z vs p => sV .fail (fun v => .ofO (truV v) p) vs[i]?⟩)
  (fun o Z Z a b => ⟨fun Γ vs p => (a.e Γ vs p).bind fun x p => (b.e Γ vs p).bind fun y p => .ofO (binV o x y) p, F3, F3⟩)
  (fun Z a => ⟨fun Γ vs p => (a.e Γ vs p).bind fun x p => dI .fail (fun i => .ok (.int (-i)) p) x, F3, F3⟩)
  (fun Z a => ⟨fun Γ vs p => (a.e Γ vs p).bind fun x p => (RE.ofO (truV x) p).bind fun c p => .ok (.bool (!c)) p, F3, fun Γ vs p => (a.b Γ vs p).bind fun c p => .ok (!c) p⟩)
  (fun Z Z a b => ⟨fun Γ vs p => (a.e Γ vs p).bind fun x p => (RE.ofO (truV x) p).bind fun c p => if c then b.e Γ vs p else .ok x p, F3, fun Γ vs p => (a.b Γ vs p).bind fun c p => if c then b.b Γ vs p else .ok false p⟩)
  (fun Z Z a b => ⟨fun Γ vs p => (a.e Γ vs p).bind fun x p => (RE.ofO (truV x) p).bind fun c p => if c then .ok x p else b.e Γ vs p, F3, fun Γ vs p => (a.b Γ vs p).bind fun c p => if c then .ok true p else b.b Γ vs p⟩)
  (fun Z Z Z t a b => ⟨fun Γ vs p => (t.b Γ vs p).bind fun c p => if c then a.e Γ vs p else b.e Γ vs p, F3, fun Γ vs p => (t.b Γ vs p).bind fun c p => if c then a.b Γ vs p else b.b Γ vs p⟩)
  (fun Z o Z a b => ⟨fun Γ vs p => (a.e Γ vs p).bind fun x p => (b.e Γ vs p).bind fun y p => (RE.ofO (cmpV o x y) p).bind fun c p => .ok (.bool c) p, F3, fun Γ vs p => (a.e Γ vs p).bind fun x p => (b.e Γ vs p).bind fun y p => .ofO (cmpV o x y) p⟩)
  (fun Z o Z o' Z a b c => ⟨fun Γ vs p => (a.e Γ vs p).bind fun x p => (b.e Γ vs p).bind fun y p => (RE.ofO (cmpV o x y) p).bind fun t p =>
      if t then (c.e Γ vs p).bind fun z p => (RE.ofO (cmpV o' y z) p).bind fun u p => .ok (.bool u) p else .ok (.bool false) p, F3, fun Γ vs p => (a.e Γ vs p).bind fun x p => (b.e Γ vs p).bind fun y p => (RE.ofO (cmpV o x y) p).bind fun t p =>
      if t then (c.e Γ vs p).bind fun z p => .ofO (cmpV o' y z) p else .ok false p⟩)
  (fun f Z as => ⟨fun Γ vs p => (as.s Γ vs p).bind fun xs p => (Γ f xs p).bind noX, F3, fun Γ vs p => (as.s Γ vs p).bind fun xs p => (Γ f xs p).bind fun x p => .ofO (truV x) p⟩)
  (fun b Z as => ⟨fun Γ vs p => (as.s Γ vs p).bind fun xs p => .ofO (biV b xs) p, F3, F3⟩)
  (fun b Z Z o as => ⟨fun Γ vs p => (o.e Γ vs p).bind fun x p => dS .fail (fun t => (as.s Γ vs p).bind fun xs p => .ofO (biV b (.str t :: xs)) p) x, F3, F3⟩)
  (fun i => ⟨fun Z vs p => sO .fail (fun l => .ofO (biV .join [.str [], .lst l]) p) vs[i]?, F3, F3⟩)
  (fun Z Z a i => ⟨fun Γ vs p => (a.e Γ vs p).bind fun x p => (i.e Γ vs p).bind fun y p => .ofO (itemV x y p) p, F3, F3⟩)
  (fun i Z k => ⟨fun Γ vs p => sD .fail (fun kv => (k.e Γ vs p).bind fun y p => dI .fail (fun n => .ofO (kv.lookup n) p) y) vs[i]?, F3, F3⟩)
  (fun Z Z Z a lo hi => ⟨fun Γ vs p => (a.e Γ vs p).bind fun x p => (lo.e Γ vs p).bind fun l p => (hi.e Γ vs p).bind fun h p => .ofO (sliceV x l h) p, F3, F3⟩)
  (fun Z es => ⟨fun Γ vs p => (es.s Γ vs p).bind fun xs p => if xs.length ≤ 1000 then .ok (.tup xs) p else .fail, F3, F3⟩)
  (fun Z es => ⟨fun Γ vs p => (es.s Γ vs p).bind fun xs p => if xs.length ≤ 1000 then .ok (.lst xs) p else .fail, F3, F3⟩)
  (fun ks xs => ⟨fun Z Z p => .ok (.dct ks xs) p, F3, F3⟩)
  (fun j Z Z Z n elt cnd => ⟨fun Γ vs p => (n.e Γ vs p).bind fun x p => dI .fail (fun m => if 0 ≤ m ∧ m ≤ 1000 then .ofO ((cmprL (fun i => (okO (cnd.b Γ0 (vs.set j (.val (.int i))) p)).bind fun c =>
          if c then ((okO (elt.e Γ0 (vs.set j (.val (.int i))) p)).bind flatV).map some else some .none) (ranI m)).map .lst) p else .fail) x, F3, F3⟩)
  ⟨F3, fun Z Z p => .ok [] p, F3⟩
  (fun Z Z a r => ⟨F3, fun Γ vs p => (a.e Γ vs p).bind fun x p => (r.s Γ vs p).bind fun xs p => .ok (x :: xs) p, F3⟩) c
noncomputable def cev (Γ : Gam) (c : CE) (vs : List Sl) (p : Int) : RE V:=(ev3 c).e Γ vs p
noncomputable def cevs (Γ : Gam) (c : CE) (vs : List Sl) (p : Int) : RE (List V):=(ev3 c).s Γ vs p
noncomputable def cevB (Γ : Gam) (c : CE) (vs : List Sl) (p : Int) : RE Bool:=(ev3 c).b Γ vs p
noncomputable def cevX (Γ : Gam) (e : CE) (vs : List Sl) (p : Int) : RE V :=
 let r:=cev Γ e vs p
 CE.casesOn (motive:=fun Z=>RE V) e (fun Z=>r) (fun Z=>r) (fun Z Z Z=>r) (fun Z=>r) (fun Z=>r) (fun Z Z=>r) (fun Z Z=>r) (fun Z Z Z=>r) (fun Z Z Z=>r) (fun Z Z Z Z Z=>r)
  (fun f as=>(cevs Γ as vs p).bind fun xs p=>Γ f xs p) (fun Z Z=>r) (fun Z Z Z=>r) (fun Z=>r) (fun Z Z=>r) (fun Z Z=>r) (fun Z Z Z=>r) (fun Z=>r) (fun Z=>r) (fun Z Z=>r) (fun Z Z Z Z=>r) r (fun Z Z=>r)
noncomputable def loopR (r : RS) (f : List Sl → Int → RS) : RS :=
 match r with
 | .ok .next vs p=>f vs p
 | .ok .cont vs p=>f vs p
 | .ok .brk vs p=>.ok .next vs p
 | .ok (.ret v) vs p=>.ok (.ret v) vs p
 | .exc t c p=>.exc t c p
 | .fail=>.fail
noncomputable def wloop (t : List Sl → Int → RE Bool) (b : List Sl → Int → RS) : Nat → List Sl → Int → RS
 | 0,_,_=>.fail
 | n + 1,vs,p=>(t vs p).bindS fun c p=>if c then loopR (b vs p) (wloop t b n) else .ok .next vs p
noncomputable def floop (b : V → List Sl → Int → RS) : List V → List Sl → Int → RS
 | [],vs,p=>.ok .next vs p
 | x :: r,vs,p=>loopR (b x vs p) (floop b r)
noncomputable def itemsV : V → Option (List V)
 | .str s=>some (s.map fun c=>.str [c])
 | .lst l=>some l
 | _=>.none
noncomputable def setT : List Nat → List V → List Sl → Option (List Sl)
 | [],[],vs=>some vs
 | i :: r,x :: xs,vs=>setT r xs (vs.set i (.val x))
 | _,_,_=>.none
noncomputable def floop2 (b : Int → V → List Sl → Int → RS) : Int → List V → List Sl → Int → RS
 | _,[],vs,p=>.ok .next vs p
 | k,x :: r,vs,p=>loopR (b k x vs p) (floop2 b (k + 1) r)
noncomputable def csr (c : CS) : Gam → Nat → List Sl → Int → RS:=CS.rec (motive:=fun Z=>Gam → Nat → List Sl → Int → RS)
 (fun Γ n vs p=>.ok .next vs p)
 (fun i e Z k Γ n vs p=>(cev Γ e vs p).bindS fun x p=>k Γ n (vs.set i (.val x)) p)
 (fun is e Z k Γ n vs p=>(cev Γ e vs p).bindS fun x p=>dT .fail (fun xs=>dO .fail (fun vs=>k Γ n vs p) (setT is xs vs)) x)
 (fun i Z k Γ n vs p=>if vs.all (fun s=>!s.isOwn) then k Γ n (vs.set i (.own [])) p else .fail)
 (fun i Z k Γ n vs p=>if vs.all (fun s=>!s.isOwn) then k Γ n (vs.set i (.ownD [])) p else .fail)
 (fun i e Z k Γ n vs p=>sO .fail (fun l=>(cev Γ e vs p).bindS fun x p=>if l.length < SZ then k Γ n (vs.set i (.own (l ++ [x]))) p else .fail) vs[i]?)
 (fun i Z k Γ n vs p=>sO .fail (fun l=>k Γ n (vs.set i (.own l.reverse)) p) vs[i]?)
 (fun i ke ve Z k Γ n vs p=>sD .fail (fun kv=>(cev Γ ve vs p).bindS fun y p=>(cev Γ ke vs p).bindS fun x p=>dI .fail (fun m=>if kv.length < 1000 then k Γ n (vs.set i (.ownD (putD m y kv))) p else .fail) x) vs[i]?)
 (fun i e Z k Γ n vs p=>sV .fail (dP .fail ((cev Γ e vs p).bindS fun y Z=>dI .fail (fun q=>k Γ n vs q) y)) vs[i]?)
 (fun i o e Z k Γ n vs p=>sV .fail (fun x=>(cev Γ e vs p).bindS fun y p=>(RE.ofO (augV o x y) p).bindS fun z p=>k Γ n (vs.set i (.val z)) p) vs[i]?)
 (fun t Z Z Z b o k Γ n vs p=>(cevB Γ t vs p).bindS fun c p=>(if c then b Γ n vs p else o Γ n vs p).next (k Γ n))
 (fun t Z Z b k Γ n vs p=>(wloop (cevB Γ t) (b Γ n) n vs p).next (k Γ n))
 (fun i e Z Z b k Γ n vs p=>(cev Γ e vs p).bindS fun x p=>dO .fail (fun l=>(floop (fun y vs p=>b Γ n (vs.set i (.val y)) p) l vs p).next (k Γ n)) (itemsV x))
 (fun i j e Z Z b k Γ n vs p=>(cev Γ e vs p).bindS fun x p=>dL .fail (fun l=>(floop2 (fun m y vs p=>b Γ n ((vs.set i (.val (.int m))).set j (.val y)) p) 0 l vs p).next (k Γ n)) x)
 (fun e Γ n vs p=>(cevX Γ e vs p).bindS fun x p=>.ok (.ret x) vs p)
 (fun i Γ n vs p=>sO .fail (fun l=>.ok (.ret (.lst l)) vs p) vs[i]?)
 (fun e Γ n vs p=>(cevX Γ e vs p).bindS fun x p=>dX .fail (fun t c=>.exc t c p) x)
 (fun Γ n vs p=>.ok .brk vs p)
 (fun Γ n vs p=>.ok .cont vs p)
 (fun e Z k Γ n vs p=>(cev Γ e vs p).bindS fun x p=>dN .fail (k Γ n vs p) x) c
noncomputable def csx (Γ : Gam) (n : Nat) (c : CS) (vs : List Sl) (p : Int) : RS:=csr c Γ n vs p
noncomputable def callB (Γ : Gam) (n : Nat) (body : CS) (ar nv : Nat) (args : List V) (p : Int) : RE V :=
 if args.length = ar then
  match csx Γ n body (args.map .val ++ List.replicate (nv - ar) .un) p with
  | .ok (.ret v) _ p=>.ok v p
  | .ok .next _ p=>.ok .none p
  | .exc t c p=>.exc t c p
  | _=>.fail
 else .fail
section
open PySem PySem.W PyProof.Rows
noncomputable def S (s : Tx) : Str:=⟨s.toArray⟩
theorem S_len (s : Tx) : (S s).length = s.length:=by rfl
theorem S_append (a b : Tx) : S a ++ S b = S (a ++ b):=by
 show Str.append (S a) (S b) = _
 simp [S,Str.append]
theorem S_inj {a b : Tx} (h : S a = S b) : a = b:=by
 have:=congrArg (fun x : Str=>x.cps.toList) h
 simpa [S] using this
theorem S_beq (a b : Tx) : (S a == S b) = (a == b):=by
 rewrite [Bool.eq_iff_iff];refine (beq_iff_eq).trans ?_;rw [beq_iff_eq]
 exact ⟨S_inj,fun h=>by exact congrArg _ (h)⟩
theorem S_bne (a b : Tx) : (S a != S b) = !(a == b):=by rw [bne,S_beq]
theorem SZ_eq : SZ = sizeLine:=by decide
noncomputable def Nrm (o : Obj) : Prop := (∀ vs, o.data ≠ .fields vs) ∨ ∃ n, o.cls = .type n ∧ n ≠ "traceback"
structure Kp (X : List Addr) (pa : Addr) (h h' : Heap) : Prop where
 same : ∀ b o,b ∉ X → h.get? b = some o → Nrm o → h'.get? b = some o
 slots : ∀ b o,b ≠ pa → h.get? b = some o → Nrm o → ∃ sl,h'.get? b = some { o with slots:=sl }
theorem Kp.refl (X : List Addr) (pa : Addr) (h : Heap) : Kp X pa h h:=⟨fun Z Z Z e Z=>e,fun Z o Z e Z=>⟨o.slots,e⟩⟩
theorem Kp.trans {X : List Addr} {pa : Addr} {h₁ h₂ h₃ : Heap} (x : Kp X pa h₁ h₂) (y : Kp X pa h₂ h₃) : Kp X pa h₁ h₃ :=
  ⟨fun b o hb e hn => y.same b o hb (x.same b o hb e hn) hn,
   fun b o hb e hn => (by obtain ⟨_, e₁⟩ := x.slots b o hb e hn; obtain ⟨sl, e₂⟩ := y.slots b _ hb e₁ hn; exact ⟨sl, e₂⟩)⟩
theorem Kp.mono {X X' : List Addr} {pa : Addr} {h h' : Heap} (x : Kp X pa h h') (hm : ∀ a,a ∈ X → a ∈ X') : Kp X' pa h h' :=
 ⟨fun b o hb e hn=>x.same b o (fun q=>hb (hm b q)) e hn,x.slots⟩
theorem Kp.of_keeps {X : List Addr} {pa : Addr} {h h' : Heap} (k : ∀ b o,h.get? b = some o → h'.get? b = some o) : Kp X pa h h' :=
 ⟨fun b o Z e Z=>k b o e,fun b o Z e Z=>⟨o.slots,k b o e⟩⟩
theorem Kp.push (X : List Addr) (pa : Addr) (h : Heap) (o : Obj) : Kp X pa h (h.push o) :=
 .of_keeps (fun Z Z e=>Heap.get?_push_of_some _ e)
noncomputable def dctMap (ks : List Tx) (vs : List Value) (x : Str) : Option Value:=((ks.map S).zip vs).lookup x
noncomputable def IsDct (w : World) (h : Heap) (a : Addr) (m : Str → Option Value) : Prop :=
 ∃ o es ep,h.get? a = some o ∧ o.ExactDict ∧ o.data = .dict es ep ∧ (∀ e ∈ es,∃ k,Value.isStrOf k e.key = true ∧ e.hash = hashStr w k) ∧ ∀ k,findBy Value.isStrOf es k = m k
theorem IsDct.mapOf {w : World} {h : Heap} {a : Addr} {m : Str → Option Value} (x : IsDct w h a m) (prog : Program) : h.MapOf (strKind prog w) a m:=x
theorem IsDct.of {w : World} {h : Heap} {a : Addr} {m : Str → Option Value} {prog : Program} (x : h.MapOf (strKind prog w) a m) : IsDct w h a m:=x
noncomputable def TxOk (s : Tx) : Prop:=s.length ≤ SZ ∧ ∀ c ∈ s,c < 1114112
mutual
noncomputable def Rep (w : World) (h : Heap) (X : List Addr) (pa : Addr) : Value → V → Prop
 | v,.none=>v = .none
 | v,.bool b=>v = .bool b
 | v,.int i=>∃ t,v = .int i t
 | v,.str s=>TxOk s ∧ ∃ t,v = .str (S s) t
 | v,.tup ds=>ds.length ≤ SZ ∧ Ex2 fun a vs=>A4 (v = .ref a) (a ∉ X) (IsTup h a vs.toArray) (Reps w h X pa vs ds)
 | v,.lst ds=>ds.length ≤ SZ ∧ Ex2 fun a vs=>A4 (v = .ref a) (a ∉ X) (h.IsList a vs.toArray) (Reps w h X pa vs ds)
 | v,.dct ks ds=>Ex2 fun a vs=>A5 (v = .ref a) (a ∉ X) (IsDct w h a (dctMap ks vs)) (ks.length = ds.length) (Reps w h X pa vs ds)
 | _,.exc _ _=>False
 | v,.pen=>v = .ref pa ∧ pa ≠ 0
noncomputable def Reps (w : World) (h : Heap) (X : List Addr) (pa : Addr) : List Value → List V → Prop
 | [],[]=>True
 | v :: vs,d :: ds=>Rep w h X pa v d ∧ Reps w h X pa vs ds
 | _,_=>False
end
theorem IsTup.kp {X : List Addr} {pa : Addr} {h h' : Heap} {a : Addr} {vs : Array Value} (k : Kp X pa h h') (ha : a ∉ X) (x : IsTup h a vs) : IsTup h' a vs :=
 (by obtain ⟨o,ho,hc,n,hd⟩:=x;exact ⟨o,k.same a o ha ho (.inl fun Z q=>by exact PySem.Data.noConfusion ((hd).symm.trans q)),hc,n,hd⟩)
theorem IsList.kp {X : List Addr} {pa : Addr} {h h' : Heap} {a : Addr} {vs : Array Value} (k : Kp X pa h h') (ha : a ∉ X) (x : h.IsList a vs) : h'.IsList a vs :=
 (by obtain ⟨o,ho,hc,n,hd⟩:=x;exact ⟨o,k.same a o ha ho (.inl fun Z q=>by exact PySem.Data.noConfusion ((hd).symm.trans q)),hc,n,hd⟩)
theorem IsDct.kp {w : World} {X : List Addr} {pa : Addr} {h h' : Heap} {a : Addr} {m : Str → Option Value} (k : Kp X pa h h') (ha : a ∉ X) (x : IsDct w h a m) : IsDct w h' a m :=
 (by obtain ⟨o,es,ep,ho,hx,hd,r⟩:=x;exact ⟨o,es,ep,k.same a o ha ho (.inl fun Z q=>by exact PySem.Data.noConfusion ((hd).symm.trans q)),hx,hd,r⟩)
structure Tr (w : World) (X X' : List Addr) (h h' : Heap) : Prop where
 tup : ∀ a vs,a ∉ X → IsTup h a vs → a ∉ X' ∧ IsTup h' a vs
 lst : ∀ a vs,a ∉ X → h.IsList a vs → a ∉ X' ∧ h'.IsList a vs
 dct : ∀ a m,a ∉ X → IsDct w h a m → a ∉ X' ∧ IsDct w h' a m
section
variable {w : World} {X X' : List Addr} {pa : Addr} {h h' : Heap}
theorem Rep.tr (T : Tr w X X' h h') (d : V) : ∀ v,Rep w h X pa v d → Rep w h' X' pa v d :=
 V.rec (motive_1:=fun d=>∀ v,Rep w h X pa v d → Rep w h' X' pa v d) (motive_2:=fun ds=>∀ vs,Reps w h X pa vs ds → Reps w h' X' pa vs ds)
  (fun Z x=>x) (fun Z Z x=>x) (fun Z Z x=>x) (fun Z Z x=>x)
  (fun Z ih Z x=>by obtain ⟨hl,a,vs,e,ha,ht,hr⟩:=x;exact ⟨hl,a,vs,e,(T.tup a _ ha ht).1,(T.tup a _ ha ht).2,ih vs hr⟩)
  (fun Z ih Z x=>by obtain ⟨hl,a,vs,e,ha,ht,hr⟩:=x;exact ⟨hl,a,vs,e,(T.lst a _ ha ht).1,(T.lst a _ ha ht).2,ih vs hr⟩)
  (fun Z Z ih Z x=>by obtain ⟨a,vs,e,ha,ht,hl,hr⟩:=x;exact ⟨a,vs,e,(T.dct a _ ha ht).1,(T.dct a _ ha ht).2,hl,ih vs hr⟩)
  (fun Z Z Z x=>x) (fun Z x=>x) (fun vs x=>by cases vs <;> exact x)
  (fun Z Z i1 i2 vs x=>by cases vs with | nil=>exact x | cons v vs=>exact ⟨i1 v x.1,i2 vs x.2⟩) d
theorem Reps.ind {P : List Value → List V → Prop} (h0 : P [] []) (h1 : ∀ v d vs ds,Rep w h X pa v d → Reps w h X pa vs ds → P vs ds → P (v :: vs) (d :: ds)) {ds : List V} : ∀ {vs : List Value},Reps w h X pa vs ds → P vs ds:=by
 induction ds with
 | nil=>intro vs x;cases vs with | nil=>exact h0 | cons _ _=>exact x.elim
 | cons d ds ih=>intro vs x;cases vs with | nil=>exact x.elim | cons v vs=>exact h1 v d vs ds x.1 x.2 (ih x.2)
theorem Reps.tr (T : Tr w X X' h h') (ds : List V) (vs : List Value) (x : Reps w h X pa vs ds) : Reps w h' X' pa vs ds :=
 Reps.ind (P:=fun vs ds=>Reps w h' X' pa vs ds) trivial (fun v d Z Z a Z i=>⟨Rep.tr T d v a,i⟩) x
theorem Kp.tr (k : Kp X pa h h') (hX : ∀ a,a ∈ X' → a ∈ X) : Tr w X X' h h' :=
 ⟨fun a Z ha t=>⟨fun q=>ha (hX a q),IsTup.kp k ha t⟩,fun a Z ha t=>⟨fun q=>ha (hX a q),IsList.kp k ha t⟩,fun a Z ha t=>⟨fun q=>ha (hX a q),IsDct.kp k ha t⟩⟩
theorem Rep.kp (k : Kp X pa h h') (hX : ∀ a,a ∈ X' → a ∈ X) (d : V) (v : Value) : Rep w h X pa v d → Rep w h' X' pa v d:=Rep.tr (k.tr hX) d v
theorem Reps.kp (k : Kp X pa h h') (hX : ∀ a,a ∈ X' → a ∈ X) (ds : List V) (vs : List Value) : Reps w h X pa vs ds → Reps w h' X' pa vs ds:=Reps.tr (k.tr hX) ds vs
theorem Reps.len {ds : List V} {vs : List Value} (x : Reps w h X pa vs ds) : vs.length = ds.length:=Reps.ind (P:=fun vs ds=>vs.length = ds.length) rfl (fun Z Z Z Z Z Z=>congrArg (· + 1)) x
theorem Reps.get {ds : List V} {vs : List Value} {i : Nat} {d : V} (x : Reps w h X pa vs ds) (e : ds[i]? = some d) : ∃ v,vs[i]? = some v ∧ Rep w h X pa v d :=
 Reps.ind (P:=fun vs ds=>∀ i,ds[i]? = some d → ∃ v,vs[i]? = some v ∧ Rep w h X pa v d) (fun Z e=>by exact nS e) (fun v d' Z Z a Z ih i e=>by cases i with | zero=>exact ⟨v,rfl,Option.some.inj e ▸ a⟩ | succ i=>exact ih i e) x i e
theorem Reps.append {ds es : List V} {vs us : List Value} (x : Reps w h X pa vs ds) (y : Reps w h X pa us es) : Reps w h X pa (vs ++ us) (ds ++ es) :=
 Reps.ind (P:=fun vs ds=>Reps w h X pa (vs ++ us) (ds ++ es)) y (fun Z Z Z Z a Z i=>⟨a,i⟩) x
theorem Reps.take {ds : List V} {vs : List Value} (n : Nat) (x : Reps w h X pa vs ds) : Reps w h X pa (vs.take n) (ds.take n) :=
 Reps.ind (P:=fun vs ds=>∀ n,Reps w h X pa (vs.take n) (ds.take n)) (fun n=>by cases n <;> trivial) (fun Z Z Z Z a Z i n=>by cases n with | zero=>trivial | succ n=>exact ⟨a,i n⟩) x n
theorem Reps.drop {ds : List V} {vs : List Value} (n : Nat) (x : Reps w h X pa vs ds) : Reps w h X pa (vs.drop n) (ds.drop n) :=
 Reps.ind (P:=fun vs ds=>∀ n,Reps w h X pa (vs.drop n) (ds.drop n)) (fun n=>by cases n <;> trivial) (fun Z Z Z Z a b i n=>by cases n with | zero=>exact ⟨a,b⟩ | succ n=>exact i n) x n
theorem Reps.reverse {ds : List V} {vs : List Value} (x : Reps w h X pa vs ds) : Reps w h X pa vs.reverse ds.reverse :=
 Reps.ind (P:=fun vs ds=>Reps w h X pa vs.reverse ds.reverse) trivial (fun Z Z Z Z a Z i=>by
  rw [List.reverse_cons,List.reverse_cons]
  exact i.append ⟨a,trivial⟩) x
theorem Reps.cons_inv {d : V} {ds : List V} {vs : List Value} (x : Reps w h X pa vs (d :: ds)) : ∃ v us,vs = v :: us ∧ Rep w h X pa v d ∧ Reps w h X pa us ds:=by
 cases vs with | nil=>exact x.elim | cons v us=>exact ⟨v,us,rfl,x.1,x.2⟩
theorem Reps.nil_inv {vs : List Value} (x : Reps w h X pa vs []) : vs = []:=by cases vs with | nil=>rfl | cons _ _=>exact x.elim
theorem Reps.strs {ds : List V} {vs : List Value} {l : List Tx} (x : Reps w h X pa vs ds) (e : strsOf ds = some l) : StrsAre vs (l.map S) :=
 Reps.ind (P:=fun vs ds=>∀ l,strsOf ds = some l → StrsAre vs (l.map S)) (fun l e=>by obtain rfl:=sI e;exact .nil) (fun v d vs ds a Z ih l e=>by
  cases d with
  | str s =>
   obtain ⟨_,t,rfl⟩:=a
   obtain ⟨r,hr,e⟩:=mapS (show (strsOf ds).map _ = some l from e)
   exact e ▸ .cons _ _ (ih r hr)
  | _=>exact nS e) x l e
end
noncomputable def Sm (X : List Addr) (h h' : Heap) : Prop:=∀ b o,b ∉ X → h.get? b = some o → (∀ vs,o.data ≠ .fields vs) → h'.get? b = some o
theorem Kp.sm {X : List Addr} {pa : Addr} {h h' : Heap} (k : Kp X pa h h') : Sm X h h':=fun b o hb e hn=>k.same b o hb e (.inl hn)
theorem IsTup.sm {X : List Addr} {h h' : Heap} {a : Addr} {vs : Array Value} (k : Sm X h h') (ha : a ∉ X) (x : IsTup h a vs) : IsTup h' a vs :=
 (by obtain ⟨o,ho,hc,n,hd⟩:=x;exact ⟨o,k a o ha ho (fun Z q=>by exact PySem.Data.noConfusion ((hd).symm.trans q)),hc,n,hd⟩)
theorem IsList.sm {X : List Addr} {h h' : Heap} {a : Addr} {vs : Array Value} (k : Sm X h h') (ha : a ∉ X) (x : h.IsList a vs) : h'.IsList a vs :=
 (by obtain ⟨o,ho,hc,n,hd⟩:=x;exact ⟨o,k a o ha ho (fun Z q=>by exact PySem.Data.noConfusion ((hd).symm.trans q)),hc,n,hd⟩)
theorem IsDct.sm {w : World} {X : List Addr} {h h' : Heap} {a : Addr} {m : Str → Option Value} (k : Sm X h h') (ha : a ∉ X) (x : IsDct w h a m) : IsDct w h' a m :=
 (by obtain ⟨o,es,ep,ho,hx,hd,r⟩:=x;exact ⟨o,es,ep,k a o ha ho (fun Z q=>by exact PySem.Data.noConfusion ((hd).symm.trans q)),hx,hd,r⟩)
noncomputable def Nov (h : Heap) (a : Addr) : Prop:=∀ o,h.get? a = some o → ¬ Nrm o
theorem IsTup.live {h : Heap} {a : Addr} {vs : Array Value} (x : IsTup h a vs) : ∃ o,h.get? a = some o ∧ Nrm o:=(by obtain ⟨o,ho,_,_,hd⟩:=x;exact ⟨o,ho,.inl fun Z q=>by exact PySem.Data.noConfusion ((hd).symm.trans q)⟩)
theorem IsList.live {h : Heap} {a : Addr} {vs : Array Value} (x : h.IsList a vs) : ∃ o,h.get? a = some o ∧ Nrm o:=(by obtain ⟨o,ho,_,_,hd⟩:=x;exact ⟨o,ho,.inl fun Z q=>by exact PySem.Data.noConfusion ((hd).symm.trans q)⟩)
theorem IsDct.live {w : World} {h : Heap} {a : Addr} {m : Str → Option Value} (x : IsDct w h a m) : ∃ o,h.get? a = some o ∧ Nrm o:=(by obtain ⟨o,_,_,ho,_,hd,_⟩:=x;exact ⟨o,ho,.inl fun Z q=>by exact PySem.Data.noConfusion ((hd).symm.trans q)⟩)
theorem notin_of {X X' : List Addr} {h : Heap} {a : Addr} (hX : ∀ a,a ∈ X' → a ∈ X ∨ Nov h a) (ha : a ∉ X) (hl : ∃ o,h.get? a = some o ∧ Nrm o) : a ∉ X':=fun q=>by
 obtain ⟨o,e,hn⟩:=hl
 rcases hX a q with q | q
 ·exact ha q
 ·exact q o e hn
theorem Sm.tr {w : World} {X X' : List Addr} {h h' : Heap} (k : Sm X h h') (hX : ∀ a,a ∈ X' → a ∈ X ∨ Nov h a) : Tr w X X' h h' :=
 ⟨fun Z Z ha t=>⟨notin_of hX ha (IsTup.live t),IsTup.sm k ha t⟩,fun Z Z ha t=>⟨notin_of hX ha (IsList.live t),IsList.sm k ha t⟩,fun Z Z ha t=>⟨notin_of hX ha (IsDct.live t),IsDct.sm k ha t⟩⟩
theorem Rep.sm {w : World} {X X' : List Addr} {pa : Addr} {h h' : Heap} (k : Sm X h h') (hX : ∀ a,a ∈ X' → a ∈ X ∨ Nov h a) (d : V) (v : Value) : Rep w h X pa v d → Rep w h' X' pa v d:=Rep.tr (k.tr hX) d v
theorem Reps.sm {w : World} {X X' : List Addr} {pa : Addr} {h h' : Heap} (k : Sm X h h') (hX : ∀ a,a ∈ X' → a ∈ X ∨ Nov h a) (ds : List V) (vs : List Value) : Reps w h X pa vs ds → Reps w h' X' pa vs ds:=Reps.tr (k.tr hX) ds vs
end
section
open PySem PySem.W PyProof.Rows
noncomputable def Grow (h h' : Heap) : Prop:=∀ b o,h.get? b = some o → h'.get? b = some o
theorem Grow.refl (h : Heap) : Grow h h:=fun Z Z e=>e
theorem Grow.trans {h₁ h₂ h₃ : Heap} (x : Grow h₁ h₂) (y : Grow h₂ h₃) : Grow h₁ h₃:=fun b o e=>y b o (x b o e)
theorem Grow.push (h : Heap) (o : Obj) : Grow h (h.push o):=fun Z Z e=>Heap.get?_push_of_some _ e
theorem Grow.kp {h h' : Heap} (g : Grow h h') (X : List Addr) (pa : Addr) : Kp X pa h h':=.of_keeps g
noncomputable def opOf : Op → Operator
 | .add=>.Add | .sub=>.Sub | .mul=>.Mult | .fdiv=>.FloorDiv | .mod=>.Mod | .band=>.BitAnd | .shl=>.LShift | .shr=>.RShift | .pow=>.Pow
noncomputable def cpOf : Cp → CmpOp
 | .eq=>.Eq | .ne=>.NotEq | .lt=>.Lt | .le=>.LtE | .gt=>.Gt | .ge=>.GtE | .inn=>.In | .nin=>.NotIn | .is=>.Is | .nis=>.IsNot
theorem bitAnd_64 (x : Int) : Builtin.bitAnd x 18446744073709551615 = x % 18446744073709551616:=by
 unfold Builtin.bitAnd
 refine gG fun P0 hP0=>?_
 by_cases hx : 0 ≤ x
 ·refine hP0 ?_
  refine (decide_eq_true hx).symm ▸ ?_;refine (show decide ((0 : Int) ≤ 18446744073709551615) = true from rfl).symm ▸ ?_
  have h : x.toNat &&& (18446744073709551615 : Int).toNat = x.toNat % 18446744073709551616:=Nat.and_two_pow_sub_one_eq_mod x.toNat 64
  simp only [h]
  lia
 ·refine hP0 ?_
  refine (decide_eq_false hx).symm ▸ ?_;refine (show decide ((0 : Int) ≤ 18446744073709551615) = true from rfl).symm ▸ ?_
  have h : (18446744073709551615 : Int).toNat &&& (Builtin.bitNot x).toNat = (Builtin.bitNot x).toNat % 18446744073709551616:=by
   rw [Nat.and_comm]
   exact Nat.and_two_pow_sub_one_eq_mod (Builtin.bitNot x).toNat 64
  simp only [h]
  unfold Builtin.bitNot
  lia
theorem mulTxt (c : Nat) (n : Int) : Txt.mul (S [c]) n = S (mulT [c] n):=by
 unfold Txt.mul mulT
 by_cases h1 : n < 1
 ·refine (if_pos h1).trans ?_;refine (show n.toNat = 0 by lia).symm ▸ ?_
  rfl
 ·refine (if_neg h1).trans ?_
  by_cases h2 : n = 1
  ·subst h2;rfl
  ·have hz : ((S [c]).length == 0) = false:=by rfl
   have hn : (n == 1) = false:=beq_eq_false_iff_ne.mpr h2
   refine (hz).symm ▸ ?_;refine (hn).symm ▸ ?_;refine (if_neg (by decide)).trans ?_
   have key : ∀ (k : Nat) (acc : Array Nat),(List.replicate k (#[c] : Array Nat)).foldl (· ++ ·) acc = acc ++ (List.replicate k [c]).flatten.toArray:=by
    intro k
    induction k with
    | zero=>intro acc;simp
    | succ k ih=>intro acc;refine (List.replicate_succ).symm ▸ ?_;refine (List.foldl_cons).trans ?_;rewrite [ih];refine (List.replicate_succ).symm ▸ ?_;refine (List.flatten_cons).symm ▸ ?_;simp [-List.flatten_replicate_singleton]
   have:=key n.toNat #[]
   unfold S
   refine (show ([c] : Tx).toArray = #[c] from rfl).symm ▸ ?_;refine (this).symm ▸ ?_
   simp
section
variable {prog : Program} {w : World} {A : Around} {E : Value → Shared → Prop} {s : Shared} {X : List Addr} {pa : Addr} {Q : Value → Shared → Prop}
theorem ints_of {α : Type} {a b : V} {va vb : Value} {h : Heap} {d : α} {f : Int → Int → Option α} (e : vI (fun x=>vI (f x) b) a = some d) (ra : Rep w h X pa va a) (rb : Rep w h X pa vb b) : Ex4 fun x y t u=>A3 (va = .int x t) (vb = .int y u) (f x y = some d) :=
 vI_inv e fun x ea e=>vI_inv e fun y eb e=>by
  subst ea eb
  obtain ⟨t,rfl⟩:=ra
  obtain ⟨u,rfl⟩:=rb
  exact ⟨x,y,t,u,rfl,rfl,e⟩
theorem mul_snd {c : Nat} {b : Int} {t u : Tok} (ha : TxOk [c]) (h0 : -1000000000000 ≤ b) (h2 : b ≤ 1000000) (h : ∀ v h' tk',Grow s.heap h' → Rep w h' X pa v (.str (mulT [c] b)) → Q v { s with heap:=h',toks:=tk' }) : wpAny (model prog w) A (binaryOp .Mult (.str (S [c]) t) (.int b u)) Q E s:=by
 refine SB.mul ⟨?_,fun h3 h4=>?_,fun h3 h4=>?_⟩ fun t' k=>?_
 ·rewrite [decide_eq_false (by lia)];refine (decide_eq_false (by lia)).trans ?_;rfl
 ·rw [S_len]
  have : (1 : Int) ≤ (2 ^ 63 - 1) / b:=(Int.le_ediv_iff_mul_le (by lia)).mpr (by lia)
  simp only [List.length_cons,List.length_nil]
  lia
 ·rw [S_len]
  unfold Builtin.Str.tooLong
  rewrite [decide_eq_false_iff_not];refine (sizeLine_eq).symm ▸ ?_
  simp only [List.length_cons,List.length_nil]
  lia
 ·rw [mulTxt]
  refine h _ _ _ (Grow.refl _) ⟨⟨?_,fun x hx=>?_⟩,_,rfl⟩
  ·unfold mulT SZ
   simp only [List.length_flatten,List.map_replicate,List.length_cons,List.length_nil,List.sum_replicate_nat]
   lia
  ·unfold mulT at hx
   obtain ⟨l,hl,hx⟩:=List.mem_flatten.mp hx
   replace hx:=((List.mem_replicate.mp hl).2) ▸ hx
   exact ha.2 x hx
theorem bin_snd {o : Op} {a b d : V} {va vb : Value} (e : binV o a b = some d) (ra : Rep w s.heap X pa va a) (rb : Rep w s.heap X pa vb b) (hX : ∀ x ∈ X,x < s.heap.objs.size)
  (h : ∀ v h' tk',Grow s.heap h' → Rep w h' X pa v d → Q v { s with heap:=h',toks:=tk' }) : wpAny (model prog w) A (binaryOp (opOf o) va vb) Q E s:=by
 cases o with
 | add =>
  refine vC_inv (show vC _ _ _ _ _ _ _ a = some d from e) no3 (fun x ea e=>vI_inv e fun y eb e=>?_) (fun x ea e=>vS_inv e fun y eb e=>?_) (fun Z=>no3) (fun x ea e=>vL_inv e fun y eb e=>?_) (fun Z Z=>no3) no3
  ·subst ea eb;obtain ⟨t,rfl⟩:=ra;obtain ⟨u,rfl⟩:=rb;obtain rfl:=sI e
   exact add_int (h _ _ _ (Grow.refl _) ⟨_,rfl⟩)
  ·subst ea eb;obtain ⟨ha,t,rfl⟩:=ra;obtain ⟨hb,u,rfl⟩:=rb
   obtain ⟨hl,e⟩:=if_inv e
   obtain rfl:=sI e
   refine add_str (fun t' tk=>?_) (by rw [S_len,S_len,← SZ_eq];exact hl)
   rw [S_append]
   exact h _ _ _ (Grow.refl _) ⟨⟨by rw [List.length_append];exact hl,fun c hc=>(memA hc).elim (ha.2 c) (hb.2 c)⟩,_,rfl⟩
  ·subst ea eb;obtain ⟨_,la,vs,rfl,hla,hl,hr⟩:=ra;obtain ⟨_,lb,us,rfl,hlb,hl2,hr2⟩:=rb
   obtain ⟨hsz,e⟩:=if_inv e
   obtain rfl:=sI e
   obtain ⟨⟨cls,dd,data,sl⟩,ho,hc,n,hd⟩:=id hl
   obtain ⟨⟨cls2,dd2,data2,sl2⟩,ho2,hc2,n2,hd2⟩:=id hl2
   dsimp only at hc hd hc2 hd2
   subst hc hd hc2 hd2
   have e : vs.toArray ++ us.toArray = (vs ++ us).toArray:=List.append_toArray ..
   refine concat_meets ⟨_,ho,rfl⟩ ⟨_,ho2,rfl⟩ noFill_list_add seq_list_add PySem.F.slot_list_add PySem.F.entry_list_add (PySem.F.args_list_add_2 _ _)
    (list_addW la lb vs.toArray us.toArray n n2 dd dd2 sl sl2 (by rw [List.size_toArray,List.size_toArray,hr.len,hr2.len,← SZ_eq];exact hsz)) ⟨ho,ho2,?_⟩
   rw [e]
   refine h _ _ _ (Grow.push _ _) ⟨by rw [List.length_append];exact hsz,_,_,rfl,fun q=>Nat.lt_irrefl _ (hX _ q),⟨_,Heap.get?_push_size _ rfl,rfl,_,rfl⟩,?_⟩
   exact (Reps.kp ((Grow.push _ _).kp X pa) (fun Z q=>q) _ _ hr).append (Reps.kp ((Grow.push _ _).kp X pa) (fun Z q=>q) _ _ hr2)
 | mul =>
  refine vC_inv (show vC _ _ _ _ _ _ _ a = some d from e) no3 (fun x ea e=>vI_inv e fun y eb e=>?_) (fun x ea e=>vI_inv e fun y eb e=>?_) (fun Z=>no3) (fun Z=>no3) (fun Z Z=>no3) no3
  ·subst ea eb;obtain ⟨t,rfl⟩:=ra;obtain ⟨u,rfl⟩:=rb
   obtain ⟨hm,e⟩:=if_inv e
   obtain rfl:=sI e
   refine mul_int (h _ _ _ (Grow.refl _) ⟨_,rfl⟩) ?_
   rcases hm with hm | hm
   ·exact IntMulOk.of_left (PySem.intBits_le_64 (by omega) (by omega))
   ·exact IntMulOk.of_right (PySem.intBits_le_64 (by omega) (by omega))
  ·subst ea eb;obtain ⟨ha,t,rfl⟩:=ra;obtain ⟨u,rfl⟩:=rb
   obtain ⟨⟨h1,h0,h2⟩,e⟩:=if_inv e
   obtain rfl:=sI e
   obtain ⟨c,rfl⟩:=List.length_eq_one_iff.mp h1
   exact mul_snd ha h0 h2 h
 | sub =>
  obtain ⟨x,y,t,u,rfl,rfl,e⟩:=ints_of (show vI _ a = some d from e) ra rb
  obtain rfl:=sI e
  exact sub_int (h _ _ _ (Grow.refl _) ⟨_,rfl⟩)
 | fdiv =>
  obtain ⟨x,y,t,u,rfl,rfl,e⟩:=ints_of (show vI _ a = some d from e) ra rb
  obtain ⟨hm,e⟩:=if_inv e
  obtain rfl:=sI e
  refine floordiv_int (by omega) ?_ (Or.inl (PyProof.noPylong_of_log2 ?_))
  ·rw [Int.fdiv_eq_ediv_of_nonneg _ (by omega)]
   exact h _ _ _ (Grow.refl _) ⟨_,rfl⟩
  ·exact Nat.lt_of_lt_of_le ((Nat.log2_lt (by omega)).mpr (show y.natAbs < 2 ^ 200 by omega)) (by decide)
 | mod =>
  obtain ⟨x,y,t,u,rfl,rfl,e⟩:=ints_of (show vI _ a = some d from e) ra rb
  obtain ⟨hm,e⟩:=if_inv e
  obtain rfl:=sI e
  refine mod_int' (by omega) ?_
  rw [Int.fmod_eq_emod_of_nonneg _ (by omega)]
  exact h _ _ _ (Grow.refl _) ⟨_,rfl⟩
 | band =>
  obtain ⟨x,y,t,u,rfl,rfl,e⟩:=ints_of (show vI _ a = some d from e) ra rb
  by_cases hm : y = 65535
  ·rw [if_pos hm] at e;obtain rfl:=sI e;subst hm
   refine and_int ?_
   rw [bitAnd_m16]
   exact h _ _ _ (Grow.refl _) ⟨_,rfl⟩
  ·rw [if_neg hm] at e
   obtain ⟨hm,e⟩:=if_inv e
   obtain rfl:=sI e;subst hm
   refine and_int ?_
   rw [bitAnd_64]
   exact h _ _ _ (Grow.refl _) ⟨_,rfl⟩
 | shl =>
  obtain ⟨x,y,t,u,rfl,rfl,e⟩:=ints_of (show vI _ a = some d from e) ra rb
  obtain ⟨⟨e1,h0,h1⟩,e2⟩:=if_inv e
  clear e
  subst e1
  obtain rfl:=sI e2
  refine lshift_int_small h0 (by omega) (by decide) ?_
  rw [Int.one_mul]
  exact h _ _ _ (Grow.refl _) ⟨_,rfl⟩
 | shr =>
  obtain ⟨x,y,t,u,rfl,rfl,e⟩:=ints_of (show vI _ a = some d from e) ra rb
  obtain ⟨hm,e⟩:=if_inv e
  obtain rfl:=sI e
  refine rshift_int hm.1 ?_
  rw [Int.fdiv_eq_ediv_of_nonneg _ (Int.pow_nonneg (by decide))]
  exact h _ _ _ (Grow.refl _) ⟨_,rfl⟩
 | pow =>
  obtain ⟨x,y,t,u,rfl,rfl,e⟩:=ints_of (show vI _ a = some d from e) ra rb
  obtain ⟨⟨e1,h0,h1⟩,e2⟩:=if_inv e
  clear e
  subst e1
  obtain rfl:=sI e2
  exact pow_int_small h0 (by omega) (by decide) (h _ _ _ (Grow.refl _) ⟨_,rfl⟩)
end
end
section
open PySem PySem.W PyProof.Rows
theorem strsOf_cons {d : V} {ds : List V} {l : List Tx} (e : strsOf (d :: ds) = some l) : Ex2 fun s r=>A3 (d = .str s) (strsOf ds = some r) (l = s :: r) :=
 vS_inv (show vS _ d = some l from e) fun s ed e=>by
  obtain ⟨r,hr,rfl⟩:=mapS e
  exact ⟨s,r,ed,hr,rfl⟩
theorem strs_reads {w : World} {h : Heap} {X : List Addr} {pa : Addr} : ∀ {ds : List V} {vs : List Value} {l : List Tx},Reps w h X pa vs ds → strsOf ds = some l →
  (∃ as,ReadsAll h vs (l.map fun s=>PyData.str (S s)) as) ∧ ∀ s ∈ l,TxOk s
 | [],[],_,_,e=>by obtain rfl:=sI e;exact ⟨⟨_,.nil⟩,fun Z h=>nomatch h⟩
 | d :: ds,v :: vs,l,⟨a,b⟩,e=>by
  obtain ⟨s,r,rfl,hr,rfl⟩:=strsOf_cons e
  obtain ⟨hs,t,rfl⟩:=a
  obtain ⟨⟨as,h1⟩,h2⟩:=strs_reads b hr
  exact ⟨⟨_,.cons (.str _ _) h1⟩,fun x hx=>by
   rcases memc hx with rfl | hx
   ·exact hs
   ·exact h2 x hx⟩
noncomputable def toldD (x : Int × Tx × List Tx) : PyData:=.tuple [.int x.1,.str (S x.2.1),.tuple (x.2.2.map fun s=>PyData.str (S s))]
theorem strOk_of {s : Tx} (h : TxOk s) : PyData.canLay0 (.str (S s)) = true:=by
 unfold PyData.canLay0 PyData.strOk S
 refine (Array.all_toList).symm.trans ?_;rw [List.all_eq_true]
 exact fun c hc=>decide_eq_true (h.2 c hc)
theorem canLayAll_strs : ∀ {l : List Tx},(∀ s ∈ l,TxOk s) → PyData.canLayAll0 (l.map fun s=>PyData.str (S s)) = true
 | [],_=>rfl
 | s :: r,h=>by
  refine (List.map_cons).symm ▸ ?_;rewrite [PyData.canLayAll0];refine (strOk_of (h s (.head _))).symm ▸ ?_;refine (canLayAll_strs fun x hx=>h x (.tail _ hx)).trans ?_
  rfl
theorem depthAll_strs : ∀ (l : List Tx),PyData.depthAll (l.map fun s=>PyData.str (S s)) = 0
 | []=>rfl
 | s :: r=>by
  refine (List.map_cons).symm ▸ ?_;rewrite [PyData.depthAll];refine (depthAll_strs r).trans ?_
  rfl
theorem told_shaped {x : Int × Tx × List Tx} (h1 : TxOk x.2.1) (h2 : ∀ s ∈ x.2.2,TxOk s) : PySem.SeqAt.shaped (toldD x) = true:=by
 unfold PySem.SeqAt.shaped toldD
 rw [Bool.and_eq_true]
 refine ⟨?_,decide_eq_true ?_⟩
 ·simp only [PyData.canLay0,PyData.canLayAll0,canLayAll_strs h2,Bool.and_true,Bool.true_and]
  exact strOk_of h1
 ·simp only [PyData.depth,PyData.depthAll,depthAll_strs]
  decide
theorem told_reads {w : World} {h : Heap} {X : List Addr} {pa : Addr} {v : Value} {d : V} {x : Int × Tx × List Tx} (r : Rep w h X pa v d) (e : toldOf d = some x) :
  (∃ as,Reads h v (toldD x) as) ∧ PySem.SeqAt.shaped (toldD x) = true:=by
 refine vT_inv (show vT _ d = some x from e) fun l ed e=>o3_inv e fun da ds dc el e=>vI_inv e fun a ea e=>vS_inv e fun s es e=>vT_inv e fun c ec e=>?_
 subst ed el ea es ec
 refine gG fun P0 hP0=>?_
 obtain ⟨c',hc,rfl⟩:=mapS e
 obtain ⟨_,ad,vs,rfl,_,⟨o,ho,hcl,n,hd⟩,hr⟩:=r
 obtain ⟨v1,us1,rfl,r1,hr⟩:=hr.cons_inv
 obtain ⟨v2,us2,rfl,r2,hr⟩:=hr.cons_inv
 obtain ⟨v3,us3,rfl,r3,hr⟩:=hr.cons_inv
 obtain rfl:=hr.nil_inv
 obtain ⟨t1,rfl⟩:=r1
 obtain ⟨hs,t2,rfl⟩:=r2
 obtain ⟨_,ad3,vs3,rfl,_,⟨o3,ho3,hcl3,n3,hd3⟩,hr3⟩:=r3
 obtain ⟨⟨as,h1⟩,h2⟩:=strs_reads hr3 hc
 refine hP0 ?_
 exact ⟨⟨_,.tuple ho hcl hd (.cons (.int _ _) (.cons (.str _ _) (.cons (.tuple ho3 hcl3 hd3 h1) .nil)))⟩,told_shaped hs h2⟩
theorem eqvAll_strs : ∀ (a b : List Tx),PyData.eqvAll (a.map fun s=>PyData.str (S s)) (b.map fun s=>PyData.str (S s)) = (a == b)
 | [],[]=>rfl
 | [],_ :: _=>rfl
 | _ :: _,[]=>rfl
 | x :: a,y :: b=>by
  rw [List.map_cons,List.map_cons,PyData.eqvAll,eqvAll_strs a b,PyData.eqv,S_beq]
  rfl
theorem eqv_told (x y : Int × Tx × List Tx) : PyData.eqv (toldD x) (toldD y) = (x.1 == y.1 && (x.2.1 == y.2.1 && x.2.2 == y.2.2)):=by
 simp only [toldD,PyData.eqv,PyData.eqvAll,eqvAll_strs,S_beq,Bool.and_true]
section
variable {prog : Program} {w : World} {A : Around} {E : Value → Shared → Prop} {s : Shared} {X : List Addr} {pa : Addr} {Q : Value → Shared → Prop}
theorem eq_snd {a b : V} {va vb : Value} {r : Bool} (e : eqV a b = some r) (ra : Rep w s.heap X pa va a) (rb : Rep w s.heap X pa vb b) (hu : A.units + 64 < cLine) :
  (∀ Q : Value → Shared → Prop,Q (.bool r) s → wpAny (model prog w) A (compareOp .Eq va vb) Q E s) ∧
  (∀ Q : Value → Shared → Prop,Q (.bool (!r)) s → wpAny (model prog w) A (compareOp .NotEq va vb) Q E s):=by
 refine vC_inv (show vC _ _ _ _ _ _ _ a = some r from e) no3 (fun x ea e=>vI_inv e fun y eb e=>?_) (fun x ea e=>vS_inv e fun y eb e=>?_) (fun l ea e=>?_) (fun Z=>no3) (fun Z Z=>no3) no3
 ·subst ea eb;obtain ⟨t,rfl⟩:=ra;obtain ⟨u,rfl⟩:=rb;cases e
  exact ⟨fun Q h=>eq_int h,fun Q h=>ne_int h⟩
 ·subst ea eb;obtain ⟨_,t,rfl⟩:=ra;obtain ⟨_,u,rfl⟩:=rb;cases e
  exact ⟨fun Q h=>eq_str (by rw [S_beq];exact h),fun Q h=>ne_str (by rw [S_bne];exact h)⟩
 ·obtain ⟨x,hx,e⟩:=binS e
  obtain ⟨y,hy,e⟩:=binS e
  obtain ⟨⟨_,r1⟩,s1⟩:=told_reads (ea ▸ ra) hx
  obtain ⟨⟨_,r2⟩,s2⟩:=told_reads rb hy
  cases e
  exact ⟨fun Q h=>PySem.SeqAt.compareEq_shaped r1 r2 s1 s2 hu (by rw [eqv_told];exact h),fun Q h=>PySem.SeqAt.compareNe_shaped r1 r2 s1 s2 hu (by rw [eqv_told];exact h)⟩
theorem any_S (l : List Tx) (x : Tx) : (l.map S).any (· == S x) = l.contains x:=by
 refine (List.any_map).trans ?_;rewrite [Bool.eq_iff_iff];refine (List.any_eq_true).trans ?_;rw [List.contains_iff_mem]
 constructor
 ·rintro ⟨y,hy,h⟩
  replace h:=(Function.comp_apply).symm.trans h;rw [S_beq] at h;rw [beq_iff_eq] at h
  exact h ▸ hy
 ·exact fun h=>⟨x,h,by simp⟩
theorem occ_one (y : Tx) (c : Nat) : (!(Builtin.Str.occurrences (S y) (S [c]) 0 (S y).length 1).isEmpty) = y.contains c:=by
 rw [show S [c] = ⟨#[c]⟩ from rfl,PyProof.Rows.empty_one,Bool.not_not,Bool.eq_iff_iff,decide_eq_true_eq,List.contains_iff_mem]
 rfl
theorem dct_isSome {ks : List Tx} {vs : List Value} (hl : ks.length ≤ vs.length) (x : Tx) : (dctMap ks vs (S x)).isSome = ks.contains x:=by
 unfold dctMap
 induction ks generalizing vs with
 | nil=>rfl
 | cons k ks ih =>
  cases vs with
  | nil=>simp at hl
  | cons v vs =>
   refine (List.map_cons).symm ▸ ?_;refine (List.zip_cons_cons).symm ▸ ?_;rewrite [List.lookup_cons];rewrite [S_beq];refine Eq.trans ?_ (List.contains_cons).symm
   cases h : (x == k) with
   | true=>rfl
   | false=>simpa using ih (by exact Nat.le_of_lt_succ hl)
theorem in_snd {a b : V} {va vb : Value} {r : Bool} (e : inV a b = some r) (ra : Rep w s.heap X pa va a) (rb : Rep w s.heap X pa vb b) (hs : sysModules ∈ X) :
  (∀ Q : Value → Shared → Prop,(∀ tk,Q (.bool r) { s with toks:=tk }) → wpAny (model prog w) A (compareOp .In va vb) Q E s) ∧
  (∀ Q : Value → Shared → Prop,(∀ tk,Q (.bool (!r)) { s with toks:=tk }) → wpAny (model prog w) A (compareOp .NotIn va vb) Q E s):=by
 refine vS_inv (show vS _ a = some r from e) fun x ea e=>?_
 subst ea
 obtain ⟨_,t,rfl⟩:=ra
 refine vC_inv e no3 (fun Z=>no3) (fun y eb e=>o1_inv e fun c ec e=>?_) (fun l eb e=>?_) (fun l eb e=>?_) (fun ks ds eb e=>?_) no3
 ·subst eb ec;obtain rfl:=sI e
  obtain ⟨_,u,rfl⟩:=rb
  exact ⟨fun Q h=>in_str (by rw [occ_one];exact h _),fun Q h=>notIn_str (by rw [occ_one];exact h _)⟩
 ·subst eb
  obtain ⟨l,hl,rfl⟩:=mapS e
  obtain ⟨_,ad,vs,rfl,_,ht,hr⟩:=rb
  exact ⟨fun Q h=>in_tuple_strs ht (by simpa using hr.strs hl) (by rw [any_S];exact h _),fun Q h=>notin_tuple_strs ht (by simpa using hr.strs hl) (by rw [any_S];exact h _)⟩
 ·subst eb
  obtain ⟨l,hl,rfl⟩:=mapS e
  obtain ⟨_,ad,vs,rfl,_,ht,hr⟩:=rb
  exact ⟨fun Q h=>in_list_strs ht (hr.strs hl) (by rw [any_S];exact h _),fun Q h=>notin_list_strs ht (hr.strs hl) (by rw [any_S];exact h _)⟩
 ·subst eb;obtain rfl:=sI e
  obtain ⟨ad,vs,rfl,ha,hd,hl,hr⟩:=rb
  have hne : (ad == sysModules) = false:=beq_eq_false_iff_ne.mpr fun q=>ha (q ▸ hs)
  have hi:=dct_isSome (vs:=vs) (Nat.le_of_eq (hl.trans hr.len.symm)) x
  exact ⟨fun Q h=>wpAny_in_of (knd:=strKind prog w) (k:=S _) (strKind_is prog w _ t) hne (hd.mapOf prog) (by exact (hi).symm ▸ h _),
   fun Q h=>wpAny_notIn_of (knd:=strKind prog w) (k:=S _) (strKind_is prog w _ t) hne (hd.mapOf prog) (by exact (hi).symm ▸ h _)⟩
theorem is_snd {a b : V} {va vb : Value} {r : Bool} (e : isV a b = some r) (ra : Rep w s.heap X pa va a) (rb : Rep w s.heap X pa vb b) :
  (∀ Q : Value → Shared → Prop,Q (.bool r) s → wpAny (model prog w) A (compareOp .Is va vb) Q E s) ∧
  (∀ Q : Value → Shared → Prop,Q (.bool (!r)) s → wpAny (model prog w) A (compareOp .IsNot va vb) Q E s):=by
 refine vN_inv (show vN _ b = some r from e) fun eb e=>?_
 subst eb
 subst rb
 have ne : ∀ {v : Value},(v == Value.none) = false → r = false → (∀ Q : Value → Shared → Prop,Q (.bool r) s → wpAny (model prog w) A (compareOp .Is v .none) Q E s) ∧ (∀ Q : Value → Shared → Prop,Q (.bool (!r)) s → wpAny (model prog w) A (compareOp .IsNot v .none) Q E s):=fun hv q=>by
  subst q;exact ⟨fun Q h=>is_none_ne (by simpa using hv) h,fun Q h=>isnot_none_ne (by simpa using hv) h⟩
 refine vC_inv e (fun ea e=>?_) (fun x ea e=>?_) (fun x ea e=>?_) (fun l ea e=>?_) (fun Z=>no3) (fun Z Z=>no3) no3
 ·subst ea;subst ra;obtain rfl:=sI e;exact ⟨fun Q h=>is_none_none h,fun Q h=>isnot_none_none h⟩
 ·subst ea;obtain ⟨t,rfl⟩:=ra;exact ne (by rfl) (Option.some.inj e).symm
 ·subst ea;obtain ⟨_,t,rfl⟩:=ra;exact ne (by rfl) (Option.some.inj e).symm
 ·subst ea;obtain ⟨_,_,_,rfl,_⟩:=ra;exact ne (by rfl) (Option.some.inj e).symm
theorem cmp_snd {o : Cp} {a b : V} {va vb : Value} {r : Bool} (e : cmpV o a b = some r) (ra : Rep w s.heap X pa va a) (rb : Rep w s.heap X pa vb b) (hs : sysModules ∈ X) (hu : A.units + 64 < cLine)
  (h : ∀ tk,Q (.bool r) { s with toks:=tk }) : wpAny (model prog w) A (compareOp (cpOf o) va vb) Q E s:=by
 cases o with
 | eq=>exact (eq_snd e ra rb hu).1 Q (h _)
 | ne=>obtain ⟨x,hx,rfl⟩:=mapS e;exact (eq_snd hx ra rb hu).2 Q (h _)
 | inn=>exact (in_snd e ra rb hs).1 Q h
 | nin=>obtain ⟨x,hx,rfl⟩:=mapS e;exact (in_snd hx ra rb hs).2 Q h
 | is=>exact (is_snd e ra rb).1 Q (h _)
 | nis=>obtain ⟨x,hx,rfl⟩:=mapS e;exact (is_snd hx ra rb).2 Q (h _)
 | lt=>obtain ⟨x,y,t,u,rfl,rfl,e⟩:=ints_of (show vI _ a = some r from e) ra rb;obtain rfl:=sI e;exact lt_int (h _)
 | le=>obtain ⟨x,y,t,u,rfl,rfl,e⟩:=ints_of (show vI _ a = some r from e) ra rb;obtain rfl:=sI e;exact le_int (h _)
 | gt=>obtain ⟨x,y,t,u,rfl,rfl,e⟩:=ints_of (show vI _ a = some r from e) ra rb;obtain rfl:=sI e;exact gt_int (h _)
 | ge=>obtain ⟨x,y,t,u,rfl,rfl,e⟩:=ints_of (show vI _ a = some r from e) ra rb;obtain rfl:=sI e;exact ge_int (h _)
theorem tru_snd {a : V} {va : Value} {r : Bool} {Q : Bool → Shared → Prop} (e : truV a = some r) (ra : Rep w s.heap X pa va a) (h : Q r s) : wpAny (model prog w) A (truthy va) Q E s:=by
 cases a <;> cases e
 subst ra
 exact wpAny_truthy_bool h
end
end
section
open PySem PySem.W PyProof.Rows
set_option tactic.hygienic true in
theorem sliceL_clip {α : Type} {l r : List α} {lo hi : Option Int} (e : sliceL l lo hi = some r) :
  r = (l.drop (lo.elim 0 (clipAt l.length))).take (hi.elim l.length (clipAt l.length) - lo.elim 0 (clipAt l.length)):=by
 have key : ∀ i : Int,0 ≤ i → clipAt l.length i = min i.toNat l.length:=fun i hi=>by
  have:=clipAt_nat l.length i.toNat
  rwa [Int.toNat_of_nonneg hi] at this
 unfold sliceL at e
 split at e
 ·obtain rfl:=sI e;simp
 ·split at e
  ·rename_i a h;obtain rfl:=sI e
   simp only [Option.elim,key a h]
   rcases Nat.le_total a.toNat l.length with q | q
   ·rw [Nat.min_eq_left q,List.take_of_length_le (by simp)]
   ·rw [Nat.min_eq_right q,List.drop_of_length_le q,List.drop_of_length_le (Nat.le_refl _)];simp
  ·exact nS e
 ·split at e
  ·rename_i b h;obtain rfl:=sI e
   simp only [Option.elim,key b h,List.drop_zero,Nat.sub_zero]
   rcases Nat.le_total b.toNat l.length with q | q
   ·rw [Nat.min_eq_left q]
   ·rw [Nat.min_eq_right q,List.take_of_length_le q,List.take_of_length_le (Nat.le_refl _)]
  ·exact nS e
 ·split at e
  ·rename_i a b h;obtain rfl:=sI e
   simp only [Option.elim,key a h.1,key b h.2]
   rcases Nat.le_total a.toNat l.length with q | q
   ·rw [Nat.min_eq_left q]
    rcases Nat.le_total b.toNat l.length with q2 | q2
    ·rw [Nat.min_eq_left q2]
    ·rw [Nat.min_eq_right q2,List.take_of_length_le (by simp;lia),List.take_of_length_le (by simp)]
   ·rw [Nat.min_eq_right q,List.drop_of_length_le q,List.drop_of_length_le (Nat.le_refl _)];simp
  ·exact nS e
theorem strIdx (lo hi : Option Int) (n : Nat) : Builtin.Str.strSliceIndices lo hi 1 n = (List.range (hi.elim n (clipAt n) - lo.elim 0 (clipAt n))).map (lo.elim 0 (clipAt n) + ·):=by
 rw [← sliceRange_one]
 unfold Builtin.Str.strSliceIndices
 cases lo <;> cases hi <;> simp [clipAt_cast]
theorem Txt_slice {s r : Tx} {lo hi : Option Int} (e : sliceL s lo hi = some r) : Txt.slice (S s) lo hi = S r:=by
 have e2:=sliceL_clip e
 have pick : (Builtin.Str.strSliceIndices lo hi 1 (S s).length).filterMap ((S s).cps[·]?) = r:=by
  rewrite [strIdx];rewrite [pick_run];rewrite [S_len];refine Eq.trans ?_ (e2).symm
  simp [S]
 unfold Txt.slice
 split
 ·rename_i h
  have hl : (Builtin.Str.strSliceIndices lo hi 1 (S s).length).length = (S s).length:=by simpa using h
  rw [strIdx] at hl;rw [List.length_map] at hl;replace hl:=(List.length_range).symm.trans hl;rw [S_len] at hl
  refine (e2).symm ▸ ?_
  have h0 : lo.elim 0 (clipAt s.length) = 0 ∨ s.length = 0:=by
   have : hi.elim s.length (clipAt s.length) ≤ s.length:=by
    cases hi with
    | none=>exact Nat.le_refl _
    | some b=>exact (by have:=clipAt_cast s.length b;simp only [Option.elim];omega)
   omega
  rcases h0 with h0 | h0
  ·rw [h0] at hl ⊢
   refine (List.drop_zero).symm ▸ ?_;rw [List.take_of_length_le (by omega)]
  ·have : s = []:=len0 h0
   subst this;simp
 ·refine (pick).symm ▸ ?_;rfl
theorem bndV_part {w : World} {h : Heap} {X : List Addr} {pa : Addr} {v : Value} {d : V} {r : Option Int} (e : bndV d = some r) (x : Rep w h X pa v d) : ∃ p,v = partValue p ∧ p.map (·.1) = r:=by
 refine vC_inv (show vC _ _ _ _ _ _ _ d = some r from e) (fun ed e=>?_) (fun i ed e=>?_) (fun Z=>no3) (fun Z=>no3) (fun Z=>no3) (fun Z Z=>no3) no3
 ·subst ed;obtain rfl:=sI e;subst x;exact ⟨none,rfl,rfl⟩
 ·subst ed
  obtain ⟨_,e⟩:=if_inv e
  obtain rfl:=sI e;obtain ⟨t,rfl⟩:=x;exact ⟨some (_,t),rfl,rfl⟩
theorem IsPart_of {p : Option (Int × Tok)} : IsPart (partValue p) (p.map (·.1)):=by
 cases p with
 | none=>exact .none
 | some x=>exact .int _ _
theorem keptGrow (h₀ : Heap) : KeptH (fun h=>Grow h₀ h):=fun h ob g=>g.trans (Grow.push h ob)
theorem sliceL_mem {α : Type} {l r : List α} {lo hi : Option Int} (e : sliceL l lo hi = some r) : r.length ≤ l.length ∧ ∀ x ∈ r,x ∈ l:=by
 have e2:=sliceL_clip e
 exact (e2).symm ▸ ⟨by rw [List.length_take,List.length_drop];lia,fun x hx=>List.mem_of_mem_drop (List.mem_of_mem_take hx)⟩
section
variable {prog : Program} {w : World} {A : Around} {E : Value → Shared → Prop} {s : Shared} {X : List Addr} {pa : Addr} {Q : Value → Shared → Prop}
theorem sliceV_sort {a lo hi d : V} (e : sliceV a lo hi = some d) : (∃ s,a = .str s) ∨ ∃ l,a = .lst l:=by
 refine gG fun P0 hP0=>?_
 obtain ⟨l,hl,e⟩:=binS e
 obtain ⟨u,hu,e⟩:=binS e
 refine hP0 ?_
 exact vC_inv e no3 (fun Z=>no3) (fun x ea Z=>.inl ⟨x,ea⟩) (fun Z=>no3) (fun x ea Z=>.inr ⟨x,ea⟩) (fun Z Z=>no3) no3
theorem slice_snd {a lo hi d : V} {va vl vu : Value} (e : sliceV a lo hi = some d) (ra : Rep w s.heap X pa va a) (rl : Rep w s.heap X pa vl lo) (ru : Rep w s.heap X pa vu hi) (hX : ∀ x ∈ X,x < s.heap.objs.size)
  (h : ∀ v h' tk',Grow s.heap h' → Rep w h' X pa v d → Q v { s with heap:=h',toks:=tk' }) :
  wpAny (model prog w) A (getItem va (.ref s.heap.objs.size)) Q E { s with heap := s.heap.push { cls := .type "slice", data := .fields #[vl, vu, .none] } } := by
 refine gG fun P0 hP0=>?_
 obtain ⟨l,hl,e⟩:=binS e
 obtain ⟨u,hu,e⟩:=binS e
 obtain ⟨pl,rfl,rfl⟩:=bndV_part hl rl
 obtain ⟨pu,rfl,rfl⟩:=bndV_part hu ru
 refine hP0 ?_
 refine vC_inv e no3 (fun Z=>no3) (fun x ea e=>?_) (fun Z=>no3) (fun x ea e=>?_) (fun Z Z=>no3) no3
 ·subst ea
  refine gG fun P0 hP0=>?_
  obtain ⟨r,hr,rfl⟩:=mapS e
  obtain ⟨hx,t,rfl⟩:=ra
  refine hP0 ?_
  have hm:=sliceL_mem hr
  have hok : TxOk r:=⟨Nat.le_trans hm.1 hx.1,fun c hc=>hx.2 c (hm.2 c hc)⟩
  refine wpAny_getItem_str_slice (l:=pl) (u:=pu) (st:=none) ⟨_,Heap.get?_push_size _ rfl,rfl,rfl⟩ rfl ?_
  refine post_val_or_str ⟨?_,fun t' k=>?_⟩
  ·show (Txt.slice (S x) (pl.map (·.1)) (pu.map (·.1))).length ≤ sizeLine
   refine (Txt_slice hr).symm ▸ ?_;rewrite [S_len];refine (SZ_eq).symm.symm ▸ ?_
   exact hok.1
  ·show Q (.str (Txt.slice (S x) (pl.map (·.1)) (pu.map (·.1))) t') _
   exact (Txt_slice hr).symm ▸ h _ _ _ (Grow.push _ _) ⟨hok,_,rfl⟩
 ·subst ea
  refine gG fun P0 hP0=>?_
  obtain ⟨r,hr,rfl⟩:=mapS e
  obtain ⟨hx,ad,vs,rfl,ha,hl',hrs⟩:=ra
  refine hP0 ?_
  have hm:=sliceL_mem hr
  have hl2 : (s.heap.push { cls := .type "slice", data := .fields #[partValue pl, partValue pu, .none] }).IsList ad vs.toArray := hl'.push _
  refine wpAny_getItem_list_slice hl2 (Heap.IsSliceOf.new ..) IsPart_of IsPart_of .none (by simp) ?_ (by refine (List.size_toArray).symm ▸ ?_;refine (hrs.len).symm ▸ ?_;refine (SZ_eq).symm.symm ▸ ?_;exact hx)
  rw [slicePick_plain]
  have hlen:=hrs.len
  have e2:=sliceL_clip hr
  simp only [List.size_toArray,hlen]
  generalize hlo : (pl.map (·.1)).elim 0 (clipAt x.length) = lo' at e2 ⊢
  generalize hhi : (pu.map (·.1)).elim x.length (clipAt x.length) = hi' at e2 ⊢
  have hrep:=(hrs.drop lo').take (hi' - lo')
  replace hrep:=(e2).symm ▸ hrep
  refine h _ _ _ ((Grow.push _ _).trans (Grow.push _ _)) ⟨Nat.le_trans hm.1 hx,_,_,rfl,fun q=>?_,⟨_,Heap.get?_push_size _ rfl,rfl,_,rfl⟩,?_⟩
  ·have q2 : @LT.lt Nat _ (s.heap.push { cls := .type "slice", data := .fields #[partValue pl, partValue pu, .none] }).objs.size s.heap.objs.size := hX _ q
   rw [Heap.size_push] at q2
   lia
  ·exact Reps.kp (((Grow.push _ _).trans (Grow.push _ _)).kp X pa) (fun Z q=>q) _ _ hrep
theorem getI_nat {α : Type} {l : List α} {i : Int} {x : α} (e : getI l i = some x) : 0 ≤ i ∧ i < l.length ∧ l[i.toNat]? = some x:=by
 obtain ⟨h,e⟩:=if_inv e
 obtain ⟨h1,_⟩:=List.getElem?_eq_some_iff.mp e
 exact ⟨h,by lia,e⟩
theorem seqIdx {i : Int} {n : Nat} (h0 : 0 ≤ i) (h1 : i < n) : seqIndex? i n = some i.toNat:=by
 simp only [seqIndex?]
 refine (if_neg (show ¬ i < 0 by lia)).symm ▸ ?_;refine (decide_eq_true h0).symm ▸ ?_;refine (decide_eq_true h1).symm ▸ ?_
 rfl
theorem dctGet {w : World} {h : Heap} {ks : List Tx} {ds : List V} {vs : List Value} {x : Tx} {i : Nat} {d : V} (hr : Reps w h X pa vs ds) (hi : ks.idxOf? x = some i) (hd : ds[i]? = some d) :
  ∃ v,dctMap ks vs (S x) = some v ∧ Rep w h X pa v d:=by
 obtain ⟨v,hv,hrep⟩:=hr.get hd
 refine ⟨v,?_,hrep⟩
 unfold dctMap
 clear hr hd hrep
 induction ks generalizing vs i with
 | nil=>cases hi
 | cons k ks ih =>
  replace hi:=(List.idxOf?_cons).symm.trans hi
  cases vs with
  | nil=>cases hv
  | cons u us =>
   refine (List.map_cons).symm ▸ ?_;refine (List.zip_cons_cons).symm ▸ ?_;refine (List.lookup_cons).trans ?_;rw [S_beq]
   by_cases hk : k = x
   ·subst hk
    simp at hi
    subst hi
    simpa using hv
   ·replace hi:=(beq_eq_false_iff_ne.mpr hk) ▸ hi
    simp only [Bool.false_eq_true,if_false] at hi
    obtain ⟨j,hj,rfl⟩:=mapS hi
    exact (beq_eq_false_iff_ne.mpr (Ne.symm hk)).symm ▸ ih hj (by simpa using hv)
theorem noSlice {slice : Expr} (hns : ∀ l u st p,slice ≠ .Slice l u st p) (o i : Value) : subscripted slice false o i = operate [o,i] (getItem o i):=by
 cases slice <;> first | rfl | exact absurd rfl (hns _ _ _ _)
theorem item_snd {a i d : V} {va vi : Value} {p : Int} {value slice : Expr} (e : itemV a i p = some d) (ra : Rep w s.heap X pa va a) (ri : Rep w s.heap X pa vi i)
  (hp : pa ≠ 0 → ∃ t,s.heap.IsList pa #[.int p t]) (hns : ∀ l u st p,slice ≠ .Slice l u st p)
  (h : ∀ v tk',Rep w s.heap X pa v d → Q v { s with toks:=tk' }) : wpAny (model prog w) A (subscriptTail value slice va vi) Q E s:=by
 refine vC_inv (show vC _ _ _ _ _ _ _ a = some d from e) no3 (fun Z=>no3) (fun x ea e=>vI_inv e fun k ei e=>?_) (fun l ea e=>vI_inv e fun k ei e=>?_) (fun l ea e=>vI_inv e fun k ei e=>?_) (fun ks ds ea e=>vS_inv e fun k ei e=>?_) (fun ea e=>vI_inv e fun k ei e=>?_)
 ·subst ea ei
  obtain ⟨c,hc,rfl⟩:=mapS e
  obtain ⟨h0,h1,hg⟩:=getI_nat hc
  obtain ⟨hx,t,rfl⟩:=ra;obtain ⟨u,rfl⟩:=ri
  have hsz:=hx.1
  unfold SZ at hsz
  refine tail_any (typeIs_str _ _ _) slot_str_getitem.lookup (getItem_str (c:=c) ?_ ?_ (h _ _ ⟨⟨by simp [SZ],fun y hy=>?_⟩,_,rfl⟩)) (noSlice hns _ _)
  ·rewrite [decide_eq_false (by lia)];refine (decide_eq_false (by lia)).trans ?_;rfl
  ·rewrite [S_len];refine (seqIdx h0 h1).symm ▸ ?_
   simpa [S] using hg
  ·exact (mems hy).symm ▸ hx.2 c (List.mem_of_getElem? hg)
 ·subst ea ei
  obtain ⟨h0,h1,hg⟩:=getI_nat e
  obtain ⟨hx,ad,vs,rfl,_,ht,hr⟩:=ra;obtain ⟨u,rfl⟩:=ri
  obtain ⟨v,hv,hrep⟩:=hr.get hg
  unfold SZ at hx
  exact item_tupleT ht (by lia) (by lia) (seqIdx h0 (by exact (hr.len).symm ▸ h1)) hv (h _ s.toks hrep) (noSlice hns _ _)
 ·subst ea ei
  obtain ⟨h0,h1,hg⟩:=getI_nat e
  obtain ⟨hx,ad,vs,rfl,_,ht,hr⟩:=ra;obtain ⟨u,rfl⟩:=ri
  obtain ⟨v,hv,hrep⟩:=hr.get hg
  unfold SZ at hx
  exact tail_any ht.typeIs slot_list_getitem.lookup (wpAny_getItem_list ht h0 (by lia) (by simpa using hv) (h _ s.toks hrep)) (noSlice hns _ _)
 ·subst ea ei
  obtain ⟨j,hj,hd⟩:=binS e
  obtain ⟨ad,vs,rfl,_,hm,_,hr⟩:=ra;obtain ⟨_,u,rfl⟩:=ri
  obtain ⟨v,hv,hrep⟩:=dctGet hr hj hd
  exact tail_any (hm.mapOf prog).typeIs slot_dict_getitem.lookup (wpAny_getItem_of (knd:=strKind prog w) (strKind_is prog w _ u) (hm.mapOf prog) hv (h _ _ hrep)) (noSlice hns _ _)
 ·subst ea ei
  obtain ⟨hk,e⟩:=if_inv e
  ·subst hk;obtain rfl:=sI e
   obtain ⟨rfl,hz⟩:=ra;obtain ⟨u,rfl⟩:=ri
   obtain ⟨t,hl⟩:=hp hz
   exact tail_any hl.typeIs slot_list_getitem.lookup (wpAny_getItem_list hl (by decide) (by decide) (x:=.int p t) rfl (h _ s.toks ⟨t,rfl⟩)) (noSlice hns _ _)
end
end
section
open PySem PySem.W PyProof.Rows
noncomputable def bval : Bi → Value
 | .len => .builtin "len" | .ord => .builtin "ord" | .chr => .builtin "chr" | .str => .type "str" | .abs => .builtin "abs" | .max => .builtin "max" | .min => .builtin "min" | .sum => .builtin "sum"
 | .upper => .builtin "str.upper" | .lower => .builtin "str.lower" | .index => .builtin "str.index" | .join => .builtin "str.join"
theorem itx_S (i : Int) : Str.ofString (toString i) = S (itx i):=Str.ofString_eq_toList _
theorem upc_le (c : Nat) (h : c < 128) : upc c < 128:=by unfold upc;split <;> lia
theorem loc_le (c : Nat) (h : c < 128) : loc c < 128:=by unfold loc;split <;> lia
theorem upper_S {s : Tx} (h : ∀ c ∈ s,c < 128) : Txt.upper (S s) = S (s.map upc):=by
 refine (upper_ascii (x:=S s) (by exact h)).trans ?_
 simp [S]
 intros
 rfl
theorem lower_S {s : Tx} (h : ∀ c ∈ s,c < 128) : Txt.lower (S s) = S (s.map loc):=by
 refine (lower_ascii (x:=S s) (by exact h)).trans ?_
 simp [S]
 intros
 rfl
theorem join_S : ∀ l : List Tx,Str.join (S []) (l.map S) = S l.flatten
 | []=>rfl
 | [x]=>by simp [Str.join]
 | x :: y :: r=>by
  have ih:=join_S (y :: r)
  simp only [List.map_cons] at ih ⊢
  rw [Str.join,ih,S_append,S_append]
  ·simp
  ·exact fun q=>nomatch q
theorem occ_idx {s : Tx} {c : Nat} (h : s.contains c = true) : ∃ r,Builtin.Str.occurrences (S s) (S [c]) 0 (S s).length 1 = s.idxOf c :: r:=by
 have hm : c ∈ s:=List.contains_iff_mem.mp h
 have at_ : ∀ i,StrLaws.At (S s) (S [c]) (S s).length i ↔ s[i]? = some c:=fun i=>by
  have:=StrLaws.subAt_one (S s) c i
  unfold StrLaws.At
  exact this
 rcases StrLaws.occ_head (S s) (S [c]) 1 (Nat.le_refl _) with ⟨_,h2⟩ | ⟨i,r,h1,h2,h3⟩
 ·obtain ⟨i,hi⟩:=List.mem_iff_getElem?.mp hm
  exact absurd ((at_ i).mpr hi) (h2 i)
 ·refine ⟨r,?_⟩
  refine (h1).trans ?_
  congr 1
  have hi:=(at_ i).mp h2
  have hlt : s.idxOf c < s.length:=List.idxOf_lt_length_iff.mpr hm
  have hj : s[s.idxOf c]? = some c:=by
   refine (List.getElem?_eq_getElem hlt).trans ?_
   congr 1
   exact List.getElem_idxOf hlt
  rcases Nat.lt_trichotomy i (s.idxOf c) with q | q | q
  ·exfalso
   have hlt2 : i < s.length:=Nat.lt_trans q hlt
   have:=List.not_of_lt_findIdx (p:=(· == c)) (xs:=s) (i:=i) q
   replace hi:=(List.getElem?_eq_getElem hlt2).symm.trans hi
   simp only [Option.some.injEq] at hi
   simp [hi] at this
  ·exact q
  ·exact absurd ((at_ _).mpr hj) (h3 _ q)
theorem Reps.ints {w : World} {h : Heap} {X : List Addr} {pa : Addr} : ∀ {ds : List V} {vs : List Value} {l : List Int},Reps w h X pa vs ds → intsOf ds = some l → ∃ xs : List (Int × Tok),vs = xs.map (fun p=>Value.int p.1 p.2) ∧ xs.map (·.1) = l
 | [],[],_,_,e=>by obtain rfl:=sI e;exact ⟨[],rfl,rfl⟩
 | d :: ds,v :: vs,l,⟨a,b⟩,e=>by
  refine vI_inv (show vI _ d = some l from e) fun i ed e=>?_
  subst ed
  obtain ⟨r,hr,rfl⟩:=mapS e
  obtain ⟨t,rfl⟩:=a
  obtain ⟨xs,rfl,h2⟩:=b.ints hr
  exact ⟨(i,t) :: xs,rfl,by refine (h2).symm.symm ▸ ?_;rfl⟩
theorem preSum_list (xs : List (Int × Tok)) : preSum (numAt xs.toArray) xs.toArray.size = (xs.map (·.1)).sum:=by
 rw [preSum_eq,List.take_of_length_le (by simp)]
theorem itx_ok (i : Int) (h : i.natAbs < 2 ^ 1900) : TxOk (itx i):=by
 refine ⟨?_,fun c hc=>?_⟩
 ·have h2 : i.natAbs.log2 < 1920:=by
   by_cases h0 : i.natAbs = 0
   ·rw [h0];decide
   ·exact Nat.lt_trans ((Nat.log2_lt h0).mpr h) (by decide)
  have:=PySem.int_text_fits h2
  rw [itx_S,S_len,← SZ_eq] at this
  exact this
 ·unfold itx at hc
  obtain ⟨x,_,rfl⟩:=memM hc
  have:=x.valid
  have h2 : x.toNat = x.val.toNat:=rfl
  rcases this with q | q
  ·rw [h2];have : x.val.toNat < 55296:=q;lia
  ·rw [h2];exact q.2
section
variable {prog : Program} {w : World} {A : Around} {E : Value → Shared → Prop} {s : Shared} {X : List Addr} {pa : Addr} {Q : Value → Shared → Prop}
theorem bi_snd {b : Bi} {ds : List V} {vs : List Value} {d : V} (e0 : biV b ds = some d) (r : Reps w s.heap X pa vs ds) (hh : A.handled = none)
  (h : ∀ v h' tk',Grow s.heap h' → Rep w h' X pa v d → Q v { s with heap:=h',toks:=tk' }) : wpAny (model prog w) A (call (bval b) vs) Q E s:=by
 cases b with
 | len =>
  refine o1_inv (show o1 _ ds = some d from e0) fun dv ed e=>?_
  clear e0
  subst ed
  obtain ⟨v,us,rfl,r1,r⟩:=r.cons_inv;obtain rfl:=r.nil_inv
  refine vC_inv e no3 (fun Z=>no3) (fun x ev e=>?_) (fun Z=>no3) (fun l ev e=>?_) (fun Z Z=>no3) no3
  ·subst ev
   obtain rfl:=sI e;obtain ⟨hx,t,rfl⟩:=r1
   have:=hx.1;unfold SZ at this
   exact len_str (by rw [S_len];lia) (by rw [S_len];exact h _ _ _ (Grow.refl _) ⟨_,rfl⟩)
  ·subst ev
   obtain rfl:=sI e;obtain ⟨hx,ad,ws,rfl,_,hl,hr⟩:=r1
   unfold SZ at hx
   refine PySem.Calls.call_len_list hl (by refine (List.size_toArray).symm ▸ ?_;refine (hr.len).symm ▸ ?_;lia) ?_
   refine (List.size_toArray).symm ▸ ?_;refine (hr.len).symm ▸ ?_
   exact h _ _ _ (Grow.refl _) ⟨_,rfl⟩
 | ord =>
  refine o1_inv (show o1 _ ds = some d from e0) fun dv ed e1=>vS_inv e1 fun s ev e2=>o1_inv e2 fun c es e=>?_
  clear e1 e2 e0
  subst ed ev es
  obtain ⟨v,us,rfl,r1,r⟩:=r.cons_inv;obtain rfl:=r.nil_inv
  obtain rfl:=sI e;obtain ⟨_,t,rfl⟩:=r1
  exact P.ord_of_char (h _ _ _ (Grow.refl _) ⟨_,rfl⟩)
 | chr =>
  refine o1_inv (show o1 _ ds = some d from e0) fun dv ed e1=>vI_inv e1 fun i ev e=>?_
  clear e1 e0
  subst ed ev
  obtain ⟨v,us,rfl,r1,r⟩:=r.cons_inv;obtain rfl:=r.nil_inv
  obtain ⟨hi,e⟩:=if_inv e
  obtain rfl:=sI e;obtain ⟨t,rfl⟩:=r1
  refine P.chr_of_int (by rewrite [decide_eq_false (by lia)];refine (decide_eq_false (by lia)).trans ?_;rfl) (h _ _ _ (Grow.refl _) ⟨⟨by simp [SZ],fun c hc=>?_⟩,_,rfl⟩)
  refine (mems hc).symm ▸ ?_;lia
 | str =>
  refine o1_inv (show o1 (vI strI) ds = some d from e0) fun dv ed e1=>vI_inv e1 fun i ev e=>?_
  clear e1 e0
  subst ed ev
  obtain ⟨v,us,rfl,r1,r⟩:=r.cons_inv;obtain rfl:=r.nil_inv
  obtain ⟨hi,e⟩:=strI_inv e
  obtain rfl:=sI e;obtain ⟨t,rfl⟩:=r1
  refine P.str_of_int ?_ ?_
  ·by_cases h0 : i.natAbs = 0
   ·refine (h0).symm ▸ ?_;decide
   ·exact Nat.lt_trans ((Nat.log2_lt h0).mpr hi) (by decide)
  ·rw [itx_S]
   exact h _ _ _ (Grow.refl _) ⟨itx_ok i hi,_,rfl⟩
 | abs =>
  refine o1_inv (show o1 _ ds = some d from e0) fun dv ed e1=>vI_inv e1 fun i ev e=>?_
  clear e1 e0
  subst ed ev
  obtain ⟨v,us,rfl,r1,r⟩:=r.cons_inv;obtain rfl:=r.nil_inv
  obtain rfl:=sI e;obtain ⟨t,rfl⟩:=r1
  refine call_abs_int fun u tk=>?_
  exact (show (if i < 0 then -i else i) = (i.natAbs : Int) by split <;> lia).symm ▸ h _ _ _ (Grow.refl _) ⟨_,rfl⟩
 | max =>
  refine o2_inv (show o2 _ ds = some d from e0) fun dv dw ed e1=>vI_inv e1 fun a ea e2=>vI_inv e2 fun b eb e=>?_
  clear e1 e2 e0
  subst ed ea eb
  obtain ⟨v,us,rfl,r1,r⟩:=r.cons_inv;obtain ⟨v2,us,rfl,r2,r⟩:=r.cons_inv;obtain rfl:=r.nil_inv
  obtain rfl:=sI e;obtain ⟨t,rfl⟩:=r1;obtain ⟨u,rfl⟩:=r2
  refine max_two_ints hh fun h' tk hk=>h _ _ _ hk ?_
  by_cases hc : b > a
  ·refine (if_pos hc).symm ▸ ?_;refine (if_pos hc).symm ▸ ?_;exact ⟨_,rfl⟩
  ·refine (if_neg hc).symm ▸ ?_;refine (if_neg hc).symm ▸ ?_;exact ⟨_,rfl⟩
 | min =>
  refine o2_inv (show o2 _ ds = some d from e0) fun dv dw ed e1=>vI_inv e1 fun a ea e2=>vI_inv e2 fun b eb e=>?_
  clear e1 e2 e0
  subst ed ea eb
  obtain ⟨v,us,rfl,r1,r⟩:=r.cons_inv;obtain ⟨v2,us,rfl,r2,r⟩:=r.cons_inv;obtain rfl:=r.nil_inv
  obtain rfl:=sI e;obtain ⟨t,rfl⟩:=r1;obtain ⟨u,rfl⟩:=r2
  refine min_two_ints hh fun h' tk hk=>h _ _ _ hk ?_
  by_cases hc : b < a
  ·refine (if_pos hc).symm ▸ ?_;refine (if_pos hc).symm ▸ ?_;exact ⟨_,rfl⟩
  ·refine (if_neg hc).symm ▸ ?_;refine (if_neg hc).symm ▸ ?_;exact ⟨_,rfl⟩
 | sum =>
  refine o1_inv (show o1 _ ds = some d from e0) fun dv ed e1=>vL_inv e1 fun l ev e=>?_
  clear e1 e0
  subst ed ev
  obtain ⟨v,us,rfl,r1,r⟩:=r.cons_inv;obtain rfl:=r.nil_inv
  obtain ⟨ns,hn,rfl⟩:=mapS e
  obtain ⟨_,ad,ws,rfl,_,hl,hr⟩:=r1
  obtain ⟨xs,rfl,rfl⟩:=hr.ints hn
  refine sum_intListG (xs:=xs.toArray) hh (by simpa [intItems] using hl) fun h' tk t' hk=>?_
  rw [preSum_list]
  exact h _ _ _ hk ⟨_,rfl⟩
 | upper =>
  refine o1_inv (show o1 _ ds = some d from e0) fun dv ed e1=>vS_inv e1 fun x ev e=>?_
  clear e1 e0
  subst ed ev
  obtain ⟨v,us,rfl,r1,r⟩:=r.cons_inv;obtain rfl:=r.nil_inv
  obtain ⟨ha,e⟩:=if_inv e
  obtain rfl:=sI e;obtain ⟨hx,t,rfl⟩:=r1
  have ha : ∀ c ∈ x,c < 128:=fun c hc=>of_decide_eq_true (allT ha c hc)
  refine SC.upper ?_ ?_
  ·refine (upper_S ha).symm ▸ ?_;rewrite [S_len];rw [List.length_map]
   unfold Builtin.Str.tooLong
   rewrite [decide_eq_false_iff_not];refine (SZ_eq).symm.symm ▸ ?_
   exact nlt hx.1
  ·refine (upper_S ha).symm ▸ ?_
   refine h _ _ _ (Grow.refl _) ⟨⟨by rw [List.length_map];exact hx.1,fun c hc=>?_⟩,_,rfl⟩
   obtain ⟨y,hy,rfl⟩:=memM hc
   exact Nat.lt_trans (upc_le y (ha y hy)) (by decide)
 | lower =>
  refine o1_inv (show o1 _ ds = some d from e0) fun dv ed e1=>vS_inv e1 fun x ev e=>?_
  clear e1 e0
  subst ed ev
  obtain ⟨v,us,rfl,r1,r⟩:=r.cons_inv;obtain rfl:=r.nil_inv
  obtain ⟨ha,e⟩:=if_inv e
  obtain rfl:=sI e;obtain ⟨hx,t,rfl⟩:=r1
  have ha : ∀ c ∈ x,c < 128:=fun c hc=>of_decide_eq_true (allT ha c hc)
  refine SC.lower ?_ ?_
  ·refine (lower_S ha).symm ▸ ?_;rewrite [S_len];rw [List.length_map]
   unfold Builtin.Str.tooLong
   rewrite [decide_eq_false_iff_not];refine (SZ_eq).symm.symm ▸ ?_
   exact nlt hx.1
  ·refine (lower_S ha).symm ▸ ?_
   refine h _ _ _ (Grow.refl _) ⟨⟨by rw [List.length_map];exact hx.1,fun c hc=>?_⟩,_,rfl⟩
   obtain ⟨y,hy,rfl⟩:=memM hc
   exact Nat.lt_trans (loc_le y (ha y hy)) (by decide)
 | index =>
  refine o2_inv (show o2 _ ds = some d from e0) fun dv dw ed e1=>vS_inv e1 fun x ea e2=>vS_inv e2 fun y eb e3=>o1_inv e3 fun c ec e=>?_
  clear e1 e2 e3 e0
  subst ed ea eb ec
  obtain ⟨v,us,rfl,r1,r⟩:=r.cons_inv;obtain ⟨v2,us,rfl,r2,r⟩:=r.cons_inv;obtain rfl:=r.nil_inv
  obtain ⟨hc,e⟩:=if_inv e
  obtain rfl:=sI e;obtain ⟨_,t,rfl⟩:=r1;obtain ⟨_,u,rfl⟩:=r2
  obtain ⟨rest,ho⟩:=occ_idx hc
  exact SC.index ho (h _ _ _ (Grow.refl _) ⟨_,rfl⟩)
 | join =>
  refine o2_inv (show o2 _ ds = some d from e0) fun dv dw ed e1=>vS_inv e1 fun x ea e2=>o0_inv e2 fun ex e3=>vL_inv e3 fun l eb e=>?_
  clear e1 e2 e3 e0
  subst ed ea ex eb
  obtain ⟨v,us,rfl,r1,r⟩:=r.cons_inv;obtain ⟨v2,us,rfl,r2,r⟩:=r.cons_inv;obtain rfl:=r.nil_inv
  obtain ⟨ts,ht,e⟩:=binS e
  obtain ⟨hsz,e⟩:=if_inv e
  obtain rfl:=sI e;obtain ⟨_,t,rfl⟩:=r1;obtain ⟨_,ad,ws,rfl,_,hl,hr⟩:=r2
  have hok:=(strs_reads hr ht).2
  refine join_list hl (by simpa using hr.strs ht) ?_ fun t' k=>?_
  ·have e1 : ((ts.map S).map (·.length)).sum = ts.flatten.length:=by
    refine (List.map_map).symm ▸ ?_;refine Eq.trans ?_ (List.length_flatten).symm
    exact congrArg List.sum (List.map_congr_left fun x Z=>S_len x)
   refine (e1).symm ▸ ?_;rw [S_len]
   unfold SZ at hsz
   simp only [List.length_nil,Nat.mul_zero,Nat.add_zero]
   exact hsz
  ·have e2 : Txt.join (S []) (ts.map S) = S ts.flatten:=by
    rw [← join_S]
    exact beq_iff_eq.mp (join_plain_closes _ _)
   refine (e2).symm ▸ ?_
   refine h _ _ _ (Grow.refl _) ⟨⟨hsz,fun c hc=>?_⟩,_,rfl⟩
   obtain ⟨x,hx,hc⟩:=List.mem_flatten.mp hc
   exact (hok x hx).2 c hc
end
end
section
open PySem PySem.W PyProof.Rows
section
variable {M : Model} {A : Around} {E : Value → Shared → Prop} {env : Env}
variable {nm q : Str} {C N : Addr} {bs bm : List Value} {hdct : Bool} {sn : List Str} {sub : List Value} {ab : Bool} {col : Option Bool} {dd : Option Addr} {k0 k1 k2 k3 k5 : Option Value} {newId : String}
theorem raise_made {s : Shared} {x : Sem Value} {Q : Flow → Shared → Prop} (hbase : bm.contains (.type "BaseException") = true) (hh : A.handled = none)
  (h : wpAny M A x (fun v s₁=>Ex4 fun e dx vs sl=>A5 (v = .ref e) (s₁.heap.get? C = some (excClassObj nm q C N bs bm hdct sn sub ab col dd k0 k1 k2 k3 k5 newId)) (s₁.heap.get? e = some { cls:=.ref C,dict:=some dx,data:=.fields vs,slots:=sl }) (vs[1]? = some .none) (E (.ref e) s₁)) E s) :
  wpAny M A (raiseStmt env (some x) none) Q E s:=by
 have hcB : (Value.ref C :: bm).contains (.type "BaseException") = true := by rw [List.contains_cons, hbase, Bool.or_true]
 unfold raiseStmt
 refine wpAny_bind (wpAny_mono h (fun v s₁ h₁=>?_) fun Z Z x=>x)
 obtain ⟨e,dx,vs,sl,rfl,hC,he,hv,hE⟩:=h₁
 obtain ⟨hp,g,d,tk,os⟩:=s₁
 have hf : wpAny M A (field (.ref e) 1) (fun v s'=>v = .none ∧ s' = ⟨hp,g,d,tk,os⟩) E ⟨hp,g,d,tk,os⟩:=wpAny_field he rfl hv ⟨rfl,rfl⟩
 repeat (first | with_reducible refine wpAny_loadPart_at he ?_ | with_reducible refine wpAny_loadPart_at hC ?_ | (with_reducible refine wpAny_isSubtype_exc hC ?_;rw [hcB]) | (refine wpAny_mono hf (fun Z Z z=>?_) (fun Z Z z=>z);obtain ⟨rfl,rfl⟩:=z) | wp_step)
 exact wpAny_raiseNew_none hh hE
end
structure Fx (F : List Addr) (h h' : Heap) : Prop where
 same : ∀ b o,b ∉ F → h.get? b = some o → Nrm o → h'.get? b = some o
 slots : ∀ b o,h.get? b = some o → Nrm o → ∃ sl,h'.get? b = some { o with slots:=sl }
theorem Fx.refl (F : List Addr) (h : Heap) : Fx F h h:=⟨fun Z Z Z e Z=>e,fun Z o e Z=>⟨o.slots,e⟩⟩
theorem Fx.trans {F : List Addr} {h₁ h₂ h₃ : Heap} (x : Fx F h₁ h₂) (y : Fx F h₂ h₃) : Fx F h₁ h₃ :=
 ⟨fun b o hb e hn=>y.same b o hb (x.same b o hb e hn) hn,fun b o e hn=>(by obtain ⟨_,e₁⟩:=x.slots b o e hn;obtain ⟨sl,e₂⟩:=y.slots b _ e₁ hn;exact ⟨sl,e₂⟩)⟩
theorem Fx.kp {F X : List Addr} {pa : Addr} {h h' : Heap} (x : Fx F h h') (hm : ∀ a,a ∈ F → a ∈ X) : Kp X pa h h' :=
 ⟨fun b o hb e hn=>x.same b o (fun q=>hb (hm b q)) e hn,fun b o Z e hn=>x.slots b o e hn⟩
theorem Fx.frames {F : List Addr} {h h' base : Heap} {l : List Env} (x : Fx F h h') (hl : h.FunFrames base l) : h'.FunFrames base l :=
 hl.of_keeps fun b o ho hd=>(by obtain ⟨_,e⟩:=x.slots b o ho (.inl hd);exact ⟨_,e,rfl⟩)
noncomputable def ExcRec (h : Heap) (C e dx : Addr) (tb : Value) : Prop:=(Ex2 fun vs sl=>h.get? e = some { cls:=.ref C,dict:=some dx,data:=.fields vs,slots:=sl } ∧ vs[1]? = some tb)
inductive TbAt (h base : Heap) (e : Addr) : Value → Value → Prop
 | fresh : TbAt h base e .none .none
 | made {T : Addr} {oT : Obj} {ts : Array Value} {fl : Value} : base.get? T = none → T ≠ e → h.get? T = some oT → oT.cls = .type "traceback" → oT.data = .fields ts → ts[3]? = some fl → TbAt h base e (.ref T) fl
noncomputable def frs (l : List Env) : List Addr:=l.filterMap (·.frame)
section
variable {M : Model} {A : Around} {E : Value → Shared → Prop} {s : Shared} {base : Heap} {env : Env} {outer : List Env} {L e C dx : Addr}
theorem entry_snd {tb head : Value} {hadNext : Bool} {Q : Unit → Shared → Prop}
  (hfr : A.frames = some (env :: outer)) (hl : s.heap.FunFrames base (env :: outer)) (hf : env.frame = some L) (hkb : base.StaysIn s.heap) (hen : base.get? e = none) (he : ExcRec s.heap C e dx tb)
  (h : ∀ h' T,base.StaysIn h' → Fx (frs (env :: outer)) s.heap h' → ExcRec h' C e dx (.ref T) → TbAt h' base e (.ref T) (rawInt L) → Q () { s with heap:=h' }) :
  wpAny M A (do let a ← frameOf env;let pl ← entryPlaceOf L hadNext;let b ← EntryCells.newEntry head a .none (rawInt L) .none pl;setField (.ref e) 1 b) Q E s:=by
 obtain ⟨vs,sl,he,hv⟩:=he
 have hsz : 1 < vs.size:=(Array.getElem?_eq_some_iff.mp hv).1
 have hene : e ∉ (env :: outer).filterMap (·.frame):=fun hm=>by
  obtain ⟨_,o,ho,hnf⟩:=hl.mem hm
  rw [he] at ho;injection ho with ho;subst ho;exact hnf vs rfl
 refine wpAny_bind (wpAny_frameOf_fun hfr hl hf fun h₁ hs₁=>?_)
 refine wpAny_bind (wpAny_entryPlaceOf fun pl hpl=>?_)
 unfold EntryCells.newEntry newFields
 refine wpAny_bind (wpAny_newObj_type ?_ (hpl.sizeOk5 _ _ _ _ _))
 have he₁:=(hs₁.2.1 e hene).trans he
 have kb₁ : base.StaysIn h₁:=fun b o hbo=>(hs₁.2.1 b fun hm=>by rw [(hl.mem hm).1] at hbo;exact nS hbo).trans (hkb b o hbo)
 generalize hob : ({ cls := .type "traceback", dict := none, data := .fields ([head, .ref L, .none, rawInt L, .none] ++ (if pl.isEmpty then List.replicate 6 Value.none else pl)).toArray } : Obj) = ob
 have he₂:=Heap.get?_push_of_some (h:=h₁) ob he₁
 refine wpAny_setField he₂ rfl hsz ?_
 have hTe : h₁.objs.size ≠ e:=Nat.ne_of_gt (Heap.lt_size he₁)
 have hobf : ob.isFreed = false:=by rw [← hob];rfl
 have he₃:=Heap.get?_update_self (Obj.mapFields (·.setIfInBounds 1 (Value.ref h₁.objs.size))) he₂ rfl
 have hT₃:=(Heap.get?_update_other (h₁.push ob) (Obj.mapFields (·.setIfInBounds 1 (Value.ref h₁.objs.size))) (Ne.symm hTe)).trans (Heap.get?_push_size h₁ hobf)
 have keep : ∀ b o,b ≠ e → h₁.get? b = some o → ((h₁.push ob).update e (Obj.mapFields (·.setIfInBounds 1 (Value.ref h₁.objs.size)))).get? b = some o:=fun b o hbe hb=>by
  rw [Heap.get?_update_other _ _ (Ne.symm hbe)]
  exact Heap.get?_push_of_some _ hb
 have noRecord : ∀ b o,s.heap.get? b = some o → Nrm o → b ≠ e:=fun b o hb hnf q=>by
  rw [q,he] at hb;injection hb with hb;subst hb
  rcases hnf with hnf | ⟨_,hc,_⟩
  ·exact hnf vs rfl
  ·exact PySem.Value.noConfusion hc
 refine h _ h₁.objs.size (fun b o hbo=>keep b o (fun q=>by rw [q,hen] at hbo;exact nS hbo) (kb₁ b o hbo)) ⟨fun b o hb ho hnf=>?_,fun b o ho hnf=>?_⟩ ⟨_,_,he₃,by simp [hsz]⟩ (.made kb₁.fresh hTe hT₃ (by rw [← hob]) (by rw [← hob]) ?_)
 ·exact keep b _ (noRecord b o ho hnf) ((hs₁.2.1 b hb).trans ho)
 ·obtain ⟨sl,hs⟩:=hs₁.2.2 b o ho
  exact ⟨sl,keep b _ (noRecord b o ho hnf) hs⟩
 ·first | (simp;done) | (rcases hpl with rfl | ⟨_,_,_,_,_,_,_,rfl⟩ <;> simp)
theorem note_snd {tb fl : Value} {Q : Unit → Shared → Prop}
  (hfr : A.frames = some (env :: outer)) (hl : s.heap.FunFrames base (env :: outer)) (hf : env.frame = some L) (hkb : base.StaysIn s.heap) (hen : base.get? e = none) (he : ExcRec s.heap C e dx tb)
  (ht : TbAt s.heap base e tb fl) (hfl : fl = .none ∨ fl = rawInt L)
  (h : ∀ h' T,base.StaysIn h' → Fx (frs (env :: outer)) s.heap h' → ExcRec h' C e dx (.ref T) → TbAt h' base e (.ref T) (rawInt L) → Q () { s with heap:=h' }) :
  wpAny M A (noteFrame (.ref e) env) Q E s:=by
 have he0:=he
 obtain ⟨vs,sl,heg,hv⟩:=he
 unfold noteFrame
 simp only [hf]
 refine wpAny_bind (wpAny_field heg rfl hv ?_)
 cases ht with
 | fresh =>
  rw [if_neg (by decide)]
  exact entry_snd hfr hl hf hkb hen he0 h
 | made hn hTe hT hcT hdT h3 =>
  rw [if_pos (show (Value.ref T != Value.none) = true from by simp)]
  refine wpAny_bind (wpAny_field hT hdT h3 ?_)
  rcases hfl with rfl | rfl
  ·rw [if_neg (show ¬ ((Value.none == rawInt L) = true) from by simp [rawInt])]
   refine wpAny_bind (wpAny_setField hT hdT (Array.getElem?_eq_some_iff.mp h3).1 ?_)
   have other : ∀ b,b ≠ T → (s.heap.update T (Obj.mapFields (·.setIfInBounds 3 Value.none))).get? b = s.heap.get? b:=fun b hb=>Heap.get?_update_other _ _ (Ne.symm hb)
   have noRecord : ∀ b o,s.heap.get? b = some o → Nrm o → b ≠ T:=fun b o hb hnf q=>by
    rw [q,hT] at hb;injection hb with hb;subst hb
    rcases hnf with hnf | ⟨_,hc,hn'⟩
    ·exact hnf ts hdT
    ·rw [hcT] at hc;injection hc with hc;exact hn' hc.symm
   have fx : Fx (frs (env :: outer)) s.heap (s.heap.update T (Obj.mapFields (·.setIfInBounds 3 Value.none))) :=
    ⟨fun b o Z ho hnf=>(other b (noRecord b o ho hnf)).trans ho,fun b o ho hnf=>⟨o.slots,(other b (noRecord b o ho hnf)).trans ho⟩⟩
   refine entry_snd hfr (fx.frames hl) hf (fun b o hbo=>(other b fun q=>by rw [q,hn] at hbo;exact nS hbo).trans (hkb b o hbo)) hen ⟨vs,sl,(other e (Ne.symm hTe)).trans heg,hv⟩ fun h' T' k1 k2 k3 k4=>h h' T' k1 (fx.trans k2) k3 k4
  ·rw [if_pos (show (rawInt L == rawInt L) = true from by simp)]
   exact wpAny_pure (h s.heap T hkb (Fx.refl _ _) he0 (.made hn hTe hT hcT hdT h3))
theorem flight_snd {T : Addr} {fl : Value} {fr : Option Addr} {Q : Unit → Shared → Prop} (hkb : base.StaysIn s.heap) (he : ExcRec s.heap C e dx (.ref T)) (ht : TbAt s.heap base e (.ref T) fl) (F : List Addr)
  (h : ∀ h',base.StaysIn h' → Fx F s.heap h' → ExcRec h' C e dx (.ref T) → TbAt h' base e (.ref T) (fr.elim .none fun f=>rawInt f) → Q () { s with heap:=h' }) :
  wpAny M A (setFlight (.ref e) fr) Q E s:=by
 obtain ⟨vs,sl,heg,hv⟩:=he
 cases ht with
 | made hn hTe hT hcT hdT h3 =>
  have hsz3 : 3 < ts.size:=(Array.getElem?_eq_some_iff.mp h3).1
  have other : ∀ b,b ≠ T → (s.heap.update T (Obj.mapFields (·.setIfInBounds 3 (fr.elim Value.none fun f=>rawInt f)))).get? b = s.heap.get? b :=
   fun b hb=>Heap.get?_update_other _ _ (Ne.symm hb)
  have noRecord : ∀ b o,s.heap.get? b = some o → Nrm o → b ≠ T:=fun b o hb hnf q=>by
   rw [q,hT] at hb;injection hb with hb;subst hb
   rcases hnf with hnf | ⟨_,hc,hn'⟩
   ·exact hnf ts hdT
   ·rw [hcT] at hc;injection hc with hc;exact hn' hc.symm
  unfold setFlight
  refine wpAny_bind (wpAny_field heg rfl hv ?_)
  rw [if_pos (show (Value.ref T != Value.none) = true from by rfl)]
  refine wpAny_setField hT hdT hsz3 (h _ (fun b o hbo=>(other b fun q=>by rw [q,hn] at hbo;exact nS hbo).trans (hkb b o hbo))
   ⟨fun b o Z ho hnf=>(other b (noRecord b o ho hnf)).trans ho,fun b o ho hnf=>⟨o.slots,(other b (noRecord b o ho hnf)).trans ho⟩⟩
   ⟨vs,sl,(other e (Ne.symm hTe)).trans heg,hv⟩
   (.made hn hTe (Heap.get?_update_self _ hT (Obj.isFreed_of_fields (Obj.data_mapFields hdT _))) ((Obj.cls_mapFields ..).trans hcT) (Obj.data_mapFields hdT _) (by simp [hsz3])))
theorem leaving_snd {tb fl : Value} {Q : Unit → Shared → Prop}
  (hfr : A.frames = some (env :: outer)) (hl : s.heap.FunFrames base (env :: outer)) (hf : env.frame = some L) (hkb : base.StaysIn s.heap) (hen : base.get? e = none) (he : ExcRec s.heap C e dx tb)
  (ht : TbAt s.heap base e tb fl) (hfl : fl = .none ∨ fl = rawInt L)
  (h : ∀ h' T,base.StaysIn h' → Fx (frs (env :: outer)) s.heap h' → ExcRec h' C e dx (.ref T) → TbAt h' base e (.ref T) .none → Q () { s with heap:=h' }) :
  wpAny M A (leaving env (.ref e)) Q E s:=by
 unfold leaving
 refine wpAny_bind (note_snd hfr hl hf hkb hen he ht hfl fun h' T k1 k2 k3 k4=>?_)
 exact flight_snd (s:={ s with heap:=h' }) (fr:=none) k1 k3 k4 (frs (env :: outer)) fun h'' j1 j2 j3 j4=>h h'' T j1 (k2.trans j2) j3 j4
end
end
section
open PySem PySem.W PyProof.Rows
structure Cx where
 prog : Program
 w : World
 base : Heap
 pa : Addr
 C : Addr
structure Bs (c : Cx) (fs : List Env) (X : List Addr) (p : Int) (h : Heap) : Prop where
 stays : c.base.StaysIn h
 frames : h.FunFrames c.base fs
 pen : c.pa ≠ 0 → ∃ t,h.IsList c.pa #[.int p t]
 sys : sysModules ∈ X
 pin : c.pa ∈ X
 fin : ∀ a ∈ frs fs,a ∈ X
 paf : c.pa ∉ frs fs
 live : ∀ x ∈ X,∃ o,h.get? x = some o ∧ Nrm o
 zero : ∃ o,c.base.get? 0 = some o ∧ Nrm o
noncomputable def KpF (c : Cx) (fs : List Env) (h h' : Heap) : Prop:=Kp (c.pa :: frs fs) c.pa h h'
theorem KpF.refl (c : Cx) (fs : List Env) (h : Heap) : KpF c fs h h:=Kp.refl ..
theorem KpF.trans {c : Cx} {fs : List Env} {h₁ h₂ h₃ : Heap} (x : KpF c fs h₁ h₂) (y : KpF c fs h₂ h₃) : KpF c fs h₁ h₃:=Kp.trans x y
theorem KpF.grow {c : Cx} {fs : List Env} {h h' : Heap} (x : Grow h h') : KpF c fs h h':=x.kp ..
theorem funFrames_up {base h h' : Heap} : ∀ {l : List Env},h.FunFrames base l → (∀ b o,b ∈ frs l → h.get? b = some o → (∀ vs,o.data ≠ .fields vs) → ∃ o',h'.get? b = some o' ∧ ∀ vs,o'.data ≠ .fields vs) → h'.FunFrames base l
 | [],_,_=>trivial
 | env :: l,⟨a,⟨L,o,e1,e2,e3,e4⟩,r⟩,k=>by
  obtain ⟨o',h1,h2⟩:=k L o (by simp [frs,e1]) e3 e4
  refine ⟨a,⟨L,o',e1,e2,h1,h2⟩,funFrames_up r fun b o hb=>k b o ?_⟩
  unfold frs at hb ⊢
  rw [List.filterMap_cons]
  split
  ·exact hb
  ·exact List.mem_cons_of_mem _ hb
theorem Bs.lt {c : Cx} {fs : List Env} {X : List Addr} {p : Int} {h : Heap} (x : Bs c fs X p h) : ∀ a ∈ X,a < h.objs.size:=fun a ha=>(by obtain ⟨_,e,_⟩:=x.live a ha;exact Heap.lt_size e)
theorem Bs.kpX {c : Cx} {fs : List Env} {X : List Addr} {p : Int} {h h' : Heap} (x : Bs c fs X p h) (k : KpF c fs h h') : Kp X c.pa h h' :=
 Kp.mono k fun a ha=>by
  rcases memc ha with rfl | ha
  ·exact x.pin
  ·exact x.fin a ha
theorem IsList.nrm {h : Heap} {a : Addr} {vs : Array Value} (x : h.IsList a vs) : ∃ o,h.get? a = some o ∧ Nrm o :=
 (by obtain ⟨o,e,_,n,hd⟩:=x;exact ⟨o,e,.inl fun Z q=>by exact PySem.Data.noConfusion ((hd).symm.trans q)⟩)
theorem Nrm.slots {o : Obj} {sl : Array (Option Value)} (x : Nrm o) : Nrm { o with slots:=sl }:=x
theorem Bs.step {c : Cx} {fs : List Env} {X : List Addr} {p p' : Int} {h h' : Heap} (x : Bs c fs X p h) (k : KpF c fs h h') (hs : c.base.StaysIn h')
  (hp : c.pa ≠ 0 → ∃ t,h'.IsList c.pa #[.int p' t]) : Bs c fs X p' h' where
 stays:=hs
 frames:=funFrames_up x.frames fun b o hb e hn=>by
  obtain ⟨sl,e'⟩:=k.slots b o (fun q=>x.paf (q ▸ hb)) e (.inl hn)
  exact ⟨_,e',hn⟩
 pen:=hp
 sys:=x.sys
 pin:=x.pin
 fin:=x.fin
 paf:=x.paf
 live:=fun a ha=>by
  by_cases hpa : a = c.pa
  ·subst hpa
   by_cases hz : c.pa = 0
   ·obtain ⟨o,e,hn⟩:=x.zero
    exact ⟨o,by exact (hz).symm ▸ hs 0 o e,hn⟩
   ·obtain ⟨t,hl⟩:=hp hz
    exact IsList.nrm hl
  ·obtain ⟨o,e,hn⟩:=x.live a ha
   obtain ⟨sl,e'⟩:=k.slots a o hpa e hn
   exact ⟨_,e',hn.slots⟩
 zero:=x.zero
theorem Grow.isList {h h' : Heap} {a : Addr} {vs : Array Value} (g : Grow h h') (x : h.IsList a vs) : h'.IsList a vs:=(by obtain ⟨o,e,r⟩:=x;exact ⟨o,g _ _ e,r⟩)
theorem Grow.stays {b h h' : Heap} (g : Grow h h') (x : b.StaysIn h) : b.StaysIn h':=fun a o e=>g _ _ (x a o e)
theorem Bs.grow {c : Cx} {fs : List Env} {X : List Addr} {p : Int} {h h' : Heap} (x : Bs c fs X p h) (g : Grow h h') : Bs c fs X p h' :=
 x.step (.grow g) (g.stays x.stays) fun hz=>(by obtain ⟨t,hl⟩:=x.pen hz;exact ⟨t,g.isList hl⟩)
noncomputable def Acc (env : Env) (h : Heap) (x : Str) (v : Value) : Prop :=
 env.scope.kind = .function ∧ ((env.kindOf x = some .local ∧ ∃ m,h.Ns env.locals m ∧ m x = some v) ∨
  ∃ c, A3 (env.cells.lookup x = some c) (h.IsCell c (some v)) (env.kindOf x = some .cell ∨ env.kindOf x = some .free ∧ (x == ("__classdict__" : Str)) = false))
noncomputable def stor (env : Env) : List Addr:=env.locals :: (env.cells.filter fun y=>decide (env.cells.lookup y.1 = some y.2)).map (·.2)
theorem mem_stor_inv {env : Env} {a : Addr} (h : a ∈ stor env) : a = env.locals ∨ ∃ y,env.cells.lookup y = some a:=by
 rcases memc h with h | h
 ·exact .inl h
 ·obtain ⟨y,hy,rfl⟩:=memM h
  exact .inr ⟨y.1,of_decide_eq_true (List.mem_filter.mp hy).2⟩
theorem mem_stor {env : Env} {x : Str} {c : Addr} (h : env.cells.lookup x = some c) : c ∈ stor env :=
 List.mem_cons_of_mem _ (List.mem_map.mpr ⟨(x,c),List.mem_filter.mpr ⟨mem_of_lookup h,decide_eq_true h⟩,rfl⟩)
theorem Acc.load {M : Model} {A : Around} {E : Value → Shared → Prop} {s : Shared} {env : Env} {x : Str} {v : Value} {Q : Value → Shared → Prop} (a : Acc env s.heap x v) (h : Q v s) : wpAny M A (loadName env x) Q E s:=by
 obtain ⟨hk,⟨hl,m,hn,hm⟩ | ⟨c,hc,hi,hl | ⟨hl,hd⟩⟩⟩:=a
 ·exact wpAny_loadName_local hk hl hn hm h
 ·exact wpAny_loadName_cell hk hl hc hi h
 ·exact wpAny_loadName_free hk hl hc hi h hd
theorem Acc.up {env : Env} {h h' : Heap} {x : Str} {v : Value} (a : Acc env h x v) (k : ∀ b o,b ∈ stor env → h.get? b = some o → Nrm o → ∃ sl,h'.get? b = some { o with slots:=sl }) : Acc env h' x v:=by
 obtain ⟨hk,⟨hl,m,⟨o,es,ep,e,hd,r⟩,hm⟩ | ⟨c,hc,⟨o,e,hd⟩,hl⟩⟩:=a
 ·obtain ⟨sl,e'⟩:=k _ o (List.mem_cons_self) e (.inl fun Z q=>by exact PySem.Data.noConfusion ((hd).symm.trans q))
  exact ⟨hk,.inl ⟨hl,m,⟨_,es,ep,e',hd,r⟩,hm⟩⟩
 ·obtain ⟨sl,e'⟩:=k _ o (mem_stor hc) e (.inl fun Z q=>by exact PySem.Data.noConfusion ((hd).symm.trans q))
  exact ⟨hk,.inr ⟨c,hc,⟨_,e',hd⟩,hl⟩⟩
noncomputable def SlotAt (c : Cx) (fs : List Env) (env : Env) (X : List Addr) (h : Heap) (x : Str) : Sl → Prop
 | .un=>True
 | .val d=>∃ v,Acc env h x v ∧ Rep c.w h X c.pa v d
 | .own ds=>ds.length ≤ SZ ∧ Ex2 fun a vs=>A6 (Acc env h x (.ref a)) (a ∈ X) (a ∉ c.pa :: frs fs) (a ∉ stor env) (h.IsList a vs.toArray) (Reps c.w h X c.pa vs ds)
 | .ownD kv=>Ex2 fun a vs=>A6 (Acc env h x (.ref a)) (a ∈ X) (a ∉ c.pa :: frs fs) (a ∉ stor env) (h.DictOf (intKind c.prog c.w) a ((kv.map (·.1)).zip vs)) (Reps c.w h X c.pa vs (kv.map (·.2)))
theorem dictOf_at {prog : Program} {w : World} {h h' : Heap} {a : Addr} {kvs : List (Int × Value)} (x : h.DictOf (intKind prog w) a kvs) (hk : ∀ o,h.get? a = some o → Nrm o → h'.get? a = some o) : h'.DictOf (intKind prog w) a kvs :=
 (by obtain ⟨o,es,ep,e,hx,hd,r⟩:=x;exact ⟨o,es,ep,hk o e (.inl fun Z q=>by exact PySem.Data.noConfusion ((hd).symm.trans q)),hx,hd,r⟩)
theorem isList_at {h h' : Heap} {a : Addr} {vs : Array Value} (x : h.IsList a vs) (hk : ∀ o,h.get? a = some o → Nrm o → h'.get? a = some o) : h'.IsList a vs :=
 (by obtain ⟨o,e,hc,n,hd⟩:=x;exact ⟨o,hk o e (.inl fun Z q=>by exact PySem.Data.noConfusion ((hd).symm.trans q)),hc,n,hd⟩)
noncomputable def Vs (c : Cx) (fs : List Env) (env : Env) (X : List Addr) (nm : List (Option Str)) (vs : List Sl) (h : Heap) : Prop :=
 (∀ b ∈ stor env,b ≠ c.pa) ∧ ∀ (i : Nat) (x : Str) (sl : Sl),nm[i]? = some (some x) → vs[i]? = some sl → SlotAt c fs env X h x sl
theorem SlotAt.up {c : Cx} {fs : List Env} {env : Env} {X : List Addr} {p : Int} {h h' : Heap} {x : Str} {sl : Sl} (hs : ∀ b ∈ stor env,b ≠ c.pa) (b : Bs c fs X p h) (k : KpF c fs h h') (y : SlotAt c fs env X h x sl) : SlotAt c fs env X h' x sl:=by
 have ka:=fun b o (hb : b ∈ stor env)=>k.slots b o (hs b hb)
 have kx:=b.kpX k
 cases sl with
 | un=>trivial
 | val d=>obtain ⟨v,a,r⟩:=y;exact ⟨v,a.up ka,r.kp kx (fun Z h=>h)⟩
 | own ds=>obtain ⟨hz,a,vs,ac,h1,h2,h3,hl,r⟩:=y;exact ⟨hz,a,vs,ac.up ka,h1,h2,h3,isList_at hl fun o=>k.same a o h2,r.kp kx (fun Z h=>h)⟩
 | ownD kv=>obtain ⟨a,vs,ac,h1,h2,h3,hl,r⟩:=y;exact ⟨a,vs,ac.up ka,h1,h2,h3,dictOf_at hl fun o=>k.same a o h2,r.kp kx (fun Z h=>h)⟩
theorem Vs.up {c : Cx} {fs : List Env} {env : Env} {X : List Addr} {nm : List (Option Str)} {vs : List Sl} {p : Int} {h h' : Heap} (b : Bs c fs X p h) (k : KpF c fs h h') (y : Vs c fs env X nm vs h) : Vs c fs env X nm vs h' :=
 ⟨y.1,fun i x sl e1 e2=>(y.2 i x sl e1 e2).up y.1 b k⟩
theorem ns1_sm {X : List Addr} {h h' : Heap} {a : Addr} {m : Str → Option Value} (k : Sm X h h') (ha : a ∉ X) (x : h.Ns1 a m) : h'.Ns1 a m :=
 (by obtain ⟨o,es,ep,e,hd,r⟩:=x;exact ⟨o,es,ep,k a o ha e (fun Z q=>by exact PySem.Data.noConfusion ((hd).symm.trans q)),hd,r⟩)
theorem ns1_live {h : Heap} {a : Addr} {m : Str → Option Value} (x : h.Ns1 a m) : ∃ o,h.get? a = some o ∧ Nrm o:=(by obtain ⟨o,_,_,e,hd,_⟩:=x;exact ⟨o,e,.inl fun Z q=>by exact PySem.Data.noConfusion ((hd).symm.trans q)⟩)
noncomputable def XD (c : Cx) (h : Heap) (X : List Addr) (dx : Addr) (t : Tx) (cs : List Tx) : Prop :=
 dx ∉ X ∧ ∃ m, A5 (h.Ns1 dx m) (∃ k, m ("code" : Str) = some (.int 1 k)) (TxOk t) (∃ k, m ("value" : Str) = some (.str (S t) k)) (∃ v, m ("errorcode" : Str) = some v ∧ Rep c.w h X c.pa v (.tup (cs.map .str)))
theorem XD.kp {c : Cx} {h h' : Heap} {X X' : List Addr} {dx : Addr} {t : Tx} {cs : List Tx} (x : XD c h X dx t cs) (k : Kp X c.pa h h') (hX : ∀ a,a ∈ X' → a ∈ X) : XD c h' X' dx t cs :=
 (by obtain ⟨h1,m,h2,h3,h4,h5,v,h6,h7⟩:=x;exact ⟨fun q=>h1 (hX _ q),m,ns1_sm k.sm h1 h2,h3,h4,h5,v,h6,h7.kp k hX⟩)
noncomputable def ExcAt (c : Cx) (h : Heap) (X : List Addr) (v : Value) (t : Tx) (cs : List Tx) : Prop :=
 (Ex2 fun ea dx=>A4 (v = .ref ea) (c.base.get? ea = none) (ExcRec h c.C ea dx .none) (XD c h X dx t cs))
noncomputable def Out (c : Cx) (h : Heap) (X : List Addr) (v : Value) : V → Prop
 | .exc t cs=>ExcAt c h X v t cs
 | d=>Rep c.w h X c.pa v d
noncomputable def FlyAt (c : Cx) (X : List Addr) (ok : Value → Prop) (t : Tx) (cs : List Tx) (e : Value) (h : Heap) : Prop :=
 (Ex4 fun ea dx tb fl=>A6 (e = .ref ea) (c.base.get? ea = none) (ExcRec h c.C ea dx tb) (TbAt h c.base ea tb fl) (ok fl) (XD c h X dx t cs))
theorem Out.rep {c : Cx} {h : Heap} {X : List Addr} {v : Value} {d : V} (x : Out c h X v d) (hd : ∀ t cs,d ≠ .exc t cs) : Rep c.w h X c.pa v d:=by
 cases d <;> first | exact x | exact absurd rfl (hd _ _)
theorem XD.sm {c : Cx} {h h' : Heap} {X X' : List Addr} {dx : Addr} {t : Tx} {cs : List Tx} (x : XD c h X dx t cs) (k : Sm X h h') (hX : ∀ a,a ∈ X' → a ∈ X ∨ Nov h a) : XD c h' X' dx t cs :=
 (by obtain ⟨h1,m,h2,h3,h4,h5,v,h6,h7⟩:=x;exact ⟨notin_of hX h1 (ns1_live h2),m,ns1_sm k h1 h2,h3,h4,h5,v,h6,Rep.sm k hX _ _ h7⟩)
end
section
open PySem PySem.W PyProof.Rows
noncomputable def zf1 {a0 : Type} : a0 → Bool:=fun Z=>false
noncomputable def zf2 {a0 a1 : Type} : a0 → a1 → Bool:=fun Z Z=>false
noncomputable def zf3 {a0 a1 a2 : Type} : a0 → a1 → a2 → Bool:=fun Z Z Z=>false
noncomputable def zf4 {a0 a1 a2 a3 : Type} : a0 → a1 → a2 → a3 → Bool:=fun Z Z Z Z=>false
noncomputable def zf5 {a0 a1 a2 a3 a4 : Type} : a0 → a1 → a2 → a3 → a4 → Bool:=fun Z Z Z Z Z=>false
noncomputable def zf7 {a0 a1 a2 a3 a4 a5 a6 : Type} : a0 → a1 → a2 → a3 → a4 → a5 → a6 → Bool:=fun Z Z Z Z Z Z Z=>false
noncomputable def zf10 {a0 a1 a2 a3 a4 a5 a6 a7 a8 a9 : Type} : a0 → a1 → a2 → a3 → a4 → a5 → a6 → a7 → a8 → a9 → Bool:=fun Z Z Z Z Z Z Z Z Z Z=>false
noncomputable def zf11 {a0 a1 a2 a3 a4 a5 a6 a7 a8 a9 a10 : Type} : a0 → a1 → a2 → a3 → a4 → a5 → a6 → a7 → a8 → a9 → a10 → Bool:=fun Z Z Z Z Z Z Z Z Z Z Z=>false
theorem no2 {A C : Prop} (_ : A) (h : false = true) : C:=nomatch h
noncomputable def eConstant (f : Const → Nat → Pos → Bool) (x : Expr) : Bool:=Expr.casesOn (motive_1:=fun Z=>Bool) x zf3 zf3 zf4 zf3 zf4 zf4 zf3 zf3 zf4 zf4 zf5 zf4 zf2 zf2 zf2 zf4 zf4 zf4 zf2 f zf3 zf3 zf2 zf2 zf2 zf3 zf4
theorem eConstant_inv {f : Const → Nat → Pos → Bool} {x : Expr} {C : Prop} (h : eConstant f x = true) (k : ∀ (a : Const) (b : Nat) (c : Pos),x = .Constant a b c → f a b c = true → C) : C :=
 Expr.casesOn (motive_1:=fun y=>x = y → eConstant f y = true → C) x (fun Z Z Z=>no2) (fun Z Z Z=>no2) (fun Z Z Z Z=>no2) (fun Z Z Z=>no2) (fun Z Z Z Z=>no2) (fun Z Z Z Z=>no2) (fun Z Z Z=>no2) (fun Z Z Z=>no2) (fun Z Z Z Z=>no2) (fun Z Z Z Z=>no2) (fun Z Z Z Z Z=>no2) (fun Z Z Z Z=>no2) (fun Z Z=>no2) (fun Z Z=>no2) (fun Z Z=>no2) (fun Z Z Z Z=>no2) (fun Z Z Z Z=>no2) (fun Z Z Z Z=>no2) (fun Z Z=>no2) k (fun Z Z Z=>no2) (fun Z Z Z=>no2) (fun Z Z=>no2) (fun Z Z=>no2) (fun Z Z=>no2) (fun Z Z Z=>no2) (fun Z Z Z Z=>no2) rfl h
noncomputable def eName (f : Str → Pos → Bool) (x : Expr) : Bool:=Expr.casesOn (motive_1:=fun Z=>Bool) x zf3 zf3 zf4 zf3 zf4 zf4 zf3 zf3 zf4 zf4 zf5 zf4 zf2 zf2 zf2 zf4 zf4 zf4 zf2 zf3 zf3 zf3 zf2 f zf2 zf3 zf4
theorem eName_inv {f : Str → Pos → Bool} {x : Expr} {C : Prop} (h : eName f x = true) (k : ∀ (a : Str) (b : Pos),x = .Name a b → f a b = true → C) : C :=
 Expr.casesOn (motive_1:=fun y=>x = y → eName f y = true → C) x (fun Z Z Z=>no2) (fun Z Z Z=>no2) (fun Z Z Z Z=>no2) (fun Z Z Z=>no2) (fun Z Z Z Z=>no2) (fun Z Z Z Z=>no2) (fun Z Z Z=>no2) (fun Z Z Z=>no2) (fun Z Z Z Z=>no2) (fun Z Z Z Z=>no2) (fun Z Z Z Z Z=>no2) (fun Z Z Z Z=>no2) (fun Z Z=>no2) (fun Z Z=>no2) (fun Z Z=>no2) (fun Z Z Z Z=>no2) (fun Z Z Z Z=>no2) (fun Z Z Z Z=>no2) (fun Z Z=>no2) (fun Z Z Z=>no2) (fun Z Z Z=>no2) (fun Z Z Z=>no2) (fun Z Z=>no2) k (fun Z Z=>no2) (fun Z Z Z=>no2) (fun Z Z Z Z=>no2) rfl h
noncomputable def eBinOp (f : Expr → Operator → Expr → Pos → Bool) (x : Expr) : Bool:=Expr.casesOn (motive_1:=fun Z=>Bool) x zf3 zf3 f zf3 zf4 zf4 zf3 zf3 zf4 zf4 zf5 zf4 zf2 zf2 zf2 zf4 zf4 zf4 zf2 zf3 zf3 zf3 zf2 zf2 zf2 zf3 zf4
theorem eBinOp_inv {f : Expr → Operator → Expr → Pos → Bool} {x : Expr} {C : Prop} (h : eBinOp f x = true) (k : ∀ (a : Expr) (b : Operator) (c : Expr) (d : Pos),x = .BinOp a b c d → f a b c d = true → C) : C :=
 Expr.casesOn (motive_1:=fun y=>x = y → eBinOp f y = true → C) x (fun Z Z Z=>no2) (fun Z Z Z=>no2) k (fun Z Z Z=>no2) (fun Z Z Z Z=>no2) (fun Z Z Z Z=>no2) (fun Z Z Z=>no2) (fun Z Z Z=>no2) (fun Z Z Z Z=>no2) (fun Z Z Z Z=>no2) (fun Z Z Z Z Z=>no2) (fun Z Z Z Z=>no2) (fun Z Z=>no2) (fun Z Z=>no2) (fun Z Z=>no2) (fun Z Z Z Z=>no2) (fun Z Z Z Z=>no2) (fun Z Z Z Z=>no2) (fun Z Z=>no2) (fun Z Z Z=>no2) (fun Z Z Z=>no2) (fun Z Z Z=>no2) (fun Z Z=>no2) (fun Z Z=>no2) (fun Z Z=>no2) (fun Z Z Z=>no2) (fun Z Z Z Z=>no2) rfl h
noncomputable def eUnaryOp (f : UnaryOp → Expr → Pos → Bool) (x : Expr) : Bool:=Expr.casesOn (motive_1:=fun Z=>Bool) x zf3 zf3 zf4 f zf4 zf4 zf3 zf3 zf4 zf4 zf5 zf4 zf2 zf2 zf2 zf4 zf4 zf4 zf2 zf3 zf3 zf3 zf2 zf2 zf2 zf3 zf4
theorem eUnaryOp_inv {f : UnaryOp → Expr → Pos → Bool} {x : Expr} {C : Prop} (h : eUnaryOp f x = true) (k : ∀ (a : UnaryOp) (b : Expr) (c : Pos),x = .UnaryOp a b c → f a b c = true → C) : C :=
 Expr.casesOn (motive_1:=fun y=>x = y → eUnaryOp f y = true → C) x (fun Z Z Z=>no2) (fun Z Z Z=>no2) (fun Z Z Z Z=>no2) k (fun Z Z Z Z=>no2) (fun Z Z Z Z=>no2) (fun Z Z Z=>no2) (fun Z Z Z=>no2) (fun Z Z Z Z=>no2) (fun Z Z Z Z=>no2) (fun Z Z Z Z Z=>no2) (fun Z Z Z Z=>no2) (fun Z Z=>no2) (fun Z Z=>no2) (fun Z Z=>no2) (fun Z Z Z Z=>no2) (fun Z Z Z Z=>no2) (fun Z Z Z Z=>no2) (fun Z Z=>no2) (fun Z Z Z=>no2) (fun Z Z Z=>no2) (fun Z Z Z=>no2) (fun Z Z=>no2) (fun Z Z=>no2) (fun Z Z=>no2) (fun Z Z Z=>no2) (fun Z Z Z Z=>no2) rfl h
noncomputable def eBoolOp (f : BoolOp → List Expr → Pos → Bool) (x : Expr) : Bool:=Expr.casesOn (motive_1:=fun Z=>Bool) x f zf3 zf4 zf3 zf4 zf4 zf3 zf3 zf4 zf4 zf5 zf4 zf2 zf2 zf2 zf4 zf4 zf4 zf2 zf3 zf3 zf3 zf2 zf2 zf2 zf3 zf4
theorem eBoolOp_inv {f : BoolOp → List Expr → Pos → Bool} {x : Expr} {C : Prop} (h : eBoolOp f x = true) (k : ∀ (a : BoolOp) (b : List Expr) (c : Pos),x = .BoolOp a b c → f a b c = true → C) : C :=
 Expr.casesOn (motive_1:=fun y=>x = y → eBoolOp f y = true → C) x k (fun Z Z Z=>no2) (fun Z Z Z Z=>no2) (fun Z Z Z=>no2) (fun Z Z Z Z=>no2) (fun Z Z Z Z=>no2) (fun Z Z Z=>no2) (fun Z Z Z=>no2) (fun Z Z Z Z=>no2) (fun Z Z Z Z=>no2) (fun Z Z Z Z Z=>no2) (fun Z Z Z Z=>no2) (fun Z Z=>no2) (fun Z Z=>no2) (fun Z Z=>no2) (fun Z Z Z Z=>no2) (fun Z Z Z Z=>no2) (fun Z Z Z Z=>no2) (fun Z Z=>no2) (fun Z Z Z=>no2) (fun Z Z Z=>no2) (fun Z Z Z=>no2) (fun Z Z=>no2) (fun Z Z=>no2) (fun Z Z=>no2) (fun Z Z Z=>no2) (fun Z Z Z Z=>no2) rfl h
noncomputable def eIfExp (f : Expr → Expr → Expr → Pos → Bool) (x : Expr) : Bool:=Expr.casesOn (motive_1:=fun Z=>Bool) x zf3 zf3 zf4 zf3 zf4 f zf3 zf3 zf4 zf4 zf5 zf4 zf2 zf2 zf2 zf4 zf4 zf4 zf2 zf3 zf3 zf3 zf2 zf2 zf2 zf3 zf4
theorem eIfExp_inv {f : Expr → Expr → Expr → Pos → Bool} {x : Expr} {C : Prop} (h : eIfExp f x = true) (k : ∀ (a : Expr) (b : Expr) (c : Expr) (d : Pos),x = .IfExp a b c d → f a b c d = true → C) : C :=
 Expr.casesOn (motive_1:=fun y=>x = y → eIfExp f y = true → C) x (fun Z Z Z=>no2) (fun Z Z Z=>no2) (fun Z Z Z Z=>no2) (fun Z Z Z=>no2) (fun Z Z Z Z=>no2) k (fun Z Z Z=>no2) (fun Z Z Z=>no2) (fun Z Z Z Z=>no2) (fun Z Z Z Z=>no2) (fun Z Z Z Z Z=>no2) (fun Z Z Z Z=>no2) (fun Z Z=>no2) (fun Z Z=>no2) (fun Z Z=>no2) (fun Z Z Z Z=>no2) (fun Z Z Z Z=>no2) (fun Z Z Z Z=>no2) (fun Z Z=>no2) (fun Z Z Z=>no2) (fun Z Z Z=>no2) (fun Z Z Z=>no2) (fun Z Z=>no2) (fun Z Z=>no2) (fun Z Z=>no2) (fun Z Z Z=>no2) (fun Z Z Z Z=>no2) rfl h
noncomputable def eCompare (f : Expr → List CmpOp → List Expr → Pos → Bool) (x : Expr) : Bool:=Expr.casesOn (motive_1:=fun Z=>Bool) x zf3 zf3 zf4 zf3 zf4 zf4 zf3 zf3 zf4 zf4 zf5 zf4 zf2 zf2 zf2 f zf4 zf4 zf2 zf3 zf3 zf3 zf2 zf2 zf2 zf3 zf4
theorem eCompare_inv {f : Expr → List CmpOp → List Expr → Pos → Bool} {x : Expr} {C : Prop} (h : eCompare f x = true) (k : ∀ (a : Expr) (b : List CmpOp) (c : List Expr) (d : Pos),x = .Compare a b c d → f a b c d = true → C) : C :=
 Expr.casesOn (motive_1:=fun y=>x = y → eCompare f y = true → C) x (fun Z Z Z=>no2) (fun Z Z Z=>no2) (fun Z Z Z Z=>no2) (fun Z Z Z=>no2) (fun Z Z Z Z=>no2) (fun Z Z Z Z=>no2) (fun Z Z Z=>no2) (fun Z Z Z=>no2) (fun Z Z Z Z=>no2) (fun Z Z Z Z=>no2) (fun Z Z Z Z Z=>no2) (fun Z Z Z Z=>no2) (fun Z Z=>no2) (fun Z Z=>no2) (fun Z Z=>no2) k (fun Z Z Z Z=>no2) (fun Z Z Z Z=>no2) (fun Z Z=>no2) (fun Z Z Z=>no2) (fun Z Z Z=>no2) (fun Z Z Z=>no2) (fun Z Z=>no2) (fun Z Z=>no2) (fun Z Z=>no2) (fun Z Z Z=>no2) (fun Z Z Z Z=>no2) rfl h
noncomputable def eCall (f : Expr → List Expr → List Keyword → Pos → Bool) (x : Expr) : Bool:=Expr.casesOn (motive_1:=fun Z=>Bool) x zf3 zf3 zf4 zf3 zf4 zf4 zf3 zf3 zf4 zf4 zf5 zf4 zf2 zf2 zf2 zf4 f zf4 zf2 zf3 zf3 zf3 zf2 zf2 zf2 zf3 zf4
theorem eCall_inv {f : Expr → List Expr → List Keyword → Pos → Bool} {x : Expr} {C : Prop} (h : eCall f x = true) (k : ∀ (a : Expr) (b : List Expr) (c : List Keyword) (d : Pos),x = .Call a b c d → f a b c d = true → C) : C :=
 Expr.casesOn (motive_1:=fun y=>x = y → eCall f y = true → C) x (fun Z Z Z=>no2) (fun Z Z Z=>no2) (fun Z Z Z Z=>no2) (fun Z Z Z=>no2) (fun Z Z Z Z=>no2) (fun Z Z Z Z=>no2) (fun Z Z Z=>no2) (fun Z Z Z=>no2) (fun Z Z Z Z=>no2) (fun Z Z Z Z=>no2) (fun Z Z Z Z Z=>no2) (fun Z Z Z Z=>no2) (fun Z Z=>no2) (fun Z Z=>no2) (fun Z Z=>no2) (fun Z Z Z Z=>no2) k (fun Z Z Z Z=>no2) (fun Z Z=>no2) (fun Z Z Z=>no2) (fun Z Z Z=>no2) (fun Z Z Z=>no2) (fun Z Z=>no2) (fun Z Z=>no2) (fun Z Z=>no2) (fun Z Z Z=>no2) (fun Z Z Z Z=>no2) rfl h
noncomputable def eAttribute (f : Expr → Str → Pos → Bool) (x : Expr) : Bool:=Expr.casesOn (motive_1:=fun Z=>Bool) x zf3 zf3 zf4 zf3 zf4 zf4 zf3 zf3 zf4 zf4 zf5 zf4 zf2 zf2 zf2 zf4 zf4 zf4 zf2 zf3 f zf3 zf2 zf2 zf2 zf3 zf4
theorem eAttribute_inv {f : Expr → Str → Pos → Bool} {x : Expr} {C : Prop} (h : eAttribute f x = true) (k : ∀ (a : Expr) (b : Str) (c : Pos),x = .Attribute a b c → f a b c = true → C) : C :=
 Expr.casesOn (motive_1:=fun y=>x = y → eAttribute f y = true → C) x (fun Z Z Z=>no2) (fun Z Z Z=>no2) (fun Z Z Z Z=>no2) (fun Z Z Z=>no2) (fun Z Z Z Z=>no2) (fun Z Z Z Z=>no2) (fun Z Z Z=>no2) (fun Z Z Z=>no2) (fun Z Z Z Z=>no2) (fun Z Z Z Z=>no2) (fun Z Z Z Z Z=>no2) (fun Z Z Z Z=>no2) (fun Z Z=>no2) (fun Z Z=>no2) (fun Z Z=>no2) (fun Z Z Z Z=>no2) (fun Z Z Z Z=>no2) (fun Z Z Z Z=>no2) (fun Z Z=>no2) (fun Z Z Z=>no2) k (fun Z Z Z=>no2) (fun Z Z=>no2) (fun Z Z=>no2) (fun Z Z=>no2) (fun Z Z Z=>no2) (fun Z Z Z Z=>no2) rfl h
noncomputable def eSubscript (f : Expr → Expr → Pos → Bool) (x : Expr) : Bool:=Expr.casesOn (motive_1:=fun Z=>Bool) x zf3 zf3 zf4 zf3 zf4 zf4 zf3 zf3 zf4 zf4 zf5 zf4 zf2 zf2 zf2 zf4 zf4 zf4 zf2 zf3 zf3 f zf2 zf2 zf2 zf3 zf4
theorem eSubscript_inv {f : Expr → Expr → Pos → Bool} {x : Expr} {C : Prop} (h : eSubscript f x = true) (k : ∀ (a : Expr) (b : Expr) (c : Pos),x = .Subscript a b c → f a b c = true → C) : C :=
 Expr.casesOn (motive_1:=fun y=>x = y → eSubscript f y = true → C) x (fun Z Z Z=>no2) (fun Z Z Z=>no2) (fun Z Z Z Z=>no2) (fun Z Z Z=>no2) (fun Z Z Z Z=>no2) (fun Z Z Z Z=>no2) (fun Z Z Z=>no2) (fun Z Z Z=>no2) (fun Z Z Z Z=>no2) (fun Z Z Z Z=>no2) (fun Z Z Z Z Z=>no2) (fun Z Z Z Z=>no2) (fun Z Z=>no2) (fun Z Z=>no2) (fun Z Z=>no2) (fun Z Z Z Z=>no2) (fun Z Z Z Z=>no2) (fun Z Z Z Z=>no2) (fun Z Z=>no2) (fun Z Z Z=>no2) (fun Z Z Z=>no2) k (fun Z Z=>no2) (fun Z Z=>no2) (fun Z Z=>no2) (fun Z Z Z=>no2) (fun Z Z Z Z=>no2) rfl h
noncomputable def eSlice (f : Option Expr → Option Expr → Option Expr → Pos → Bool) (x : Expr) : Bool:=Expr.casesOn (motive_1:=fun Z=>Bool) x zf3 zf3 zf4 zf3 zf4 zf4 zf3 zf3 zf4 zf4 zf5 zf4 zf2 zf2 zf2 zf4 zf4 zf4 zf2 zf3 zf3 zf3 zf2 zf2 zf2 zf3 f
theorem eSlice_inv {f : Option Expr → Option Expr → Option Expr → Pos → Bool} {x : Expr} {C : Prop} (h : eSlice f x = true) (k : ∀ (a : Option Expr) (b : Option Expr) (c : Option Expr) (d : Pos),x = .Slice a b c d → f a b c d = true → C) : C :=
 Expr.casesOn (motive_1:=fun y=>x = y → eSlice f y = true → C) x (fun Z Z Z=>no2) (fun Z Z Z=>no2) (fun Z Z Z Z=>no2) (fun Z Z Z=>no2) (fun Z Z Z Z=>no2) (fun Z Z Z Z=>no2) (fun Z Z Z=>no2) (fun Z Z Z=>no2) (fun Z Z Z Z=>no2) (fun Z Z Z Z=>no2) (fun Z Z Z Z Z=>no2) (fun Z Z Z Z=>no2) (fun Z Z=>no2) (fun Z Z=>no2) (fun Z Z=>no2) (fun Z Z Z Z=>no2) (fun Z Z Z Z=>no2) (fun Z Z Z Z=>no2) (fun Z Z=>no2) (fun Z Z Z=>no2) (fun Z Z Z=>no2) (fun Z Z Z=>no2) (fun Z Z=>no2) (fun Z Z=>no2) (fun Z Z=>no2) (fun Z Z Z=>no2) k rfl h
noncomputable def eTuple (f : List Expr → Nat → Pos → Bool) (x : Expr) : Bool:=Expr.casesOn (motive_1:=fun Z=>Bool) x zf3 zf3 zf4 zf3 zf4 zf4 zf3 zf3 zf4 zf4 zf5 zf4 zf2 zf2 zf2 zf4 zf4 zf4 zf2 zf3 zf3 zf3 zf2 zf2 zf2 f zf4
theorem eTuple_inv {f : List Expr → Nat → Pos → Bool} {x : Expr} {C : Prop} (h : eTuple f x = true) (k : ∀ (a : List Expr) (b : Nat) (c : Pos),x = .Tuple a b c → f a b c = true → C) : C :=
 Expr.casesOn (motive_1:=fun y=>x = y → eTuple f y = true → C) x (fun Z Z Z=>no2) (fun Z Z Z=>no2) (fun Z Z Z Z=>no2) (fun Z Z Z=>no2) (fun Z Z Z Z=>no2) (fun Z Z Z Z=>no2) (fun Z Z Z=>no2) (fun Z Z Z=>no2) (fun Z Z Z Z=>no2) (fun Z Z Z Z=>no2) (fun Z Z Z Z Z=>no2) (fun Z Z Z Z=>no2) (fun Z Z=>no2) (fun Z Z=>no2) (fun Z Z=>no2) (fun Z Z Z Z=>no2) (fun Z Z Z Z=>no2) (fun Z Z Z Z=>no2) (fun Z Z=>no2) (fun Z Z Z=>no2) (fun Z Z Z=>no2) (fun Z Z Z=>no2) (fun Z Z=>no2) (fun Z Z=>no2) (fun Z Z=>no2) k (fun Z Z Z Z=>no2) rfl h
noncomputable def eList (f : List Expr → Pos → Bool) (x : Expr) : Bool:=Expr.casesOn (motive_1:=fun Z=>Bool) x zf3 zf3 zf4 zf3 zf4 zf4 zf3 zf3 zf4 zf4 zf5 zf4 zf2 zf2 zf2 zf4 zf4 zf4 zf2 zf3 zf3 zf3 zf2 zf2 f zf3 zf4
theorem eList_inv {f : List Expr → Pos → Bool} {x : Expr} {C : Prop} (h : eList f x = true) (k : ∀ (a : List Expr) (b : Pos),x = .List a b → f a b = true → C) : C :=
 Expr.casesOn (motive_1:=fun y=>x = y → eList f y = true → C) x (fun Z Z Z=>no2) (fun Z Z Z=>no2) (fun Z Z Z Z=>no2) (fun Z Z Z=>no2) (fun Z Z Z Z=>no2) (fun Z Z Z Z=>no2) (fun Z Z Z=>no2) (fun Z Z Z=>no2) (fun Z Z Z Z=>no2) (fun Z Z Z Z=>no2) (fun Z Z Z Z Z=>no2) (fun Z Z Z Z=>no2) (fun Z Z=>no2) (fun Z Z=>no2) (fun Z Z=>no2) (fun Z Z Z Z=>no2) (fun Z Z Z Z=>no2) (fun Z Z Z Z=>no2) (fun Z Z=>no2) (fun Z Z Z=>no2) (fun Z Z Z=>no2) (fun Z Z Z=>no2) (fun Z Z=>no2) (fun Z Z=>no2) k (fun Z Z Z=>no2) (fun Z Z Z Z=>no2) rfl h
noncomputable def eDict (f : List (Option Expr) → List Expr → Pos → Bool) (x : Expr) : Bool:=Expr.casesOn (motive_1:=fun Z=>Bool) x zf3 zf3 zf4 zf3 zf4 zf4 f zf3 zf4 zf4 zf5 zf4 zf2 zf2 zf2 zf4 zf4 zf4 zf2 zf3 zf3 zf3 zf2 zf2 zf2 zf3 zf4
theorem eDict_inv {f : List (Option Expr) → List Expr → Pos → Bool} {x : Expr} {C : Prop} (h : eDict f x = true) (k : ∀ (a : List (Option Expr)) (b : List Expr) (c : Pos),x = .Dict a b c → f a b c = true → C) : C :=
 Expr.casesOn (motive_1:=fun y=>x = y → eDict f y = true → C) x (fun Z Z Z=>no2) (fun Z Z Z=>no2) (fun Z Z Z Z=>no2) (fun Z Z Z=>no2) (fun Z Z Z Z=>no2) (fun Z Z Z Z=>no2) k (fun Z Z Z=>no2) (fun Z Z Z Z=>no2) (fun Z Z Z Z=>no2) (fun Z Z Z Z Z=>no2) (fun Z Z Z Z=>no2) (fun Z Z=>no2) (fun Z Z=>no2) (fun Z Z=>no2) (fun Z Z Z Z=>no2) (fun Z Z Z Z=>no2) (fun Z Z Z Z=>no2) (fun Z Z=>no2) (fun Z Z Z=>no2) (fun Z Z Z=>no2) (fun Z Z Z=>no2) (fun Z Z=>no2) (fun Z Z=>no2) (fun Z Z=>no2) (fun Z Z Z=>no2) (fun Z Z Z Z=>no2) rfl h
noncomputable def eListComp (f : Expr → List Comprehension → Scope → Pos → Bool) (x : Expr) : Bool:=Expr.casesOn (motive_1:=fun Z=>Bool) x zf3 zf3 zf4 zf3 zf4 zf4 zf3 zf3 f zf4 zf5 zf4 zf2 zf2 zf2 zf4 zf4 zf4 zf2 zf3 zf3 zf3 zf2 zf2 zf2 zf3 zf4
theorem eListComp_inv {f : Expr → List Comprehension → Scope → Pos → Bool} {x : Expr} {C : Prop} (h : eListComp f x = true) (k : ∀ (a : Expr) (b : List Comprehension) (c : Scope) (d : Pos),x = .ListComp a b c d → f a b c d = true → C) : C :=
 Expr.casesOn (motive_1:=fun y=>x = y → eListComp f y = true → C) x (fun Z Z Z=>no2) (fun Z Z Z=>no2) (fun Z Z Z Z=>no2) (fun Z Z Z=>no2) (fun Z Z Z Z=>no2) (fun Z Z Z Z=>no2) (fun Z Z Z=>no2) (fun Z Z Z=>no2) k (fun Z Z Z Z=>no2) (fun Z Z Z Z Z=>no2) (fun Z Z Z Z=>no2) (fun Z Z=>no2) (fun Z Z=>no2) (fun Z Z=>no2) (fun Z Z Z Z=>no2) (fun Z Z Z Z=>no2) (fun Z Z Z Z=>no2) (fun Z Z=>no2) (fun Z Z Z=>no2) (fun Z Z Z=>no2) (fun Z Z Z=>no2) (fun Z Z=>no2) (fun Z Z=>no2) (fun Z Z=>no2) (fun Z Z Z=>no2) (fun Z Z Z Z=>no2) rfl h
noncomputable def sAssign (f : List Expr → Expr → Pos → Bool) (x : Stmt) : Bool:=Stmt.casesOn (motive_2:=fun Z=>Bool) x zf10 zf10 zf11 zf2 zf2 f zf7 zf4 zf5 zf5 zf5 zf4 zf4 zf3 zf3 zf3 zf3 zf5 zf5 zf3 zf2 zf4 zf2 zf2 zf2 zf1 zf1 zf1
theorem sAssign_inv {f : List Expr → Expr → Pos → Bool} {x : Stmt} {C : Prop} (h : sAssign f x = true) (k : ∀ (a : List Expr) (b : Expr) (c : Pos),x = .Assign a b c → f a b c = true → C) : C :=
 Stmt.casesOn (motive_2:=fun y=>x = y → sAssign f y = true → C) x (fun Z Z Z Z Z Z Z Z Z Z=>no2) (fun Z Z Z Z Z Z Z Z Z Z=>no2) (fun Z Z Z Z Z Z Z Z Z Z Z=>no2) (fun Z Z=>no2) (fun Z Z=>no2) k (fun Z Z Z Z Z Z Z=>no2) (fun Z Z Z Z=>no2) (fun Z Z Z Z Z=>no2) (fun Z Z Z Z Z=>no2) (fun Z Z Z Z Z=>no2) (fun Z Z Z Z=>no2) (fun Z Z Z Z=>no2) (fun Z Z Z=>no2) (fun Z Z Z=>no2) (fun Z Z Z=>no2) (fun Z Z Z=>no2) (fun Z Z Z Z Z=>no2) (fun Z Z Z Z Z=>no2) (fun Z Z Z=>no2) (fun Z Z=>no2) (fun Z Z Z Z=>no2) (fun Z Z=>no2) (fun Z Z=>no2) (fun Z Z=>no2) (fun Z=>no2) (fun Z=>no2) (fun Z=>no2) rfl h
noncomputable def sExpr (f : Expr → Pos → Bool) (x : Stmt) : Bool:=Stmt.casesOn (motive_2:=fun Z=>Bool) x zf10 zf10 zf11 zf2 zf2 zf3 zf7 zf4 zf5 zf5 zf5 zf4 zf4 zf3 zf3 zf3 zf3 zf5 zf5 zf3 zf2 zf4 zf2 zf2 f zf1 zf1 zf1
theorem sExpr_inv {f : Expr → Pos → Bool} {x : Stmt} {C : Prop} (h : sExpr f x = true) (k : ∀ (a : Expr) (b : Pos),x = .Expr a b → f a b = true → C) : C :=
 Stmt.casesOn (motive_2:=fun y=>x = y → sExpr f y = true → C) x (fun Z Z Z Z Z Z Z Z Z Z=>no2) (fun Z Z Z Z Z Z Z Z Z Z=>no2) (fun Z Z Z Z Z Z Z Z Z Z Z=>no2) (fun Z Z=>no2) (fun Z Z=>no2) (fun Z Z Z=>no2) (fun Z Z Z Z Z Z Z=>no2) (fun Z Z Z Z=>no2) (fun Z Z Z Z Z=>no2) (fun Z Z Z Z Z=>no2) (fun Z Z Z Z Z=>no2) (fun Z Z Z Z=>no2) (fun Z Z Z Z=>no2) (fun Z Z Z=>no2) (fun Z Z Z=>no2) (fun Z Z Z=>no2) (fun Z Z Z=>no2) (fun Z Z Z Z Z=>no2) (fun Z Z Z Z Z=>no2) (fun Z Z Z=>no2) (fun Z Z=>no2) (fun Z Z Z Z=>no2) (fun Z Z=>no2) (fun Z Z=>no2) k (fun Z=>no2) (fun Z=>no2) (fun Z=>no2) rfl h
noncomputable def sAugAssign (f : Expr → Operator → Expr → Pos → Bool) (x : Stmt) : Bool:=Stmt.casesOn (motive_2:=fun Z=>Bool) x zf10 zf10 zf11 zf2 zf2 zf3 zf7 f zf5 zf5 zf5 zf4 zf4 zf3 zf3 zf3 zf3 zf5 zf5 zf3 zf2 zf4 zf2 zf2 zf2 zf1 zf1 zf1
theorem sAugAssign_inv {f : Expr → Operator → Expr → Pos → Bool} {x : Stmt} {C : Prop} (h : sAugAssign f x = true) (k : ∀ (a : Expr) (b : Operator) (c : Expr) (d : Pos),x = .AugAssign a b c d → f a b c d = true → C) : C :=
 Stmt.casesOn (motive_2:=fun y=>x = y → sAugAssign f y = true → C) x (fun Z Z Z Z Z Z Z Z Z Z=>no2) (fun Z Z Z Z Z Z Z Z Z Z=>no2) (fun Z Z Z Z Z Z Z Z Z Z Z=>no2) (fun Z Z=>no2) (fun Z Z=>no2) (fun Z Z Z=>no2) (fun Z Z Z Z Z Z Z=>no2) k (fun Z Z Z Z Z=>no2) (fun Z Z Z Z Z=>no2) (fun Z Z Z Z Z=>no2) (fun Z Z Z Z=>no2) (fun Z Z Z Z=>no2) (fun Z Z Z=>no2) (fun Z Z Z=>no2) (fun Z Z Z=>no2) (fun Z Z Z=>no2) (fun Z Z Z Z Z=>no2) (fun Z Z Z Z Z=>no2) (fun Z Z Z=>no2) (fun Z Z=>no2) (fun Z Z Z Z=>no2) (fun Z Z=>no2) (fun Z Z=>no2) (fun Z Z=>no2) (fun Z=>no2) (fun Z=>no2) (fun Z=>no2) rfl h
noncomputable def sIf (f : Expr → List Stmt → List Stmt → Pos → Bool) (x : Stmt) : Bool:=Stmt.casesOn (motive_2:=fun Z=>Bool) x zf10 zf10 zf11 zf2 zf2 zf3 zf7 zf4 zf5 zf5 zf5 zf4 f zf3 zf3 zf3 zf3 zf5 zf5 zf3 zf2 zf4 zf2 zf2 zf2 zf1 zf1 zf1
theorem sIf_inv {f : Expr → List Stmt → List Stmt → Pos → Bool} {x : Stmt} {C : Prop} (h : sIf f x = true) (k : ∀ (a : Expr) (b : List Stmt) (c : List Stmt) (d : Pos),x = .If a b c d → f a b c d = true → C) : C :=
 Stmt.casesOn (motive_2:=fun y=>x = y → sIf f y = true → C) x (fun Z Z Z Z Z Z Z Z Z Z=>no2) (fun Z Z Z Z Z Z Z Z Z Z=>no2) (fun Z Z Z Z Z Z Z Z Z Z Z=>no2) (fun Z Z=>no2) (fun Z Z=>no2) (fun Z Z Z=>no2) (fun Z Z Z Z Z Z Z=>no2) (fun Z Z Z Z=>no2) (fun Z Z Z Z Z=>no2) (fun Z Z Z Z Z=>no2) (fun Z Z Z Z Z=>no2) (fun Z Z Z Z=>no2) k (fun Z Z Z=>no2) (fun Z Z Z=>no2) (fun Z Z Z=>no2) (fun Z Z Z=>no2) (fun Z Z Z Z Z=>no2) (fun Z Z Z Z Z=>no2) (fun Z Z Z=>no2) (fun Z Z=>no2) (fun Z Z Z Z=>no2) (fun Z Z=>no2) (fun Z Z=>no2) (fun Z Z=>no2) (fun Z=>no2) (fun Z=>no2) (fun Z=>no2) rfl h
noncomputable def sWhile (f : Expr → List Stmt → List Stmt → Pos → Bool) (x : Stmt) : Bool:=Stmt.casesOn (motive_2:=fun Z=>Bool) x zf10 zf10 zf11 zf2 zf2 zf3 zf7 zf4 zf5 zf5 zf5 f zf4 zf3 zf3 zf3 zf3 zf5 zf5 zf3 zf2 zf4 zf2 zf2 zf2 zf1 zf1 zf1
theorem sWhile_inv {f : Expr → List Stmt → List Stmt → Pos → Bool} {x : Stmt} {C : Prop} (h : sWhile f x = true) (k : ∀ (a : Expr) (b : List Stmt) (c : List Stmt) (d : Pos),x = .While a b c d → f a b c d = true → C) : C :=
 Stmt.casesOn (motive_2:=fun y=>x = y → sWhile f y = true → C) x (fun Z Z Z Z Z Z Z Z Z Z=>no2) (fun Z Z Z Z Z Z Z Z Z Z=>no2) (fun Z Z Z Z Z Z Z Z Z Z Z=>no2) (fun Z Z=>no2) (fun Z Z=>no2) (fun Z Z Z=>no2) (fun Z Z Z Z Z Z Z=>no2) (fun Z Z Z Z=>no2) (fun Z Z Z Z Z=>no2) (fun Z Z Z Z Z=>no2) (fun Z Z Z Z Z=>no2) k (fun Z Z Z Z=>no2) (fun Z Z Z=>no2) (fun Z Z Z=>no2) (fun Z Z Z=>no2) (fun Z Z Z=>no2) (fun Z Z Z Z Z=>no2) (fun Z Z Z Z Z=>no2) (fun Z Z Z=>no2) (fun Z Z=>no2) (fun Z Z Z Z=>no2) (fun Z Z=>no2) (fun Z Z=>no2) (fun Z Z=>no2) (fun Z=>no2) (fun Z=>no2) (fun Z=>no2) rfl h
noncomputable def sFor (f : Expr → Expr → List Stmt → List Stmt → Pos → Bool) (x : Stmt) : Bool:=Stmt.casesOn (motive_2:=fun Z=>Bool) x zf10 zf10 zf11 zf2 zf2 zf3 zf7 zf4 zf5 f zf5 zf4 zf4 zf3 zf3 zf3 zf3 zf5 zf5 zf3 zf2 zf4 zf2 zf2 zf2 zf1 zf1 zf1
theorem sFor_inv {f : Expr → Expr → List Stmt → List Stmt → Pos → Bool} {x : Stmt} {C : Prop} (h : sFor f x = true) (k : ∀ (a : Expr) (b : Expr) (c : List Stmt) (d : List Stmt) (e : Pos),x = .For a b c d e → f a b c d e = true → C) : C :=
 Stmt.casesOn (motive_2:=fun y=>x = y → sFor f y = true → C) x (fun Z Z Z Z Z Z Z Z Z Z=>no2) (fun Z Z Z Z Z Z Z Z Z Z=>no2) (fun Z Z Z Z Z Z Z Z Z Z Z=>no2) (fun Z Z=>no2) (fun Z Z=>no2) (fun Z Z Z=>no2) (fun Z Z Z Z Z Z Z=>no2) (fun Z Z Z Z=>no2) (fun Z Z Z Z Z=>no2) k (fun Z Z Z Z Z=>no2) (fun Z Z Z Z=>no2) (fun Z Z Z Z=>no2) (fun Z Z Z=>no2) (fun Z Z Z=>no2) (fun Z Z Z=>no2) (fun Z Z Z=>no2) (fun Z Z Z Z Z=>no2) (fun Z Z Z Z Z=>no2) (fun Z Z Z=>no2) (fun Z Z=>no2) (fun Z Z Z Z=>no2) (fun Z Z=>no2) (fun Z Z=>no2) (fun Z Z=>no2) (fun Z=>no2) (fun Z=>no2) (fun Z=>no2) rfl h
noncomputable def sReturn (f : Option Expr → Pos → Bool) (x : Stmt) : Bool:=Stmt.casesOn (motive_2:=fun Z=>Bool) x zf10 zf10 zf11 f zf2 zf3 zf7 zf4 zf5 zf5 zf5 zf4 zf4 zf3 zf3 zf3 zf3 zf5 zf5 zf3 zf2 zf4 zf2 zf2 zf2 zf1 zf1 zf1
theorem sReturn_inv {f : Option Expr → Pos → Bool} {x : Stmt} {C : Prop} (h : sReturn f x = true) (k : ∀ (a : Option Expr) (b : Pos),x = .Return a b → f a b = true → C) : C :=
 Stmt.casesOn (motive_2:=fun y=>x = y → sReturn f y = true → C) x (fun Z Z Z Z Z Z Z Z Z Z=>no2) (fun Z Z Z Z Z Z Z Z Z Z=>no2) (fun Z Z Z Z Z Z Z Z Z Z Z=>no2) k (fun Z Z=>no2) (fun Z Z Z=>no2) (fun Z Z Z Z Z Z Z=>no2) (fun Z Z Z Z=>no2) (fun Z Z Z Z Z=>no2) (fun Z Z Z Z Z=>no2) (fun Z Z Z Z Z=>no2) (fun Z Z Z Z=>no2) (fun Z Z Z Z=>no2) (fun Z Z Z=>no2) (fun Z Z Z=>no2) (fun Z Z Z=>no2) (fun Z Z Z=>no2) (fun Z Z Z Z Z=>no2) (fun Z Z Z Z Z=>no2) (fun Z Z Z=>no2) (fun Z Z=>no2) (fun Z Z Z Z=>no2) (fun Z Z=>no2) (fun Z Z=>no2) (fun Z Z=>no2) (fun Z=>no2) (fun Z=>no2) (fun Z=>no2) rfl h
noncomputable def sRaise (f : Option Expr → Option Expr → Pos → Bool) (x : Stmt) : Bool:=Stmt.casesOn (motive_2:=fun Z=>Bool) x zf10 zf10 zf11 zf2 zf2 zf3 zf7 zf4 zf5 zf5 zf5 zf4 zf4 zf3 zf3 zf3 f zf5 zf5 zf3 zf2 zf4 zf2 zf2 zf2 zf1 zf1 zf1
theorem sRaise_inv {f : Option Expr → Option Expr → Pos → Bool} {x : Stmt} {C : Prop} (h : sRaise f x = true) (k : ∀ (a : Option Expr) (b : Option Expr) (c : Pos),x = .Raise a b c → f a b c = true → C) : C :=
 Stmt.casesOn (motive_2:=fun y=>x = y → sRaise f y = true → C) x (fun Z Z Z Z Z Z Z Z Z Z=>no2) (fun Z Z Z Z Z Z Z Z Z Z=>no2) (fun Z Z Z Z Z Z Z Z Z Z Z=>no2) (fun Z Z=>no2) (fun Z Z=>no2) (fun Z Z Z=>no2) (fun Z Z Z Z Z Z Z=>no2) (fun Z Z Z Z=>no2) (fun Z Z Z Z Z=>no2) (fun Z Z Z Z Z=>no2) (fun Z Z Z Z Z=>no2) (fun Z Z Z Z=>no2) (fun Z Z Z Z=>no2) (fun Z Z Z=>no2) (fun Z Z Z=>no2) (fun Z Z Z=>no2) k (fun Z Z Z Z Z=>no2) (fun Z Z Z Z Z=>no2) (fun Z Z Z=>no2) (fun Z Z=>no2) (fun Z Z Z Z=>no2) (fun Z Z=>no2) (fun Z Z=>no2) (fun Z Z=>no2) (fun Z=>no2) (fun Z=>no2) (fun Z=>no2) rfl h
noncomputable def sBreak (f : Pos → Bool) (x : Stmt) : Bool:=Stmt.casesOn (motive_2:=fun Z=>Bool) x zf10 zf10 zf11 zf2 zf2 zf3 zf7 zf4 zf5 zf5 zf5 zf4 zf4 zf3 zf3 zf3 zf3 zf5 zf5 zf3 zf2 zf4 zf2 zf2 zf2 zf1 f zf1
theorem sBreak_inv {f : Pos → Bool} {x : Stmt} {C : Prop} (h : sBreak f x = true) (k : ∀ (a : Pos),x = .Break a → f a = true → C) : C :=
 Stmt.casesOn (motive_2:=fun y=>x = y → sBreak f y = true → C) x (fun Z Z Z Z Z Z Z Z Z Z=>no2) (fun Z Z Z Z Z Z Z Z Z Z=>no2) (fun Z Z Z Z Z Z Z Z Z Z Z=>no2) (fun Z Z=>no2) (fun Z Z=>no2) (fun Z Z Z=>no2) (fun Z Z Z Z Z Z Z=>no2) (fun Z Z Z Z=>no2) (fun Z Z Z Z Z=>no2) (fun Z Z Z Z Z=>no2) (fun Z Z Z Z Z=>no2) (fun Z Z Z Z=>no2) (fun Z Z Z Z=>no2) (fun Z Z Z=>no2) (fun Z Z Z=>no2) (fun Z Z Z=>no2) (fun Z Z Z=>no2) (fun Z Z Z Z Z=>no2) (fun Z Z Z Z Z=>no2) (fun Z Z Z=>no2) (fun Z Z=>no2) (fun Z Z Z Z=>no2) (fun Z Z=>no2) (fun Z Z=>no2) (fun Z Z=>no2) (fun Z=>no2) k (fun Z=>no2) rfl h
noncomputable def sContinue (f : Pos → Bool) (x : Stmt) : Bool:=Stmt.casesOn (motive_2:=fun Z=>Bool) x zf10 zf10 zf11 zf2 zf2 zf3 zf7 zf4 zf5 zf5 zf5 zf4 zf4 zf3 zf3 zf3 zf3 zf5 zf5 zf3 zf2 zf4 zf2 zf2 zf2 zf1 zf1 f
theorem sContinue_inv {f : Pos → Bool} {x : Stmt} {C : Prop} (h : sContinue f x = true) (k : ∀ (a : Pos),x = .Continue a → f a = true → C) : C :=
 Stmt.casesOn (motive_2:=fun y=>x = y → sContinue f y = true → C) x (fun Z Z Z Z Z Z Z Z Z Z=>no2) (fun Z Z Z Z Z Z Z Z Z Z=>no2) (fun Z Z Z Z Z Z Z Z Z Z Z=>no2) (fun Z Z=>no2) (fun Z Z=>no2) (fun Z Z Z=>no2) (fun Z Z Z Z Z Z Z=>no2) (fun Z Z Z Z=>no2) (fun Z Z Z Z Z=>no2) (fun Z Z Z Z Z=>no2) (fun Z Z Z Z Z=>no2) (fun Z Z Z Z=>no2) (fun Z Z Z Z=>no2) (fun Z Z Z=>no2) (fun Z Z Z=>no2) (fun Z Z Z=>no2) (fun Z Z Z=>no2) (fun Z Z Z Z Z=>no2) (fun Z Z Z Z Z=>no2) (fun Z Z Z=>no2) (fun Z Z=>no2) (fun Z Z Z Z=>no2) (fun Z Z=>no2) (fun Z Z=>no2) (fun Z Z=>no2) (fun Z=>no2) (fun Z=>no2) k rfl h
noncomputable def sTry (f : List Stmt → List ExceptHandler → List Stmt → List Stmt → Pos → Bool) (x : Stmt) : Bool:=Stmt.casesOn (motive_2:=fun Z=>Bool) x zf10 zf10 zf11 zf2 zf2 zf3 zf7 zf4 zf5 zf5 zf5 zf4 zf4 zf3 zf3 zf3 zf3 f zf5 zf3 zf2 zf4 zf2 zf2 zf2 zf1 zf1 zf1
theorem sTry_inv {f : List Stmt → List ExceptHandler → List Stmt → List Stmt → Pos → Bool} {x : Stmt} {C : Prop} (h : sTry f x = true) (k : ∀ (a : List Stmt) (b : List ExceptHandler) (c : List Stmt) (d : List Stmt) (e : Pos),x = .Try a b c d e → f a b c d e = true → C) : C :=
 Stmt.casesOn (motive_2:=fun y=>x = y → sTry f y = true → C) x (fun Z Z Z Z Z Z Z Z Z Z=>no2) (fun Z Z Z Z Z Z Z Z Z Z=>no2) (fun Z Z Z Z Z Z Z Z Z Z Z=>no2) (fun Z Z=>no2) (fun Z Z=>no2) (fun Z Z Z=>no2) (fun Z Z Z Z Z Z Z=>no2) (fun Z Z Z Z=>no2) (fun Z Z Z Z Z=>no2) (fun Z Z Z Z Z=>no2) (fun Z Z Z Z Z=>no2) (fun Z Z Z Z=>no2) (fun Z Z Z Z=>no2) (fun Z Z Z=>no2) (fun Z Z Z=>no2) (fun Z Z Z=>no2) (fun Z Z Z=>no2) k (fun Z Z Z Z Z=>no2) (fun Z Z Z=>no2) (fun Z Z=>no2) (fun Z Z Z Z=>no2) (fun Z Z=>no2) (fun Z Z=>no2) (fun Z Z=>no2) (fun Z=>no2) (fun Z=>no2) (fun Z=>no2) rfl h
noncomputable def ceLit (f : V → Bool) (x : CE) : Bool:=CE.casesOn (motive:=fun Z=>Bool) x f zf1 zf3 zf1 zf1 zf2 zf2 zf3 zf3 zf5 zf2 zf2 zf3 zf1 zf2 zf2 zf3 zf1 zf1 zf2 zf4 false zf2
theorem ceLit_inv {f : V → Bool} {x : CE} {C : Prop} (h : ceLit f x = true) (k : ∀ (a : V),x = .lit a → f a = true → C) : C :=
 CE.casesOn (motive:=fun y=>x = y → ceLit f y = true → C) x k (fun Z=>no2) (fun Z Z Z=>no2) (fun Z=>no2) (fun Z=>no2) (fun Z Z=>no2) (fun Z Z=>no2) (fun Z Z Z=>no2) (fun Z Z Z=>no2) (fun Z Z Z Z Z=>no2) (fun Z Z=>no2) (fun Z Z=>no2) (fun Z Z Z=>no2) (fun Z=>no2) (fun Z Z=>no2) (fun Z Z=>no2) (fun Z Z Z=>no2) (fun Z=>no2) (fun Z=>no2) (fun Z Z=>no2) (fun Z Z Z Z=>no2) no2 (fun Z Z=>no2) rfl h
noncomputable def vNone (f : Bool) (x : V) : Bool:=V.casesOn (motive_1:=fun Z=>Bool) x f zf1 zf1 zf1 zf1 zf1 zf2 zf2 false
theorem vNone_inv {f : Bool} {x : V} {C : Prop} (h : vNone f x = true) (k : x = .none → f = true → C) : C :=
 V.casesOn (motive_1:=fun y=>x = y → vNone f y = true → C) x k (fun Z=>no2) (fun Z=>no2) (fun Z=>no2) (fun Z=>no2) (fun Z=>no2) (fun Z Z=>no2) (fun Z Z=>no2) no2 rfl h
noncomputable def vBool (f : Bool → Bool) (x : V) : Bool:=V.casesOn (motive_1:=fun Z=>Bool) x false f zf1 zf1 zf1 zf1 zf2 zf2 false
theorem vBool_inv {f : Bool → Bool} {x : V} {C : Prop} (h : vBool f x = true) (k : ∀ (a : Bool),x = .bool a → f a = true → C) : C :=
 V.casesOn (motive_1:=fun y=>x = y → vBool f y = true → C) x no2 k (fun Z=>no2) (fun Z=>no2) (fun Z=>no2) (fun Z=>no2) (fun Z Z=>no2) (fun Z Z=>no2) no2 rfl h
noncomputable def vInt (f : Int → Bool) (x : V) : Bool:=V.casesOn (motive_1:=fun Z=>Bool) x false zf1 f zf1 zf1 zf1 zf2 zf2 false
theorem vInt_inv {f : Int → Bool} {x : V} {C : Prop} (h : vInt f x = true) (k : ∀ (a : Int),x = .int a → f a = true → C) : C :=
 V.casesOn (motive_1:=fun y=>x = y → vInt f y = true → C) x no2 (fun Z=>no2) k (fun Z=>no2) (fun Z=>no2) (fun Z=>no2) (fun Z Z=>no2) (fun Z Z=>no2) no2 rfl h
noncomputable def coNone (f : Bool) (x : Const) : Bool:=Const.casesOn (motive:=fun Z=>Bool) x f zf1 zf1 zf1 zf2 zf1 zf1 false
theorem coNone_inv {f : Bool} {x : Const} {C : Prop} (h : coNone f x = true) (k : x = .none → f = true → C) : C :=
 Const.casesOn (motive:=fun y=>x = y → coNone f y = true → C) x k (fun Z=>no2) (fun Z=>no2) (fun Z=>no2) (fun Z Z=>no2) (fun Z=>no2) (fun Z=>no2) no2 rfl h
noncomputable def coBool (f : Bool → Bool) (x : Const) : Bool:=Const.casesOn (motive:=fun Z=>Bool) x false f zf1 zf1 zf2 zf1 zf1 false
theorem coBool_inv {f : Bool → Bool} {x : Const} {C : Prop} (h : coBool f x = true) (k : ∀ (a : Bool),x = .bool a → f a = true → C) : C :=
 Const.casesOn (motive:=fun y=>x = y → coBool f y = true → C) x no2 k (fun Z=>no2) (fun Z=>no2) (fun Z Z=>no2) (fun Z=>no2) (fun Z=>no2) no2 rfl h
noncomputable def coInt (f : Int → Bool) (x : Const) : Bool:=Const.casesOn (motive:=fun Z=>Bool) x false zf1 f zf1 zf2 zf1 zf1 false
theorem coInt_inv {f : Int → Bool} {x : Const} {C : Prop} (h : coInt f x = true) (k : ∀ (a : Int),x = .int a → f a = true → C) : C :=
 Const.casesOn (motive:=fun y=>x = y → coInt f y = true → C) x no2 (fun Z=>no2) k (fun Z=>no2) (fun Z Z=>no2) (fun Z=>no2) (fun Z=>no2) no2 rfl h
noncomputable def coStr (f : Str → Bool) (x : Const) : Bool:=Const.casesOn (motive:=fun Z=>Bool) x false zf1 zf1 zf1 zf2 f zf1 false
theorem coStr_inv {f : Str → Bool} {x : Const} {C : Prop} (h : coStr f x = true) (k : ∀ (a : Str),x = .str a → f a = true → C) : C :=
 Const.casesOn (motive:=fun y=>x = y → coStr f y = true → C) x no2 (fun Z=>no2) (fun Z=>no2) (fun Z=>no2) (fun Z Z=>no2) k (fun Z=>no2) no2 rfl h
section
variable {α : Type} {C : Prop}
noncomputable def lc (f : α → List α → Bool) (l : List α) : Bool:=List.casesOn (motive:=fun Z=>Bool) l false f
theorem lc_inv {f : α → List α → Bool} {l : List α} (h : lc f l = true) (k : ∀ a r,l = a :: r → f a r = true → C) : C :=
 List.casesOn (motive:=fun y=>l = y → lc f y = true → C) l no2 k rfl h
noncomputable def ln (b : Bool) (l : List α) : Bool:=List.casesOn (motive:=fun Z=>Bool) l b fun Z Z=>false
theorem ln_inv {b : Bool} {l : List α} (h : ln b l = true) (k : l = [] → b = true → C) : C :=
 List.casesOn (motive:=fun y=>l = y → ln b y = true → C) l k (fun Z Z=>no2) rfl h
noncomputable def l1 (f : α → Bool) : List α → Bool:=lc fun a r=>ln (f a) r
theorem l1_inv {f : α → Bool} {l : List α} (h : l1 f l = true) (k : ∀ a,l = [a] → f a = true → C) : C :=
 lc_inv h fun a r e h=>ln_inv h fun e2 h=>k a (e.trans (congrArg (List.cons a) e2)) h
noncomputable def l2 (f : α → α → Bool) : List α → Bool:=lc fun a r=>l1 (f a) r
theorem l2_inv {f : α → α → Bool} {l : List α} (h : l2 f l = true) (k : ∀ a b,l = [a,b] → f a b = true → C) : C :=
 lc_inv h fun a r e h=>l1_inv h fun b e2 h=>k a b (e.trans (congrArg (List.cons a) e2)) h
noncomputable def l3 (f : α → α → α → Bool) : List α → Bool:=lc fun a r=>l2 (f a) r
theorem l3_inv {f : α → α → α → Bool} {l : List α} (h : l3 f l = true) (k : ∀ a b c,l = [a,b,c] → f a b c = true → C) : C :=
 lc_inv h fun a Z e h=>l2_inv h fun b c e2 h=>k a b c (e.trans (congrArg (List.cons a) e2)) h
noncomputable def lif (a b : Bool) (l : List α) : Bool:=List.casesOn (motive:=fun Z=>Bool) l a fun Z Z=>b
noncomputable def oS (b : Bool) (f : α → Bool) (o : Option α) : Bool:=Option.casesOn (motive:=fun Z=>Bool) o b f
theorem oS_inv {f : α → Bool} {o : Option α} (h : oS false f o = true) (k : ∀ a,o = some a → f a = true → C) : C :=
 Option.casesOn (motive:=fun y=>o = y → oS false f y = true → C) o no2 k rfl h
theorem oN_inv {o : Option α} {b : Bool} (h : oS b zf1 o = true) (k : o = none → b = true → C) : C :=
 Option.casesOn (motive:=fun y=>o = y → oS b zf1 y = true → C) o k (fun Z=>no2) rfl h
theorem and2 {a b : Bool} (h : (a && b) = true) : a = true ∧ b = true:=Bool.and_eq_true_iff.mp h
theorem or2 {a b : Bool} (h : (!a || b) = true) (ha : a = true) : b = true:=by subst ha;exact h
theorem not2 {a : Bool} (h : (!a) = true) : a = false:=by cases a;rfl;exact fT h
end
end
section
open PySem PySem.W PyProof.Rows
noncomputable def seq (a b : Str) : Bool:=a.cps.toList == b.cps.toList
theorem seq_eq {a b : Str} (h : seq a b = true) : a = b:=by
 obtain ⟨a⟩:=a;obtain ⟨b⟩:=b
 unfold seq at h
 rw [beq_iff_eq] at h
 exact congrArg Str.mk (Array.toList_inj.mp h)
theorem seq_self (a : Str) : seq a a = true:=by unfold seq;exact beq_self_eq_true _
abbrev Sc:=List (Str × NameKind)
noncomputable def kOf : Sc → Str → Option NameKind
 | [],_=>none
 | (n,k) :: r,x=>if seq x n then some k else kOf r x
theorem kOf_eq (sc : Sc) (x : Str) : kOf sc x = sc.lookup x:=by
 induction sc with
 | nil=>rfl
 | cons a r ih =>
  obtain ⟨n,k⟩:=a
  rewrite [kOf];refine Eq.trans ?_ (List.lookup_cons).symm
  cases h : seq x n with
  | true=>refine (seq_eq h).symm ▸ ?_;rw [beq_self_eq_true];rfl
  | false =>
   have : (x == n) = false:=beq_eq_false_iff_ne.mpr fun e=>by replace h:=(e) ▸ h;rw [seq_self] at h;exact tF h
   exact (this).symm ▸ ih
noncomputable def isG (o : Option NameKind) : Bool:=decide (o = some .globalImplicit)
theorem isG_eq {o : Option NameKind} (h : isG o = true) : o = some .globalImplicit:=of_decide_eq_true h
noncomputable def isF (o : Option NameKind) : Bool:=decide (o = some .free)
theorem isF_eq {o : Option NameKind} (h : isF o = true) : o = some .free:=of_decide_eq_true h
noncomputable def isC (o : Option NameKind) : Bool:=decide (o = some .cell)
theorem isC_eq {o : Option NameKind} (h : isC o = true) : o = some .cell:=of_decide_eq_true h
noncomputable def isL (o : Option NameKind) : Bool:=decide (o = some .local)
theorem isL_eq {o : Option NameKind} (h : isL o = true) : o = some .local:=of_decide_eq_true h
noncomputable def nodbg (x : Str) : Bool := !seq x ("__debug__" : Str)
theorem nodbg_eq {x : Str} (h : nodbg x = true) : (x == ("__debug__" : Str)) = false := by
 unfold nodbg at h
 exact beq_eq_false_iff_ne.mpr fun e=>by replace h:=(e) ▸ h;rw [seq_self] at h;exact fT h
noncomputable def bnm : Bi → Str
 | .len => "len" | .ord => "ord" | .chr => "chr" | .str => "str" | .abs => "abs" | .max => "max" | .min => "min" | .sum => "sum"
 | .upper => "upper" | .lower => "lower" | .index => "index" | .join => "join"
noncomputable def isMeth : Bi → Bool | .upper=>true | .lower=>true | .index=>true | .join=>true | _=>false
noncomputable def opB (o : Op) (p : Operator) : Bool:=decide (p = opOf o)
theorem opB_eq {o : Op} {p : Operator} (h : opB o p = true) : p = opOf o:=of_decide_eq_true h
noncomputable def cpB (o : Cp) (p : CmpOp) : Bool:=decide (p = cpOf o)
theorem cpB_eq {o : Cp} {p : CmpOp} (h : cpB o p = true) : p = cpOf o:=of_decide_eq_true h
noncomputable def txOk (s : Tx) : Bool:=decide (s.length ≤ SZ) && s.all (· < 1114112)
theorem txOk_eq {s : Tx} (h : txOk s = true) : TxOk s:=by
 unfold txOk at h
 rw [Bool.and_eq_true,decide_eq_true_eq,List.all_eq_true] at h
 exact ⟨h.1,fun c hc=>by simpa using h.2 c hc⟩
noncomputable def relC : V → Const → Bool
 | .none=>coNone true
 | .bool b=>coBool fun b'=>b == b'
 | .int i=>coInt fun j=>decide (i = j)
 | .str s=>coStr fun x=>x.cps.toList == s && txOk s
 | _=>fun Z=>false
noncomputable def notSlice : Expr → Bool | .Slice ..=>false | _=>true
theorem notSlice_eq {e : Expr} (h : notSlice e = true) : ∀ l u st p,e ≠ .Slice l u st p:=by rintro l u st p rfl;exact fT h
noncomputable def notStar : Expr → Bool | .Starred ..=>false | _=>true
theorem star_cons {e : Expr} (h : notStar e = true) (r : List Expr) (env : Env) : starEach (e :: r) env = (false,eval e env) :: starEach r env:=by
 cases e <;> first | rfl | exact fT h
noncomputable def notCall : Expr → Bool | .Call ..=>false | _=>true
theorem base_plain {o : Expr} (h : notCall o = true) (x : Str) (env : Env) (m : Sem Value) : attributeBase o x env m = m:=by
 cases o <;> first | rfl | exact fT h
noncomputable def relab (sc osc : Sc) : Sc:=sc.map fun (n,k)=>if isF (some k) && isC (kOf osc n) then (n,.cell) else (n,k)
noncomputable def nmIn (sc osc : Sc) (j : Nat) (x : Str) (nm : List (Option Str)) : List (Option Str) :=
 (nm.map fun o=>match o with | some y=>if isF (kOf sc y) && isC (kOf osc y) then some y else none | none=>none).set j (some x)
noncomputable def keyOk (k : Tx) : Option Expr → Bool:=oS false (eConstant fun c Z Z=>coStr (fun x=>x.cps.toList == k && txOk k) c)
noncomputable def keysOk : List Tx → List (Option Expr) → Bool
 | []=>ln true
 | k :: ks=>lc fun e es=>keyOk k e && keysOk ks es
noncomputable def flatB (v : V) : Bool:=V.casesOn (motive_1:=fun Z=>Bool) v true (fun Z=>false) (fun Z=>true) (fun Z=>false) (fun Z=>false) (fun Z=>false) (fun Z Z=>false) (fun Z Z=>false) false
noncomputable def litOk (v : V) (e : Expr) : Bool :=
 eConstant (fun c Z Z=>flatB v && relC v c) e || vInt (fun i=>eUnaryOp (fun op x Z=>decide (op = .USub) && eConstant (fun c Z Z=>coInt (fun j=>decide (i = -j)) c) x) e) v
noncomputable def litsOk : List V → List Expr → Bool
 | []=>ln true
 | v :: vs=>lc fun e es=>litOk v e && litsOk vs es
noncomputable def dups : List Tx → Bool
 | []=>false
 | k :: r=>r.contains k || dups r
noncomputable def nmAt (nm : List (Option Str)) (i : Nat) (id : Str) : Bool:=oS false (oS false fun y=>seq y id) nm[i]? && nodbg id
theorem nmAt_get {nm : List (Option Str)} {m : Nat} {x : Str} (h : nmAt nm m x = true) : nm[m]? = some (some x) ∧ (x == ("__debug__" : Str)) = false :=
 ⟨oS_inv (and2 h).1 fun a e h=>oS_inv h fun b e2 h=>e.trans (by rw [e2,seq_eq h]),nodbg_eq (and2 h).2⟩
noncomputable def stoB (sc : Sc) (nm : List (Option Str)) (i : Nat) (id : Str) : Bool:=nmAt nm i id && (isL (kOf sc id) || isC (kOf sc id))
noncomputable def eCN (f : Str → Pos → List Expr → Pos → Bool) : Expr → Bool:=eCall fun fn args ks pos=>ln (eName (fun id p=>f id p args pos) fn) ks
theorem eCN_inv {f : Str → Pos → List Expr → Pos → Bool} {x : Expr} {C : Prop} (h : eCN f x = true) (k : ∀ id p args pos,x = .Call (.Name id p) args [] pos → f id p args pos = true → C) : C :=
 eCall_inv h fun fn args ks pos e h=>ln_inv h fun e2 h=>eName_inv h fun id p e3 h=>k id p args pos (by rw [e,e2,e3]) h
noncomputable def eCA (f : Expr → Str → Pos → List Expr → Pos → Bool) : Expr → Bool:=eCall fun fn args ks pos=>ln (eAttribute (fun o x p=>f o x p args pos) fn) ks
theorem eCA_inv {f : Expr → Str → Pos → List Expr → Pos → Bool} {x : Expr} {C : Prop} (h : eCA f x = true) (k : ∀ o a p args pos,x = .Call (.Attribute o a p) args [] pos → f o a p args pos = true → C) : C :=
 eCall_inv h fun fn args ks pos e h=>ln_inv h fun e2 h=>eAttribute_inv h fun o a p e3 h=>k o a p args pos (by rw [e,e2,e3]) h
noncomputable def isLN : CE → Bool:=ceLit (vNone true)
noncomputable def isLT : CE → Bool:=ceLit (vBool fun b=>b)
noncomputable def eLC (f : Expr → Str → Str → Expr → List Expr → Scope → Bool) : Expr → Bool:=eListComp fun e gs scope Z =>
 l1 (fun g=>decide (g.is_async = 0) && eName (fun x Z=>eCN (fun id Z args Z=>l1 (fun m=>f e x id m g.ifs scope) args) g.iter) g.target) gs
theorem eLC_inv {f : Expr → Str → Str → Expr → List Expr → Scope → Bool} {x : Expr} {C : Prop} (h : eLC f x = true)
  (k : ∀ e y py id pid m pc ifs scope pos,x = .ListComp e [⟨.Name y py,.Call (.Name id pid) [m] [] pc,ifs,0⟩] scope pos → f e y id m ifs scope = true → C) : C :=
 eListComp_inv h fun e gs scope pos e1 h=>l1_inv h fun g e2 h=>eName_inv (and2 h).2 fun y py e3 h'=>eCN_inv h' fun id pid args pc e4 h'=>l1_inv h' fun m e5 h' =>
  k e y py id pid m pc g.ifs scope pos (by
   have e6:=of_decide_eq_true (and2 h).1
   refine (e1).trans ?_;refine (e2).symm ▸ ?_
   clear h h' k
   cases g with | mk t it ifs a =>
   subst e5
   exact congrArg (fun z=>Expr.ListComp e [z] scope pos) (by rw [Comprehension.mk.injEq];exact ⟨e3,e4,rfl,e6⟩)) h'
mutual
noncomputable def relE (fnm : List Str) : CE → Sc → List (Option Str) → Expr → Bool
  | .lit v, _, _ => eConstant fun c Z Z => relC v c
  | .var i, _, nm => eName fun id Z => nmAt nm i id
  | .bin o a b, sc, nm => eBinOp fun l op r Z => opB o op && (relE fnm a sc nm l && relE fnm b sc nm r)
  | .neg a, sc, nm => eUnaryOp fun op x Z => decide (op = .USub) && relE fnm a sc nm x
  | .not a, sc, nm => eUnaryOp fun op x Z => decide (op = .Not) && relE fnm a sc nm x
  | .and a b, sc, nm => eBoolOp fun op l pos => decide (op = .And) && lc (fun x r => lc (fun y r2 => relE fnm a sc nm x && lif (relE fnm b sc nm y) (relE fnm b sc nm (.BoolOp .And (y :: r2) pos)) r2) r) l
  | .or a b, sc, nm => eBoolOp fun op l pos => decide (op = .Or) && lc (fun x r => lc (fun y r2 => relE fnm a sc nm x && lif (relE fnm b sc nm y) (relE fnm b sc nm (.BoolOp .Or (y :: r2) pos)) r2) r) l
  | .ite t a b, sc, nm => eIfExp fun t' a' b' Z => relE fnm t sc nm t' && (relE fnm a sc nm a' && relE fnm b sc nm b')
  | .cmp a o b, sc, nm => eCompare fun l ops rs Z => l1 (fun op => l1 (fun r => (cpB o op && !behindInMarks op r) && (relE fnm a sc nm l && relE fnm b sc nm r)) rs) ops
  | .cmp2 a o b o' c, sc, nm => eCompare fun l ops rs Z => l2 (fun op op' => l2 (fun r r' => (cpB o op && cpB o' op' && !lastMarks [op, op'] [r, r']) && (relE fnm a sc nm l && (relE fnm b sc nm r && relE fnm c sc nm r'))) rs) ops
  | .call f as, sc, nm => eCN fun id Z args Z => oS false (fun x => seq x id) fnm[f]? && isG (kOf sc id) && nodbg id && relEs fnm as sc nm args
  | .bi b as, sc, nm => eCN fun id Z args Z => seq (bnm b) id && !isMeth b && isG (kOf sc id) && nodbg id && relEs fnm as sc nm args
  | .meth b o as, sc, nm => eCA fun o' x apos args pos => seq (bnm b) x && isMeth b && (apos.endLine == pos.line) && notCall o' && (decide (args.length < 20) && (relE fnm o sc nm o' && relEs fnm as sc nm args))
  | .joinv i, _, nm => eCA fun o' x apos args pos => eConstant (fun c Z Z => coStr (fun e => l1 (eName fun id Z => seq e ("" : Str) && seq ("join" : Str) x && (apos.endLine == pos.line) && nmAt nm i id) args) c) o'
  | .item a i, sc, nm => eSubscript fun v sl Z => notSlice sl && (relE fnm a sc nm v && relE fnm i sc nm sl)
  | .itemD i k, sc, nm => eSubscript fun v sl Z => eName (fun id Z => notSlice sl && nmAt nm i id && relE fnm k sc nm sl) v
  | .slc a lo hi, sc, nm => eSubscript fun v sl Z => eName (fun id p => eSlice (fun l u st Z => oS (relE fnm a sc nm (.Name id p) && (oS (isLN lo) (fun l => relE fnm lo sc nm l) l && oS (isLN hi) (fun u => relE fnm hi sc nm u) u)) (fun Z => false) st) sl) v
  | .tup es, sc, nm => eTuple fun l Z Z => relEs fnm es sc nm l
  | .lst es, sc, nm => eList fun l Z => relEs fnm es sc nm l
  | .dct ks es, _, _ => eDict fun keys vals Z => keysOk ks keys && !ks.isEmpty && !dups ks && decide (ks.length ≤ 15) && decide (ks.length = es.length) && litsOk es vals
  | .cmpr j n elt cnd, sc, nm => eLC fun e x id m ifs scope =>
        seq ("range" : Str) id && isG (kOf sc id) && nodbg id && notStar m && decide (j < nm.length) && (scope.names.all (fun y => !isC (some y.2) && (!isL (some y.2) || isL (kOf scope.names y.1)) && (!isF (some y.2) || isC (kOf sc y.1))) &&
          isL (kOf scope.names x) && decide (scope.kind = .function)) &&
        (relE fnm n sc nm m && (relE fnm elt (relab scope.names sc) (nmIn scope.names sc j x nm) e &&
          List.casesOn (motive := fun Z => Bool) ifs (isLT cnd) fun c r => ln (relE fnm cnd (relab scope.names sc) (nmIn scope.names sc j x nm) c) r))
  | .nil, _, _ => fun Z => false
  | .cons _ _, _, _ => fun Z => false
noncomputable def relEs (fnm : List Str) : CE → Sc → List (Option Str) → List Expr → Bool
 | .nil,_,_=>ln true
 | .cons a r,sc,nm=>lc fun e es=>notStar e && (relE fnm a sc nm e && relEs fnm r sc nm es)
 | _,_,_=>fun Z=>false
end
noncomputable def notSet : Expr → Bool | .Set ..=>false | _=>true
noncomputable def noComp : Expr → Bool | .ListComp ..=>false | .SetComp ..=>false | .DictComp ..=>false | _=>true
noncomputable def tgts (sc : Sc) (nm : List (Option Str)) : List Nat → List Expr → Bool
 | []=>ln true
 | i :: is=>lc fun e es=>eName (fun id Z=>stoB sc nm i id && tgts sc nm is es) e
noncomputable def swB2 (sc : Sc) (vs : List Expr) (a : Str) (pa : Pos) (b : Str) (pb : Pos) : Bool:=vs.length == 2 && vs.all notStar && isL (kOf sc a) && isL (kOf sc b) && pa.line == pb.line && !seq b a && !vs.all (foldedForSure 8) && !vs.all (constantsAlone 8)
noncomputable def swB3 (sc : Sc) (vs : List Expr) (a : Str) (pa : Pos) (b : Str) (pb : Pos) (c : Str) (pc : Pos) : Bool := vs.length == 3 && vs.all notStar && isL (kOf sc a) && isL (kOf sc b) && isL (kOf sc c) && pa.line == pb.line && pa.line == pc.line && !seq b a && !seq c a && !seq c b &&
      !vs.all (foldedForSure 8) && !vs.all (constantsAlone 8)
noncomputable def swapB (sc : Sc) (ts vs : List Expr) : Bool :=
 lc (fun t1 r=>eName (fun a pa=>lc (fun t2 r=>eName (fun b pb=>List.casesOn (motive:=fun Z=>Bool) r (swB2 sc vs a pa b pb) fun t3 r=>ln (eName (fun c pc=>swB3 sc vs a pa b pb c pc) t3) r) t2) r) t1) ts
noncomputable def eTupleT (f : List Expr → Bool) (x : Expr) : Bool:=Expr.casesOn (motive_1:=fun Z=>Bool) x (fun Z Z Z=>true) (fun Z Z Z=>true) (fun Z Z Z Z=>true) (fun Z Z Z=>true) (fun Z Z Z Z=>true) (fun Z Z Z Z=>true) (fun Z Z Z=>true) (fun Z Z Z=>true) (fun Z Z Z Z=>true) (fun Z Z Z Z=>true) (fun Z Z Z Z Z=>true) (fun Z Z Z Z=>true) (fun Z Z=>true) (fun Z Z=>true) (fun Z Z=>true) (fun Z Z Z Z=>true) (fun Z Z Z Z=>true) (fun Z Z Z Z=>true) (fun Z Z=>true) (fun Z Z Z=>true) (fun Z Z Z=>true) (fun Z Z Z=>true) (fun Z Z=>true) (fun Z Z=>true) (fun Z Z=>true) (fun l Z Z=>f l) (fun Z Z Z Z=>true)
noncomputable def sA1 (f : Expr → Expr → Pos → List Stmt → Bool) : List Stmt → Bool:=lc fun st r=>sAssign (fun ts v p=>l1 (fun t=>f t v p r) ts) st
theorem sA1_inv {f : Expr → Expr → Pos → List Stmt → Bool} {l : List Stmt} {C : Prop} (h : sA1 f l = true) (k : ∀ t v p r,l = .Assign [t] v p :: r → f t v p r = true → C) : C :=
 lc_inv h fun st r e1 h=>sAssign_inv h fun ts v p e2 h=>l1_inv h fun t e3 h=>k t v p r (by rw [e1,e2,e3]) h
noncomputable def sAN (f : Str → Expr → List Stmt → Bool) : List Stmt → Bool:=sA1 fun t v Z r=>eName (fun x Z=>f x v r) t
theorem sAN_inv {f : Str → Expr → List Stmt → Bool} {l : List Stmt} {C : Prop} (h : sAN f l = true) (k : ∀ x px v p r,l = .Assign [.Name x px] v p :: r → f x v r = true → C) : C :=
 sA1_inv h fun t v p r e1 h=>eName_inv h fun x px e2 h=>k x px v p r (by rw [e1,e2]) h
noncomputable def sAS (f : Str → Expr → Expr → List Stmt → Bool) : List Stmt → Bool:=sA1 fun t v Z r=>eSubscript (fun o i Z=>eName (fun x Z=>f x i v r) o) t
theorem sAS_inv {f : Str → Expr → Expr → List Stmt → Bool} {l : List Stmt} {C : Prop} (h : sAS f l = true) (k : ∀ x px i ps v p r,l = .Assign [.Subscript (.Name x px) i ps] v p :: r → f x i v r = true → C) : C :=
 sA1_inv h fun t v p r e1 h=>eSubscript_inv h fun o i ps e2 h=>eName_inv h fun x px e3 h=>k x px i ps v p r (by rw [e1,e2,e3]) h
noncomputable def sEx (f : Expr → List Stmt → Bool) : List Stmt → Bool:=lc fun st r=>sExpr (fun v Z=>f v r) st
theorem sEx_inv {f : Expr → List Stmt → Bool} {l : List Stmt} {C : Prop} (h : sEx f l = true) (k : ∀ v p r,l = .Expr v p :: r → f v r = true → C) : C :=
 lc_inv h fun st r e1 h=>sExpr_inv h fun v p e2 h=>k v p r (by rw [e1,e2]) h
noncomputable def sM (f : Str → Str → List Expr → List Stmt → Bool) : List Stmt → Bool:=sEx fun v r=>eCA (fun o a ap args cp=>eName (fun x Z=>(ap.endLine == cp.line) && f x a args r) o) v
theorem sM_inv {f : Str → Str → List Expr → List Stmt → Bool} {l : List Stmt} {C : Prop} (h : sM f l = true) (k : ∀ x px a ap args cp p r,l = .Expr (.Call (.Attribute (.Name x px) a ap) args [] cp) p :: r → (ap.endLine == cp.line) = true → f x a args r = true → C) : C :=
 sEx_inv h fun v p r e1 h=>eCA_inv h fun o a ap args cp e2 h=>eName_inv h fun x px e3 h=>k x px a ap args cp p r (by rw [e1,e2,e3]) (and2 h).1 (and2 h).2
noncomputable def sF (f : Expr → Expr → List Stmt → List Stmt → Bool) : List Stmt → Bool:=lc fun st r=>sFor (fun t v b o Z=>ln (f t v b r) o) st
theorem sF_inv {f : Expr → Expr → List Stmt → List Stmt → Bool} {l : List Stmt} {C : Prop} (h : sF f l = true) (k : ∀ t v b p r,l = .For t v b [] p :: r → f t v b r = true → C) : C :=
 lc_inv h fun st r e1 h=>sFor_inv h fun t v b o p e2 h=>ln_inv h fun e3 h=>k t v b p r (by rw [e1,e2,e3]) h
noncomputable def relS (fnm : List Str) : CS → Sc → List (Option Str) → List Stmt → Bool
 | .done,_,_=>ln true
 | .asg i e k,sc,nm=>sAN fun x v r=>stoB sc nm i x && noComp v && relE fnm e sc nm v && relS fnm k sc nm r
 | .asgT is e k,sc,nm=>sA1 fun t v Z r=>eTuple (fun ts Z Z=>tgts sc nm is ts && eTupleT (swapB sc ts) v && noComp v && relE fnm e sc nm v && relS fnm k sc nm r) t
 | .newL i k,sc,nm=>sAN fun x v r=>eList (fun l Z=>ln (stoB sc nm i x && relS fnm k sc nm r) l) v
 | .newD i k,sc,nm=>sAN fun x v r=>eDict (fun l l' Z=>ln (ln (stoB sc nm i x && relS fnm k sc nm r) l') l) v
 | .app i e k, sc, nm => sM fun x a args r => l1 (fun v => nmAt nm i x && seq a ("append" : Str) && notStar v && relE fnm e sc nm v && relS fnm k sc nm r) args
 | .rev i k, sc, nm => sM fun x a args r => ln (nmAt nm i x && seq a ("reverse" : Str) && relS fnm k sc nm r) args
 | .setD i ke ve k,sc,nm=>sAS fun x ki v r=>nmAt nm i x && notSlice ki && noComp v && relE fnm ve sc nm v && relE fnm ke sc nm ki && relS fnm k sc nm r
 | .setP i e k,sc,nm=>sAS fun x ki v r=>eConstant (fun c Z Z=>coInt (fun z=>nmAt nm i x && decide (z = 0) && noComp v && relE fnm e sc nm v && relS fnm k sc nm r) c) ki
 | .aug i o e k,sc,nm=>lc fun st r=>sAugAssign (fun t op v Z=>eName (fun x Z=>stoB sc nm i x && opB o op && relE fnm e sc nm v && relS fnm k sc nm r) t) st
 | .ifs t b o k,sc,nm=>lc fun st r=>sIf (fun t' b' o' Z=>relE fnm t sc nm t' && relS fnm b sc nm b' && relS fnm o sc nm o' && relS fnm k sc nm r) st
 | .whl t b k,sc,nm=>lc fun st r=>sWhile (fun t' b' o Z=>ln (relE fnm t sc nm t' && relS fnm b sc nm b' && relS fnm k sc nm r) o) st
 | .for1 i e b k,sc,nm=>sF fun t v b' r=>eName (fun x Z=>stoB sc nm i x && notSet v && relE fnm e sc nm v && relS fnm b sc nm b' && relS fnm k sc nm r) t
 | .for2 i j e b k, sc, nm => sF fun t v b' r => eTuple (fun ts Z Z => l2 (fun tx ty => eName (fun x Z => eName (fun y Z => eCN (fun id Z args Z => l1 (fun v => stoB sc nm i x && stoB sc nm j y && seq ("enumerate" : Str) id && isG (kOf sc id) && notStar v && relE fnm e sc nm v && relS fnm b sc nm b' && relS fnm k sc nm r) args) v) ty) tx) ts) t
 | .ret e,sc,nm=>l1 (sReturn fun o Z=>oS (isLN e) (fun v=>relE fnm e sc nm v) o)
 | .retO i,_,nm=>l1 (sReturn fun o Z=>oS false (eName fun x Z=>nmAt nm i x) o)
 | .rai e,sc,nm=>l1 (sRaise fun o o' Z=>oS false (fun v=>oS (relE fnm e sc nm v) (fun Z=>false) o') o)
 | .brk,_,_=>l1 (sBreak fun Z=>true)
 | .cont,_,_=>l1 (sContinue fun Z=>true)
 | .exp e k,sc,nm=>sEx fun v r=>noComp v && relE fnm e sc nm v && relS fnm k sc nm r
noncomputable def nmsOf (sc : Sc) (l : List String) : List (Option Str):=l.map fun x=>let y:=Str.ofString x;if isL (kOf sc y) || isC (kOf sc y) then some y else none
end
section
noncomputable section
noncomputable def fnames : List String := ["error", "is_blank", "digit", "digits_value", "base_of", "whole_of", "need_whole", "wide", "bad_field", "mixed_fields", "beyond_places", "sign_at", "place_of", "digits_behind", "read_digits", "read_place", "read_size", "base_of_sort", "need_int", "need_room", "need_word", "digits_of", "filled", "cut_to_size", "without_sign", "mark_of", "whole_field", "field_of", "read_flags", "read_measure", "put_field", "format_text", "_law_told", "_law_draw", "_law_star", "_law_value", "_law_field", "_law_words", "_law_spec", "_law_told_by", "_law_one_by_one", "_law_plain_form", "_law_placed_form", "_law_star_number", "_law_measures", "_law_form", "_law_kept", "_law_whole", "_law_layers", "_law_field_right", "law"]
noncomputable def c_is_blank : CS:=(.ret (.cmp (.var 0) .inn (.tup (.cons (.lit (.str [32])) (.cons (.lit (.str [9])) (.cons (.lit (.str [10])) (.cons (.lit (.str [11])) (.cons (.lit (.str [12])) (.cons (.lit (.str [13])) .nil)))))))))
noncomputable def c_digit : CS:=(.ifs (.cmp (.bi .len (.cons (.var 0) .nil)) .ne (.lit (.int 1))) (.ret (.neg (.lit (.int 1)))) .done (.asg 1 (.bi .ord (.cons (.var 0) .nil)) (.ifs (.cmp2 (.lit (.int 48)) .le (.var 1) .le (.lit (.int 57))) (.ret (.bin .sub (.var 1) (.lit (.int 48)))) .done (.ifs (.cmp2 (.lit (.int 97)) .le (.var 1) .le (.lit (.int 122))) (.ret (.bin .sub (.var 1) (.lit (.int 87)))) .done (.ifs (.cmp2 (.lit (.int 65)) .le (.var 1) .le (.lit (.int 90))) (.ret (.bin .sub (.var 1) (.lit (.int 55)))) .done (.ret (.neg (.lit (.int 1)))))))))
noncomputable def c_digits_value : CS:=(.ifs (.cmp (.var 0) .eq (.lit (.str []))) (.ret (.lit .none)) .done (.asg 2 (.lit (.int 0)) (.for1 3 (.var 0) (.asg 4 (.call 2 (.cons (.var 3) .nil)) (.ifs (.or (.cmp (.var 4) .lt (.lit (.int 0))) (.cmp (.var 4) .ge (.var 1))) (.ret (.lit .none)) .done (.asg 2 (.bin .add (.bin .mul (.var 2) (.var 1)) (.var 4)) .done))) (.ret (.var 2)))))
noncomputable def c_base_of : CS:=(.ifs (.cmp (.var 0) .inn (.tup (.cons (.lit (.str [120])) (.cons (.lit (.str [88])) .nil)))) (.ret (.lit (.int 16))) .done (.ifs (.cmp (.var 0) .inn (.tup (.cons (.lit (.str [111])) (.cons (.lit (.str [79])) .nil)))) (.ret (.lit (.int 8))) .done (.ifs (.cmp (.var 0) .inn (.tup (.cons (.lit (.str [98])) (.cons (.lit (.str [66])) .nil)))) (.ret (.lit (.int 2))) .done (.ifs (.cmp (.var 0) .inn (.tup (.cons (.lit (.str [100])) (.cons (.lit (.str [68])) .nil)))) (.ret (.lit (.int 10))) .done (.ret (.lit (.int 0)))))))
noncomputable def c_whole_of : CS:=(.asgT [1,2] (.tup (.cons (.lit (.int 0)) (.cons (.bi .len (.cons (.var 0) .nil)) .nil))) (.whl (.and (.cmp (.var 1) .lt (.var 2)) (.call 1 (.cons (.item (.var 0) (.var 1)) .nil))) (.aug 1 .add (.lit (.int 1)) .done) (.whl (.and (.cmp (.var 1) .lt (.var 2)) (.call 1 (.cons (.item (.var 0) (.bin .sub (.var 2) (.lit (.int 1)))) .nil))) (.aug 2 .sub (.lit (.int 1)) .done) (.asg 3 (.lit (.bool false)) (.ifs (.and (.cmp (.var 1) .lt (.var 2)) (.cmp (.item (.var 0) (.var 1)) .inn (.tup (.cons (.lit (.str [43])) (.cons (.lit (.str [45])) .nil))))) (.asg 3 (.cmp (.item (.var 0) (.var 1)) .eq (.lit (.str [45]))) (.aug 1 .add (.lit (.int 1)) .done)) .done (.asg 4 (.lit (.int 0)) (.ifs (.and (.cmp (.bin .sub (.var 2) (.var 1)) .gt (.lit (.int 2))) (.cmp (.item (.var 0) (.var 1)) .eq (.lit (.str [48])))) (.asg 4 (.call 4 (.cons (.item (.var 0) (.bin .add (.var 1) (.lit (.int 1)))) .nil)) .done) .done (.ifs (.cmp (.var 4) .gt (.lit (.int 0))) (.asg 5 (.call 3 (.cons (.slc (.var 0) (.bin .add (.var 1) (.lit (.int 2))) (.var 2)) (.cons (.var 4) .nil))) .done) (.asg 5 (.call 3 (.cons (.slc (.var 0) (.var 1) (.var 2)) (.cons (.lit (.int 10)) .nil))) .done) (.ifs (.cmp (.var 5) .is (.lit .none)) (.ret (.lit .none)) .done (.ret (.ite (.var 3) (.neg (.var 5)) (.var 5))))))))))))
noncomputable def c_need_whole : CS:=(.asg 1 (.call 5 (.cons (.var 0) .nil)) (.ifs (.cmp (.var 1) .is (.lit .none)) (.rai (.call 0 (.cons (.bin .add (.bin .add (.lit (.str [101,120,112,101,99,116,101,100,32,105,110,116,101,103,101,114,32,98,117,116,32,103,111,116,32,34])) (.var 0)) (.lit (.str [34]))) (.cons (.tup (.cons (.lit (.str [84,67,76])) (.cons (.lit (.str [86,65,76,85,69])) (.cons (.lit (.str [78,85,77,66,69,82])) .nil)))) .nil)))) .done (.ret (.var 1))))
noncomputable def c_wide : CS:=(.asg 1 (.bin .band (.var 0) (.bin .sub (.bin .shl (.lit (.int 1)) (.lit (.int 64))) (.lit (.int 1)))) (.ifs (.cmp (.bin .shr (.var 1) (.lit (.int 63))) .eq (.lit (.int 1))) (.ret (.bin .sub (.var 1) (.bin .shl (.lit (.int 1)) (.lit (.int 64))))) .done (.ret (.var 1))))
noncomputable def c_bad_field : CS:=(.ret (.call 0 (.cons (.var 0) (.cons (.tup (.cons (.lit (.str [84,67,76])) (.cons (.lit (.str [70,79,82,77,65,84])) (.cons (.var 1) .nil)))) .nil))))
noncomputable def c_mixed_fields : CS:=(.ret (.call 8 (.cons (.lit (.str [99,97,110,110,111,116,32,109,105,120,32,34,37,34,32,97,110,100,32,34,37,110,36,34,32,99,111,110,118,101,114,115,105,111,110,32,115,112,101,99,105,102,105,101,114,115])) (.cons (.lit (.str [77,73,88,69,68,83,80,69,67,84,89,80,69,83])) .nil))))
noncomputable def c_beyond_places : CS:=(.ret (.call 8 (.cons (.lit (.str [34,37,110,36,34,32,97,114,103,117,109,101,110,116,32,105,110,100,101,120,32,111,117,116,32,111,102,32,114,97,110,103,101])) (.cons (.lit (.str [73,78,68,69,88,82,65,78,71,69])) .nil))))
noncomputable def c_sign_at : CS:=(.ret (.ite (.cmp (.var 1) .lt (.bi .len (.cons (.var 0) .nil))) (.item (.var 0) (.var 1)) (.lit (.str []))))
noncomputable def c_place_of : CS:=(.whl (.and (.cmp (.var 2) .lt (.bi .len (.cons (.var 0) .nil))) (.cmp (.item (.var 0) (.var 2)) .ne (.var 1))) (.aug 2 .add (.lit (.int 1)) .done) (.ret (.var 2)))
noncomputable def c_digits_behind : CS:=(.whl (.and (.cmp (.var 1) .lt (.var 2)) (.cmp2 (.lit (.int 0)) .le (.call 2 (.cons (.item (.var 0) (.var 1)) .nil)) .lt (.var 3))) (.aug 1 .add (.lit (.int 1)) .done) (.ret (.var 1)))
noncomputable def c_read_digits : CS:=(.asg 2 (.call 13 (.cons (.var 0) (.cons (.var 1) (.cons (.bi .len (.cons (.var 0) .nil)) (.cons (.lit (.int 10)) .nil))))) (.ifs (.cmp (.var 2) .eq (.var 1)) (.ret (.tup (.cons (.neg (.lit (.int 1))) (.cons (.var 1) .nil)))) .done (.ret (.tup (.cons (.call 3 (.cons (.slc (.var 0) (.var 1) (.var 2)) (.cons (.lit (.int 10)) .nil))) (.cons (.var 2) .nil))))))
noncomputable def c_read_place : CS:=(.asgT [2,3] (.call 14 (.cons (.var 0) (.cons (.var 1) .nil))) (.ifs (.and (.cmp (.var 2) .ge (.lit (.int 0))) (.cmp (.call 11 (.cons (.var 0) (.cons (.var 3) .nil))) .eq (.lit (.str [36])))) (.ret (.tup (.cons (.var 2) (.cons (.bin .add (.var 3) (.lit (.int 1))) .nil)))) .done (.ret (.tup (.cons (.neg (.lit (.int 1))) (.cons (.var 1) .nil))))))
noncomputable def c_read_size : CS:=(.asg 2 (.call 11 (.cons (.var 0) (.cons (.var 1) .nil))) (.ifs (.and (.cmp (.var 2) .eq (.lit (.str [108]))) (.cmp (.call 11 (.cons (.var 0) (.cons (.bin .add (.var 1) (.lit (.int 1))) .nil))) .eq (.lit (.str [108])))) (.ret (.tup (.cons (.lit (.str [98,105,103])) (.cons (.bin .add (.var 1) (.lit (.int 2))) .nil)))) .done (.ifs (.cmp (.var 2) .eq (.lit (.str [76]))) (.ret (.tup (.cons (.lit (.str [98,105,103])) (.cons (.bin .add (.var 1) (.lit (.int 1))) .nil)))) .done (.ifs (.cmp (.var 2) .inn (.tup (.cons (.lit (.str [108])) (.cons (.lit (.str [106])) (.cons (.lit (.str [113])) (.cons (.lit (.str [122])) (.cons (.lit (.str [116])) .nil))))))) (.ret (.tup (.cons (.lit (.str [108])) (.cons (.bin .add (.var 1) (.lit (.int 1))) .nil)))) .done (.ifs (.cmp (.var 2) .eq (.lit (.str [104]))) (.ret (.tup (.cons (.lit (.str [104])) (.cons (.bin .add (.var 1) (.lit (.int 1))) .nil)))) .done (.ret (.tup (.cons (.lit (.str [])) (.cons (.var 1) .nil)))))))))
noncomputable def c_base_of_sort : CS:=(.ifs (.cmp (.var 0) .inn (.tup (.cons (.lit (.str [120])) (.cons (.lit (.str [88])) .nil)))) (.ret (.lit (.int 16))) .done (.ifs (.cmp (.var 0) .eq (.lit (.str [111]))) (.ret (.lit (.int 8))) .done (.ifs (.cmp (.var 0) .eq (.lit (.str [98]))) (.ret (.lit (.int 2))) .done (.ret (.lit (.int 10))))))
noncomputable def c_need_int : CS:=(.asg 1 (.call 6 (.cons (.var 0) .nil)) (.ifs (.or (.cmp (.var 1) .lt (.neg (.bin .shl (.lit (.int 1)) (.lit (.int 31))))) (.cmp (.var 1) .ge (.bin .shl (.lit (.int 1)) (.lit (.int 32))))) (.asg 2 (.lit (.str [105,110,116,101,103,101,114,32,118,97,108,117,101,32,116,111,111,32,108,97,114,103,101,32,116,111,32,114,101,112,114,101,115,101,110,116])) (.rai (.call 0 (.cons (.var 2) (.cons (.tup (.cons (.lit (.str [65,82,73,84,72])) (.cons (.lit (.str [73,79,86,69,82,70,76,79,87])) (.cons (.var 2) .nil)))) .nil))))) .done (.ret (.var 1))))
noncomputable def c_need_room : CS:=(.ifs (.cmp (.var 0) .ge (.bin .shl (.lit (.int 1)) (.lit (.int 31)))) (.rai (.call 8 (.cons (.lit (.str [109,97,120,32,115,105,122,101,32,102,111,114,32,97,32,84,99,108,32,118,97,108,117,101,32,101,120,99,101,101,100,101,100])) (.cons (.lit (.str [79,86,69,82,70,76,79,87])) .nil)))) .done .done)
noncomputable def c_need_word : CS:=(.ifs (.cmp2 (.lit (.int 0)) .le (.var 0) .lt (.var 1)) (.ret (.lit .none)) .done (.ifs (.var 2) (.rai (.call 10 .nil)) .done (.rai (.call 8 (.cons (.lit (.str [110,111,116,32,101,110,111,117,103,104,32,97,114,103,117,109,101,110,116,115,32,102,111,114,32,97,108,108,32,102,111,114,109,97,116,32,115,112,101,99,105,102,105,101,114,115])) (.cons (.lit (.str [70,73,69,76,68,86,65,82,77,73,83,77,65,84,67,72])) .nil))))))
noncomputable def c_digits_of : CS:=(.ifs (.or (.cmp (.var 1) .eq (.lit (.int 10))) (.cmp (.var 0) .eq (.lit (.int 0)))) (.ret (.bi .str (.cons (.var 0) .nil))) .done (.asg 3 (.ite (.var 2) (.lit (.str [48,49,50,51,52,53,54,55,56,57,65,66,67,68,69,70])) (.lit (.str [48,49,50,51,52,53,54,55,56,57,97,98,99,100,101,102]))) (.newL 4 (.whl (.cmp (.var 0) .gt (.lit (.int 0))) (.app 4 (.item (.var 3) (.bin .mod (.var 0) (.var 1))) (.asg 0 (.bin .fdiv (.var 0) (.var 1)) .done)) (.rev 4 (.ret (.joinv 4)))))))
noncomputable def c_filled : CS:=(.ret (.bin .mul (.var 0) (.bi .max (.cons (.var 1) (.cons (.lit (.int 0)) .nil)))))
noncomputable def c_cut_to_size : CS:=(.ifs (.cmp (.var 1) .eq (.lit (.str [98,105,103]))) (.ret (.var 0)) .done (.ifs (.cmp (.var 1) .eq (.lit (.str [104]))) (.asg 2 (.bin .band (.var 0) (.lit (.int 65535))) (.ret (.ite (.cmp (.var 2) .ge (.lit (.int 32768))) (.bin .sub (.var 2) (.lit (.int 65536))) (.var 2)))) .done (.ret (.call 7 (.cons (.var 0) .nil)))))
noncomputable def c_without_sign : CS:=(.ifs (.cmp (.var 1) .eq (.lit (.str [104]))) (.ret (.bin .band (.var 0) (.lit (.int 65535)))) .done (.ret (.bin .band (.var 0) (.bin .sub (.bin .shl (.lit (.int 1)) (.lit (.int 64))) (.lit (.int 1))))))
noncomputable def c_mark_of : CS:=(.ifs (.cmp (.var 0) .inn (.tup (.cons (.lit (.str [120])) (.cons (.lit (.str [88])) .nil)))) (.ret (.lit (.str [48,120]))) .done (.ifs (.cmp (.var 0) .eq (.lit (.str [117]))) (.ret (.lit (.str []))) .done (.ret (.bin .add (.lit (.str [48])) (.var 0)))))
noncomputable def c_whole_field : CS:=(.asg 6 (.call 23 (.cons (.call 6 (.cons (.var 1) .nil)) (.cons (.var 5) .nil))) (.ifs (.and (.cmp (.var 0) .eq (.lit (.str [117]))) (.cmp (.var 5) .eq (.lit (.str [98,105,103])))) (.ifs (.cmp (.var 6) .lt (.lit (.int 0))) (.rai (.call 8 (.cons (.lit (.str [117,110,115,105,103,110,101,100,32,98,105,103,110,117,109,32,102,111,114,109,97,116,32,105,115,32,105,110,118,97,108,105,100])) (.cons (.lit (.str [66,65,68,85,78,83,73,71,78,69,68])) .nil)))) .done (.asg 0 (.lit (.str [100])) .done)) .done (.asg 7 (.lit (.str [])) (.ifs (.or (.cmp (.var 0) .eq (.lit (.str [100]))) (.cmp (.var 5) .eq (.lit (.str [98,105,103])))) (.asg 8 (.call 21 (.cons (.bi .abs (.cons (.var 6) .nil)) (.cons (.call 17 (.cons (.var 0) .nil)) (.cons (.cmp (.var 0) .eq (.lit (.str [88]))) .nil)))) (.ifs (.cmp (.var 6) .lt (.lit (.int 0))) (.asg 7 (.lit (.str [45])) .done) (.ifs (.cmp (.lit (.str [43])) .inn (.var 2)) (.asg 7 (.lit (.str [43])) .done) (.ifs (.cmp (.lit (.str [32])) .inn (.var 2)) (.asg 7 (.lit (.str [32])) .done) .done .done) .done) .done)) (.asg 8 (.call 21 (.cons (.call 24 (.cons (.var 6) (.cons (.var 5) .nil))) (.cons (.call 17 (.cons (.var 0) .nil)) (.cons (.cmp (.var 0) .eq (.lit (.str [88]))) .nil)))) .done) (.ifs (.and (.cmp (.lit (.str [35])) .inn (.var 2)) (.cmp (.var 6) .ne (.lit (.int 0)))) (.asg 7 (.bin .add (.var 7) (.call 25 (.cons (.var 0) .nil))) .done) .done (.ifs (.cmp (.var 4) .ge (.lit (.int 0))) (.exp (.call 19 (.cons (.var 4) .nil)) (.ret (.bin .add (.bin .add (.var 7) (.call 22 (.cons (.lit (.str [48])) (.cons (.bin .sub (.var 4) (.bi .len (.cons (.var 8) .nil))) .nil)))) (.var 8)))) .done (.ifs (.cmp (.lit (.str [48])) .inn (.var 2)) (.ret (.bin .add (.bin .add (.var 7) (.call 22 (.cons (.lit (.str [48])) (.cons (.bin .sub (.bin .sub (.var 3) (.bi .len (.cons (.var 7) .nil))) (.bi .len (.cons (.var 8) .nil))) .nil)))) (.var 8))) .done (.ret (.bin .add (.var 7) (.var 8))))))))))
noncomputable def c_field_of : CS:=(.asg 6 (.ite (.cmp (.lit (.str [48])) .inn (.var 2)) (.lit (.str [48])) (.lit (.str [32]))) (.ifs (.cmp (.var 0) .inn (.tup (.cons (.lit (.str [])) (.cons (.lit (.str [0])) .nil)))) (.rai (.call 8 (.cons (.lit (.str [102,111,114,109,97,116,32,115,116,114,105,110,103,32,101,110,100,101,100,32,105,110,32,109,105,100,100,108,101,32,111,102,32,102,105,101,108,100,32,115,112,101,99,105,102,105,101,114])) (.cons (.lit (.str [73,78,67,79,77,80,76,69,84,69])) .nil)))) .done (.ifs (.cmp (.var 0) .eq (.lit (.str [115]))) (.asg 7 (.ite (.cmp (.var 4) .lt (.lit (.int 0))) (.var 1) (.slc (.var 1) (.lit .none) (.var 4))) .done) (.ifs (.cmp (.var 0) .eq (.lit (.str [99]))) (.asg 8 (.call 18 (.cons (.var 1) .nil)) (.asg 7 (.ite (.cmp2 (.lit (.int 0)) .le (.var 8) .le (.lit (.int 1114111))) (.bi .chr (.cons (.var 8) .nil)) (.bi .chr (.cons (.lit (.int 65533)) .nil))) .done)) (.ifs (.cmp (.var 0) .inn (.tup (.cons (.lit (.str [100])) (.cons (.lit (.str [105])) (.cons (.lit (.str [117])) (.cons (.lit (.str [111])) (.cons (.lit (.str [120])) (.cons (.lit (.str [88])) (.cons (.lit (.str [98])) .nil))))))))) (.asg 7 (.call 26 (.cons (.ite (.cmp (.var 0) .eq (.lit (.str [105]))) (.lit (.str [100])) (.var 0)) (.cons (.var 1) (.cons (.var 2) (.cons (.var 3) (.cons (.var 4) (.cons (.var 5) .nil))))))) (.ifs (.cmp (.var 4) .ge (.lit (.int 0))) (.asg 6 (.lit (.str [32])) .done) .done .done)) (.rai (.call 8 (.cons (.bin .add (.bin .add (.lit (.str [98,97,100,32,102,105,101,108,100,32,115,112,101,99,105,102,105,101,114,32,34])) (.var 0)) (.lit (.str [34]))) (.cons (.lit (.str [66,65,68,84,89,80,69])) .nil)))) .done) .done) (.asg 9 (.call 22 (.cons (.var 6) (.cons (.bin .sub (.var 3) (.bi .len (.cons (.var 7) .nil))) .nil))) (.ret (.ite (.cmp (.lit (.str [45])) .inn (.var 2)) (.bin .add (.var 7) (.var 9)) (.bin .add (.var 9) (.var 7))))))))
noncomputable def c_read_flags : CS:=(.asg 2 (.var 1) (.whl (.cmp (.call 11 (.cons (.var 0) (.cons (.var 2) .nil))) .inn (.tup (.cons (.lit (.str [45])) (.cons (.lit (.str [43])) (.cons (.lit (.str [32])) (.cons (.lit (.str [48])) (.cons (.lit (.str [35])) .nil))))))) (.aug 2 .add (.lit (.int 1)) .done) (.ret (.tup (.cons (.slc (.var 0) (.var 1) (.var 2)) (.cons (.var 2) .nil))))))
noncomputable def c_read_measure : CS:=(.ifs (.cmp (.call 11 (.cons (.var 0) (.cons (.var 1) .nil))) .eq (.lit (.str [42]))) (.exp (.call 20 (.cons (.bin .add (.var 3) (.lit (.int 1))) (.cons (.bi .len (.cons (.var 2) .nil)) (.cons (.var 4) .nil)))) (.ret (.tup (.cons (.call 18 (.cons (.item (.var 2) (.var 3)) .nil)) (.cons (.bin .add (.var 3) (.lit (.int 1))) (.cons (.bin .add (.var 1) (.lit (.int 1))) .nil)))))) .done (.asgT [5,6] (.call 14 (.cons (.var 0) (.cons (.var 1) .nil))) (.ret (.tup (.cons (.ite (.cmp (.var 5) .lt (.lit (.int 0))) (.lit .none) (.var 5)) (.cons (.var 3) (.cons (.var 6) .nil)))))))
noncomputable def c_put_field : CS:=(.exp (.call 20 (.cons (.var 3) (.cons (.bi .len (.cons (.var 2) .nil)) (.cons (.var 4) .nil)))) (.asgT [5,1] (.call 28 (.cons (.var 0) (.cons (.var 1) .nil))) (.asgT [6,3,1] (.call 29 (.cons (.var 0) (.cons (.var 1) (.cons (.var 2) (.cons (.var 3) (.cons (.var 4) .nil)))))) (.ifs (.cmp (.var 6) .is (.lit .none)) (.asg 6 (.lit (.int 0)) .done) .done (.ifs (.cmp (.var 6) .lt (.lit (.int 0))) (.asg 5 (.bin .add (.var 5) (.lit (.str [45]))) (.asg 6 (.neg (.var 6)) .done)) .done (.exp (.call 19 (.cons (.var 6) .nil)) (.asg 7 (.cmp (.call 11 (.cons (.var 0) (.cons (.var 1) .nil))) .eq (.lit (.str [46]))) (.ifs (.var 7) (.aug 1 .add (.lit (.int 1)) .done) .done (.asgT [8,3,1] (.call 29 (.cons (.var 0) (.cons (.var 1) (.cons (.var 2) (.cons (.var 3) (.cons (.var 4) .nil)))))) (.asg 9 (.neg (.lit (.int 1))) (.ifs (.var 7) (.asg 9 (.ite (.cmp (.var 8) .is (.lit .none)) (.lit (.int 0)) (.bi .max (.cons (.var 8) (.cons (.lit (.int 0)) .nil)))) .done) .done (.asgT [10,1] (.call 16 (.cons (.var 0) (.cons (.var 1) .nil))) (.ret (.tup (.cons (.call 27 (.cons (.call 11 (.cons (.var 0) (.cons (.var 1) .nil))) (.cons (.item (.var 2) (.var 3)) (.cons (.var 5) (.cons (.var 6) (.cons (.var 9) (.cons (.var 10) .nil))))))) (.cons (.var 3) (.cons (.bin .add (.var 1) (.lit (.int 1))) .nil)))))))))))))))))
noncomputable def c_format_text : CS:=(.newL 2 (.asg 3 (.lit (.int 0)) (.asg 4 (.lit (.int 0)) (.asg 5 (.lit (.str [])) (.whl (.cmp (.var 3) .lt (.bi .len (.cons (.var 0) .nil))) (.asg 6 (.call 12 (.cons (.var 0) (.cons (.lit (.str [37])) (.cons (.var 3) .nil)))) (.app 2 (.slc (.var 0) (.var 3) (.var 6)) (.ifs (.cmp (.var 6) .ge (.bi .len (.cons (.var 0) .nil))) .brk .done (.ifs (.cmp (.call 11 (.cons (.var 0) (.cons (.bin .add (.var 6) (.lit (.int 1))) .nil))) .eq (.lit (.str [37]))) (.app 2 (.lit (.str [37])) (.asg 3 (.bin .add (.var 6) (.lit (.int 2))) .cont)) .done (.asgT [7,3] (.call 15 (.cons (.var 0) (.cons (.bin .add (.var 6) (.lit (.int 1))) .nil))) (.asg 8 (.ite (.cmp (.var 7) .lt (.lit (.int 0))) (.lit (.str [37])) (.lit (.str [36]))) (.ifs (.cmp (.var 5) .nin (.tup (.cons (.lit (.str [])) (.cons (.var 8) .nil)))) (.rai (.call 9 .nil)) .done (.asg 5 (.var 8) (.ifs (.cmp (.var 7) .ge (.lit (.int 0))) (.asg 4 (.bin .sub (.var 7) (.lit (.int 1))) .done) .done (.asgT [9,4,3] (.call 30 (.cons (.var 0) (.cons (.var 3) (.cons (.var 1) (.cons (.var 4) (.cons (.cmp (.var 7) .ge (.lit (.int 0))) .nil)))))) (.app 2 (.var 9) (.ifs (.cmp (.var 7) .lt (.lit (.int 0))) (.aug 4 .add (.lit (.int 1)) .done) .done .done)))))))))))) (.ret (.joinv 2)))))))
noncomputable def c_law_told : CS:=(.ret (.lst (.cons (.lst (.cons (.tup (.cons (.lit (.int 0)) (.cons (.lit (.int 0)) (.cons (.lit (.int 4)) (.cons (.lit (.int 4)) (.cons (.lit (.int 0)) (.cons (.lit (.int 0)) (.cons (.lit (.int 0)) (.cons (.lit (.int 0)) (.cons (.lit (.int 8)) .nil)))))))))) (.cons (.tup (.cons (.lit (.int 1)) (.cons (.lit (.int 8)) (.cons (.lit (.int 2)) (.cons (.lit (.int 0)) (.cons (.lit (.int 0)) (.cons (.lit (.int 0)) (.cons (.lit (.int 0)) (.cons (.lit (.int 4)) (.cons (.lit (.int 1)) .nil)))))))))) (.cons (.tup (.cons (.lit (.int 2)) (.cons (.lit (.int 16)) (.cons (.lit (.int 0)) (.cons (.lit (.int 0)) (.cons (.lit (.int 3)) (.cons (.lit (.int 0)) (.cons (.lit (.int 3)) (.cons (.lit (.int 5)) (.cons (.lit (.int 5)) .nil)))))))))) .nil)))) (.cons (.lst (.cons (.tup (.cons (.lit (.int 3)) (.cons (.lit (.int 9)) (.cons (.lit (.int 3)) (.cons (.lit (.int 0)) (.cons (.lit (.int 0)) (.cons (.lit (.int 0)) (.cons (.lit (.int 1)) (.cons (.lit (.int 3)) (.cons (.lit (.int 3)) .nil)))))))))) (.cons (.tup (.cons (.lit (.int 0)) (.cons (.lit (.int 2)) (.cons (.lit (.int 2)) (.cons (.lit (.int 0)) (.cons (.lit (.int 5)) (.cons (.lit (.int 3)) (.cons (.lit (.int 2)) (.cons (.lit (.int 0)) (.cons (.lit (.int 2)) .nil)))))))))) (.cons (.tup (.cons (.lit (.int 1)) (.cons (.lit (.int 28)) (.cons (.lit (.int 3)) (.cons (.lit (.int 0)) (.cons (.lit (.int 0)) (.cons (.lit (.int 0)) (.cons (.lit (.int 4)) (.cons (.lit (.int 6)) (.cons (.lit (.int 6)) .nil)))))))))) .nil)))) (.cons (.lst (.cons (.tup (.cons (.lit (.int 0)) (.cons (.lit (.int 1)) (.cons (.lit (.int 2)) (.cons (.lit (.int 0)) (.cons (.lit (.int 3)) (.cons (.lit (.int 0)) (.cons (.lit (.int 0)) (.cons (.lit (.int 8)) (.cons (.lit (.int 0)) .nil)))))))))) (.cons (.tup (.cons (.lit (.int 4)) (.cons (.lit (.int 8)) (.cons (.lit (.int 1)) (.cons (.lit (.int 0)) (.cons (.lit (.int 0)) (.cons (.lit (.int 0)) (.cons (.lit (.int 0)) (.cons (.lit (.int 7)) (.cons (.lit (.int 3)) .nil)))))))))) (.cons (.tup (.cons (.lit (.int 0)) (.cons (.lit (.int 4)) (.cons (.lit (.int 0)) (.cons (.lit (.int 0)) (.cons (.lit (.int 1)) (.cons (.lit (.int 0)) (.cons (.lit (.int 5)) (.cons (.lit (.int 1)) (.cons (.lit (.int 0)) .nil)))))))))) .nil)))) (.cons (.lst (.cons (.tup (.cons (.lit (.int 1)) (.cons (.lit (.int 24)) (.cons (.lit (.int 3)) (.cons (.lit (.int 0)) (.cons (.lit (.int 0)) (.cons (.lit (.int 0)) (.cons (.lit (.int 0)) (.cons (.lit (.int 2)) (.cons (.lit (.int 2)) .nil)))))))))) (.cons (.tup (.cons (.lit (.int 0)) (.cons (.lit (.int 10)) (.cons (.lit (.int 4)) (.cons (.lit (.int 6)) (.cons (.lit (.int 4)) (.cons (.lit (.int 0)) (.cons (.lit (.int 3)) (.cons (.lit (.int 4)) (.cons (.lit (.int 7)) .nil)))))))))) (.cons (.tup (.cons (.lit (.int 3)) (.cons (.lit (.int 0)) (.cons (.lit (.int 0)) (.cons (.lit (.int 0)) (.cons (.lit (.int 5)) (.cons (.lit (.int 6)) (.cons (.lit (.int 0)) (.cons (.lit (.int 8)) (.cons (.lit (.int 5)) .nil)))))))))) .nil)))) (.cons (.lst (.cons (.tup (.cons (.lit (.int 2)) (.cons (.lit (.int 20)) (.cons (.lit (.int 4)) (.cons (.lit (.int 8)) (.cons (.lit (.int 2)) (.cons (.lit (.int 0)) (.cons (.lit (.int 7)) (.cons (.lit (.int 6)) (.cons (.lit (.int 9)) .nil)))))))))) (.cons (.tup (.cons (.lit (.int 1)) (.cons (.lit (.int 0)) (.cons (.lit (.int 0)) (.cons (.lit (.int 0)) (.cons (.lit (.int 0)) (.cons (.lit (.int 0)) (.cons (.lit (.int 3)) (.cons (.lit (.int 2)) (.cons (.lit (.int 2)) .nil)))))))))) (.cons (.tup (.cons (.lit (.int 0)) (.cons (.lit (.int 0)) (.cons (.lit (.int 0)) (.cons (.lit (.int 0)) (.cons (.lit (.int 0)) (.cons (.lit (.int 0)) (.cons (.lit (.int 0)) (.cons (.lit (.int 9)) (.cons (.lit (.int 0)) .nil)))))))))) .nil)))) .nil)))))))
noncomputable def c_law_draw : CS:=(.asg 2 (.bin .mod (.item (.var 0) (.lit (.int 0))) (.var 1)) (.setP 0 (.bin .fdiv (.item (.var 0) (.lit (.int 0))) (.var 1)) (.ret (.var 2))))
noncomputable def c_law_star : CS:=(.asg 2 (.lst (.cons (.lit (.str [48])) (.cons (.lit (.str [49])) (.cons (.lit (.str [55])) (.cons (.lit (.str [49,50])) (.cons (.lit (.str [45,53])) (.cons (.lit (.str [32,57])) (.cons (.lit (.str [45,50])) (.cons (.lit (.str [48,120,56])) (.cons (.lit (.str [45,49,49])) (.cons (.lit (.str [45,50,49,52,55,52,56,51,54,52,56])) (.cons (.lit (.str [52,50,57,52,57,54,55,50,57,53])) (.cons (.lit (.str [52,50,57,52,57,54,55,50,57,54])) (.cons (.lit (.str [113])) .nil)))))))))))))) (.ret (.item (.var 2) (.bin .mod (.bin .add (.var 0) (.call 33 (.cons (.var 1) (.cons (.lit (.int 13)) .nil)))) (.lit (.int 13))))))
noncomputable def c_law_value : CS:=(.asg 3 (.bin .add (.var 1) (.call 33 (.cons (.var 2) (.cons (.lit (.int 12)) .nil)))) (.ifs (.cmp (.var 0) .eq (.lit (.str [115]))) (.asg 4 (.item (.lst (.cons (.lit (.str [97,98,32,99,100,101])) (.cons (.lit (.str [])) (.cons (.lit (.str [233,37,100])) (.cons (.lit (.str [123,97])) (.cons (.lit (.str [49,50,51,52,53,54,55,56,57,48,49,50,51,52,53,54,55,56,57,48])) (.cons (.lit (.str [120])) .nil))))))) (.bin .mod (.var 3) (.lit (.int 6)))) (.ret (.tup (.cons (.var 4) (.cons (.var 4) .nil))))) .done (.ifs (.cmp (.var 0) .eq (.lit (.str [99]))) (.asg 4 (.item (.lst (.cons (.lit (.int 65)) (.cons (.lit (.int 233)) (.cons (.lit (.int 37)) (.cons (.lit (.int 128512)) (.cons (.neg (.lit (.int 1))) (.cons (.lit (.int 1114111)) (.cons (.lit (.int 1114112)) (.cons (.lit (.int 0)) (.cons (.bin .sub (.bin .pow (.lit (.int 2)) (.lit (.int 32))) (.lit (.int 1))) (.cons (.bin .pow (.lit (.int 2)) (.lit (.int 32))) (.cons (.neg (.bin .pow (.lit (.int 2)) (.lit (.int 31)))) (.cons (.bin .sub (.neg (.bin .pow (.lit (.int 2)) (.lit (.int 31)))) (.lit (.int 1))) .nil))))))))))))) (.bin .mod (.var 3) (.lit (.int 12)))) (.ret (.tup (.cons (.var 4) (.cons (.bi .str (.cons (.var 4) .nil)) .nil))))) .done (.ifs (.cmp (.bin .mod (.var 3) (.lit (.int 12))) .gt (.lit (.int 9))) (.ret (.tup (.cons (.lit .none) (.cons (.item (.lst (.cons (.lit (.str [52,120])) (.cons (.lit (.str [])) .nil))) (.bin .mod (.var 3) (.lit (.int 2)))) .nil)))) .done (.asg 4 (.item (.lst (.cons (.lit (.int 0)) (.cons (.lit (.int 255)) (.cons (.neg (.lit (.int 1))) (.cons (.neg (.lit (.int 32769))) (.cons (.bin .pow (.lit (.int 2)) (.lit (.int 63))) (.cons (.bin .add (.bin .pow (.lit (.int 2)) (.lit (.int 64))) (.lit (.int 10))) (.cons (.bin .sub (.neg (.bin .pow (.lit (.int 2)) (.lit (.int 63)))) (.lit (.int 1))) (.cons (.lit (.int 40000)) (.cons (.lit (.int 7)) (.cons (.lit (.int 65536)) .nil))))))))))) (.bin .mod (.var 3) (.lit (.int 12)))) (.asg 5 (.call 33 (.cons (.var 2) (.cons (.bin .pow (.lit (.int 2)) (.lit (.int 66))) .nil))) (.ifs (.cmp (.call 33 (.cons (.var 2) (.cons (.lit (.int 2)) .nil))) .eq (.lit (.int 1))) (.asg 4 (.bin .sub (.var 4) (.var 5)) .done) (.asg 4 (.bin .add (.var 4) (.var 5)) .done) (.asg 6 (.item (.lst (.cons (.lit (.str [])) (.cons (.lit (.str [32])) (.cons (.lit (.str [10])) .nil)))) (.call 33 (.cons (.var 2) (.cons (.lit (.int 3)) .nil)))) (.ret (.tup (.cons (.var 4) (.cons (.bin .add (.bin .add (.bin .add (.var 6) (.ite (.and (.cmp (.var 4) .gt (.lit (.int 9))) (.cmp (.var 6) .eq (.lit (.str [32])))) (.lit (.str [43])) (.lit (.str [])))) (.bi .str (.cons (.var 4) .nil))) (.var 6)) .nil))))))))))))
noncomputable def c_law_field : CS:=(.asg 2 (.bin .mod (.bin .add (.item (.var 0) (.lit (.int 0))) (.call 33 (.cons (.var 1) (.cons (.lit (.int 5)) .nil)))) (.lit (.int 5))) (.asg 3 (.bin .mod (.bin .add (.item (.var 0) (.lit (.int 1))) (.call 33 (.cons (.var 1) (.cons (.lit (.int 32)) .nil)))) (.lit (.int 32))) (.asg 4 (.meth .join (.lit (.str [])) (.cons (.cmpr 15 (.lit (.int 5)) (.item (.lit (.str [45,43,32,48,35])) (.var 15)) (.cmp (.bin .mod (.bin .fdiv (.var 3) (.bin .pow (.lit (.int 2)) (.var 15))) (.lit (.int 2))) .eq (.lit (.int 1)))) .nil)) (.asg 5 (.item (.lst (.cons (.lit (.str [])) (.cons (.lit (.str [49])) (.cons (.lit (.str [57])) (.cons (.lit (.str [49,52])) (.cons (.lit (.str [42])) .nil)))))) (.bin .mod (.bin .add (.item (.var 0) (.lit (.int 2))) (.call 33 (.cons (.var 1) (.cons (.lit (.int 5)) .nil)))) (.lit (.int 5)))) (.asg 6 (.call 34 (.cons (.item (.var 0) (.lit (.int 3))) (.cons (.var 1) .nil))) (.asg 7 (.item (.lst (.cons (.lit (.str [])) (.cons (.lit (.str [46])) (.cons (.lit (.str [46,48])) (.cons (.lit (.str [46,51])) (.cons (.lit (.str [46,49,55])) (.cons (.lit (.str [46,42])) .nil))))))) (.bin .mod (.bin .add (.item (.var 0) (.lit (.int 4))) (.call 33 (.cons (.var 1) (.cons (.lit (.int 6)) .nil)))) (.lit (.int 6)))) (.asg 8 (.call 34 (.cons (.item (.var 0) (.lit (.int 5))) (.cons (.var 1) .nil))) (.asg 9 (.item (.lst (.cons (.lit (.str [])) (.cons (.lit (.str [104])) (.cons (.lit (.str [108])) (.cons (.lit (.str [108,108])) (.cons (.lit (.str [76])) (.cons (.lit (.str [106])) (.cons (.lit (.str [113])) (.cons (.lit (.str [122])) (.cons (.lit (.str [116])) .nil)))))))))) (.bin .mod (.bin .add (.item (.var 0) (.lit (.int 6))) (.call 33 (.cons (.var 1) (.cons (.lit (.int 9)) .nil)))) (.lit (.int 9)))) (.asg 10 (.item (.lit (.str [100,105,117,111,120,88,98,99,115,121,101,73,44])) (.bin .mod (.bin .add (.item (.var 0) (.lit (.int 7))) (.call 33 (.cons (.var 1) (.cons (.lit (.int 13)) .nil)))) (.lit (.int 13)))) (.asgT [11,12] (.call 35 (.cons (.var 10) (.cons (.item (.var 0) (.lit (.int 8))) (.cons (.var 1) .nil)))) (.asg 13 (.item (.lst (.cons (.lit (.str [])) (.cons (.lit (.str [97])) (.cons (.lit (.str [49,48,48,37,37,32])) (.cons (.lit (.str [32,98])) (.cons (.lit (.str [233,37,37])) .nil)))))) (.var 2)) (.asg 14 (.item (.lst (.cons (.lit (.str [])) (.cons (.lit (.str [97])) (.cons (.lit (.str [49,48,48,37,32])) (.cons (.lit (.str [32,98])) (.cons (.lit (.str [233,37])) .nil)))))) (.var 2)) (.ret (.tup (.cons (.var 13) (.cons (.var 14) (.cons (.var 4) (.cons (.var 5) (.cons (.var 6) (.cons (.var 7) (.cons (.var 8) (.cons (.var 9) (.cons (.var 10) (.cons (.var 11) (.cons (.var 12) .nil)))))))))))))))))))))))))
noncomputable def c_law_words : CS:=(.newL 1 (.ifs (.cmp (.item (.var 0) (.lit (.int 3))) .eq (.lit (.str [42]))) (.app 1 (.item (.var 0) (.lit (.int 4))) .done) .done (.ifs (.cmp (.item (.var 0) (.lit (.int 5))) .eq (.lit (.str [46,42]))) (.app 1 (.item (.var 0) (.lit (.int 6))) .done) .done (.app 1 (.item (.var 0) (.lit (.int 10))) (.retO 1)))))
noncomputable def c_law_spec : CS:=(.ret (.bin .add (.bin .add (.bin .add (.bin .add (.item (.var 0) (.lit (.int 2))) (.item (.var 0) (.lit (.int 3)))) (.item (.var 0) (.lit (.int 5)))) (.item (.var 0) (.lit (.int 7)))) (.item (.var 0) (.lit (.int 8)))))
noncomputable def c_law_one_by_one : CS:=(.asg 2 (.lit (.str [])) (.for2 3 4 (.var 0) (.asg 5 (.call 37 (.cons (.var 4) .nil)) (.ifs (.cmp (.var 3) .eq (.bin .sub (.bi .len (.cons (.var 0) .nil)) (.lit (.int 1)))) (.asg 5 (.slc (.var 5) (.lit .none) (.bin .sub (.bi .len (.cons (.var 5) .nil)) (.var 1))) .done) .done (.asg 6 (.call 39 (.cons (.bin .add (.lit (.str [37])) (.call 38 (.cons (.var 4) .nil))) (.cons (.var 5) .nil))) (.ifs (.cmp (.item (.var 6) (.lit (.int 0))) .ne (.lit (.int 0))) (.ret (.var 6)) .done (.asg 2 (.bin .add (.bin .add (.var 2) (.item (.var 4) (.lit (.int 1)))) (.item (.var 6) (.lit (.int 1)))) .done))))) (.ret (.tup (.cons (.lit (.int 0)) (.cons (.bin .add (.var 2) (.lit (.str [37,46]))) (.cons (.tup .nil) .nil)))))))
noncomputable def c_law_plain_form : CS:=(.asg 2 (.lit (.str [])) (.asg 3 (.lst .nil) (.for1 4 (.var 0) (.asg 2 (.bin .add (.bin .add (.bin .add (.var 2) (.item (.var 4) (.lit (.int 0)))) (.lit (.str [37]))) (.call 38 (.cons (.var 4) .nil))) (.asg 3 (.bin .add (.var 3) (.call 37 (.cons (.var 4) .nil))) .done)) (.ret (.tup (.cons (.bin .add (.var 2) (.lit (.str [37,37,46]))) (.cons (.slc (.var 3) (.lit .none) (.bin .sub (.bi .len (.cons (.var 3) .nil)) (.var 1))) .nil)))))))
noncomputable def c_law_placed_form : CS:=(.asg 2 (.lst .nil) (.newD 3 (.for1 4 (.cmpr 7 (.bi .len (.cons (.var 0) .nil)) (.bin .mod (.bin .add (.var 1) (.var 7)) (.bi .len (.cons (.var 0) .nil))) (.lit (.bool true))) (.setD 3 (.var 4) (.bin .add (.lit (.int 1)) (.bi .len (.cons (.var 2) .nil))) (.asg 2 (.bin .add (.var 2) (.call 37 (.cons (.item (.var 0) (.var 4)) .nil))) .done)) (.asg 5 (.lit (.str [])) (.for2 4 6 (.var 0) (.asg 5 (.bin .add (.bin .add (.bin .add (.bin .add (.bin .add (.var 5) (.item (.var 6) (.lit (.int 0)))) (.lit (.str [37]))) (.bi .str (.cons (.itemD 3 (.var 4)) .nil))) (.lit (.str [36]))) (.call 38 (.cons (.var 6) .nil))) .done) (.ret (.tup (.cons (.bin .add (.var 5) (.lit (.str [37,37,46]))) (.cons (.var 2) .nil)))))))))
noncomputable def c_law_star_number : CS:=(.asg 1 (.dct [[32,57],[48,120,56],[52,50,57,52,57,54,55,50,57,54],[113]] [(.int 9),(.int 8),.none,.none]) (.ifs (.cmp (.var 0) .inn (.var 1)) (.ret (.item (.var 1) (.var 0))) .done (.asg 2 (.lit (.int 0)) (.for1 3 (.var 0) (.ifs (.cmp (.var 3) .ne (.lit (.str [45]))) (.asg 2 (.bin .add (.bin .mul (.lit (.int 10)) (.var 2)) (.meth .index (.lit (.str [48,49,50,51,52,53,54,55,56,57])) (.cons (.var 3) .nil))) .done) .done .done) (.ret (.ite (.cmp (.item (.var 0) (.lit (.int 0))) .eq (.lit (.str [45]))) (.neg (.var 2)) (.var 2)))))))
noncomputable def c_law_measures : CS:=(.asg 1 (.item (.var 0) (.lit (.int 2))) (.asg 2 (.item (.dct [[],[49],[57],[49,52],[42]] [(.int 0),(.int 1),(.int 9),(.int 14),(.int 0)]) (.item (.var 0) (.lit (.int 3)))) (.ifs (.cmp (.item (.var 0) (.lit (.int 3))) .eq (.lit (.str [42]))) (.asg 2 (.call 43 (.cons (.item (.var 0) (.lit (.int 4))) .nil)) .done) .done (.asg 3 (.item (.dct [[],[46],[46,48],[46,51],[46,49,55],[46,42]] [(.int (-1)),(.int 0),(.int 0),(.int 3),(.int 17),(.int 0)]) (.item (.var 0) (.lit (.int 5)))) (.ifs (.cmp (.item (.var 0) (.lit (.int 5))) .eq (.lit (.str [46,42]))) (.asg 3 (.call 43 (.cons (.item (.var 0) (.lit (.int 6))) .nil)) .done) .done (.ifs (.or (.cmp (.var 2) .is (.lit .none)) (.cmp (.var 3) .is (.lit .none))) (.ret (.lit .none)) .done (.ifs (.cmp (.var 2) .lt (.lit (.int 0))) (.asgT [1,2] (.tup (.cons (.bin .add (.var 1) (.lit (.str [45]))) (.cons (.neg (.var 2)) .nil))) .done) .done (.ret (.tup (.cons (.var 1) (.cons (.var 2) (.cons (.ite (.cmp (.item (.var 0) (.lit (.int 5))) .ne (.lit (.str []))) (.bi .max (.cons (.var 3) (.cons (.lit (.int 0)) .nil))) (.neg (.lit (.int 1)))) .nil))))))))))))
noncomputable def c_law_form : CS:=(.asg 4 (.bin .add (.bin .add (.var 0) (.ite (.cmp (.var 1) .gt (.lit (.int 0))) (.bi .str (.cons (.var 1) .nil)) (.lit (.str [])))) (.ite (.cmp (.var 2) .ge (.lit (.int 0))) (.bin .add (.lit (.str [46])) (.bi .str (.cons (.var 2) .nil))) (.lit (.str [])))) (.ret (.bin .add (.bin .add (.bin .add (.lit (.str [37])) (.var 4)) (.item (.var 3) (.lit (.int 7)))) (.item (.var 3) (.lit (.int 8))))))
noncomputable def c_law_kept : CS:=(.ifs (.cmp (.var 1) .inn (.lst (.cons (.lit (.str [108,108])) (.cons (.lit (.str [76])) .nil)))) (.ret (.var 0)) .done (.asg 3 (.ite (.cmp (.var 1) .eq (.lit (.str [104]))) (.bin .pow (.lit (.int 2)) (.lit (.int 16))) (.bin .pow (.lit (.int 2)) (.lit (.int 64)))) (.asg 4 (.bin .mod (.var 0) (.var 3)) (.ret (.ite (.and (.cmp (.var 2) .inn (.lit (.str [100,105]))) (.cmp (.bin .mul (.lit (.int 2)) (.var 4)) .ge (.var 3))) (.bin .sub (.var 4) (.var 3)) (.var 4))))))
noncomputable def c_law_whole : CS:=(.asgT [2,3] (.tup (.cons (.item (.var 1) (.lit (.int 7))) (.cons (.item (.var 1) (.lit (.int 8))) .nil))) (.asg 4 (.call 46 (.cons (.item (.var 1) (.lit (.int 9))) (.cons (.var 2) (.cons (.var 3) .nil)))) (.asg 5 (.cmp (.var 2) .inn (.lst (.cons (.lit (.str [108,108])) (.cons (.lit (.str [76])) .nil)))) (.asg 6 (.lit (.str [])) (.ifs (.or (.var 5) (.cmp (.var 3) .inn (.lit (.str [100,105])))) (.asg 6 (.ite (.cmp (.var 4) .lt (.lit (.int 0))) (.lit (.str [45])) (.ite (.cmp (.lit (.str [43])) .inn (.var 0)) (.lit (.str [43])) (.ite (.cmp (.lit (.str [32])) .inn (.var 0)) (.lit (.str [32])) (.lit (.str []))))) .done) .done (.asg 7 (.bin .add (.lit (.str [48])) (.meth .lower (.var 3) .nil)) (.ifs (.cmp (.var 3) .inn (.lit (.str [105,117]))) (.asg 7 (.ite (.or (.var 5) (.cmp (.var 3) .eq (.lit (.str [105])))) (.lit (.str [48,100])) (.lit (.str []))) .done) .done (.ifs (.cmp (.var 4) .eq (.lit (.int 0))) (.asg 7 (.lit (.str [])) .done) .done (.asg 8 (.call 31 (.cons (.call 45 (.cons (.bin .add (.var 0) (.lit (.str [35]))) (.cons (.lit (.int 0)) (.cons (.neg (.lit (.int 1))) (.cons (.var 1) .nil))))) (.cons (.lst (.cons (.item (.var 1) (.lit (.int 10))) .nil)) .nil))) (.asg 9 (.slc (.var 8) (.bi .len (.cons (.bin .add (.var 6) (.var 7)) .nil)) (.lit .none)) (.ifs (.or (.cmp (.slc (.var 8) (.lit .none) (.bi .len (.cons (.bin .add (.var 6) (.var 7)) .nil))) .ne (.bin .add (.var 6) (.var 7))) (.cmp (.call 5 (.cons (.var 8) .nil)) .ne (.var 4))) (.ret (.tup (.cons (.lit (.bool false)) (.cons (.lit (.int 0)) .nil)))) .done (.ifs (.and (.cmp (.slc (.var 9) (.lit .none) (.lit (.int 1))) .eq (.lit (.str [48]))) (.cmp (.var 9) .ne (.lit (.str [48])))) (.ret (.tup (.cons (.lit (.bool false)) (.cons (.lit (.int 0)) .nil)))) .done (.ifs (.cmp (.var 9) .ne (.ite (.cmp (.var 3) .eq (.lit (.str [88]))) (.meth .upper (.var 9) .nil) (.meth .lower (.var 9) .nil))) (.ret (.tup (.cons (.lit (.bool false)) (.cons (.lit (.int 0)) .nil)))) .done (.ifs (.cmp (.lit (.str [35])) .nin (.var 0)) (.asg 7 (.lit (.str [])) .done) .done (.asg 10 (.call 31 (.cons (.call 45 (.cons (.var 0) (.cons (.lit (.int 0)) (.cons (.neg (.lit (.int 1))) (.cons (.var 1) .nil))))) (.cons (.lst (.cons (.item (.var 1) (.lit (.int 10))) .nil)) .nil))) (.ret (.tup (.cons (.cmp (.var 10) .eq (.bin .add (.bin .add (.var 6) (.var 7)) (.var 9))) (.cons (.bi .len (.cons (.bin .add (.var 6) (.var 7)) .nil)) .nil)))))))))))))))))))
noncomputable def c_law_layers : CS:=(.asgT [1,2,3] (.call 44 (.cons (.var 0) .nil)) (.asgT [4,5,6] (.tup (.cons (.item (.var 0) (.lit (.int 8))) (.cons (.item (.var 0) (.lit (.int 9))) (.cons (.item (.var 0) (.lit (.int 10))) .nil)))) (.asg 7 (.call 31 (.cons (.call 45 (.cons (.var 1) (.cons (.lit (.int 0)) (.cons (.neg (.lit (.int 1))) (.cons (.var 0) .nil))))) (.cons (.lst (.cons (.var 6) .nil)) .nil))) (.asg 8 (.lit (.int 0)) (.ifs (.cmp (.var 4) .eq (.lit (.str [115]))) (.asg 9 (.cmp (.var 7) .eq (.var 5)) .done) (.ifs (.cmp (.var 4) .eq (.lit (.str [99]))) (.asg 9 (.cmp (.var 7) .eq (.ite (.cmp2 (.lit (.int 0)) .le (.var 5) .le (.lit (.int 1114111))) (.bi .chr (.cons (.var 5) .nil)) (.lit (.str [65533])))) .done) (.asgT [9,8] (.call 47 (.cons (.var 1) (.cons (.var 0) .nil))) .done) .done) (.ifs (.not (.var 9)) (.ret (.lit (.bool false))) .done (.ifs (.and (.cmp (.var 3) .ge (.lit (.int 0))) (.cmp (.var 4) .eq (.lit (.str [115])))) (.asg 7 (.slc (.var 7) (.lit .none) (.var 3)) .done) (.ifs (.and (.cmp (.var 3) .ge (.lit (.int 0))) (.cmp (.var 4) .ne (.lit (.str [99])))) (.asg 7 (.bin .add (.bin .add (.slc (.var 7) (.lit .none) (.var 8)) (.bin .mul (.lit (.str [48])) (.bin .add (.bin .sub (.var 3) (.bi .len (.cons (.var 7) .nil))) (.var 8)))) (.slc (.var 7) (.var 8) (.lit .none))) .done) .done .done) (.ifs (.cmp (.call 31 (.cons (.call 45 (.cons (.var 1) (.cons (.lit (.int 0)) (.cons (.var 3) (.cons (.var 0) .nil))))) (.cons (.lst (.cons (.var 6) .nil)) .nil))) .ne (.var 7)) (.ret (.lit (.bool false))) .done (.asg 10 (.ite (.and (.cmp (.lit (.str [48])) .inn (.var 1)) (.or (.cmp (.var 3) .lt (.lit (.int 0))) (.cmp (.var 4) .inn (.lit (.str [115,99]))))) (.lit (.str [48])) (.lit (.str [32]))) (.asg 11 (.bin .mul (.var 10) (.bin .sub (.var 2) (.bi .len (.cons (.var 7) .nil)))) (.ifs (.and (.cmp (.var 10) .eq (.lit (.str [48]))) (.cmp (.var 4) .nin (.lit (.str [115,99])))) (.asg 7 (.bin .add (.bin .add (.slc (.var 7) (.lit .none) (.var 8)) (.var 11)) (.slc (.var 7) (.var 8) (.lit .none))) .done) (.asg 7 (.ite (.cmp (.lit (.str [45])) .inn (.var 1)) (.bin .add (.var 7) (.var 11)) (.bin .add (.var 11) (.var 7))) .done) (.ret (.cmp (.call 31 (.cons (.call 45 (.cons (.var 1) (.cons (.var 2) (.cons (.var 3) (.cons (.var 0) .nil))))) (.cons (.lst (.cons (.var 6) .nil)) .nil))) .eq (.var 7))))))))))))))
noncomputable def c_law_field_right : CS:=(.asg 1 (.call 39 (.cons (.bin .add (.lit (.str [37])) (.call 38 (.cons (.var 0) .nil))) (.cons (.call 37 (.cons (.var 0) .nil)) .nil))) (.asg 2 (.call 44 (.cons (.var 0) .nil)) (.ifs (.cmp (.var 2) .is (.lit .none)) (.ret (.cmp (.item (.var 1) (.lit (.int 0))) .eq (.lit (.int 1)))) .done (.asgT [3,4,5] (.var 2) (.ifs (.cmp (.var 1) .ne (.call 39 (.cons (.call 45 (.cons (.var 3) (.cons (.var 4) (.cons (.var 5) (.cons (.var 0) .nil))))) (.cons (.lst (.cons (.item (.var 0) (.lit (.int 10))) .nil)) .nil)))) (.ret (.lit (.bool false))) .done (.ret (.or (.cmp (.item (.var 1) (.lit (.int 0))) .ne (.lit (.int 0))) (.call 48 (.cons (.var 0) .nil)))))))))
noncomputable def c_law_turn : CS:=(.asg 6 (.call 33 (.cons (.var 4) (.cons (.lit (.int 3)) .nil))) (.asg 7 (.item (.lst (.cons (.lit (.int 0)) (.cons (.lit (.int 0)) (.cons (.lit (.int 0)) (.cons (.lit (.int 1)) (.cons (.lit (.int 2)) .nil)))))) (.call 33 (.cons (.var 4) (.cons (.lit (.int 5)) .nil)))) (.asg 7 (.bi .min (.cons (.var 7) (.cons (.bi .len (.cons (.call 37 (.cons (.item (.var 5) (.lit (.int 2))) .nil)) .nil)) .nil))) (.asg 8 (.call 40 (.cons (.var 5) (.cons (.var 7) .nil))) (.asgT [9,10] (.call 41 (.cons (.var 5) (.cons (.var 7) .nil))) (.ifs (.cmp (.call 39 (.cons (.var 9) (.cons (.var 10) .nil))) .ne (.var 8)) (.ret (.lit (.bool false))) .done (.ifs (.cmp (.var 7) .eq (.lit (.int 0))) (.asgT [9,10] (.call 42 (.cons (.var 5) (.cons (.bin .mod (.bin .add (.var 2) (.var 6)) (.lit (.int 3))) .nil))) (.ifs (.cmp (.call 39 (.cons (.var 9) (.cons (.var 10) .nil))) .ne (.var 8)) (.ret (.lit (.bool false))) .done .done)) .done (.for1 11 (.var 5) (.ifs (.not (.call 49 (.cons (.var 11) .nil))) (.ret (.lit (.bool false))) .done .done) .done))))))))
noncomputable def law_vars : List String := ["script", "forms", "k", "row", "pen", "fields", "turn", "lacking", "due", "form", "words", "field", "<told>"]
noncomputable def codes : List (Nat × CS × Nat × Nat):=[(1,c_is_blank,1,1),(2,c_digit,1,2),(3,c_digits_value,2,5),(4,c_base_of,1,1),(5,c_whole_of,1,6),(6,c_need_whole,1,2),(7,c_wide,1,2),(8,c_bad_field,2,2),(9,c_mixed_fields,0,0),(10,c_beyond_places,0,0),(11,c_sign_at,2,2),(12,c_place_of,3,3),(13,c_digits_behind,4,4),(14,c_read_digits,2,3),(15,c_read_place,2,4),(16,c_read_size,2,3),(17,c_base_of_sort,1,1),(18,c_need_int,1,3),(19,c_need_room,1,1),(20,c_need_word,3,3),(21,c_digits_of,3,5),(22,c_filled,2,2),(23,c_cut_to_size,2,3),(24,c_without_sign,2,2),(25,c_mark_of,1,1),(26,c_whole_field,6,9),(27,c_field_of,6,10),(28,c_read_flags,2,3),(29,c_read_measure,5,7),(30,c_put_field,5,11),(31,c_format_text,2,10),(32,c_law_told,0,0),(33,c_law_draw,2,3),(34,c_law_star,2,3),(35,c_law_value,3,7),(36,c_law_field,2,16),(37,c_law_words,1,2),(38,c_law_spec,1,1),(40,c_law_one_by_one,2,7),(41,c_law_plain_form,2,5),(42,c_law_placed_form,2,8),(43,c_law_star_number,1,4),(44,c_law_measures,1,4),(45,c_law_form,4,5),(46,c_law_kept,3,5),(47,c_law_whole,2,11),(48,c_law_layers,1,12),(49,c_law_field_right,1,6)]
noncomputable def cvars : List (List String) := [["c"], ["c", "n"], ["text", "base", "value", "c", "n"], ["mark"], ["text", "first", "behind", "is_minus", "base", "value"], ["text", "value"], ["n", "low"], ["text", "kind"], [], [], ["text", "at"], ["text", "sign", "at"], ["text", "at", "last", "base"], ["form", "at", "behind"], ["form", "at", "number", "behind"], ["form", "at", "c"], ["sort"], ["text", "number", "why"], ["many"], ["index", "many", "is_placed"], ["number", "base", "is_upper", "signs", "made"], ["sign", "many"], ["number", "size", "low"], ["number", "size"], ["sort"], ["sort", "text", "flags", "width", "precision", "size", "number", "head", "digits"], ["sort", "text", "flags", "width", "precision", "size", "fill", "made", "point", "missing"], ["form", "at", "behind"], ["form", "at", "args", "index", "is_placed", "number", "behind"], ["form", "at", "args", "index", "is_placed", "flags", "width", "is_precise", "number", "precision", "size"], ["form", "args", "made", "at", "index", "sort", "behind", "place", "wanted", "field"], [], ["pen", "many", "drawn"], ["number", "pen", "words"], ["sort", "number", "pen", "turn", "value", "far", "blank"], ["told", "pen", "place", "mask", "flags", "width", "width_word", "precision", "precision_word", "size", "sort", "value", "word", "literal", "shown", "<j>"], ["field", "words"], ["field"], ["fields", "lacking", "made", "place", "field", "words", "told"], ["fields", "lacking", "form", "words", "field"], ["fields", "turn", "words", "places", "place", "form", "field", "<j>"], ["word", "numbers", "number", "c"], ["field", "flags", "width", "precision"], ["flags", "width", "precision", "field", "spec"], ["value", "size", "sort", "every", "low"], ["flags", "field", "size", "sort", "kept", "is_great", "sign", "mark", "marked", "digits", "made"], ["field", "flags", "width", "precision", "sort", "value", "word", "due", "head", "is_right", "fill", "gap"], ["field", "told", "measures", "flags", "width", "precision"]]
end
end
section
open PySem PySem.W PyProof.Rows
structure Kt where
 c : Cx
 fs : List Env
 X : List Addr
 ok : Value → Prop
 KK : Heap → Heap → Prop
noncomputable def PE (k : Kt) (s : Shared) {α β : Type} (R : Heap → β → α → Prop) (r : RE α) (Q : β → Shared → Prop) (E : Value → Shared → Prop) : Prop :=
 match r with
 | .ok d p'=>∀ b h' tk',k.KK s.heap h' → Bs k.c k.fs k.X p' h' → R h' b d → Q b { s with heap:=h',toks:=tk' }
 | .exc t cs p'=>∀ e h' tk',k.KK s.heap h' → Bs k.c k.fs k.X p' h' → FlyAt k.c k.X k.ok t cs e h' → E e { s with heap:=h',toks:=tk' }
 | .fail=>False
structure KtOk (k : Kt) : Prop where
 grow : ∀ {h h'},Grow h h' → k.KK h h'
 trans : ∀ {a b d},k.KK a b → k.KK b d → k.KK a d
 kp : ∀ {h h'},k.KK h h' → KpF k.c k.fs h h'
section
variable {k : Kt} {α β γ δ : Type} {s : Shared}
theorem PE.re {R : Heap → β → α → Prop} {r r' : RE α} {Q : β → Shared → Prop} {E : Value → Shared → Prop} (e : r = r') (h : PE k s R r Q E) : PE k s R r' Q E:=e ▸ h
theorem PE.er {R : Heap → β → α → Prop} {r r' : RE α} {Q : β → Shared → Prop} {E : Value → Shared → Prop} (e : r = r') (h : PE k s R r' Q E) : PE k s R r Q E:=e ▸ h
theorem PE.at (ko : KtOk k) {R : Heap → β → α → Prop} {r : RE α} {Q : β → Shared → Prop} {E : Value → Shared → Prop} {h' : Heap} {tk' : Nat} (hk : k.KK s.heap h') (h : PE k s R r Q E) : PE k { s with heap:=h',toks:=tk' } R r Q E:=by
 cases r with
 | ok d p=>exact fun b h₂ t₂ k₂=>h b h₂ t₂ (ko.trans hk k₂)
 | exc t cs p=>exact fun e h₂ t₂ k₂=>h e h₂ t₂ (ko.trans hk k₂)
 | fail=>exact h
theorem PE.bind (ko : KtOk k) {R : Heap → β → γ → Prop} {R' : Heap → δ → α → Prop} {r : RE α} {f : α → Int → RE γ} {Q : β → Shared → Prop} {Q' : δ → Shared → Prop} {E : Value → Shared → Prop} (h : PE k s R (r.bind f) Q E)
  (g : ∀ d p' b h' tk',k.KK s.heap h' → Bs k.c k.fs k.X p' h' → R' h' b d → PE k { s with heap:=h',toks:=tk' } R (f d p') Q E → Q' b { s with heap:=h',toks:=tk' }) : PE k s R' r Q' E:=by
 cases r with
 | ok d p=>exact fun b h' tk' hk hb hr=>g d p b h' tk' hk hb hr (PE.at ko hk h)
 | exc t cs p=>exact h
 | fail=>exact h
theorem PE.ofO {R : Heap → β → α → Prop} {o : Option α} {p : Int} {Q : β → Shared → Prop} {E : Value → Shared → Prop} (h : PE k s R (RE.ofO o p) Q E) : ∃ d,o = some d ∧ PE k s R (.ok d p) Q E:=by
 cases o with
 | none=>exact h.elim
 | some d=>exact ⟨d,rfl,h⟩
theorem PE.ofO_bind {R : Heap → β → γ → Prop} {o : Option α} {f : α → Int → RE γ} {p : Int} {Q : β → Shared → Prop} {E : Value → Shared → Prop} (h : PE k s R ((RE.ofO o p).bind f) Q E) : ∃ d,o = some d ∧ PE k s R (f d p) Q E:=by
 cases o with
 | none=>exact h.elim
 | some d=>exact ⟨d,rfl,h⟩
theorem PE.ite {R : Heap → β → α → Prop} {c : Bool} {a b : RE α} {Q : β → Shared → Prop} {E : Value → Shared → Prop} (h : PE k s R (if c = true then a else b) Q E) : if c = true then PE k s R a Q E else PE k s R b Q E:=by
 cases c <;> exact h
end
structure Ev (k : Kt) (A : Around) (env : Env) (Γ : Gam) (sc : Sc) (fnm : List Str) : Prop where
  ko : KtOk k
  kind : env.scope.kind = .function
  names : env.scope.names = sc
  cells : ∀ n, isC (kOf sc n) = true → ∃ c, env.cells.lookup n = some c
  hh : A.handled = none
  hu : A.units + 64 < cLine
  gl : ∃ mg, A5 (k.c.base.Ns env.globals mg) (∀ b, mg (bnm b) = none) (mg ("range" : Str) = none) (mg ("enumerate" : Str) = none) (∀ f x, fnm[f]? = some x → Ex3 fun fa o fd => A4 (mg x = some (.ref fa)) (k.c.base.get? fa = some o) (o.data = .func fd) (∀ (s : Shared) p vs ds (Q : Value → Shared → Prop) (E : Value → Shared → Prop), Bs k.c k.fs k.X p s.heap → Reps k.c.w s.heap k.X k.c.pa vs ds →
        PE k s (fun h v d => Out k.c h k.X v d) (Γ f ds p) Q E → wpAny (model k.c.prog k.c.w) A (call (.ref fa) vs []) Q E s))
  bl : ∃ mb, A4 (k.c.base.Ns env.builtins mb) (∀ b, isMeth b = false → mb (bnm b) = some (bval b)) (mb ("range" : Str) = some (.type "range")) (mb ("enumerate" : Str) = some (.type "enumerate"))
noncomputable def RepK (k : Kt) : Heap → Value → V → Prop:=fun h v d=>Rep k.c.w h k.X k.c.pa v d
noncomputable def RepsK (k : Kt) : Heap → List Value → List V → Prop:=fun h v d=>Reps k.c.w h k.X k.c.pa v d
section
variable {k : Kt} {A : Around} {env : Env} {Γ : Gam} {sc : Sc} {fnm : List Str}
theorem Ev.up (v : Ev k A env Γ sc fnm) {p : Int} {h h' : Heap} {nm : List (Option Str)} {vs : List Sl} (b : Bs k.c k.fs k.X p h) (x : k.KK h h') (y : Vs k.c k.fs env k.X nm vs h) : Vs k.c k.fs env k.X nm vs h':=y.up b (v.ko.kp x)
theorem Ev.rep (v : Ev k A env Γ sc fnm) {p : Int} {h h' : Heap} {va : Value} {d : V} (b : Bs k.c k.fs k.X p h) (x : k.KK h h') (y : Rep k.c.w h k.X k.c.pa va d) : Rep k.c.w h' k.X k.c.pa va d:=y.kp (b.kpX (v.ko.kp x)) fun Z a=>a
theorem Ev.reps (v : Ev k A env Γ sc fnm) {p : Int} {h h' : Heap} {va : List Value} {d : List V} (b : Bs k.c k.fs k.X p h) (x : k.KK h h') (y : Reps k.c.w h k.X k.c.pa va d) : Reps k.c.w h' k.X k.c.pa va d:=Reps.kp (b.kpX (v.ko.kp x)) (fun Z a=>a) _ _ y
theorem stays_ns {b h : Heap} {a : Addr} {m : Str → Option Value} (st : b.StaysIn h) (n : b.Ns a m) : h.Ns a m:=n.at fun o e=>st _ o e
theorem Ev.kind_at (v : Ev k A env Γ sc fnm) (x : Str) : env.kindOf x = kOf sc x:=by
 unfold Env.kindOf
 rw [v.names,kOf_eq]
theorem Ev.name_bi (v : Ev k A env Γ sc fnm) {b : Bi} {id : Str} {pos : Pos} {s : Shared} {Q : Value → Shared → Prop} {E : Value → Shared → Prop} (hb : isMeth b = false) (hs : seq (bnm b) id = true) (hg : isG (kOf sc id) = true) (hd : nodbg id = true)
  (st : k.c.base.StaysIn s.heap) (h : Q (bval b) s) : wpAny (model k.c.prog k.c.w) A (eval (.Name id pos) env) Q E s:=by
 refine gG fun P0 hP0=>?_
 obtain ⟨mg,hn,hm,_⟩:=v.gl
 obtain ⟨mb,hnb,hmb,_⟩:=v.bl
 refine hP0 ?_
 rw [← seq_eq hs] at hg hd ⊢
 exact PySem.Calls.Name_function_global v.kind ((v.kind_at _).trans (isG_eq hg)) (PySem.Calls.loadGlobal_builtin (stays_ns st hn) (hm b) (stays_ns st hnb) (hmb b hb) h) (nodbg_eq hd)
theorem spliced_all {M : Model} {A : Around} {E : Value → Shared → Prop} {s : Shared} {f : Value} {ts : List (Bool × Sem Value)} {Q : Args → Shared → Prop} (hf : ts.any (·.1) = false)
  (h : wpAny M A (spliced ts) (fun vs s'=>Q ⟨vs,[]⟩ s') E s) : wpAny M A (evalArgs f true ts []) Q E s:=by
 cases ts with
 | nil =>
  unfold evalArgs
  show wpAny M A (spliced [] >>= _) Q E s
  refine wpAny_bind (wpAny_mono h (fun vs s' h'=>?_) fun Z Z x=>x)
  refine wpAny_holding ?_
  exact wpAny_bind (wpAny_pure (wpAny_bind (wpAny_pure (wpAny_pure h'))))
 | cons t r =>
  obtain ⟨b,x⟩:=t
  have : b = false:=by simp at hf;exact hf.1
  subst this
  exact PySem.Calls.evalArgs_plain h
noncomputable def Trs (env : Env) : List Expr → List (Bool × Sem Value) → Prop
 | [],[]=>True
 | e :: es,(b,x) :: ts=>b = false ∧ (∀ (M : Model) (A : Around) (Q : Value → Shared → Prop) (E : Value → Shared → Prop) (s : Shared),wpAny M A (eval e env) Q E s → wpAny M A x Q E s) ∧ Trs env es ts
 | _,_=>False
theorem Trs.noStar {env : Env} : ∀ {es : List Expr} {ts : List (Bool × Sem Value)},Trs env es ts → ts.any (·.1) = false
 | [],[],_=>rfl
 | _ :: _,(_,_) :: _,⟨rfl,_,r⟩=>by refine (List.any_cons).trans ?_;refine (r.noStar).trans ?_;rfl
theorem relEs_trs {fnm : List Str} {sc : Sc} {nm : List (Option Str)} {env : Env} {pos : Pos} : ∀ (e : CE) {es : List Expr},relEs fnm e sc nm es = true → Trs env es (backTo pos (starEach es env)) ∧ Trs env es (starEach es env):=by
 intro e
 induction e with
 | nil=>intro es h;exact ln_inv (show ln true es = true from h) fun q Z=>by subst q;exact ⟨trivial,trivial⟩
 | cons _ r _ ih =>
  intro es h
  refine lc_inv (show lc _ es = true from h) fun e es q h=>?_
  subst q
  obtain ⟨h1,h2⟩:=ih (and2 (and2 h).2).2
  rw [star_cons (and2 h).1]
  exact ⟨⟨rfl,fun Z Z Z Z Z x=>x,h1⟩,⟨rfl,fun Z Z Z Z Z x=>x,h2⟩⟩
 | _=>intro es h;exact absurd h Bool.false_ne_true
noncomputable def P1 (fnm : List Str) (e : CE) : Prop:=∀ {k : Kt} {A : Around} {env : Env} {Γ : Gam} {sc : Sc},Ev k A env Γ sc fnm → ∀ {nm : List (Option Str)} {ex : Expr} {s : Shared} {p : Int} {vs : List Sl} {Q : Value → Shared → Prop} {E : Value → Shared → Prop},
 relE fnm e sc nm ex = true → Bs k.c k.fs k.X p s.heap → Vs k.c k.fs env k.X nm vs s.heap → PE k s (RepK k) (cev Γ e vs p) Q E → wpAny (model k.c.prog k.c.w) A (eval ex env) Q E s
noncomputable def P2 (fnm : List Str) (e : CE) : Prop:=∀ {k : Kt} {A : Around} {env : Env} {Γ : Gam} {sc : Sc},Ev k A env Γ sc fnm → ∀ {nm : List (Option Str)} {es : List Expr} {ts : List (Bool × Sem Value)} {s : Shared} {p : Int} {vs : List Sl} {Q : List Value → Shared → Prop} {E : Value → Shared → Prop},
 Trs env es ts → relEs fnm e sc nm es = true → Bs k.c k.fs k.X p s.heap → Vs k.c k.fs env k.X nm vs s.heap → PE k s (RepsK k) (cevs Γ e vs p) Q E → wpAny (model k.c.prog k.c.w) A (spliced ts) Q E s
noncomputable def P3 (fnm : List Str) (e : CE) : Prop:=∀ {k : Kt} {A : Around} {env : Env} {Γ : Gam} {sc : Sc},Ev k A env Γ sc fnm → ∀ {nm : List (Option Str)} {ex : Expr} {s : Shared} {p : Int} {vs : List Sl} {Q : Bool → Shared → Prop} {E : Value → Shared → Prop},
 relE fnm e sc nm ex = true → Bs k.c k.fs k.X p s.heap → Vs k.c k.fs env k.X nm vs s.heap → PE k s (fun Z b d=>b = d) (cevB Γ e vs p) Q E → wpAny (model k.c.prog k.c.w) A (isTrue ex env (eval ex env)) Q E s
theorem cps_eq {x : Str} {t : Tx} (h : (x.cps.toList == t) = true) : x = S t:=by
 obtain ⟨x⟩:=x
 unfold S
 rw [← eq_of_beq h]
theorem const_snd {M : Model} {A : Around} {E : Value → Shared → Prop} {s : Shared} {env : Env} {v : V} {c : Const} {kk : Nat} {pos : Pos} {w : World} {h : Heap} {X : List Addr} {pa : Addr} {Q : Value → Shared → Prop} (hr : relC v c = true)
  (hq : ∀ val tk',Rep w h X pa val v → Q val { s with toks:=tk' }) : wpAny M A (eval (.Constant c kk pos) env) Q E s:=by
 cases v <;> first | exact absurd hr Bool.false_ne_true | skip
 ·exact coNone_inv (show coNone _ c = true from hr) fun e Z=>by subst e;exact Constant_none (hq .none s.toks rfl)
 ·refine coBool_inv (show coBool _ c = true from hr) fun b e h=>?_
  subst e
  rw [beq_iff_eq] at h;subst h
  exact Constant_bool (hq (.bool _) s.toks rfl)
 ·refine coInt_inv (show coInt _ c = true from hr) fun j e h=>?_
  subst e
  cases of_decide_eq_true h
  exact wpAny_Constant_int (hq (.int _ _) _ ⟨_,rfl⟩)
 ·refine coStr_inv (show coStr _ c = true from hr) fun x e h=>?_
  subst e
  cases cps_eq (and2 h).1
  exact wpAny_Constant_str (hq (.str _ _) _ ⟨txOk_eq (and2 h).2,_,rfl⟩)
theorem p1_lit (v : V) : P1 fnm (.lit v):=by
 intro k A env Γ sc ev nm ex s p vs Q E hr hb hv h
 refine eConstant_inv (show eConstant _ ex = true from hr) fun c Z Z e hq=>?_
 clear hr
 subst e
 exact const_snd hq fun val tk' r=>h val s.heap tk' (ev.ko.grow (Grow.refl _)) hb r
theorem var_acc {c : Cx} {fs : List Env} {env : Env} {X : List Addr} {nm : List (Option Str)} {vs : List Sl} {h : Heap} {i : Nat} {id : Str} {sl : Sl} (hv : Vs c fs env X nm vs h)
  (hn : nmAt nm i id = true) (hs : vs[i]? = some sl) : SlotAt c fs env X h id sl ∧ (id == ("__debug__" : Str)) = false :=
 ⟨hv.2 i _ sl (nmAt_get hn).1 hs,(nmAt_get hn).2⟩
theorem PE.var {k : Kt} {s : Shared} {R : Heap → Value → V → Prop} {Γ : Gam} {i : Nat} {vs : List Sl} {p : Int} {Q : Value → Shared → Prop} {E : Value → Shared → Prop} (h : PE k s R (cev Γ (.var i) vs p) Q E) : ∃ d,vs[i]? = some (.val d) ∧ PE k s R (.ok d p) Q E:=sV_k (P:=fun r=>PE k s R r Q E) h id
theorem p1_var (i : Nat) : P1 fnm (.var i):=by
 intro k A env Γ sc ev nm ex s p vs Q E hr hb hv h
 refine eName_inv (show eName _ ex = true from hr) fun id Z e0 hq=>?_
 clear hr
 subst e0
 refine gG fun P0 hP0=>?_
 obtain ⟨d,hs,h⟩:=PE.var h
 obtain ⟨⟨val,a,r⟩,hd⟩:=var_acc hv hq hs
 refine hP0 ?_
 exact wpAny_Name (a.load (h val s.heap s.toks (ev.ko.grow (Grow.refl _)) hb r)) hd
theorem p1_bin {o : Op} {a b : CE} (ha : P1 fnm a) (hb' : P1 fnm b) : P1 fnm (.bin o a b):=by
 intro k A env Γ sc ev nm ex s p vs Q E hr hb hv h
 refine eBinOp_inv (show eBinOp _ ex = true from hr) fun Z Z Z Z e0 hq=>?_
 clear hr
 subst e0
 refine (opB_eq (and2 hq).1).symm ▸ ?_
 refine wpAny_BinOp (ha ev (and2 (and2 hq).2).1 hb hv (PE.bind ev.ko h fun x p1 va h1 tk1 k1 b1 r1 h=>?_))
 refine hb' ev (and2 (and2 hq).2).2 b1 (ev.up hb k1 hv) (PE.bind ev.ko h fun y p2 vb h2 tk2 k2 b2 r2 h=>?_)
 obtain ⟨d,hd,h⟩:=h.ofO
 exact bin_snd hd (ev.rep b1 k2 r1) r2 b2.lt fun v h' tk' g r=>h v h' tk' (ev.ko.grow g) (b2.grow g) r
theorem p1_neg {a : CE} (ha : P1 fnm a) : P1 fnm (.neg a):=by
 intro k A env Γ sc ev nm ex s p vs Q E hr hb hv h
 refine eUnaryOp_inv (show eUnaryOp _ ex = true from hr) fun op Z Z e0 h1=>?_
 clear hr
 subst e0
 obtain ⟨ho,hq⟩:=and2 h1
 cases of_decide_eq_true ho
 refine UnaryOp_ (ha ev hq hb hv (PE.bind ev.ko h fun x p1 va h1 tk1 k1 b1 r1 h=>?_))
 cases x <;> first | exact h.elim | skip
 obtain ⟨t,rfl⟩:=r1
 exact PyProof.Rows.neg_int (h _ _ _ (ev.ko.grow (Grow.refl _)) b1 ⟨_,rfl⟩)
theorem p1_not {a : CE} (ha : P1 fnm a) : P1 fnm (.not a):=by
 intro k A env Γ sc ev nm ex s p vs Q E hr hb hv h
 refine eUnaryOp_inv (show eUnaryOp _ ex = true from hr) fun op Z Z e0 h1=>?_
 clear hr
 subst e0
 obtain ⟨ho,hq⟩:=and2 h1
 cases of_decide_eq_true ho
 refine UnaryOp_ (ha ev hq hb hv (PE.bind ev.ko h fun x p1 va h1 tk1 k1 b1 r1 h=>?_))
 obtain ⟨c,hc,h⟩:=h.ofO_bind
 exact not_of (tru_snd hc r1 (h _ _ _ (ev.ko.grow (Grow.refl _)) b1 rfl))
theorem p1_and {a b : CE} (ha : P1 fnm a) (hb' : P1 fnm b) : P1 fnm (.and a b):=by
 intro k A env Γ sc ev nm ex s p vs Q E hr hb hv h
 have key : ∀ {x : Expr} {e2 : Expr} {rest : List Expr} {pos : Pos},relE fnm a sc nm x = true → (∀ {s : Shared} {p : Int} {Q : Value → Shared → Prop} {E : Value → Shared → Prop},Bs k.c k.fs k.X p s.heap → Vs k.c k.fs env k.X nm vs s.heap → PE k s (RepK k) (cev Γ b vs p) Q E → wpAny (model k.c.prog k.c.w) A (eval (.BoolOp .And (e2 :: rest) pos) env) Q E s) →
   wpAny (model k.c.prog k.c.w) A (eval (.BoolOp .And (x :: e2 :: rest) pos) env) Q E s:=fun hx hy=>by
  refine BoolOp_and (ha ev hx hb hv (PE.bind ev.ko h fun x p1 va h1 tk1 k1 b1 r1 h=>?_))
  obtain ⟨c,hc,h⟩:=h.ofO_bind
  refine tru_snd hc r1 ?_
  cases c with
  | true=>exact hy b1 (ev.up hb k1 hv) h
  | false=>exact h va _ _ (ev.ko.grow (Grow.refl _)) b1 r1
 refine eBoolOp_inv (show eBoolOp _ ex = true from hr) fun op l pos e0 h0=>lc_inv (and2 h0).2 fun x r e1 h1=>lc_inv h1 fun y r2 e2 h2=>?_
 cases of_decide_eq_true (and2 h0).1
 clear hr h0 h1
 subst e0 e1 e2
 cases r2 with
 | nil=>exact key (and2 h2).1 fun b1 v1 h=>BoolOp_one (hb' ev (and2 h2).2 b1 v1 h)
 | cons z r=>exact key (and2 h2).1 fun b1 v1 h=>hb' ev (and2 h2).2 b1 v1 h
theorem p1_or {a b : CE} (ha : P1 fnm a) (hb' : P1 fnm b) : P1 fnm (.or a b):=by
 intro k A env Γ sc ev nm ex s p vs Q E hr hb hv h
 have key : ∀ {x : Expr} {e2 : Expr} {rest : List Expr} {pos : Pos},relE fnm a sc nm x = true → (∀ {s : Shared} {p : Int} {Q : Value → Shared → Prop} {E : Value → Shared → Prop},Bs k.c k.fs k.X p s.heap → Vs k.c k.fs env k.X nm vs s.heap → PE k s (RepK k) (cev Γ b vs p) Q E → wpAny (model k.c.prog k.c.w) A (eval (.BoolOp .Or (e2 :: rest) pos) env) Q E s) →
   wpAny (model k.c.prog k.c.w) A (eval (.BoolOp .Or (x :: e2 :: rest) pos) env) Q E s:=fun hx hy=>by
  refine BoolOp_or (ha ev hx hb hv (PE.bind ev.ko h fun x p1 va h1 tk1 k1 b1 r1 h=>?_))
  obtain ⟨c,hc,h⟩:=h.ofO_bind
  refine tru_snd hc r1 ?_
  cases c with
  | true=>exact h va _ _ (ev.ko.grow (Grow.refl _)) b1 r1
  | false=>exact hy b1 (ev.up hb k1 hv) h
 refine eBoolOp_inv (show eBoolOp _ ex = true from hr) fun op l pos e0 h0=>lc_inv (and2 h0).2 fun x r e1 h1=>lc_inv h1 fun y r2 e2 h2=>?_
 cases of_decide_eq_true (and2 h0).1
 clear hr h0 h1
 subst e0 e1 e2
 cases r2 with
 | nil=>exact key (and2 h2).1 fun b1 v1 h=>BoolOp_one (hb' ev (and2 h2).2 b1 v1 h)
 | cons z r=>exact key (and2 h2).1 fun b1 v1 h=>hb' ev (and2 h2).2 b1 v1 h
theorem p1_ite {t a b : CE} (ht : P3 fnm t) (ha : P1 fnm a) (hb' : P1 fnm b) : P1 fnm (.ite t a b):=by
 intro k A env Γ sc ev nm ex s p vs Q E hr hb hv h
 refine eIfExp_inv (show eIfExp _ ex = true from hr) fun Z Z Z Z e0 hq=>?_
 clear hr
 subst e0
 refine IfExp_ (ht ev (and2 hq).1 hb hv (PE.bind ev.ko h fun c p1 b h1 tk1 k1 b1 r1 h=>?_))
 subst r1
 cases b with
 | true=>exact ha ev (and2 (and2 hq).2).1 b1 (ev.up hb k1 hv) h
 | false=>exact hb' ev (and2 (and2 hq).2).2 b1 (ev.up hb k1 hv) h
theorem p1_cmp {o : Cp} {a b : CE} (ha : P1 fnm a) (hb' : P1 fnm b) : P1 fnm (.cmp a o b):=by
 intro k A env Γ sc ev nm ex s p vs Q E hr hb hv h
 refine eCompare_inv (show eCompare _ ex = true from hr) fun Z Z Z Z e0 h0=>l1_inv h0 fun op e1 h1=>l1_inv h1 fun r e2 hq=>?_
 clear hr h0 h1
 subst e0 e1 e2
 refine (cpB_eq (and2 (and2 hq).1).1).symm ▸ ?_
 refine wpAny_Compare1 (ha ev (and2 (and2 hq).2).1 hb hv (PE.bind ev.ko h fun x p1 va h1 tk1 k1 b1 r1 h=>?_)) (cpB_eq (and2 (and2 hq).1).1 ▸ not2 (and2 (and2 hq).1).2)
 refine hb' ev (and2 (and2 hq).2).2 b1 (ev.up hb k1 hv) (PE.bind ev.ko h fun y p2 vb h2 tk2 k2 b2 r2 h=>?_)
 obtain ⟨d,hd,h⟩:=h.ofO_bind
 exact cmp_snd hd (ev.rep b1 k2 r1) r2 b2.sys ev.hu fun tk=>h _ _ tk (ev.ko.grow (Grow.refl _)) b2 rfl
theorem p3_cmp {o : Cp} {a b : CE} (ha : P1 fnm a) (hb' : P1 fnm b) : P3 fnm (.cmp a o b):=by
 intro k A env Γ sc ev nm ex s p vs Q E hr hb hv h
 refine eCompare_inv (show eCompare _ ex = true from hr) fun Z Z Z Z e0 h0=>l1_inv h0 fun op e1 h1=>l1_inv h1 fun r e2 hq=>?_
 clear hr h0 h1
 subst e0 e1 e2
 refine (cpB_eq (and2 (and2 hq).1).1).symm ▸ ?_
 refine wpAny_isTrue_Compare1 (ha ev (and2 (and2 hq).2).1 hb hv (PE.bind ev.ko h fun x p1 va h1 tk1 k1 b1 r1 h=>?_)) (cpB_eq (and2 (and2 hq).1).1 ▸ not2 (and2 (and2 hq).1).2)
 refine hb' ev (and2 (and2 hq).2).2 b1 (ev.up hb k1 hv) (PE.bind ev.ko h fun y p2 vb h2 tk2 k2 b2 r2 h=>?_)
 obtain ⟨d,hd,h⟩:=h.ofO
 exact cmp_snd hd (ev.rep b1 k2 r1) r2 b2.sys ev.hu fun tk=>wpAny_truthy_bool (h _ _ tk (ev.ko.grow (Grow.refl _)) b2 rfl)
theorem p1_cmp2 {o o' : Cp} {a b c : CE} (ha : P1 fnm a) (hb' : P1 fnm b) (hc' : P1 fnm c) : P1 fnm (.cmp2 a o b o' c):=by
 intro k A env Γ sc ev nm ex s p vs Q E hr hb hv h
 refine eCompare_inv (show eCompare _ ex = true from hr) fun Z Z Z Z e0 h0=>l2_inv h0 fun op op' e1 h1=>l2_inv h1 fun r r' e2 hq=>?_
 clear hr h0 h1
 subst e0 e1 e2
 obtain rfl:=cpB_eq (and2 (and2 (and2 hq).1).1).1
 obtain rfl:=cpB_eq (and2 (and2 (and2 hq).1).1).2
 refine Compare_chain (ha ev (and2 (and2 hq).2).1 hb hv (PE.bind ev.ko h fun x p1 va h1 tk1 k1 b1 r1 h=>chain_link ?_)) (not2 (and2 (and2 hq).1).2)
 refine hb' ev (and2 (and2 (and2 hq).2).2).1 b1 (ev.up hb k1 hv) (PE.bind ev.ko h fun y p2 vb h2 tk2 k2 b2 r2 h=>?_)
 obtain ⟨d,hd,h⟩:=h.ofO_bind
 refine cmp_snd hd (ev.rep b1 k2 r1) r2 b2.sys ev.hu fun tk=>wpAny_truthy_bool ?_
 cases d with
 | false=>exact h _ h2 tk (ev.ko.grow (Grow.refl _)) b2 rfl
 | true =>
  refine chain_last (hc' ev (and2 (and2 (and2 hq).2).2).2 b2 (ev.up b1 k2 (ev.up hb k1 hv)) (PE.bind (s:={ s with heap:=h2,toks:=tk }) ev.ko h fun z p3 vc h3 tk3 k3 b3 r3 h=>?_))
  obtain ⟨d,hd,h⟩:=h.ofO_bind
  exact cmp_snd hd (ev.rep b2 k3 r2) r3 b3.sys ev.hu fun tk=>h _ _ tk (ev.ko.grow (Grow.refl _)) b3 rfl
theorem p3_cmp2 {o o' : Cp} {a b c : CE} (ha : P1 fnm a) (hb' : P1 fnm b) (hc' : P1 fnm c) : P3 fnm (.cmp2 a o b o' c):=by
 intro k A env Γ sc ev nm ex s p vs Q E hr hb hv h
 refine eCompare_inv (show eCompare _ ex = true from hr) fun Z Z Z Z e0 h0=>l2_inv h0 fun op op' e1 h1=>l2_inv h1 fun r r' e2 hq=>?_
 clear hr h0 h1
 subst e0 e1 e2
 obtain rfl:=cpB_eq (and2 (and2 (and2 hq).1).1).1
 obtain rfl:=cpB_eq (and2 (and2 (and2 hq).1).1).2
 refine isTrue_chain (ha ev (and2 (and2 hq).2).1 hb hv (PE.bind ev.ko h fun x p1 va h1 tk1 k1 b1 r1 h=>test_link ?_)) (not2 (and2 (and2 hq).1).2)
 refine hb' ev (and2 (and2 (and2 hq).2).2).1 b1 (ev.up hb k1 hv) (PE.bind ev.ko h fun y p2 vb h2 tk2 k2 b2 r2 h=>?_)
 obtain ⟨d,hd,h⟩:=h.ofO_bind
 refine cmp_snd hd (ev.rep b1 k2 r1) r2 b2.sys ev.hu fun tk=>wpAny_truthy_bool ?_
 cases d with
 | false=>exact h _ h2 tk (ev.ko.grow (Grow.refl _)) b2 rfl
 | true =>
  refine test_last (hc' ev (and2 (and2 (and2 hq).2).2).2 b2 (ev.up b1 k2 (ev.up hb k1 hv)) (PE.bind (s:={ s with heap:=h2,toks:=tk }) ev.ko h fun z p3 vc h3 tk3 k3 b3 r3 h=>?_))
  obtain ⟨d,hd,h⟩:=h.ofO
  exact cmp_snd hd (ev.rep b2 k3 r2) r3 b3.sys ev.hu fun tk=>wpAny_truthy_bool (h _ _ tk (ev.ko.grow (Grow.refl _)) b3 rfl)
end
end
section
open PySem PySem.W PyProof.Rows
section
variable {k : Kt} {A : Around} {env : Env} {Γ : Gam} {sc : Sc} {fnm : List Str}
theorem p3_lit (v : V) : P3 fnm (.lit v):=by
 intro k A env Γ sc ev nm ex s p vs Q E hr hb hv h
 refine eConstant_inv (show eConstant _ ex = true from hr) fun c Z Z e0 hq=>?_
 clear hr
 subst e0
 obtain ⟨d,hd,h⟩:=h.ofO
 exact isTrue_plain (const_snd (w:=k.c.w) (h:=s.heap) (X:=k.X) (pa:=k.c.pa) hq fun val tk' r=>tru_snd (s:={ s with toks:=tk' }) hd r (h d s.heap tk' (ev.ko.grow (Grow.refl _)) hb rfl))
theorem p3_var (i : Nat) : P3 fnm (.var i):=by
 intro k A env Γ sc ev nm ex s p vs Q E hr hb hv h
 refine eName_inv (show eName _ ex = true from hr) fun id Z e0 hq=>?_
 clear hr
 subst e0
 refine gG fun P0 hP0=>?_
 obtain ⟨d,hs,h⟩:=sV_k (P:=fun r=>PE k s _ r Q E) h fun h=>h
 obtain ⟨⟨val,a,r⟩,hd⟩:=var_acc hv hq hs
 obtain ⟨c,hc,h⟩:=h.ofO
 refine hP0 ?_
 exact isTrue_plain (wpAny_Name (a.load (tru_snd hc r (h c s.heap s.toks (ev.ko.grow (Grow.refl _)) hb rfl))) hd)
theorem p3_not {a : CE} (ha : P3 fnm a) : P3 fnm (.not a):=by
 intro k A env Γ sc ev nm ex s p vs Q E hr hb hv h
 refine eUnaryOp_inv (show eUnaryOp _ ex = true from hr) fun op Z Z e0 h1=>?_
 clear hr
 subst e0
 obtain ⟨ho,hq⟩:=and2 h1
 cases of_decide_eq_true ho
 refine isTrue_not (ha ev hq hb hv (PE.bind ev.ko h fun x p1 b h1 tk1 k1 b1 r1 h=>?_))
 subst r1
 exact h _ _ _ (ev.ko.grow (Grow.refl _)) b1 rfl
theorem PE.bok {α β : Type} {R : Heap → β → α → Prop} {r : RE α} {s : Shared} {Q : β → Shared → Prop} {E : Value → Shared → Prop} (h : PE k s R r Q E) : PE k s R (r.bind fun d p=>.ok d p) Q E:=by cases r <;> exact h
theorem p3_and {a b : CE} (ha : P3 fnm a) (hb' : P3 fnm b) : P3 fnm (.and a b):=by
 intro k A env Γ sc ev nm ex s p vs Q E hr hb hv h
 refine eBoolOp_inv (show eBoolOp _ ex = true from hr) fun op l pos e0 h0=>lc_inv (and2 h0).2 fun x r e1 h1=>lc_inv h1 fun y r2 e2 h2=>?_
 cases of_decide_eq_true (and2 h0).1
 clear hr h0 h1
 subst e0 e1 e2
 refine isTrue_and (ha ev (and2 h2).1 hb hv (PE.bind ev.ko h fun x p1 c h1 tk1 k1 b1 r1 h=>?_))
 subst r1
 cases c with
 | false=>exact h _ _ _ (ev.ko.grow (Grow.refl _)) b1 rfl
 | true =>
  cases r2 with
  | cons z r=>exact hb' ev (and2 h2).2 b1 (ev.up hb k1 hv) h
  | nil =>
   refine isTrue_and (hb' ev (and2 h2).2 b1 (ev.up hb k1 hv) (PE.bind ev.ko (PE.bok (r:=cevB Γ b vs p1) h) fun y p2 c h2 tk2 k2 b2 r2 h=>?_))
   subst r2
   cases c with
   | false=>exact h _ _ _ (ev.ko.grow (Grow.refl _)) b2 rfl
   | true=>exact isTrue_and_nil (h _ _ _ (ev.ko.grow (Grow.refl _)) b2 rfl)
theorem p3_or {a b : CE} (ha : P3 fnm a) (hb' : P3 fnm b) : P3 fnm (.or a b):=by
 intro k A env Γ sc ev nm ex s p vs Q E hr hb hv h
 refine eBoolOp_inv (show eBoolOp _ ex = true from hr) fun op l pos e0 h0=>lc_inv (and2 h0).2 fun x r e1 h1=>lc_inv h1 fun y r2 e2 h2=>?_
 cases of_decide_eq_true (and2 h0).1
 clear hr h0 h1
 subst e0 e1 e2
 refine isTrue_or (ha ev (and2 h2).1 hb hv (PE.bind ev.ko h fun x p1 c h1 tk1 k1 b1 r1 h=>?_))
 subst r1
 cases c with
 | true=>exact h _ _ _ (ev.ko.grow (Grow.refl _)) b1 rfl
 | false =>
  cases r2 with
  | cons z r=>exact hb' ev (and2 h2).2 b1 (ev.up hb k1 hv) h
  | nil =>
   refine isTrue_or (hb' ev (and2 h2).2 b1 (ev.up hb k1 hv) (PE.bind ev.ko (PE.bok (r:=cevB Γ b vs p1) h) fun y p2 c h2 tk2 k2 b2 r2 h=>?_))
   subst r2
   cases c with
   | true=>exact h _ _ _ (ev.ko.grow (Grow.refl _)) b2 rfl
   | false=>exact isTrue_or_nil (h _ _ _ (ev.ko.grow (Grow.refl _)) b2 rfl)
theorem p3_ite {t a b : CE} (ht : P3 fnm t) (ha : P3 fnm a) (hb' : P3 fnm b) : P3 fnm (.ite t a b):=by
 intro k A env Γ sc ev nm ex s p vs Q E hr hb hv h
 refine eIfExp_inv (show eIfExp _ ex = true from hr) fun Z Z Z Z e0 hq=>?_
 clear hr
 subst e0
 refine isTrue_IfExp (ht ev (and2 hq).1 hb hv (PE.bind ev.ko h fun c p1 b h1 tk1 k1 b1 r1 h=>?_))
 subst r1
 cases b with
 | true=>exact ha ev (and2 (and2 hq).2).1 b1 (ev.up hb k1 hv) h
 | false=>exact hb' ev (and2 (and2 hq).2).2 b1 (ev.up hb k1 hv) h
theorem call_snd {f : Nat} {as : CE} (ha : P2 fnm as) {s : Shared} {p : Int} {vs : List Sl} {nm : List (Option Str)} {ex : Expr} {Q : Value → Shared → Prop} {E : Value → Shared → Prop} (ev : Ev k A env Γ sc fnm)
  (hr : relE fnm (.call f as) sc nm ex = true) (hb : Bs k.c k.fs k.X p s.heap) (hv : Vs k.c k.fs env k.X nm vs s.heap)
  (h : PE k s (fun h v d=>Out k.c h k.X v d) ((cevs Γ as vs p).bind fun xs p=>Γ f xs p) Q E) : wpAny (model k.c.prog k.c.w) A (eval ex env) Q E s:=by
 refine eCN_inv (show eCN _ ex = true from hr) fun id pn args pos e0 hq=>?_
 clear hr
 subst e0
 have hes:=(and2 hq).2
 have hd:=(and2 (and2 hq).1).2
 have hg:=(and2 (and2 (and2 hq).1).1).2
 refine oS_inv (and2 (and2 (and2 hq).1).1).1 fun x hx hf=>?_
 obtain rfl:=seq_eq hf
 refine gG fun P0 hP0=>?_
 obtain ⟨mg,hn,_,_,_,hfs⟩:=ev.gl
 obtain ⟨fa,o,fd,hm,ho,hdt,hc⟩:=hfs f _ hx
 obtain ⟨ht,_⟩:=relEs_trs (env:=env) (pos:=pos) as hes
 refine hP0 ?_
 refine wpAny_Call_NameR (PySem.Calls.Name_function_global ev.kind ((ev.kind_at _).trans (isG_eq hg)) (PySem.Calls.loadGlobal_global (stays_ns hb.stays hn) hm ?_) (nodbg_eq hd))
 refine PySem.Calls.callWith_function (o:=o) (fd:=fd) (spliced_all ht.noStar (ha ev ht hes hb hv (PE.bind ev.ko h fun ds p1 us h1 tk1 k1 b1 r1 h=>?_)))
 exact ⟨⟨b1.stays _ _ ho,hdt⟩,hc _ p1 us ds Q E b1 r1 h⟩
theorem p1_call {f : Nat} {as : CE} (ha : P2 fnm as) : P1 fnm (.call f as):=by
 intro k A env Γ sc ev nm ex s p vs Q E hr hb hv h
 change PE k s (RepK k) ((cevs Γ as vs p).bind fun xs p=>(Γ f xs p).bind noX) Q E at h
 refine call_snd ha ev hr hb hv ?_
 generalize cevs Γ as vs p = r at h ⊢
 cases r with
 | fail=>exact h
 | exc t c p=>exact h
 | ok ds p1 =>
  change PE k s _ (Γ f ds p1) Q E
  change PE k s _ ((Γ f ds p1).bind noX) Q E at h
  generalize Γ f ds p1 = r at h ⊢
  cases r with
  | fail=>exact h
  | exc t c p=>exact h
  | ok d p2 =>
   cases d <;> first | exact h | exact h.elim
theorem p3_call {f : Nat} {as : CE} (ha : P2 fnm as) : P3 fnm (.call f as):=by
 intro k A env Γ sc ev nm ex s p vs Q E hr hb hv h
 change PE k s _ ((cevs Γ as vs p).bind fun xs p=>(Γ f xs p).bind fun x p=>.ofO (truV x) p) Q E at h
 have he : isTrue ex env (eval ex env) = (do let v ← eval ex env;standAt ex.pos;holding [v] (truthy v)):=by
  exact eCN_inv (show eCN _ ex = true from hr) fun id pn args pos e0 Z=>by clear hr;subst e0;rfl
 refine isTrue_plain ?_ he
 refine call_snd ha ev hr hb hv ?_
 generalize cevs Γ as vs p = r at h ⊢
 cases r with
 | fail=>exact h
 | exc t c p=>exact h
 | ok ds p1 =>
  change PE k s _ (Γ f ds p1) _ E
  change PE k s _ ((Γ f ds p1).bind fun x p=>.ofO (truV x) p) Q E at h
  generalize Γ f ds p1 = r at h ⊢
  cases r with
  | fail=>exact h
  | exc t c p=>exact h
  | ok d p2 =>
   obtain ⟨c,hc,h⟩:=PE.ofO (k:=k) (o:=truV d) (p:=p2) h
   intro v h' tk' kk bb out
   cases d <;> cases hc
   subst out
   exact wpAny_truthy_bool (h _ _ _ kk bb rfl)
theorem bval_form {b : Bi} (hm : isMeth b = false) : (∃ id, bval b = .builtin id) ∨ bval b = .type "str" := by
 cases b <;> first | exact .inl ⟨_,rfl⟩ | exact .inr rfl
theorem p1_bi {b : Bi} {as : CE} (ha : P2 fnm as) : P1 fnm (.bi b as):=by
 intro k A env Γ sc ev nm ex s p vs Q E hr hb hv h
 refine eCN_inv (show eCN _ ex = true from hr) fun id pn args pos e0 hq=>?_
 clear hr
 subst e0
 have hes:=(and2 hq).2
 have hd:=(and2 (and2 hq).1).2
 have hg:=(and2 (and2 (and2 hq).1).1).2
 have hm:=not2 (and2 (and2 (and2 (and2 hq).1).1).1).2
 have hs:=(and2 (and2 (and2 (and2 hq).1).1).1).1
 clear hq
 obtain ⟨ht,_⟩:=relEs_trs (env:=env) (pos:=pos) as hes
 refine wpAny_Call_NameR (ev.name_bi hm hs hg hd hb.stays ?_)
 have fin : wpAny (model k.c.prog k.c.w) A (evalArgs (bval b) true (backTo pos (starEach args env)) []) (fun a s₁=>wpAny (model k.c.prog k.c.w) A (call (bval b) ([] ++ a.pos) a.kw) Q E s₁) E s:=by
  refine spliced_all ht.noStar (ha ev ht hes hb hv (PE.bind ev.ko h fun ds p1 us h1 tk1 k1 b1 r1 h=>?_))
  obtain ⟨d,hd,h⟩:=h.ofO
  exact bi_snd hd r1 ev.hh fun v h' tk' g r=>h v h' tk' (ev.ko.grow g) (b1.grow g) r
 rcases bval_form hm with ⟨id',hid⟩ | hid
 ·rw [hid] at fin ⊢
  exact PySem.Calls.callWith_builtin ht.noStar fin
 ·rw [hid] at fin ⊢
  exact PySem.callWith_type ht.noStar fin
theorem slot_meth {b : Bi} (hm : isMeth b = true) : ∃ id, A3 (bval b = .builtin id) (Slot "str" (bnm b) id) (typeOf (.builtin id) = pure (.type "method_descriptor")) := by
 cases b <;> first | cases hm | skip
 ·exact ⟨_,rfl,PySem.F.slot_str_upper,PySem.F.type_str_upper⟩
 ·exact ⟨_,rfl,PySem.F.slot_str_lower,PySem.F.type_str_lower⟩
 ·exact ⟨_,rfl,PySem.F.slot_str_index,PySem.F.type_str_index⟩
 ·exact ⟨_,rfl,PySem.F.slot_str_join,PySem.F.type_str_join⟩
theorem methForm {env : Env} {args : List Expr} {pos : Pos} (ht : (backTo pos (starEach args env)).any (·.1) = false) (hl : args.length < 20) :
  ((backTo pos (starEach args env)).all (fun x=>!x.1) && (backToKw pos (keywordEach [] env)).all (fun x=>x.1.isSome)
   && decide (args.length + ([] : List Keyword).length + (if ([] : List Keyword).isEmpty then 0 else 1) < 30)) = true:=by
 have h1 : (backTo pos (starEach args env)).all (fun x=>!x.1) = true:=by
  rw [List.all_eq_true]
  intro x hx
  have:=List.any_eq_false.mp ht x hx
  simpa using this
 refine (h1).symm ▸ ?_
 show (true && true && decide (args.length + 0 + 0 < 30)) = true
 simp;omega
theorem p1_meth {b : Bi} {o as : CE} (ho : P1 fnm o) (ha : P2 fnm as) : P1 fnm (.meth b o as):=by
 intro k A env Γ sc ev nm ex s p vs Q E hr hb hv h
 refine eCA_inv (show eCA _ ex = true from hr) fun o' x apos args pos e0 hq=>?_
 clear hr
 subst e0
 have hes:=(and2 (and2 (and2 hq).2).2).2
 have hro:=(and2 (and2 (and2 hq).2).2).1
 have hlen:=of_decide_eq_true (and2 (and2 hq).2).1
 have hn:=(and2 (and2 hq).1).2
 have hl:=(and2 (and2 (and2 hq).1).1).2
 have hm:=(and2 (and2 (and2 (and2 hq).1).1).1).2
 have hs:=(and2 (and2 (and2 (and2 hq).1).1).1).1
 clear hq
 obtain rfl:=seq_eq hs
 obtain ⟨ht,_⟩:=relEs_trs (env:=env) (pos:=pos) as hes
 obtain ⟨id,hid,slot,hty⟩:=slot_meth hm
 refine wpAny_Call_method_lateS (base_plain hn _ _ _) (methForm ht.noStar hlen) hl (ho ev hro hb hv (PE.bind ev.ko h fun x p1 va h1 tk1 k1 b1 r1 h=>?_))
 cases x <;> first | exact h.elim | skip
 obtain ⟨hx,t,rfl⟩:=r1
 refine ⟨"str", id, PySem.F.plainAttrs_str, slot, hty, typeIs_str _ _ _, (fun Z e => nomatch e), ?_⟩
 refine PySem.Calls.callWith_builtin ht.noStar (spliced_all ht.noStar (ha ev ht hes b1 (ev.up hb k1 hv) (PE.bind ev.ko h fun ds p2 us h2 tk2 k2 b2 r2 h=>?_)))
 obtain ⟨d,hd,h⟩:=h.ofO
 exact (hid).symm.symm ▸ bi_snd (vs:=_ :: us) hd ⟨⟨hx,t,rfl⟩,r2⟩ ev.hh fun v h' tk' g r=>h v h' tk' (ev.ko.grow g) (b2.grow g) r
theorem PE.own {s : Shared} {R : Heap → Value → V → Prop} {i : Nat} {vs : List Sl} {p : Int} {Q : Value → Shared → Prop} {E : Value → Shared → Prop} (h : PE k s R (cev Γ (.joinv i) vs p) Q E) : ∃ l,vs[i]? = some (.own l) ∧ PE k s R (.ofO (biV .join [.str [],.lst l]) p) Q E:=sO_k (P:=fun r=>PE k s R r Q E) h id
set_option maxRecDepth 100000 in
theorem p1_joinv (i : Nat) : P1 fnm (.joinv i):=by
 intro k A env Γ sc ev nm ex s p vs Q E hr hb hv h
 refine eCA_inv (show eCA _ ex = true from hr) fun o' x apos args pos e0 h0=>eConstant_inv h0 fun c ck cp e1 h1=>coStr_inv h1 fun e e2 h2=>l1_inv h2 fun ag e3 h3=>eName_inv h3 fun id pn e4 hq=>?_
 clear hr h0 h1 h2 h3
 subst e0 e1 e2 e3 e4
 have hn:=(and2 hq).2
 have hl:=(and2 (and2 hq).1).2
 have hs:=(and2 (and2 (and2 hq).1).1).2
 have he:=(and2 (and2 (and2 hq).1).1).1
 clear hq
 obtain rfl:=seq_eq hs
 obtain rfl:=seq_eq he
 obtain ⟨l,hvi,h⟩:=PE.own h
 obtain ⟨⟨hz,a,us,ac,h1,h2,h3,hli,hq⟩,hd⟩:=var_acc hv hn hvi
 obtain ⟨d,hd',h⟩:=h.ofO
 have hfew:=methForm (env:=env) (args:=[.Name id pn]) (pos:=pos) rfl (show 1 < 20 by decide)
 have hb0 : attributeBase (.Constant (.str ("" : Str)) ck cp) ("join" : Str) env (eval (.Constant (.str ("" : Str)) ck cp) env) = eval (.Constant (.str ("" : Str)) ck cp) env := base_plain rfl _ _ _
 refine wpAny_Call_method_lateS hb0 hfew hl (wpAny_Constant_str ?_)
 refine ⟨"str", "str.join", PySem.F.plainAttrs_str, PySem.F.slot_str_join, PySem.F.type_str_join, typeIs_str _ _ _, (fun Z e => nomatch e), ?_⟩
 refine PySem.Calls.callWith_builtin rfl (PySem.Calls.evalArgs_plain (PySem.Calls.spliced_cons (wpAny_Name (Acc.load (s:={ s with toks:=s.toks + 1 }) ac (PySem.Calls.spliced_nil ?_)) hd)))
 have e0 : Str.ofString "" = S [] := by rw [Str.ofString_eq_toList]; rfl
 have hq' : Reps k.c.w s.heap [] k.c.pa [.str (Str.ofString "") s.toks, .ref a] [.str [], .lst l] :=
  ⟨⟨⟨by simp [SZ],fun c hc=>by exact nM hc⟩,s.toks,by exact (e0) ▸ rfl⟩,⟨hz,a,us,rfl,by simp,hli,Reps.kp (Kp.refl _ _ _) (fun Z q=>by exact nM q) _ _ hq⟩,trivial⟩
 refine bi_snd (s:={ s with toks:=s.toks + 1 }) (X:=[]) hd' hq' ev.hh fun v h' tk' g r=>h v h' tk' (ev.ko.grow g) (hb.grow g) ?_
 change (strsOf l).bind (fun l=>if l.flatten.length ≤ SZ then some (V.str l.flatten) else none) = some d at hd'
 obtain ⟨l',_,hd'⟩:=binS hd'
 by_cases hc : l'.flatten.length ≤ SZ
 ·replace hd':=(if_pos hc).symm.trans hd'
  injection hd' with hd'
  subst hd'
  exact r
 ·exact nS ((if_neg hc).symm.trans hd')
theorem p1_item {a i : CE} (ha : P1 fnm a) (hi : P1 fnm i) : P1 fnm (.item a i):=by
 intro k A env Γ sc ev nm ex s p vs Q E hr hb hv h
 refine eSubscript_inv (show eSubscript _ ex = true from hr) fun Z Z Z e0 hq=>?_
 clear hr
 subst e0
 refine Subscript_ (ha ev (and2 (and2 hq).2).1 hb hv (PE.bind ev.ko h fun x p1 va h1 tk1 k1 b1 r1 h=>?_))
 refine hi ev (and2 (and2 hq).2).2 b1 (ev.up hb k1 hv) (PE.bind ev.ko h fun y p2 vb h2 tk2 k2 b2 r2 h=>?_)
 obtain ⟨d,hd,h⟩:=h.ofO
 exact item_snd hd (ev.rep b1 k2 r1) r2 b2.pen (notSlice_eq (and2 hq).1) fun v tk' r=>h v _ tk' (ev.ko.grow (Grow.refl _)) b2 r
end
end
section
open PySem PySem.W PyProof.Rows
section
variable {k : Kt} {A : Around} {env : Env} {Γ : Gam} {sc : Sc} {fnm : List Str}
theorem p2_nil : P2 fnm .nil:=by
 intro k A env Γ sc ev nm es ts s p vs Q E ht hr hb hv h
 refine ln_inv (show ln true es = true from hr) fun e0 Z=>?_
 clear hr
 subst e0
 cases ts with
 | cons a r=>obtain ⟨b,x⟩:=a;exact ht.elim
 | nil =>
  exact PySem.Calls.spliced_nil (h [] s.heap s.toks (ev.ko.grow (Grow.refl _)) hb trivial)
theorem p2_cons {a r : CE} (ha : P1 fnm a) (hr' : P2 fnm r) : P2 fnm (.cons a r):=by
 intro k A env Γ sc ev nm es ts s p vs Q E ht hr hb hv h
 refine lc_inv (show lc _ es = true from hr) fun e es e0 hq=>?_
 clear hr
 subst e0
 cases ts with
 | nil=>exact ht.elim
 | cons t ts =>
  obtain ⟨b,x⟩:=t
  obtain ⟨rfl,hx,ht⟩:=ht
  refine PySem.Calls.spliced_cons (hx _ _ _ _ _ (ha ev (and2 (and2 hq).2).1 hb hv (PE.bind ev.ko h fun d p1 va h1 tk1 k1 b1 r1 h=>?_)))
  refine hr' ev ht (and2 (and2 hq).2).2 b1 (ev.up hb k1 hv) (PE.bind ev.ko h fun ds p2 us h2 tk2 k2 b2 r2 h=>?_)
  exact h _ _ _ (ev.ko.grow (Grow.refl _)) b2 ⟨ev.rep b1 k2 r1,r2⟩
theorem Bs.fresh {c : Cx} {fs : List Env} {X : List Addr} {p : Int} {h : Heap} (b : Bs c fs X p h) : h.objs.size ∉ X:=fun q=>absurd (b.lt _ q) (Nat.lt_irrefl _)
theorem PE.ift {c : Prop} [Decidable c] {α β : Type} {R : Heap → β → α → Prop} {s : Shared} {a b : RE α} {Q : β → Shared → Prop} {E : Value → Shared → Prop} (hc : c) (h : PE k s R (if c then a else b) Q E) : PE k s R a Q E:=by rwa [if_pos hc] at h
theorem PE.iff {c : Prop} [Decidable c] {α β : Type} {R : Heap → β → α → Prop} {s : Shared} {a b : RE α} {Q : β → Shared → Prop} {E : Value → Shared → Prop} (hc : ¬ c) (h : PE k s R (if c then a else b) Q E) : PE k s R b Q E:=by rwa [if_neg hc] at h
theorem p1_tup {es : CE} (ha : P2 fnm es) : P1 fnm (.tup es):=by
 intro k A env Γ sc ev nm ex s p vs Q E hr hb hv h
 refine eTuple_inv (show eTuple _ ex = true from hr) fun l n pos e0 hq=>?_
 clear hr
 subst e0
 obtain ⟨ht,_⟩:=relEs_trs (env:=env) (pos:=pos) es hq
 refine wpAny_Tuple_spliced (ha ev ht hq hb hv (PE.bind ev.ko h fun ds p1 us h1 tk1 k1 b1 r1 h=>?_))
 by_cases hl : ds.length ≤ 1000
 ·replace h:=PE.ift hl h
  have hlen : us.length ≤ 1000:=by exact (r1.len).symm ▸ hl
  have g := Grow.push h1 { cls := .type "tuple", data := .seq us.toArray }
  refine ⟨by refine (sizeLine_eq).symm ▸ ?_;omega,h _ _ _ (ev.ko.grow g) (b1.grow g) ⟨by simp [SZ];omega,_,us,rfl,b1.fresh,⟨_,Heap.get?_push_size _ rfl,rfl,_,rfl⟩,?_⟩⟩
  exact Reps.kp (g.kp _ _) (fun Z q=>q) _ _ r1
 ·exact (PE.iff hl h).elim
theorem p1_lst {es : CE} (ha : P2 fnm es) : P1 fnm (.lst es):=by
 intro k A env Γ sc ev nm ex s p vs Q E hr hb hv h
 refine eList_inv (show eList _ ex = true from hr) fun l pos e0 hq=>?_
 clear hr
 subst e0
 obtain ⟨ht,_⟩:=relEs_trs (env:=env) (pos:=pos) es hq
 refine wpAny_List_spliced (ha ev ht hq hb hv (PE.bind ev.ko h fun ds p1 us h1 tk1 k1 b1 r1 h=>?_))
 by_cases hl : ds.length ≤ 1000
 ·replace h:=PE.ift hl h
  have hlen : us.length ≤ 1000:=by exact (r1.len).symm ▸ hl
  have g := Grow.push h1 { cls := .type "list", data := .seq us.toArray }
  refine ⟨by refine (sizeLine_eq).symm ▸ ?_;omega,h _ _ _ (ev.ko.grow g) (b1.grow g) ⟨by simp [SZ];omega,_,us,rfl,b1.fresh,⟨_,Heap.get?_push_size _ rfl,rfl,_,rfl⟩,?_⟩⟩
  exact Reps.kp (g.kp _ _) (fun Z q=>q) _ _ r1
 ·exact (PE.iff hl h).elim
theorem isLN_eq {e : CE} (h : isLN e = true) : e = .lit .none:=ceLit_inv (show ceLit _ e = true from h) fun Z e1 h=>vNone_inv (show vNone true _ = true from h) fun e2 Z=>e2 ▸ e1
theorem isLT_eq {e : CE} (h : isLT e = true) : e = .lit (.bool true):=ceLit_inv (show ceLit _ e = true from h) fun Z e1 h=>vBool_inv (show vBool _ _ = true from h) fun Z e2 h=>by rw [e1,e2,h]
theorem part_snd {e : CE} {nm : List (Option Str)} {o : Option Expr} (hr : oS (isLN e) (fun l=>relE fnm e sc nm l) o = true)
  (ha : P1 fnm e) (ev : Ev k A env Γ sc fnm) {s : Shared} {p : Int} {vs : List Sl} {Q : Value → Shared → Prop} {E : Value → Shared → Prop}
  (hb : Bs k.c k.fs k.X p s.heap) (hv : Vs k.c k.fs env k.X nm vs s.heap) (h : PE k s (RepK k) (cev Γ e vs p) Q E) : wpAny (model k.c.prog k.c.w) A (evalPart o env) Q E s:=by
 cases o with
 | none =>
  have he : e = .lit .none:=isLN_eq hr
  subst he
  exact wpAny_evalPart_none (h .none s.heap s.toks (ev.ko.grow (Grow.refl _)) hb rfl)
 | some l=>exact wpAny_evalPart_some (ha ev hr hb hv h)
theorem p1_slc {a lo hi : CE} (ha : P1 fnm a) (hl : P1 fnm lo) (hh : P1 fnm hi) : P1 fnm (.slc a lo hi):=by
 intro k A env Γ sc ev nm ex s p vs Q E hr hb hv h
 change PE k s (RepK k) ((cev Γ a vs p).bind fun x p=>(cev Γ lo vs p).bind fun l p=>(cev Γ hi vs p).bind fun h p=>.ofO (sliceV x l h) p) Q E at h
 refine eSubscript_inv (show eSubscript _ ex = true from hr) fun v sl pos e0 h0=>eName_inv h0 fun id np e1 h1=>eSlice_inv h1 fun l u st sp e2 h2=>oN_inv h2 fun e3 hq=>?_
 clear hr h0 h1 h2
 subst e0 e1 e2 e3
 obtain ⟨hra,hrl,hru⟩ : _ ∧ _ ∧ _:=⟨(and2 hq).1,and2 (and2 hq).2⟩
 have run : ∀ (T : String) (id' : String), typeLookup (.type T) "__getitem__" = pure (some (.builtin id')) → (∀ x p1, cev Γ a vs p = .ok x p1 → ∀ (s : Shared) va y z d, Rep k.c.w s.heap k.X k.c.pa va x → sliceV x y z = some d → s.TypeIs va T) →
   wpAny (model k.c.prog k.c.w) A (eval (.Subscript (.Name id np) (.Slice l u none sp) pos) env) Q E s:=by
  intro T id' hT hty
  refine wpAny_Subscript_Slice (T:=T) hT (ha ev hra hb hv ?_)
  cases hx : cev Γ a vs p with
  | fail=>rw [hx] at h;exact h.elim
  | exc t c p1=>rw [hx] at h;exact h
  | ok x p1 =>
   rw [hx] at h
   intro va h1 tk1 k1 b1 r1
   replace h:=PE.at (tk':=tk1) ev.ko k1 h
   refine wpAny_Slice (part_snd hrl hl ev b1 (ev.up hb k1 hv) (PE.bind ev.ko h fun y p2 vl h2 tk2 k2 b2 r2 h=>?_))
   refine part_snd hru hh ev b2 (ev.up b1 k2 (ev.up hb k1 hv)) (PE.bind ev.ko h fun z p3 vh h3 tk3 k3 b3 r3 h=>?_)
   refine wpAny_evalPart_none ?_
   obtain ⟨d,hd,h⟩:=h.ofO
   have rx:=ev.rep b2 k3 (ev.rep b1 k2 r1)
   refine ⟨hty x p1 hx _ va y z d (Rep.kp (Kp.push _ _ _ _) (fun Z q=>q) _ _ rx) hd,slice_snd (s:={ s with heap:=h3,toks:=tk3 }) hd rx (ev.rep b2 k3 r2) r3 b3.lt fun v h' tk' g r=>h v h' tk' (ev.ko.grow g) (b3.grow g) r⟩
 by_cases hlst : Ex2 fun ds p1=>cev Γ a vs p = .ok (.lst ds) p1
 ·obtain ⟨ds,p1,hx⟩:=hlst
  refine run "list" _ slot_list_getitem.lookup fun x p1' hx' s' va y z d rx hd => ?_
  rw [hx] at hx'
  obtain ⟨rfl,rfl⟩:=okI hx'
  obtain ⟨_,ad,us,rfl,_,hli,_⟩:=rx
  exact hli.typeIs
 ·refine run "str" _ PySem.F.slot_str_getitem.lookup fun x p1' hx' s' va y z d rx hd => ?_
  rcases sliceV_sort hd with ⟨t,rfl⟩ | ⟨ds,rfl⟩
  ·obtain ⟨_,tt,rfl⟩:=rx;exact typeIs_str _ _ _
  ·exact absurd ⟨ds,p1',hx'⟩ hlst
theorem dups_nodup : ∀ {ks : List Tx},dups ks = false → (ks.map S).Nodup
 | [],_=>List.nodup_nil
 | k :: r,h=>by
  unfold dups at h
  rw [Bool.or_eq_false_iff] at h
  refine (List.map_cons).symm ▸ ?_;rw [List.nodup_cons]
  refine ⟨fun q=>?_,dups_nodup h.2⟩
  obtain ⟨y,hy,e⟩:=memM q
  have:=List.contains_iff_mem.mpr (S_inj e ▸ hy : k ∈ r)
  exact fT ((h.1).symm.trans this)
theorem map_fst_zip : ∀ {α β : Type} (a : List α) (b : List β),a.length = b.length → (a.zip b).map (·.1) = a
 | _,_,[],[],_=>rfl
 | _,_,x :: a,y :: b,h=>by
  rw [List.zip_cons_cons,List.map_cons,map_fst_zip a b (by simpa using h)]
theorem valueAt_lookup {K : Type} [DecidableEq K] [BEq K] [LawfulBEq K] : ∀ (l : List (K × Value)) (x : K),valueAt l x = l.lookup x
 | [],_=>rfl
 | (a,v) :: r,x=>by
  unfold valueAt
  rw [List.find?_cons,List.lookup_cons]
  by_cases h : a = x
  ·subst h;simp
  ·have h2 : (x == a) = false:=beq_eq_false_iff_ne.mpr (Ne.symm h)
   rw [h2]
   simp only [h,decide_false]
   exact valueAt_lookup r x
theorem lit_snd {prog : Program} {w : World} {A : Around} {E : Value → Shared → Prop} {s : Shared} {env : Env} {v : V} {e : Expr} {Q : Value → Shared → Prop} (hr : litOk v e = true)
  (hq' : ∀ val tk',(∀ w h X pa,Rep w h X pa val v) → Q val { s with toks:=tk' }) : wpAny (model prog w) A (eval e env) Q E s:=by
 rcases Bool.or_eq_true_iff.mp hr with hr | hr
 ·refine eConstant_inv hr fun c Z Z e0 hq=>?_
  clear hr
  subst e0
  obtain ⟨hf,hr⟩:=and2 hq
  cases v <;> first | exact absurd hf Bool.false_ne_true | skip
  ·exact coNone_inv (show coNone true c = true from hr) fun e Z=>by subst e;exact Constant_none (hq' .none s.toks fun Z Z Z Z=>rfl)
  ·refine coInt_inv (show coInt _ c = true from hr) fun j e h=>?_
   subst e
   cases of_decide_eq_true h
   exact wpAny_Constant_int (hq' (.int _ _) _ fun Z Z Z Z=>⟨_,rfl⟩)
 ·refine vInt_inv hr fun i e0 h0=>eUnaryOp_inv h0 fun op x Z e1 h1=>eConstant_inv (and2 h1).2 fun c Z Z e2 h2=>coInt_inv h2 fun j e3 h3=>?_
  cases of_decide_eq_true (and2 h1).1
  cases of_decide_eq_true h3
  clear hr h0 h1 h2 h3
  subst e0 e1 e2 e3
  refine UnaryOp_ (wpAny_Constant_int (PyProof.Rows.neg_int ?_))
  exact hq' (.int _ _) _ fun Z Z Z Z=>⟨_,rfl⟩
theorem key_snd {M : Model} {A : Around} {E : Value → Shared → Prop} {s : Shared} {env : Env} {x : Tx} {e : Option Expr} (hr : keyOk x e = true) :
  ∃ e',e = some e' ∧ ∀ {Q : Value → Shared → Prop},(∀ t tk',Q (.str (S x) t) { s with toks:=tk' }) → wpAny M A (eval e' env) Q E s :=
 oS_inv hr fun e' e0 h0=>eConstant_inv h0 fun c Z Z e1 h1=>coStr_inv h1 fun y e2 h2=>⟨e',e0,fun h=>by
  cases cps_eq (and2 h2).1
  subst e1 e2
  exact wpAny_Constant_str (h _ _)⟩
theorem pairs_snd {prog : Program} {w : World} {A : Around} {E : Value → Shared → Prop} {env : Env} {pos : Pos} : ∀ (ks : List Tx) {vs : List V} {keys : List (Option Expr)} {vals : List Expr} {s : Shared} {Q : List (Value × Value) → Shared → Prop},
  keysOk ks keys = true → litsOk vs vals = true → ks.length = vs.length →
  (∀ prs us tk',Carries (strKind prog w) prs ((ks.map S).zip us) → us.length = ks.length → (∀ w h X pa,Reps w h X pa us vs) → Q prs { s with toks:=tk' }) →
  wpAny (model prog w) A (evalPairs (pairTrees keys vals env pos)) Q E s
 | [],[],keys,vals,s,Q,hk,hv,_,h=>ln_inv (show ln true keys = true from hk) fun e1 Z=>ln_inv (show ln true vals = true from hv) fun e2 Z=>by
  subst e1 e2
  exact pairTrees_nil_walk (h [] [] s.toks trivial rfl fun Z Z Z Z=>trivial)
 | k :: ks,v :: vs,keys,vals,s,Q,hk,hv,hl,h=>lc_inv (show lc _ keys = true from hk) fun key keys e1 hk=>lc_inv (show lc _ vals = true from hv) fun e vals e2 hv=>by
  subst e1 e2
  obtain ⟨e',rfl,hke⟩:=key_snd (M:=model prog w) (A:=A) (E:=E) (s:=s) (env:=env) (and2 hk).1
  refine pairTrees_cons_walk (hke fun t tk1=>lit_snd (and2 hv).1 fun val tk2 hr=>?_)
  refine pairs_snd ks (and2 hk).2 (and2 hv).2 (Nat.succ.inj hl) fun prs us tk3 hc hl' hrs=>?_
  exact h ((.str (S k) t,val) :: prs) (val :: us) _ ⟨strKind_is _ _ _ _,rfl,hc⟩ (congrArg Nat.succ hl') fun w h X pa=>⟨hr w h X pa,hrs w h X pa⟩
 | [],_ :: _,_,_,_,_,_,_,hl,_=>nomatch hl
 | _ :: _,[],_,_,_,_,_,_,hl,_=>nomatch hl
theorem keysOk_all : ∀ (ks : List Tx) {keys : List (Option Expr)},keysOk ks keys = true → keys.all (·.isSome) = true ∧ keys.length = ks.length
 | [],keys,h=>ln_inv (show ln true keys = true from h) fun e Z=>by subst e;exact ⟨rfl,rfl⟩
 | k :: ks,keys,h=>lc_inv (show lc _ keys = true from h) fun e es e1 h=>oS_inv (and2 h).1 fun x e2 Z=>by
  obtain ⟨a,b⟩:=keysOk_all ks (and2 h).2
  subst e1 e2
  exact ⟨a,congrArg Nat.succ b⟩
theorem litsOk_len : ∀ (vs : List V) {vals : List Expr},litsOk vs vals = true → vals.length = vs.length
 | [],vals,h=>ln_inv (show ln true vals = true from h) fun e Z=>by subst e;rfl
 | _ :: vs,vals,h=>lc_inv (show lc _ vals = true from h) fun e es e1 h=>by subst e1;exact congrArg Nat.succ (litsOk_len vs (and2 h).2)
theorem p1_dct (ks : List Tx) (ds : List V) : P1 fnm (.dct ks ds):=by
 intro k A env Γ sc ev nm ex s p vs Q E hr hb hv h
 change PE k s (RepK k) (.ok (.dct ks ds) p) Q E at h
 refine eDict_inv (show eDict _ ex = true from hr) fun keys vals pos e0 hq=>?_
 clear hr
 subst e0
 have hlits:=(and2 hq).2
 have hkl:=of_decide_eq_true (and2 (and2 hq).1).2
 have hl:=of_decide_eq_true (and2 (and2 (and2 hq).1).1).2
 have hd:=not2 (and2 (and2 (and2 (and2 hq).1).1).1).2
 have h0:=not2 (and2 (and2 (and2 (and2 (and2 hq).1).1).1).1).2
 have hk:=(and2 (and2 (and2 (and2 (and2 hq).1).1).1).1).1
 clear hq
 obtain ⟨ha,hkl2⟩:=keysOk_all ks hk
 have hvl:=litsOk_len ds hlits
 refine wpAny_Dict_walk (knd:=strKind k.c.prog k.c.w) ha (by omega) (by rintro rfl;replace hkl2:=(List.length_nil).symm.trans hkl2;cases (len0 hkl2.symm) ▸ h0) (by omega) ?_
 refine pairs_snd ks hk hlits hkl fun prs us tk hc hl' hrs=>⟨_,hc,Heap.DictOf.new _,fun h' hd' hs'=>?_⟩
 have g : Grow s.heap h':=fun b o e=>(hs'.2 b (Nat.ne_of_lt (Heap.lt_size e))).trans (Heap.get?_push_of_some _ e)
 refine h _ _ _ (ev.ko.grow g) (hb.grow g) ⟨_,us,rfl,hb.fresh,?_,hkl,hrs _ _ _ _⟩
 have hzl : ks.length = us.length:=hl'.symm
 rw [merged_nil_of_nodup _ (by rw [map_fst_zip _ _ (by simpa using hzl)];exact dups_nodup hd)] at hd'
 have hm:=hd'.mapOf
 have e : valueAt ((ks.map S).zip us) = dctMap ks us:=funext fun x=>valueAt_lookup _ x
 replace hm:=(e) ▸ hm
 exact IsDct.of hm
theorem lookup_reps {w : World} {h : Heap} {X : List Addr} {pa : Addr} {n : Int} {d : V} : ∀ {kv : List (Int × V)} {us : List Value},Reps w h X pa us (kv.map (·.2)) → kv.lookup n = some d → ∃ v,((kv.map (·.1)).zip us).lookup n = some v ∧ Rep w h X pa v d
 | (m,y) :: kv,u :: us,⟨a,b⟩,e=>by
  replace e:=(List.lookup_cons).symm.trans e
  refine (List.map_cons).symm ▸ ?_;refine (List.zip_cons_cons).symm ▸ ?_;rw [List.lookup_cons]
  cases hm : n == m with
  | true=>obtain rfl:=sI ((hm) ▸ e);exact ⟨u,rfl,a⟩
  | false=>replace e:=(hm) ▸ e;exact lookup_reps b e
 | [],_,_,e=>by exact nS e
theorem PE.ownD {s : Shared} {R : Heap → Value → V → Prop} {i : Nat} {e : CE} {vs : List Sl} {p : Int} {Q : Value → Shared → Prop} {E : Value → Shared → Prop} (h : PE k s R (cev Γ (.itemD i e) vs p) Q E) : ∃ kv,vs[i]? = some (.ownD kv) ∧ PE k s R ((cev Γ e vs p).bind fun y p=>dI .fail (fun n=>.ofO (kv.lookup n) p) y) Q E:=sD_k (P:=fun r=>PE k s R r Q E) h fun h=>h
theorem p1_itemD {i : Nat} {e : CE} (ha : P1 fnm e) : P1 fnm (.itemD i e):=by
 intro k A env Γ sc ev nm ex s p vs Q E hr hb hv h
 refine eSubscript_inv (show eSubscript _ ex = true from hr) fun v sl pos e0 h0=>eName_inv h0 fun id np e1 hq=>?_
 clear hr h0
 subst e0 e1
 have hre:=(and2 hq).2
 have hx:=(and2 (and2 hq).1).2
 have hn:=(and2 (and2 hq).1).1
 clear hq
 refine gG fun P0 hP0=>?_
 obtain ⟨kv,hvi,h⟩:=PE.ownD h
 obtain ⟨⟨a,us,ac,h1,h2,h3,hli,hrs⟩,hd⟩:=var_acc hv hx hvi
 refine hP0 ?_
 refine Subscript_ (wpAny_Name (ac.load (ha ev hre hb hv (PE.bind ev.ko h fun y p1 vy h1' tk1 k1 b1 r1 h=>?_))) hd)
 cases y <;> first | exact h.elim | skip
 refine gG fun P0 hP0=>?_
 obtain ⟨t,rfl⟩:=r1
 obtain ⟨d,hlk,h⟩:=PE.ofO h
 obtain ⟨v,hv',hq'⟩:=lookup_reps hrs hlk
 refine hP0 ?_
 have hli':=dictOf_at hli fun o=>(ev.ko.kp k1).same a o h2
 refine tail_any hli'.typeIs slot_dict_getitem.lookup (wpAny_getItem_of (knd:=intKind k.c.prog k.c.w) (intKind_is _ _ _ _) hli'.mapOf (by rw [valueAt_lookup];exact hv') ?_) (noSlice (notSlice_eq hn) _ _)
 exact h v _ _ (ev.ko.grow (Grow.refl _)) b1 (ev.rep hb k1 hq')
end
end
section
open PySem PySem.W PyProof.Rows
section
variable {k : Kt} {A : Around} {env : Env} {Γ : Gam} {sc : Sc} {fnm : List Str}
theorem isF_iff {x : NameKind} : isF (some x) = (x == .free):=by cases x <;> rfl
theorem isC_iff {o : Option NameKind} : isC o = (o == some .cell):=by cases o with | none=>rfl | some x=>cases x <;> rfl
theorem closure_ok (env : Env) : ∀ (names : List (Str × NameKind)) (cs : List (Str × Addr)),(∀ y ∈ names,y.2 = .free → ∃ c,env.cells.lookup y.1 = some c) → (∀ y ∈ cs,env.cells.lookup y.1 = some y.2) →
  ∃ cl,A4 ((forIn names cs fun (x : Str × NameKind) r=>if (x.2 == .free) = true then do let c ← cellOf env x.1;pure (ForInStep.yield ((x.1,c) :: r)) else pure (ForInStep.yield r) : Sem (List (Str × Addr))) = pure cl) (∀ y ∈ cl,env.cells.lookup y.1 = some y.2) (∀ y,cs.lookup y ≠ none → cl.lookup y ≠ none) (∀ y ∈ names,y.2 = .free → cl.lookup y.1 ≠ none)
 | [],cs,_,h2=>⟨cs,rfl,h2,fun Z h=>h,fun Z q=>by exact nM q⟩
 | (n,kd) :: r,cs,h1,h2=>by
  rw [List.forIn_cons]
  by_cases hk : kd = .free
  ·subst hk
   obtain ⟨c,hc⟩:=h1 _ List.mem_cons_self rfl
   obtain ⟨cl,e,g1,g2,g3⟩:=closure_ok env r ((n,c) :: cs) (fun y hy=>h1 y (List.mem_cons_of_mem _ hy)) (fun y hy=>by
    rcases memc hy with rfl | hy
    ·exact hc
    ·exact h2 y hy)
   have self : cl.lookup n ≠ none:=g2 n (by rw [List.lookup_cons,beq_self_eq_true];simp)
   refine ⟨cl,?_,g1,fun y hy=>g2 y ?_,fun y hy hf=>?_⟩
   ·unfold cellOf
    simp only [beq_self_eq_true,if_true,hc,pure_bind]
    exact e
   ·rw [List.lookup_cons]
    cases hq : y == n with
    | true=>simp
    | false=>exact hy
   ·rcases memc hy with rfl | hy
    ·exact self
    ·exact g3 y hy hf
  ·obtain ⟨cl,e,g1,g2,g3⟩:=closure_ok env r cs (fun y hy=>h1 y (List.mem_cons_of_mem _ hy)) h2
   refine ⟨cl,?_,g1,g2,fun y hy hf=>?_⟩
   ·have : (kd == NameKind.free) = false:=beq_eq_false_iff_ne.mpr hk
    simp only [this,Bool.false_eq_true,if_false,pure_bind]
    exact e
   ·rcases memc hy with rfl | hy
    ·exact absurd hf hk
    ·exact g3 y hy hf
theorem closure_of {scope : Scope} (h : ∀ y ∈ scope.names,y.2 = .free → ∃ c,env.cells.lookup y.1 = some c) :
  ∃ cl,A3 (closureFor scope env = pure cl) (∀ y ∈ cl,env.cells.lookup y.1 = some y.2) (∀ y ∈ scope.names,y.2 = .free → cl.lookup y.1 ≠ none):=by
 obtain ⟨cl,e,a,_,b⟩:=closure_ok env scope.names [] h (fun y q=>by exact nM q)
 refine ⟨cl,?_,a,b⟩
 have h:=congrArg (fun m : Sem (List (Str × Addr))=>m >>= fun r=>pure r) e
 simp only [pure_bind] at h
 exact h
theorem relab_eq {scope : Scope} (hk : env.scope.kind = .function) (hn : env.scope.names = sc) : (relabel scope env).names = relab scope.names sc:=by
 unfold relabel relab
 show List.map _ _ = List.map _ _
 refine List.map_congr_left fun ⟨n,kd⟩ _=>?_
 have : (env.scope.kind == .function) = true:=by refine (hk).symm ▸ ?_;rfl
 have hko : env.kindOf n = kOf sc n:=by unfold Env.kindOf;refine (hn).symm ▸ ?_;rw [kOf_eq]
 simp only [this,Bool.and_true,isF_iff,isC_iff,hko]
theorem mem_of_kOf : ∀ {sc : Sc} {y : Str} {kd : NameKind},kOf sc y = some kd → (y,kd) ∈ sc
 | (n,kd') :: r,y,kd,h=>by
  rw [kOf] at h
  split at h
  ·rename_i hs
   obtain rfl:=sI h
   rw [seq_eq hs];exact List.mem_cons_self
  ·exact List.mem_cons_of_mem _ (mem_of_kOf h)
 | [],_,_,h=>by exact nS h
theorem Ev.inner {scope : Scope} {cl : List (Str × Addr)} {C : Addr} (ev : Ev k A env Γ sc fnm) (hk : scope.kind = .function) (hcl : ∀ y ∈ scope.names,y.2 = .free → cl.lookup y.1 ≠ none)
  (hnc : ∀ y ∈ scope.names,isC (some y.2) = false) : Ev { k with KK:=Grow } A (compEnvC scope cl C env) Γ0 (relab scope.names sc) fnm where
 ko:=⟨fun g=>g,fun a b=>a.trans b,fun g=>.grow g⟩
 kind:=hk
 names:=relab_eq ev.kind ev.names
 cells:=fun n hn=>by
  obtain ⟨y,hy,e⟩:=memM (mem_of_kOf (isC_eq hn))
  have hcy:=hnc y hy
  obtain ⟨m,kd⟩:=y
  by_cases hc : (isF (some kd) && isC (kOf sc m)) = true
  ·simp only [hc,if_true] at e
   injection e with e1 _
   subst e1
   rw [Bool.and_eq_true] at hc
   have:=hcl _ hy (Option.some.inj (isF_eq hc.1))
   cases hq : cl.lookup m with
   | none=>exact absurd hq this
   | some c=>exact ⟨c,hq⟩
  ·simp only [hc] at e
   injection e with _ e2
   subst e2
   exact tF hcy
 hh:=ev.hh
 hu:=ev.hu
 gl:=by
  obtain ⟨mg,h1,h2,h3,h4,h5⟩:=ev.gl
  refine ⟨mg,h1,h2,h3,h4,fun f x hx=>?_⟩
  obtain ⟨fa,o,fd,g1,g2,g3,_⟩:=h5 f x hx
  exact ⟨fa,o,fd,g1,g2,g3,fun s p vs ds Q E Z Z h=>h.elim⟩
 bl:=ev.bl
theorem Bs.withKK {k : Kt} {p : Int} {h : Heap} (b : Bs k.c k.fs k.X p h) : Bs ({ k with KK:=Grow } : Kt).c ({ k with KK:=Grow } : Kt).fs ({ k with KK:=Grow } : Kt).X p h:=b
theorem Vs.inner {scope : Scope} {cl : List (Str × Addr)} {C : Addr} {nm : List (Option Str)} {vs : List Sl} {p : Int} {h h' : Heap} {j : Nat} {x : Str} {m : Str → Option Value} {i : Int} {t : Tok} (ev : Ev k A env Γ sc fnm)
  (hk : scope.kind = .function) (hcl1 : ∀ y ∈ cl,env.cells.lookup y.1 = some y.2) (hcl2 : ∀ y ∈ scope.names,y.2 = .free → cl.lookup y.1 ≠ none)
  (hx : kOf (relab scope.names sc) x = some .local) (b : Bs k.c k.fs k.X p h) (hC : h.objs.size ≤ C) (g : Grow h h') (hn : h'.Ns C m) (hm : m x = some (.int i t)) (hj : j < nm.length)
  (hv : Vs k.c k.fs env k.X nm vs h) : Vs k.c k.fs (compEnvC scope cl C env) k.X (nmIn scope.names sc j x nm) (vs.set j (.val (.int i))) h':=by
 have hv' : Vs k.c k.fs env k.X nm vs h':=hv.up b (.grow g)
 have hpa : C ≠ k.c.pa:=fun e=>absurd (b.lt _ b.pin) (by exact (e).symm.symm ▸ nlt hC)
 have hst : ∀ a ∈ stor (compEnvC scope cl C env),a = C ∨ a ∈ stor env:=fun a ha=>by
  rcases mem_stor_inv ha with rfl | ⟨y,hy⟩
  ·exact .inl rfl
  ·exact .inr (mem_stor (hcl1 (y,a) (mem_of_lookup hy)))
 refine ⟨fun a ha=>?_,fun i' x' sl e1 e2=>?_⟩
 ·rcases hst a ha with rfl | ha
  ·exact hpa
  ·exact hv.1 a ha
 ·unfold nmIn at e1
  by_cases hij : j = i'
  ·subst hij
   obtain rfl:=sI (sI ((List.getElem?_set_self (by simpa using hj)).symm.trans e1))
   replace e2:=(List.getElem?_set).symm.trans e2
   simp only [if_true] at e2
   split at e2
   ·obtain rfl:=sI e2
    refine ⟨.int i t,⟨hk,.inl ⟨?_,m,hn,hm⟩⟩,t,rfl⟩
    unfold Env.kindOf
    show List.lookup x (relabel scope env).names = _
    refine (relab_eq ev.kind ev.names).symm ▸ ?_;rw [← kOf_eq]
    exact hx
   ·exact nS e2
  ·rw [List.getElem?_set_ne hij] at e1 e2
   replace e1:=(List.getElem?_map).symm.trans e1
   obtain ⟨o,ho,e1⟩:=mapS e1
   cases o with
   | none=>cases e1
   | some y =>
    simp only at e1
    split at e1
    ·rename_i hc
     cases e1
     rw [Bool.and_eq_true] at hc
     have hsl:=hv'.2 i' _ sl ho e2
     have hko : env.kindOf x' = some .cell:=by rw [ev.kind_at];exact isC_eq hc.2
     have hki : (compEnvC scope cl C env).kindOf x' = some .cell:=by
      unfold Env.kindOf
      show List.lookup x' (relabel scope env).names = _
      refine (relab_eq ev.kind ev.names).symm ▸ ?_;rw [← kOf_eq]
      have : ∀ (l : Sc),kOf l x' = some .free → kOf (relab l sc) x' = some .cell:=by
       intro l
       induction l with
       | nil=>intro q;cases q
       | cons a r ih =>
        obtain ⟨n,kd⟩:=a
        intro q
        rw [kOf] at q
        show kOf ((if (isF (some kd) && isC (kOf sc n)) = true then (n,NameKind.cell) else (n,kd)) :: _) x' = _
        by_cases hs : seq x' n = true
        ·replace q:=(if_pos hs).symm.trans q
         injection q with q
         subst q
         refine (seq_eq hs).symm.symm ▸ ?_;refine (show (isF (some NameKind.free) && isC (kOf sc x')) = true from by rw [hc.2];rfl).symm ▸ ?_;refine (if_pos rfl).symm ▸ ?_;rewrite [kOf];rw [seq_self]
         rfl
        ·replace q:=(if_neg hs).symm.trans q
         have hs' : seq x' n = false:=by simpa using hs
         split <;> (rewrite [kOf];refine (hs').symm ▸ ?_;exact ih q)
      exact this _ (isF_eq hc.1)
     have acc : ∀ v,Acc env h' x' v → Acc (compEnvC scope cl C env) h' x' v:=by
      rintro v ⟨_,⟨hl,_⟩ | ⟨c,hc',hi,_⟩⟩
      ·cases sI ((hko).symm.trans hl)
      ·refine ⟨hk,.inr ⟨c,?_,hi,.inl hki⟩⟩
       have:=hcl2 _ (mem_of_kOf (isF_eq hc.1)) rfl
       cases hq : cl.lookup x' with
       | none=>exact absurd hq this
       | some c'=>replace hc':=(hcl1 _ (mem_of_lookup hq)).symm.trans hc';exact Eq.trans (hq) (hc').symm.symm
     have nst : ∀ a ∈ k.X,a ∉ stor env → a ∉ stor (compEnvC scope cl C env):=fun a ha hs hq=>by
      rcases hst a hq with rfl | hq
      ·exact absurd (b.lt _ ha) (nlt hC)
      ·exact hs hq
     cases sl with
     | un=>trivial
     | val d=>obtain ⟨v,a,r⟩:=hsl;exact ⟨v,acc _ a,r⟩
     | own ds=>obtain ⟨hz,a,us,ac,h1,h2,h3,r,r2⟩:=hsl;exact ⟨hz,a,us,acc _ ac,h1,h2,nst a h1 h3,r,r2⟩
     | ownD kv=>obtain ⟨a,us,ac,h1,h2,h3,r,r2⟩:=hsl;exact ⟨a,us,acc _ ac,h1,h2,nst a h1 h3,r,r2⟩
    ·exact nS e1
noncomputable def cmpF (elt cnd : CE) (vs : List Sl) (j : Nat) (p : Int) (i : Int) : Option (Option V) :=
 (okO (cevB Γ0 cnd (vs.set j (.val (.int i))) p)).bind fun c=>if c then ((okO (cev Γ0 elt (vs.set j (.val (.int i))) p)).bind flatV).map some else some .none
noncomputable def cmpP (cnd : CE) (vs : List Sl) (j : Nat) (p : Int) : Value → Bool
 | .int i _=>okO (cevB Γ0 cnd (vs.set j (.val (.int i))) p) == some true
 | _=>false
noncomputable def AnyRep (y : Value) (d : V) : Prop:=∀ w h X pa,Rep w h X pa y d
noncomputable def cmpR (elt : CE) (vs : List Sl) (j : Nat) (p : Int) (v y : Value) : Prop:=(Ex3 fun i t d=>A3 (v = .int i t) ((okO (cev Γ0 elt (vs.set j (.val (.int i))) p)).bind flatV = some d) (AnyRep y d))
theorem flat_any {v d : V} (h : flatV v = some d) : d = v ∧ ∀ {y w h X pa},Rep w h X pa y v → AnyRep y v:=by
 cases v <;> first | (cases h;refine ⟨rfl,?_⟩) | exact nS h
 ·rintro y w h X pa ⟨t,rfl⟩;exact fun Z Z Z Z=>⟨t,rfl⟩
 ·rintro y w h X pa ⟨ht,t,rfl⟩;exact fun Z Z Z Z=>⟨ht,t,rfl⟩
theorem cmp_reps {elt cnd : CE} {vs : List Sl} {j : Nat} {p : Int} : ∀ {is : List Int} {us ys : List Value} {l : List V},us.length = is.length → (∀ (n : Nat) (i : Int),is[n]? = some i → ∃ t,us[n]? = some (.int i t)) →
  cmprL (cmpF elt cnd vs j p) is = some l → Paired (cmpR elt vs j p) (us.filter (cmpP cnd vs j p)) ys → ∀ w h X pa,Reps w h X pa ys l
 | [],[],ys,l,_,_,e,hp,w,h,X,pa=>by
  obtain rfl:=sI e;cases hp;trivial
 | i :: is,u :: us,ys,l,hl,hi,e,hp,w,h,X,pa=>by
  obtain ⟨t,ht⟩:=hi 0 i rfl
  obtain rfl:=sI ht
  unfold cmprL at e
  obtain ⟨o,ho,e⟩:=binS e
  obtain ⟨l',hl',e⟩:=binS e
  injection e with e
  have ih : ∀ {ys},Paired (cmpR elt vs j p) (us.filter (cmpP cnd vs j p)) ys → Reps w h X pa ys l':=fun q =>
   cmp_reps (by simpa using hl) (fun n i' hn=>hi (n + 1) i' hn) hl' q w h X pa
  unfold cmpF at ho
  obtain ⟨c,hc,ho⟩:=binS ho
  replace hp:=(List.filter_cons) ▸ hp
  cases c with
  | true =>
   have : cmpP cnd vs j p (.int i t) = true:=by show (okO _ == some true) = true;refine (hc).symm ▸ ?_;rfl
   replace hp:=(if_pos this) ▸ hp
   replace ho:=(if_pos rfl).symm.trans ho
   obtain ⟨d,hd,rfl⟩:=mapS ho
   subst e
   cases hp with
   | cons h1 h2 =>
    obtain ⟨i',t',d',e1,e2,h3⟩:=h1
    obtain ⟨rfl,rfl⟩:=Value.int.inj e1
    obtain rfl:=sI ((hd).symm.trans e2)
    exact ⟨h3 _ _ _ _,ih h2⟩
  | false =>
   have : cmpP cnd vs j p (.int i t) = false:=by show (okO _ == some true) = false;refine (hc).symm ▸ ?_;rfl
   rw [if_neg (by rw [this];simp)] at hp
   obtain rfl:=sI ((if_neg (by simp)).symm.trans ho)
   subst e
   exact ih hp
 | [],_ :: _,_,_,hl,_,_,_,_,_,_,_=>by cases hl
 | _ :: _,[],_,_,hl,_,_,_,_,_,_,_=>by exact Nat.noConfusion hl
theorem cmprL_each {f : Int → Option (Option V)} : ∀ {is : List Int} {l : List V},cmprL f is = some l → (∀ i ∈ is,∃ o,f i = some o) ∧ l.length ≤ is.length
 | [],l,h=>by obtain rfl:=sI h;exact ⟨fun Z q=>(by exact nM q),Nat.le_refl _⟩
 | i :: r,l,h=>by
  unfold cmprL at h
  obtain ⟨o,ho,e⟩:=binS h
  obtain ⟨l',hl',e⟩:=binS e
  injection e with e
  obtain ⟨a,b⟩:=cmprL_each hl'
  refine ⟨fun i' hi'=>?_,?_⟩
  ·refine gG fun P0 hP0=>?_
   rcases memc hi' with rfl | hi'
   ·refine hP0 ?_
    exact ⟨o,ho⟩
   ·refine hP0 ?_
    exact a i' hi'
  ·cases o <;> (subst e;simp;lia)
noncomputable def cmK (j : Nat) (elt cnd : CE) (vs : List Sl) (x : V) (p : Int) : RE V:=dI .fail (fun m=>if 0 ≤ m ∧ m ≤ 1000 then .ofO ((cmprL (cmpF elt cnd vs j p) (ranI m)).map .lst) p else .fail) x
theorem p1_cmpr {j : Nat} {n elt cnd : CE} (hn : P1 fnm n) (he : P1 fnm elt) (hc : P3 fnm cnd) : P1 fnm (.cmpr j n elt cnd):=by
 intro k A env Γ sc ev nm ex s p vs Q E hr hb hv h
 refine eLC_inv (show eLC _ ex = true from hr) fun e x px id ipos m cpos ifs scope pos e0 hq=>?_
 clear hr
 subst e0
 have hrc:=(and2 (and2 (and2 hq).2).2).2
 have hre:=(and2 (and2 (and2 hq).2).2).1
 have hrn:=(and2 (and2 hq).2).1
 replace hq:=(and2 hq).1
 have hkind:=of_decide_eq_true (and2 (and2 hq).2).2
 have hxl:=(and2 (and2 (and2 hq).2).1).2
 have hnm:=allT (and2 (and2 (and2 hq).2).1).1
 replace hq:=(and2 hq).1
 have hj:=of_decide_eq_true (and2 hq).2
 have hst:=(and2 (and2 hq).1).2
 have hd:=(and2 (and2 (and2 hq).1).1).2
 have hg:=(and2 (and2 (and2 (and2 hq).1).1).1).2
 have hid:=(and2 (and2 (and2 (and2 hq).1).1).1).1
 clear hq
 change PE k s (RepK k) ((cev Γ n vs p).bind (cmK j elt cnd vs)) Q E at h
 have hnc : ∀ y ∈ scope.names,isC (some y.2) = false:=fun y hy=>not2 (and2 (and2 (hnm y hy)).1).1
 obtain ⟨cl,hclos,hcl1,hcl2⟩:=closure_of (env:=env) (scope:=scope) fun y hy hf=>ev.cells y.1 (or2 (and2 (hnm y hy)).2 (by refine (hf).symm ▸ ?_;rfl))
 have hxr : kOf (relab scope.names sc) x = some .local:=by
  refine (relab_eq ev.kind ev.names).symm.symm ▸ ?_;rw [kOf_eq]
  exact lookup_relabel_local (by rw [← kOf_eq];exact isL_eq hxl)
 have main : ∀ p1,(∀ x p',cev Γ n vs p = .ok x p' → p' = p1) → wpAny (model k.c.prog k.c.w) A (eval (.ListComp e [⟨.Name x px,.Call (.Name id ipos) [m] [] cpos,ifs,0⟩] scope pos) env) Q E s:=by
  intro p1 hp1
  refine wpAny_ListComp_free (cmpP cnd vs j p1) (cmpR elt vs j p1) hclos (fun y hy q=>by have:=hnc y hy;cases (q) ▸ this) hkind
   (fun y hy q=>by
    rw [← kOf_eq]
    exact isL_eq (or2 (and2 (and2 (hnm y hy)).1).2 (by rw [q];rfl))) (by rw [← kOf_eq];exact isL_eq hxl) ?_ (fun Z=>rfl)
  obtain ⟨mg,hns,_,hrg,_⟩:=ev.gl
  obtain ⟨mb,hnb,_,hrb,_⟩:=ev.bl
  obtain rfl:=seq_eq hid
  have tr : Trs env [m] (backTo cpos (starEach [m] env)):=by
   rw [star_cons hst]
   exact ⟨rfl,fun Z Z Z Z Z x=>x,trivial⟩
  refine wpAny_Call_NameR (PySem.Calls.Name_function_global ev.kind ((ev.kind_at _).trans (isG_eq hg)) (PySem.Calls.loadGlobal_builtin (stays_ns hb.stays hns) hrg (stays_ns hb.stays hnb) hrb ?_) (nodbg_eq hd))
  refine PySem.callWith_type tr.noStar (spliced_all tr.noStar ?_)
  rw [star_cons hst]
  refine PySem.Calls.spliced_cons (hn ev hrn hb hv ?_)
  cases hx : cev Γ n vs p with
  | fail=>rw [hx] at h;exact h.elim
  | exc t c p'=>rw [hx] at h;exact h
  | ok d p' =>
   obtain rfl:=hp1 _ _ hx
   replace h:=(hx) ▸ h
   intro va h1 tk1 k1 b1 r1
   replace h:=PE.at (tk':=tk1) ev.ko k1 h
   cases d <;> first | exact h.elim | skip
   rename Int=>mm
   change PE k _ _ (if 0 ≤ mm ∧ mm ≤ 1000 then _ else _) Q E at h
   by_cases hmm : 0 ≤ mm ∧ mm ≤ 1000
   ·replace h:=PE.ift hmm h
    obtain ⟨l0,hl0,h⟩:=PE.ofO h
    obtain ⟨l,hl,rfl⟩:=mapS hl0
    obtain ⟨t,rfl⟩:=r1
    refine PySem.Calls.spliced_nil (call_range_1 ?_)
    have hsz : Builtin.Range.rangeSize 0 mm 1 = ((mm.toNat : Nat) : Int):=by rw [rangeSize_one];split <;> lia
    generalize hh2 : h1.push { cls := .type "range", data := .fields #[.int 0 tk1, .int mm t, .int 1 (tk1 + 1)] } = h2
    have g12 : Grow h1 h2:=by exact (hh2).symm.symm ▸ Grow.push _ _
    have up : ∀ (h3 : Heap), (∀ b o, b ∉ [h2.objs.size] → (h2.push { cls := .type "range_iterator", data := .fields #[rawInt 0, rawInt (Builtin.Range.rangeSize 0 mm 1), rawInt 1] }).get? b = some o → h3.get? b = some o) → Grow h2 h3 :=
     fun h3 hk b o eo=>hk b o (fun hm=>by rcases memc hm with rfl | hm;exact Nat.lt_irrefl _ (Heap.lt_size eo);exact nM hm) (Heap.get?_push_of_some _ eo)
    obtain ⟨hall,hlen⟩:=cmprL_each hl
    have hran : (ranI mm).length = mm.toNat:=by simp [ranI]
    have hget : ∀ i,i < mm.toNat → (ranI mm)[i]? = some (i : Int):=fun i hi=>by simp [ranI,hi]
    have inner : ∀ (C : Addr) (v : Value) (i : Nat) (s₃ : Shared) (m₃ : Str → Option Value),h2.objs.size ≤ C → i < mm.toNat → (∃ t,v = .int (0 + (i : Nat) * 1) t) → s₃.heap.Ns C m₃ → m₃ x = some v → Grow h2 s₃.heap →
      ∃ t,A5 (v = .int (i : Int) t) (Ev { k with KK:=Grow } A (compEnvC scope cl C env) Γ0 (relab scope.names sc) fnm) (Bs k.c k.fs k.X p' s₃.heap) (Vs k.c k.fs (compEnvC scope cl C env) k.X (nmIn scope.names sc j x nm) (vs.set j (.val (.int (i : Int)))) s₃.heap) (∃ o,cmpF elt cnd vs j p' i = some o):=by
     intro C v i s₃ m₃ hC hi hvi hn3 hm3 g
     obtain ⟨t,rfl⟩:=hvi
     have ei : (0 : Int) + (i : Nat) * 1 = (i : Int):=by lia
     rw [ei] at hm3 ⊢
     have b3:=b1.grow (g12.trans g)
     refine ⟨t,rfl,ev.inner hkind hcl2 hnc,b3,?_,hall _ (List.mem_of_getElem? (hget i hi))⟩
     have hC1 : h1.objs.size ≤ C:=Nat.le_trans (by refine (hh2).symm.symm ▸ ?_;rw [Heap.size_push];exact Nat.le_succ _) hC
     exact Vs.inner ev hkind hcl1 hcl2 hxr b1 hC1 (g12.trans g) hn3 hm3 hj (ev.up hb k1 hv)
    refine wpAny_pyIter_range (a:=0) (b:=mm) (c:=1) (by exact (hh2).symm.symm ▸ IsRange.new ..) (small_one (by lia) (by lia) (by lia) (by lia))
     ⟨h2.objs.size,[h2.objs.size],[h2.objs.size],mm.toNat,_,_,rfl,(Walks.range ev.hh _ 0 1 mm.toNat).bound,by refine (sizeLine_eq).symm ▸ ?_;lia,(by show IsRangeIter _ _ _ _ _;refine (hsz).symm ▸ ?_;simpa using Heap.get?_push_size _ rfl),?_,⟨?_,?_⟩,?_⟩
    ·intro b hb
     show b < (h2.push _).objs.size
     rw [Heap.size_push]
     rcases memc hb with rfl | hb
     ·exact Nat.lt_succ_self _
     ·exact nM hb
    ·intro C i v s₃ m₃ E' hC hP hn' hm hk _
     obtain ⟨t',rfl,ev',b3,v3,o,ho⟩:=inner C v i s₃ m₃ (Nat.le_of_succ_le (by simpa [Heap.size_push] using hC)) hP.1 hP.2 hn' hm (up _ hk)
     unfold cmpF at ho
     obtain ⟨c,hcc,_⟩:=binS ho
     have hp : (c == true) = cmpP cnd vs j p' (.int i t'):=by
      show _ = (okO _ == some true)
      refine (hcc).symm ▸ ?_;cases c <;> rfl
     have run : ∀ q,relE fnm cnd (relab scope.names sc) (nmIn scope.names sc j x nm) q = true → wpAny (model k.c.prog k.c.w) A (isTrue q (compEnvC scope cl C env) (eval q (compEnvC scope cl C env))) (fun ok s₄=>ok = cmpP cnd vs j p' (.int i t') ∧ Keeps s₃ s₄) E' s₃:=by
      intro q hq
      refine hc ev' hq b3 v3 ?_
      cases hr2 : cevB Γ0 cnd (vs.set j (.val (.int i))) p' with
      | ok c' p'' =>
       obtain rfl:=sI ((hr2) ▸ hcc)
       intro b h4 tk4 g4 _ e4
       subst e4
       exact ⟨by refine Eq.trans ?_ (hp).symm.symm;cases b <;> rfl,h4,tk4,rfl,g4⟩
      | exc _ _ _=>cases (hr2) ▸ hcc
      | fail=>exact nS ((hr2) ▸ hcc)
     cases ifs with
     | nil =>
      cases isLT_eq hrc
      refine wpAny_tests_nil ⟨?_,s₃.heap,s₃.toks,rfl,fun Z Z e=>e⟩
      refine (hp).symm.trans ?_
      simp only [cevB,truV,RE.ofO,okO] at hcc
      obtain rfl:=sI hcc
      rfl
     | cons q r=>exact ln_inv (show ln _ r = true from hrc) fun er hrc=>by subst er;exact wpAny_tests_one (run _ hrc)
    ·intro C i v s₃ m₃ E' hC hP hp hn' hm hk _
     obtain ⟨t',rfl,ev',b3,v3,o,ho⟩:=inner C v i s₃ m₃ (Nat.le_of_succ_le (by simpa [Heap.size_push] using hC)) hP.1 hP.2 hn' hm (up _ hk)
     unfold cmpF at ho
     obtain ⟨c,hcc,ho⟩:=binS ho
     have hct : c = true:=by
      change (okO _ == some true) = true at hp
      replace hp:=(hcc) ▸ hp
      cases c
      ·exact fT hp
      ·rfl
     subst hct
     replace ho:=(if_pos rfl).symm.trans ho
     obtain ⟨d,hd',_⟩:=mapS ho
     refine he ev' hre b3 v3 ?_
     obtain ⟨d0,hd0,hfl⟩:=binS hd'
     obtain ⟨rfl,hany⟩:=flat_any hfl
     cases hr2 : cev Γ0 elt (vs.set j (.val (.int i))) p' with
     | ok d' p'' =>
      obtain rfl:=sI ((hr2) ▸ hd0)
      intro y h4 tk4 g4 _ r4
      exact ⟨⟨i,t',_,rfl,by exact (hr2).symm ▸ hfl,hany r4⟩,h4,tk4,rfl,g4⟩
     | exc _ _ _=>cases (hr2) ▸ hd0
     | fail=>exact nS ((hr2) ▸ hd0)
    ·intro D h' tk ys us hnew hlD hplD hlen' hP hF hk
     have g2:=up h' hk
     have g1:=g12.trans g2
     refine h _ _ _ (ev.ko.grow g1) (b1.grow g1) ⟨?_,D,ys.toList,rfl,fun q=>?_,by exact (Array.toArray_toList).symm ▸ hlD,?_⟩
     ·have : SZ = 16777216:=rfl
      lia
     ·obtain ⟨o,ho,_⟩:=b1.live D q
      have := Heap.get?_push_of_some (h := h2) { cls := .type "range_iterator", data := .fields #[rawInt 0, rawInt (Builtin.Range.rangeSize 0 mm 1), rawInt 1] } (g12 _ _ ho)
      exact sN ((this).symm.trans hnew)
     ·refine cmp_reps (us:=us) (by exact (hlen').trans (hran).symm) (fun n' i hi=>?_) hl hF _ _ _ _
      have hn' : n' < mm.toNat:=by
       have:=(List.getElem?_eq_some_iff.mp hi).1
       rwa [hran] at this
      obtain rfl:=sI ((hget n' hn').symm.trans hi)
      cases hu : us[n']? with
      | none=>rw [List.getElem?_eq_none_iff] at hu;lia
      | some v =>
       obtain ⟨_,t',rfl⟩:=hP n' v hu
       exact ⟨t',by simp⟩
   ·exact (PE.iff hmm h).elim
 refine gG fun P0 hP0=>?_
 cases hx : cev Γ n vs p with
 | ok d p'=>refine hP0 ?_;exact main p' fun x p'' q=>by obtain ⟨rfl,rfl⟩:=okI ((hx).symm.trans q);rfl
 | exc t c p'=>refine hP0 ?_;exact main 0 fun x p'' q=>by cases (hx).symm.trans q
 | fail=>refine hP0 ?_;exact main 0 fun x p'' q=>by exact fOk ((hx).symm.trans q)
theorem p1_nil : P1 fnm .nil:=by
 intro k A env Γ sc ev nm ex s p vs Q E hr
 exact absurd hr Bool.false_ne_true
theorem p1_cons (a r : CE) : P1 fnm (.cons a r):=by
 intro k A env Γ sc ev nm ex s p vs Q E hr
 exact absurd hr Bool.false_ne_true
theorem p2_not {e : CE} (h : ∀ Γ vs p,cevs Γ e vs p = .fail) : P2 fnm e:=by
 intro k A env Γ sc ev nm es ts s p vs Q E _ _ _ _ hh
 rw [h] at hh;exact hh.elim
theorem p3_no {e : CE} (h : ∀ Γ vs p,cevB Γ e vs p = .fail) : P3 fnm e:=by
 intro k A env Γ sc ev nm ex s p vs Q E _ _ _ hh
 rw [h] at hh;exact hh.elim
theorem ev_snd : ∀ e : CE,P1 fnm e ∧ P2 fnm e ∧ P3 fnm e
 | .lit v=>⟨p1_lit v,p2_not fun Z Z Z=>rfl,p3_lit v⟩
 | .var i=>⟨p1_var i,p2_not fun Z Z Z=>rfl,p3_var i⟩
 | .bin o a b=>⟨p1_bin (ev_snd a).1 (ev_snd b).1,p2_not fun Z Z Z=>rfl,p3_no fun Z Z Z=>rfl⟩
 | .neg a=>⟨p1_neg (ev_snd a).1,p2_not fun Z Z Z=>rfl,p3_no fun Z Z Z=>rfl⟩
 | .not a=>⟨p1_not (ev_snd a).1,p2_not fun Z Z Z=>rfl,p3_not (ev_snd a).2.2⟩
 | .and a b=>⟨p1_and (ev_snd a).1 (ev_snd b).1,p2_not fun Z Z Z=>rfl,p3_and (ev_snd a).2.2 (ev_snd b).2.2⟩
 | .or a b=>⟨p1_or (ev_snd a).1 (ev_snd b).1,p2_not fun Z Z Z=>rfl,p3_or (ev_snd a).2.2 (ev_snd b).2.2⟩
 | .ite t a b=>⟨p1_ite (ev_snd t).2.2 (ev_snd a).1 (ev_snd b).1,p2_not fun Z Z Z=>rfl,p3_ite (ev_snd t).2.2 (ev_snd a).2.2 (ev_snd b).2.2⟩
 | .cmp a o b=>⟨p1_cmp (ev_snd a).1 (ev_snd b).1,p2_not fun Z Z Z=>rfl,p3_cmp (ev_snd a).1 (ev_snd b).1⟩
 | .cmp2 a o b o' c=>⟨p1_cmp2 (ev_snd a).1 (ev_snd b).1 (ev_snd c).1,p2_not fun Z Z Z=>rfl,p3_cmp2 (ev_snd a).1 (ev_snd b).1 (ev_snd c).1⟩
 | .call f as=>⟨p1_call (ev_snd as).2.1,p2_not fun Z Z Z=>rfl,p3_call (ev_snd as).2.1⟩
 | .bi b as=>⟨p1_bi (ev_snd as).2.1,p2_not fun Z Z Z=>rfl,p3_no fun Z Z Z=>rfl⟩
 | .meth b o as=>⟨p1_meth (ev_snd o).1 (ev_snd as).2.1,p2_not fun Z Z Z=>rfl,p3_no fun Z Z Z=>rfl⟩
 | .joinv i=>⟨p1_joinv i,p2_not fun Z Z Z=>rfl,p3_no fun Z Z Z=>rfl⟩
 | .item a i=>⟨p1_item (ev_snd a).1 (ev_snd i).1,p2_not fun Z Z Z=>rfl,p3_no fun Z Z Z=>rfl⟩
 | .itemD i e=>⟨p1_itemD (ev_snd e).1,p2_not fun Z Z Z=>rfl,p3_no fun Z Z Z=>rfl⟩
 | .slc a lo hi=>⟨p1_slc (ev_snd a).1 (ev_snd lo).1 (ev_snd hi).1,p2_not fun Z Z Z=>rfl,p3_no fun Z Z Z=>rfl⟩
 | .tup es=>⟨p1_tup (ev_snd es).2.1,p2_not fun Z Z Z=>rfl,p3_no fun Z Z Z=>rfl⟩
 | .lst es=>⟨p1_lst (ev_snd es).2.1,p2_not fun Z Z Z=>rfl,p3_no fun Z Z Z=>rfl⟩
 | .dct ks ds=>⟨p1_dct ks ds,p2_not fun Z Z Z=>rfl,p3_no fun Z Z Z=>rfl⟩
 | .cmpr j n elt cnd=>⟨p1_cmpr (ev_snd n).1 (ev_snd elt).1 (ev_snd cnd).2.2,p2_not fun Z Z Z=>rfl,p3_no fun Z Z Z=>rfl⟩
 | .nil=>⟨p1_nil,p2_nil,p3_no fun Z Z Z=>rfl⟩
 | .cons a r=>⟨p1_cons a r,p2_cons (ev_snd a).1 (ev_snd r).2.1,p3_no fun Z Z Z=>rfl⟩
theorem evX_snd {e : CE} (ev : Ev k A env Γ sc fnm) {nm : List (Option Str)} {ex : Expr} {s : Shared} {p : Int} {vs : List Sl} {Q : Value → Shared → Prop} {E : Value → Shared → Prop}
  (hr : relE fnm e sc nm ex = true) (hb : Bs k.c k.fs k.X p s.heap) (hv : Vs k.c k.fs env k.X nm vs s.heap) (h : PE k s (fun h v d=>Out k.c h k.X v d) (cevX Γ e vs p) Q E) :
  wpAny (model k.c.prog k.c.w) A (eval ex env) Q E s:=by
 by_cases hc : Ex2 fun f as=>e = .call f as
 ·obtain ⟨f,as,rfl⟩:=hc
  exact call_snd (ev_snd as).2.1 ev hr hb hv h
 ·have hx : cevX Γ e vs p = cev Γ e vs p:=by
   cases e <;> first | rfl | exact absurd ⟨_,_,rfl⟩ hc
  replace h:=PE.re (hx) h
  refine (ev_snd e).1 ev hr hb hv ?_
  cases hq : cev Γ e vs p with
  | ok d p' =>
   replace h:=PE.re (hq) h
   intro b h' tk' kk bb r
   refine h b h' tk' kk bb ?_
   cases d <;> first | exact r | exact r.elim
  | exc _ _ _=>rw [hq] at h;exact h
  | fail=>rw [hq] at h;exact h
end
end
section
open PySem PySem.W PyProof.Rows
structure Fn where
 c : Cx
 env : Env
 outer : List Env
 L : Addr
 X0 : List Addr
 nm : List (Option Str)
 sc : Sc
 fnm : List Str
 A : Around
 Γ : Gam
noncomputable def Fn.fs (F : Fn) : List Env:=F.env :: F.outer
noncomputable def Fn.ok (F : Fn) (v : Value) : Prop:=v = .none ∨ v = rawInt F.L
noncomputable def Fn.k (F : Fn) (X : List Addr) : Kt:=⟨F.c,F.fs,X,F.ok,KpF F.c F.fs⟩
noncomputable def ExcCls (base : Heap) (C : Addr) : Prop := (Ex8 fun (nm : Str) (q : Str) (N : Addr) (bs : List Value) (bm : List Value) (hdct : Bool) (sn : List Str) (sub : List Value) => Ex8 fun (ab : Bool) (col : Option Bool) (dd : Option Addr) (k0 : Option Value) (k1 : Option Value) (k2 : Option Value) (k3 : Option Value) (k5 : Option Value) => ∃ newId : String, base.get? C = some (excClassObj nm q C N bs bm hdct sn sub ab col dd k0 k1 k2 k3 k5 newId) ∧ bm.contains (.type "BaseException") = true)
structure FnOk (F : Fn) : Prop where
 cls : ExcCls F.c.base F.c.C
 inter : interactive F.env = false
 paN : F.c.pa ≠ 0 → F.c.base.get? F.c.pa = none
 frame : F.env.frame = some F.L
 hfr : F.A.frames = some F.fs
 ev : ∀ X,Ev (F.k X) F.A F.env F.Γ F.sc F.fnm
 inj : ∀ y z c,F.env.cells.lookup y = some c → F.env.cells.lookup z = some c → y = z
 locc : ∀ y c,F.env.cells.lookup y = some c → c ≠ F.env.locals
 stb : ∀ b ∈ stor F.env,F.c.base.get? b = none ∧ b ≠ F.c.pa
 nmd : ∀ (i j : Nat) (x : Str),F.nm[i]? = some (some x) → F.nm[j]? = some (some x) → i = j
noncomputable def SlotS (F : Fn) (O X : List Addr) (h : Heap) (x : Str) : Sl → Prop
 | .un=>True
 | .val d=>∃ v,Acc F.env h x v ∧ Rep F.c.w h X F.c.pa v d
 | .own ds=>ds.length ≤ SZ ∧ Ex2 fun a vs=>A4 (Acc F.env h x (.ref a)) (a ∈ O) (h.PlainList a vs.toArray) (Reps F.c.w h X F.c.pa vs ds)
 | .ownD kv=>Ex2 fun a vs=>A4 (Acc F.env h x (.ref a)) (a ∈ O) (h.DictOf (intKind F.c.prog F.c.w) a ((kv.map (·.1)).zip vs)) (Reps F.c.w h X F.c.pa vs (kv.map (·.2)))
structure Inv (F : Fn) (O X : List Addr) (vs : List Sl) (p : Int) (h : Heap) : Prop where
 bs : Bs F.c F.fs X p h
 sl : ∀ (i : Nat) (x : Str) (sl : Sl),F.nm[i]? = some (some x) → vs[i]? = some sl → SlotS F O X h x sl
 ns : ∃ m,h.Ns F.env.locals m
 cel : ∀ y c,F.env.cells.lookup y = some c → ∃ v,h.IsCell c v
 stx : ∀ b ∈ stor F.env,b ∈ X
 oin : ∀ a ∈ O,a ∈ X ∧ a ∉ F.c.pa :: frs F.fs ∧ a ∉ stor F.env ∧ a ∉ F.X0 ∧ F.c.base.get? a = none
 x0 : ∀ a ∈ F.X0,a ∈ X
 one : ∀ (i j : Nat) (s t : Sl),vs[i]? = some s → vs[j]? = some t → s.isOwn = true → t.isOwn = true → i = j
structure Stp (F : Fn) (O X : List Addr) (h : Heap) (O' X' : List Addr) (h' : Heap) : Prop where
 same : ∀ b o,b ∉ O → b ∉ F.c.pa :: frs F.fs → b ∉ stor F.env → h.get? b = some o → Nrm o → h'.get? b = some o
 slots : ∀ b o,b ≠ F.c.pa → b ∉ O → b ∉ stor F.env → h.get? b = some o → Nrm o → ∃ sl,h'.get? b = some { o with slots:=sl }
 newO : ∀ a ∈ O',a ∈ O ∨ Nov h a
 newX : ∀ a ∈ X',a ∈ X ∨ Nov h a
 subX : ∀ a ∈ X,a ∈ X'
 offO : ∀ a ∈ O',a ≠ F.c.pa ∧ a ∉ stor F.env
section
variable {F : Fn} {O X O' X' O'' X'' : List Addr} {vs : List Sl} {p p' : Int} {h h' h'' : Heap}
theorem Inv.ost (i : Inv F O X vs p h) : ∀ a ∈ O,a ≠ F.c.pa ∧ a ∉ stor F.env:=fun a ha=>⟨fun e=>(i.oin a ha).2.1 (by exact (e).symm ▸ List.mem_cons_self),(i.oin a ha).2.2.1⟩
theorem Stp.refl (i : Inv F O X vs p h) : Stp F O X h O X h:=⟨fun Z Z Z Z Z e Z=>e,fun Z o Z Z Z e Z=>⟨o.slots,e⟩,fun Z a=>.inl a,fun Z a=>.inl a,fun Z a=>a,i.ost⟩
theorem Stp.nrm (a : Stp F O X h O' X' h') {x : Addr} {o : Obj} (h1 : x ≠ F.c.pa) (h2 : x ∉ O) (h3 : x ∉ stor F.env) (e : h.get? x = some o) (hn : Nrm o) : ∃ o',h'.get? x = some o' ∧ Nrm o' :=
 (by obtain ⟨_,e'⟩:=a.slots x o h1 h2 h3 e hn;exact ⟨_,e',hn.slots⟩)
theorem Stp.trans (i : Inv F O X vs p h) (a : Stp F O X h O' X' h') (b : Stp F O' X' h' O'' X'' h'') : Stp F O X h O'' X'' h'' where
 same:=fun x o h1 h2 h3 e hn=>by
  have e':=a.same x o h1 h2 h3 e hn
  refine b.same x o (fun q=>?_) h2 h3 e' hn
  rcases a.newO x q with q | q
  ·exact h1 q
  ·exact q o e hn
 slots:=fun x o h1 h2 h3 e hn=>by
  obtain ⟨sl,e'⟩:=a.slots x o h1 h2 h3 e hn
  obtain ⟨sl',e''⟩:=b.slots x _ h1 (fun q=>by
   rcases a.newO x q with q | q
   ·exact h2 q
   ·exact q o e hn) h3 e' hn.slots
  exact ⟨sl',e''⟩
 newO:=fun x hx=>by
  rcases b.newO x hx with q | q
  ·exact a.newO x q
  ·by_cases hO : x ∈ O
   ·exact .inl hO
   ·refine .inr fun o e hn=>?_
    obtain ⟨h1,h2⟩:=b.offO x hx
    obtain ⟨o',e',hn'⟩:=a.nrm h1 hO h2 e hn
    exact q o' e' hn'
 newX:=fun x hx=>by
  rcases b.newX x hx with q | q
  ·exact a.newX x q
  ·by_cases hX : x ∈ X
   ·exact .inl hX
   ·refine .inr fun o e hn=>?_
    obtain ⟨o',e',hn'⟩:=a.nrm (fun (q : x = F.c.pa)=>hX (by exact (q).symm ▸ i.bs.pin)) (fun q=>hX (i.oin x q).1) (fun q=>hX (i.stx x q)) e hn
    exact q o' e' hn'
 subX:=fun x hx=>b.subX x (a.subX x hx)
 offO:=b.offO
theorem Stp.sm (i : Inv F O X vs p h) (a : Stp F O X h O' X' h') : Sm X h h':=fun b o hb e hn =>
 a.same b o (fun q=>hb (i.oin b q).1) (fun q=>by
  rcases memc q with rfl | q
  ·exact hb i.bs.pin
  ·exact hb (i.bs.fin b q)) (fun q=>hb (i.stx b q)) e (.inl hn)
theorem Stp.rep (i : Inv F O X vs p h) (a : Stp F O X h O' X' h') {v : Value} {d : V} (r : Rep F.c.w h X F.c.pa v d) : Rep F.c.w h' X' F.c.pa v d:=Rep.sm (a.sm i) a.newX d v r
theorem Stp.reps (i : Inv F O X vs p h) (a : Stp F O X h O' X' h') {v : List Value} {d : List V} (r : Reps F.c.w h X F.c.pa v d) : Reps F.c.w h' X' F.c.pa v d:=Reps.sm (a.sm i) a.newX d v r
theorem SlotS.at (hO : ∀ a ∈ O,a ∈ X ∧ a ∉ F.c.pa :: frs F.fs ∧ a ∉ stor F.env ∧ a ∉ F.X0 ∧ F.c.base.get? a = none) {x : Str} {sl : Sl} (y : SlotS F O X h x sl) : SlotAt F.c F.fs F.env X h x sl:=by
 cases sl with
 | un=>trivial
 | val d=>exact y
 | own ds=>obtain ⟨hz,a,us,ac,ho,hl,r⟩:=y;obtain ⟨h1,h2,h3,_⟩:=hO a ho;exact ⟨hz,a,us,ac,h1,h2,h3,hl.isList,r⟩
 | ownD kv=>obtain ⟨a,us,ac,ho,hl,r⟩:=y;obtain ⟨h1,h2,h3,_⟩:=hO a ho;exact ⟨a,us,ac,h1,h2,h3,hl,r⟩
theorem Inv.vat (fo : FnOk F) (i : Inv F O X vs p h) : Vs F.c F.fs F.env X F.nm vs h :=
 ⟨fun b hb=>(fo.stb b hb).2,fun n x sl e1 e2=>(i.sl n x sl e1 e2).at i.oin⟩
theorem ns_slots {a : Addr} {m : Str → Option Value} (x : h.Ns a m) (k : ∀ o,h.get? a = some o → Nrm o → ∃ sl,h'.get? a = some { o with slots:=sl }) : h'.Ns a m:=by
 refine gG fun P0 hP0=>?_
 obtain ⟨o,es,ep,e,hd,r⟩:=x
 obtain ⟨sl,e'⟩:=k o e (.inl fun Z q=>by exact PySem.Data.noConfusion ((hd).symm.trans q))
 refine hP0 ?_
 exact ⟨_,es,ep,e',hd,r⟩
theorem cell_slots {a : Addr} {v : Option Value} (x : h.IsCell a v) (k : ∀ o,h.get? a = some o → Nrm o → ∃ sl,h'.get? a = some { o with slots:=sl }) : h'.IsCell a v:=by
 obtain ⟨o,e,hd⟩:=x
 obtain ⟨sl,e'⟩:=k o e (.inl fun Z q=>by exact PySem.Data.noConfusion ((hd).symm.trans q))
 exact ⟨_,e',hd⟩
theorem plain_at {a : Addr} {items : Array Value} (x : h.PlainList a items) (hk : ∀ o,h.get? a = some o → Nrm o → h'.get? a = some o) : h'.PlainList a items :=
 (by obtain ⟨n,e⟩:=x;exact ⟨n,hk _ e (.inl fun Z q=>by exact PySem.Data.noConfusion q)⟩)
theorem ns_uniq {a : Addr} {m m' : Str → Option Value} (x : h.Ns a m) (y : h.Ns a m') : m = m':=by
 refine gG fun P0 hP0=>?_
 obtain ⟨o,es,ep,e,hd,r⟩:=x
 obtain ⟨o',es',ep',e',hd',r'⟩:=y
 refine hP0 ?_
 obtain rfl:=sI ((e).symm.trans e')
 obtain ⟨rfl,rfl⟩:=Data.dict.inj ((hd).symm.trans hd')
 exact funext fun k=>by first | exact (r k).symm.trans (r' k) | exact (r.2 k).symm.trans (r'.2 k)
theorem mem_stor_locals {env : Env} : env.locals ∈ stor env:=List.mem_cons_self
theorem Inv.expr (fo : FnOk F) (i : Inv F O X vs p h) (k : KpF F.c F.fs h h') (b : Bs F.c F.fs X p' h') : Inv F O X vs p' h' where
 bs:=b
 sl:=fun n x sl e1 e2=>by
  have y:=i.sl n x sl e1 e2
  have ka : ∀ b o,b ∈ stor F.env → h.get? b = some o → Nrm o → ∃ sl,h'.get? b = some { o with slots:=sl }:=fun b o hb e hn=>k.slots b o (fo.stb b hb).2 e hn
  have kx:=i.bs.kpX k
  cases sl with
  | un=>trivial
  | val d=>obtain ⟨v,a,r⟩:=y;exact ⟨v,a.up ka,r.kp kx fun Z h=>h⟩
  | own ds=>obtain ⟨hz,a,us,ac,ho,hl,r⟩:=y;exact ⟨hz,a,us,ac.up ka,ho,plain_at hl fun o=>k.same a o (i.oin a ho).2.1,r.kp kx fun Z h=>h⟩
  | ownD kv=>obtain ⟨a,us,ac,ho,hl,r⟩:=y;exact ⟨a,us,ac.up ka,ho,dictOf_at hl fun o=>k.same a o (i.oin a ho).2.1,r.kp kx fun Z h=>h⟩
 ns:=(by obtain ⟨m,n⟩:=i.ns;exact ⟨m,ns_slots n fun o e hn=>k.slots _ o (fo.stb _ mem_stor_locals).2 e hn⟩)
 cel:=fun y c e=>(by obtain ⟨v,n⟩:=i.cel y c e;exact ⟨v,cell_slots n fun o e' hn=>k.slots _ o (fo.stb _ (mem_stor e)).2 e' hn⟩)
 stx:=i.stx
 oin:=i.oin
 x0:=i.x0
 one:=i.one
theorem Stp.expr (i : Inv F O X vs p h) (k : KpF F.c F.fs h h') : Stp F O X h O X h' :=
 ⟨fun b o Z h2 Z e hn=>k.same b o h2 e hn,fun b o h1 Z Z e hn=>k.slots b o h1 e hn,fun Z a=>.inl a,fun Z a=>.inl a,fun Z a=>a,i.ost⟩
theorem Bs.poke {c : Cx} {fs : List Env} {b : Addr} (x : Bs c fs X p h) (hb : b ≠ c.pa) (hbase : c.base.get? b = none) (hk : ∀ a o,a ≠ b → h.get? a = some o → h'.get? a = some o)
  (ho : ∃ o,A3 (h'.get? b = some o) (Nrm o) (b ∈ frs fs → ∀ vs,o.data ≠ .fields vs)) : Bs c fs X p h':=by
 have st : c.base.StaysIn h':=fun a o e=>hk a o (fun q=>by replace e:=(q) ▸ e;replace e:=(hbase).symm.trans e;exact nS e) (x.stays a o e)
 refine ⟨st,funFrames_up x.frames fun a o ha e hn=>?_,fun hz=>?_,x.sys,x.pin,x.fin,x.paf,fun a ha=>?_,x.zero⟩
 ·by_cases hab : a = b
  ·subst hab
   obtain ⟨o',e',_,hf⟩:=ho
   exact ⟨o',e',hf ha⟩
  ·exact ⟨o,hk a o hab e,hn⟩
 ·obtain ⟨t,hl⟩:=x.pen hz
  exact ⟨t,isList_at hl fun o e Z=>hk _ o (Ne.symm hb) e⟩
 ·by_cases hab : a = b
  ·subst hab
   obtain ⟨o',e',hn,_⟩:=ho
   exact ⟨o',e',hn⟩
  ·obtain ⟨o,e,hn⟩:=x.live a ha
   exact ⟨o,hk a o hab e,hn⟩
theorem Bs.more {c : Cx} {fs : List Env} {b : Addr} (x : Bs c fs X p h) (ho : ∃ o,h.get? b = some o ∧ Nrm o) : Bs c fs (b :: X) p h :=
 ⟨x.stays,x.frames,x.pen,List.mem_cons_of_mem _ x.sys,List.mem_cons_of_mem _ x.pin,fun a ha=>List.mem_cons_of_mem _ (x.fin a ha),x.paf,fun a ha=>by
  rcases memc ha with rfl | ha
  ·exact ho
  ·exact x.live a ha,x.zero⟩
theorem Stp.poke (i : Inv F O X vs p h) (hk : ∀ a o,a ∉ O → a ∉ stor F.env → h.get? a = some o → h'.get? a = some o) : Stp F O X h O X h' :=
 ⟨fun b o h1 Z h3 e Z=>hk b o h1 h3 e,fun b o Z h2 h3 e Z=>⟨o.slots,hk b o h2 h3 e⟩,fun Z a=>.inl a,fun Z a=>.inl a,fun Z a=>a,i.ost⟩
theorem Acc.other {env : Env} {b : Addr} {x : Str} {v : Value} (a : Acc env h x v) (hk : ∀ c ∈ stor env,c ≠ b → ∀ o,h.get? c = some o → h'.get? c = some o)
  (hb : ∀ c ∈ stor env,c ≠ b) : Acc env h' x v :=
 a.up fun c o hc e Z=>⟨o.slots,hk c hc (hb c hc) o e⟩
theorem sto_snd (fo : FnOk F) {A : Around} {s : Shared} {n : Nat} {x : Str} {v : Value} {sl : Sl} {Q : Unit → Shared → Prop} {E : Value → Shared → Prop} (i : Inv F O X vs p s.heap) (hr : stoB F.sc F.nm n x = true)
  (hone : sl.isOwn = true → ∀ (m : Nat) (t : Sl),vs[m]? = some t → t.isOwn = true → m = n)
  (hs : ∀ h',(∀ a o,a ∉ stor F.env → s.heap.get? a = some o → h'.get? a = some o) → Acc F.env h' x v → SlotS F O X h' x sl)
  (h : ∀ h' tk',Stp F O X s.heap O X h' → (∀ a o,a ∉ stor F.env → s.heap.get? a = some o → h'.get? a = some o) → Inv F O X (vs.set n sl) p h' → Acc F.env h' x v → Q () { s with heap:=h',toks:=tk' }) : wpAny (model F.c.prog F.c.w) A (storeName F.env x v) Q E s:=by
 have hkd:=Bool.or_eq_true_iff.mp (and2 hr).2
 have hnm:=(nmAt_get (and2 hr).1).1
 have ev:=fo.ev X
 have fin : ∀ b h' tk',b ∈ stor F.env → Heap.SameBut b s.heap h' → (∃ o,h'.get? b = some o ∧ ∀ vs,o.data ≠ .fields vs) → Acc F.env h' x v → (∃ m,h'.Ns F.env.locals m) → (∀ y c,F.env.cells.lookup y = some c → ∃ v,h'.IsCell c v) →
   (∀ y u,y ≠ x → Acc F.env s.heap y u → Acc F.env h' y u) → Q () { s with heap:=h',toks:=tk' }:=by
  intro b h' tk' hb hsb ho hacc hns hcel hoth
  have hkb : ∀ a o,a ≠ b → s.heap.get? a = some o → h'.get? a = some o:=fun a o ha e=>(hsb.2 a ha).trans e
  have hk : ∀ a o,a ∉ stor F.env → s.heap.get? a = some o → h'.get? a = some o:=fun a o ha e=>hkb a o (fun q=>ha (q ▸ hb)) e
  have st : Stp F O X s.heap O X h':=Stp.poke i fun a o Z h2 e=>hk a o h2 e
  refine h h' tk' st hk ⟨i.bs.poke (fo.stb b hb).2 (fo.stb b hb).1 hkb (by
   obtain ⟨o,e,hd⟩:=ho
   exact ⟨o,e,.inl hd,fun Z=>hd⟩),fun m y sl' e1 e2=>?_,hns,hcel,i.stx,i.oin,i.x0,fun m1 m2 t1 t2 e1 e2 o1 o2=>?_⟩ hacc
  ·by_cases hm : n = m
   ·subst hm
    obtain rfl:=sI (sI ((hnm).symm.trans e1))
    replace e2:=(List.getElem?_set).symm.trans e2
    simp only [if_true] at e2
    split at e2
    ·obtain rfl:=sI e2;exact hs h' hk hacc
    ·exact nS e2
   ·replace e2:=(List.getElem?_set_ne hm).symm.trans e2
    have hy : y ≠ x:=fun q=>hm (fo.nmd n m x hnm (by rw [e1,q]))
    have z:=i.sl m y sl' e1 e2
    cases sl' with
    | un=>trivial
    | val d=>obtain ⟨u,a,r⟩:=z;exact ⟨u,hoth y u hy a,st.rep i r⟩
    | own ds=>obtain ⟨hz,a,us,ac,ho',hl,r⟩:=z;exact ⟨hz,a,us,hoth y _ hy ac,ho',plain_at hl fun o e Z=>hk a o (i.oin a ho').2.2.1 e,st.reps i r⟩
    | ownD kv=>obtain ⟨a,us,ac,ho',hl,r⟩:=z;exact ⟨a,us,hoth y _ hy ac,ho',dictOf_at hl fun o e Z=>hk a o (i.oin a ho').2.2.1 e,st.reps i r⟩
  ·rw [List.getElem?_set] at e1 e2
   by_cases h1 : n = m1 <;> by_cases h2 : n = m2
   ·lia
   ·replace e1:=(if_pos h1).symm.trans e1;replace e2:=(if_neg h2).symm.trans e2
    split at e1
    ·obtain rfl:=sI e1;have:=hone o1 m2 t2 e2 o2;lia
    ·exact nS e1
   ·replace e1:=(if_neg h1).symm.trans e1;replace e2:=(if_pos h2).symm.trans e2
    split at e2
    ·obtain rfl:=sI e2;have:=hone o2 m1 t1 e1 o1;lia
    ·exact nS e2
   ·replace e1:=(if_neg h1).symm.trans e1;replace e2:=(if_neg h2).symm.trans e2
    exact i.one m1 m2 t1 t2 e1 e2 o1 o2
 rcases hkd with hl | hc
 ·have hkx : F.env.kindOf x = some .local:=(ev.kind_at x).trans (isL_eq hl)
  obtain ⟨m,hn⟩:=i.ns
  refine wpAny_storeName_local hkx hn (fun h' hn' hsb=>?_) (by refine (ev.kind).symm ▸ ?_;rfl)
  have hcel : ∀ y c v,F.env.cells.lookup y = some c → s.heap.IsCell c v → h'.IsCell c v:=fun y c v e hc =>
   cell_slots hc fun o e' Z=>⟨o.slots,(hsb.2 c (fo.locc y c e)).trans e'⟩
  refine fin _ h' _ mem_stor_locals hsb ?_ ⟨ev.kind,.inl ⟨hkx,_,hn',if_pos rfl⟩⟩ ⟨_,hn'⟩ (fun y c e=>(by obtain ⟨v,hc⟩:=i.cel y c e;exact ⟨v,hcel y c v e hc⟩)) fun y u hy a=>?_
  ·obtain ⟨o,es,ep,e,hd,_⟩:=hn'
   exact ⟨o,e,fun Z q=>by exact PySem.Data.noConfusion ((hd).symm.trans q)⟩
  ·obtain ⟨hk,⟨hly,m',hm',hu⟩ | ⟨c,hc,hi,hl'⟩⟩:=a
   ·refine ⟨hk,.inl ⟨hly,_,hn',?_⟩⟩
    refine (if_neg hy).trans ?_
    exact (ns_uniq hn hm').symm ▸ hu
   ·exact ⟨hk,.inr ⟨c,hc,hcel y c _ hc hi,hl'⟩⟩
 ·have hkx : F.env.kindOf x = some .cell:=(ev.kind_at x).trans (isC_eq hc)
  obtain ⟨c,hcl⟩:=ev.cells x hc
  obtain ⟨v0,hc0⟩:=i.cel x c hcl
  refine wpAny_storeName_cell ev.kind hkx hcl hc0 fun h' hc' hsb=>?_
  obtain ⟨m,hn⟩:=i.ns
  have hns : ∀ m,s.heap.Ns F.env.locals m → h'.Ns F.env.locals m:=fun m n=>ns_slots n fun o e Z=>⟨o.slots,(hsb.2 _ (Ne.symm (fo.locc x c hcl))).trans e⟩
  have hcel : ∀ c' v,c' ≠ c → s.heap.IsCell c' v → h'.IsCell c' v:=fun c' v hne hc =>
   cell_slots hc fun o e' Z=>⟨o.slots,(hsb.2 c' hne).trans e'⟩
  refine fin _ h' s.toks (mem_stor hcl) hsb ?_ ⟨ev.kind,.inr ⟨c,hcl,hc',.inl hkx⟩⟩ ⟨m,hns m hn⟩ (fun y c' e=>?_) fun y u hy a=>?_
  ·obtain ⟨o,e,hd⟩:=hc'
   exact ⟨o,e,fun Z q=>by exact PySem.Data.noConfusion ((hd).symm.trans q)⟩
  ·by_cases hcc : c' = c
   ·subst hcc;exact ⟨_,hc'⟩
   ·obtain ⟨v,hv⟩:=i.cel y c' e
    exact ⟨v,hcel c' v hcc hv⟩
  ·obtain ⟨hk,⟨hly,m',hm',hu⟩ | ⟨c',hc1,hi,hl'⟩⟩:=a
   ·exact ⟨hk,.inl ⟨hly,m',hns m' hm',hu⟩⟩
   ·exact ⟨hk,.inr ⟨c',hc1,hcel c' _ (fun q=>hy (fo.inj y x c' hc1 (by exact (q).symm ▸ hcl))) hi,hl'⟩⟩
end
end
section
open PySem PySem.W PyProof.Rows
noncomputable def PS (F : Fn) (O X : List Addr) (s : Shared) (r : RS) (Q : Flow → Shared → Prop) (E : Value → Shared → Prop) : Prop :=
 match r with
 | .ok fl vs' p'=>∀ O' X' h' tk',Stp F O X s.heap O' X' h' → Inv F O' X' vs' p' h' →
   match fl with
   | .next=>Q .next { s with heap:=h',toks:=tk' }
   | .brk=>Q .brk { s with heap:=h',toks:=tk' }
   | .cont=>Q .cont { s with heap:=h',toks:=tk' }
   | .ret d=>∀ v,Out F.c h' F.X0 v d → Q (.ret v) { s with heap:=h',toks:=tk' }
 | .exc t cs p'=>∀ e O' X' h' tk',Stp F O X s.heap O' X' h' → Bs F.c F.fs X' p' h' → FlyAt F.c X' F.ok t cs e h' → (∃ m,h'.Ns F.env.locals m) → E e { s with heap:=h',toks:=tk' }
 | .fail=>False
section
variable {F : Fn} {O X O' X' O'' X'' : List Addr} {vs : List Sl} {p p' : Int} {h h' h'' : Heap} {s : Shared}
theorem PS.at (i : Inv F O X vs p s.heap) (st : Stp F O X s.heap O' X' h') {tk' : Nat} {r : RS} {Q : Flow → Shared → Prop} {E : Value → Shared → Prop} (h : PS F O X s r Q E) : PS F O' X' { s with heap:=h',toks:=tk' } r Q E:=by
 cases r with
 | fail=>exact h
 | ok fl vs' p'=>exact fun O2 X2 h2 t2 st2 i2=>h O2 X2 h2 t2 (st.trans i st2) i2
 | exc t cs p'=>exact fun e O2 X2 h2 t2 st2=>h e O2 X2 h2 t2 (st.trans i st2)
theorem PS.bindE (fo : FnOk F) (i : Inv F O X vs p s.heap) {α β : Type} {R : Heap → β → α → Prop} {a : RE α} {f : α → Int → RS} {Q : Flow → Shared → Prop} {E : Value → Shared → Prop} {Q' : β → Shared → Prop} (h : PS F O X s (a.bindS f) Q E)
  (g : ∀ d p' b h' tk',KpF F.c F.fs s.heap h' → Inv F O X vs p' h' → R h' b d → PS F O X { s with heap:=h',toks:=tk' } (f d p') Q E → Q' b { s with heap:=h',toks:=tk' }) : PE (F.k X) s R a Q' E:=by
 cases a with
 | fail=>exact h
 | ok d p'=>exact fun b h' tk' kk bb r=>g d p' b h' tk' kk (i.expr fo kk bb) r (PS.at i (.expr i kk) h)
 | exc t cs p'=>exact fun e h' tk' kk bb fl=>h e O X h' tk' (.expr i kk) bb fl (i.expr fo kk bb).ns
theorem PS.ofO {α : Type} {o : Option α} {p : Int} {f : α → Int → RS} {Q : Flow → Shared → Prop} {E : Value → Shared → Prop} (h : PS F O X s ((RE.ofO o p).bindS f) Q E) : ∃ d,o = some d ∧ PS F O X s (f d p) Q E:=by
 cases o with
 | none=>exact h.elim
 | some d=>exact ⟨d,rfl,h⟩
section
variable {Q : Flow → Shared → Prop} {E : Value → Shared → Prop}
theorem PS.re {r r' : RS} (e : r = r') (h : PS F O X s r Q E) : PS F O X s r' Q E:=e ▸ h
theorem PS.er {r r' : RS} (e : r = r') (h : PS F O X s r' Q E) : PS F O X s r Q E:=e ▸ h
theorem PS.ift {c : Prop} [Decidable c] {a b : RS} (hc : c) (h : PS F O X s (if c then a else b) Q E) : PS F O X s a Q E:=by rwa [if_pos hc] at h
theorem PS.iff {c : Prop} [Decidable c] {a b : RS} (hc : ¬ c) (h : PS F O X s (if c then a else b) Q E) : PS F O X s b Q E:=by rwa [if_neg hc] at h
theorem PS.own {o : Option Sl} {f : List V → RS} (h : PS F O X s (sO .fail f o) Q E) : ∃ l,o = some (.own l) ∧ PS F O X s (f l) Q E:=sO_k (P:=fun r=>PS F O X s r Q E) h id
theorem PS.ownD {o : Option Sl} {f : List (Int × V) → RS} (h : PS F O X s (sD .fail f o) Q E) : ∃ l,o = some (.ownD l) ∧ PS F O X s (f l) Q E:=sD_k (P:=fun r=>PS F O X s r Q E) h id
theorem PS.val {o : Option Sl} {f : V → RS} (h : PS F O X s (sV .fail f o) Q E) : ∃ x,o = some (.val x) ∧ PS F O X s (f x) Q E:=sV_k (P:=fun r=>PS F O X s r Q E) h id
theorem PS.pen {o : Option Sl} {r : RS} (h : PS F O X s (sV .fail (dP .fail r) o) Q E) : o = some (.val .pen) ∧ PS F O X s r Q E:=by
 obtain ⟨x,e,h⟩:=PS.val h
 subst e
 cases x <;> first | exact ⟨rfl,h⟩ | exact h.elim
end
noncomputable def QNext (F : Fn) (O X : List Addr) (s : Shared) (f : List Sl → Int → RS) (Q : Flow → Shared → Prop) (E : Value → Shared → Prop) (fl : Flow) (s' : Shared) : Prop :=
 match fl with
 | .next=>Ex6 fun vs' p' O' X' h' tk'=>A4 (s' = { s with heap:=h',toks:=tk' }) (Stp F O X s.heap O' X' h') (Inv F O' X' vs' p' h') (PS F O' X' s' (f vs' p') Q E)
 | fl=>Q fl s'
theorem PS.next (i : Inv F O X vs p s.heap) {r : RS} {f : List Sl → Int → RS} {Q : Flow → Shared → Prop} {E : Value → Shared → Prop} (h : PS F O X s (r.next f) Q E) : PS F O X s r (QNext F O X s f Q E) E:=by
 cases r with
 | fail=>exact h
 | exc t cs p'=>exact h
 | ok fl vs' p' =>
  cases fl with
  | next=>exact fun O' X' h' tk' st i'=>⟨vs',p',O',X',h',tk',rfl,st,i',PS.at i st h⟩
  | brk=>exact h
  | cont=>exact h
  | ret v=>exact h
variable {n : Nat}
noncomputable def S1 (F : Fn) (n : Nat) (cs : CS) : Prop:=∀ {O X : List Addr} {vs : List Sl} {p : Int} {s : Shared} {Q : Flow → Shared → Prop} {E : Value → Shared → Prop} {stmts : List Stmt},
 relS F.fnm cs F.sc F.nm stmts = true → Inv F O X vs p s.heap → PS F O X s (csx F.Γ n cs vs p) Q E → wpAny (model F.c.prog F.c.w) F.A (execs stmts F.env) Q E s
theorem rest_snd (_ : Inv F O X vs p s.heap) {k : CS} (hk : S1 F n k) {stmts : List Stmt} {Q : Flow → Shared → Prop} {E : Value → Shared → Prop} {st : Stmt} (hr : relS F.fnm k F.sc F.nm stmts = true)
  (h : wpAny (model F.c.prog F.c.w) F.A (exec st F.env) (QNext F O X s (csx F.Γ n k) Q E) E s) : wpAny (model F.c.prog F.c.w) F.A (execs (st :: stmts) F.env) Q E s:=by
 refine wpAny_execs_cons (wpAny_mono h (fun fl s' h'=>?_) fun Z Z e=>e)
 cases fl with
 | next =>
  obtain ⟨vs',p',O',X',h1,tk1,rfl,st,i',hp⟩:=h'
  exact hk hr i' hp
 | _=>exact h'
theorem s_done : S1 F n .done:=by
 intro O X vs p s Q E stmts hr i h
 refine ln_inv (show ln true stmts = true from hr) fun e0 Z=>?_
 clear hr
 subst e0
 exact wpAny_execs_nil (h O X s.heap s.toks (.refl i) i)
theorem noSwap {e : Expr} (hn : noComp e = true) (t : Option Expr) (l : Nat) (env : Env) : swapsWith e t l env = pure false:=by
 cases e <;> first | rfl | exact fT hn
theorem relE_ev (fo : FnOk F) {e : CE} {ex : Expr} {Q : Value → Shared → Prop} {E : Value → Shared → Prop} (hr : relE F.fnm e F.sc F.nm ex = true) (i : Inv F O X vs p s.heap) (h : PE (F.k X) s (RepK (F.k X)) (cev F.Γ e vs p) Q E) :
  wpAny (model F.c.prog F.c.w) F.A (eval ex F.env) Q E s :=
 (ev_snd e).1 (fo.ev X) hr i.bs (i.vat fo) h
theorem relE_evB (fo : FnOk F) {e : CE} {ex : Expr} {Q : Bool → Shared → Prop} {E : Value → Shared → Prop} (hr : relE F.fnm e F.sc F.nm ex = true) (i : Inv F O X vs p s.heap) (h : PE (F.k X) s (fun Z b d=>b = d) (cevB F.Γ e vs p) Q E) :
  wpAny (model F.c.prog F.c.w) F.A (isTrue ex F.env (eval ex F.env)) Q E s :=
 (ev_snd e).2.2 (fo.ev X) hr i.bs (i.vat fo) h
theorem put_snd (fo : FnOk F) {m : Nat} {x : Str} {v : Value} {d : V} {Q : Unit → Shared → Prop} {E : Value → Shared → Prop} (i : Inv F O X vs p s.heap) (hr : stoB F.sc F.nm m x = true) (hv : Rep F.c.w s.heap X F.c.pa v d)
  (h : ∀ h' tk',Stp F O X s.heap O X h' → Inv F O X (vs.set m (.val d)) p h' → Q () { s with heap:=h',toks:=tk' }) : wpAny (model F.c.prog F.c.w) F.A (storeName F.env x v) Q E s :=
 sto_snd (sl:=.val d) fo i hr (fun q=>by exact fT q) (fun h' hk a=>⟨v,a,(Stp.poke (h':=h') i fun a o Z h2 e=>hk a o h2 e).rep i hv⟩) fun h' tk' st Z i' Z=>h h' tk' st i'
theorem s_asg (fo : FnOk F) {m : Nat} {e : CE} {k : CS} (hk : S1 F n k) : S1 F n (.asg m e k):=by
 intro O X vs p s Q E stmts hr i h
 refine sAN_inv (show sAN _ stmts = true from hr) fun x px v pos r e0 hq=>?_
 clear hr
 subst e0
 refine rest_snd i hk (and2 hq).2 (wpAny_Assign_Name (relE_ev fo (and2 (and2 hq).1).2 i (PS.bindE fo i h fun d p1 b h1 tk1 kk i1 r1 h=>?_)) (noSwap (and2 (and2 (and2 hq).1).1).2 _ _ _))
 exact put_snd fo i1 (and2 (and2 (and2 hq).1).1).1 r1 fun h2 tk2 st i2=>⟨_,_,O,X,h2,tk2,rfl,(Stp.expr i kk).trans i st,i2,PS.at i1 st h⟩
theorem augV_cases {o : Op} {a b z : V} (h : augV o a b = some z) : (Ex2 fun x y=>A4 (o = .add) (a = .int x) (b = .int y) (z = .int (x + y))) ∨ (Ex2 fun x y=>A4 (o = .sub) (a = .int x) (b = .int y) (z = .int (x - y))):=by
 cases o <;> first | exact nomatch (show none = some z from h) | skip
 ·cases a <;> first | exact nomatch (show none = some z from h) | skip
  cases b <;> first | exact nomatch (show none = some z from h) | skip
  exact .inl ⟨_,_,rfl,rfl,rfl,(Option.some.inj h).symm⟩
 ·cases a <;> first | exact nomatch (show none = some z from h) | skip
  cases b <;> first | exact nomatch (show none = some z from h) | skip
  exact .inr ⟨_,_,rfl,rfl,rfl,(Option.some.inj h).symm⟩
theorem s_aug (fo : FnOk F) {m : Nat} {o : Op} {e : CE} {k : CS} (hk : S1 F n k) : S1 F n (.aug m o e k):=by
 intro O X vs p s Q E stmts hr i h
 refine lc_inv (show lc _ stmts = true from hr) fun st rr e0 h0=>sAugAssign_inv h0 fun tg op vv pos e1 h1=>eName_inv h1 fun yy py e2 hq=>?_
 clear hr h0 h1
 subst e0 e1 e2
 obtain ⟨x,hx,h⟩:=PS.val h
 have hrk:=(and2 hq).2
 have hre:=(and2 (and2 hq).1).2
 have ho:=(and2 (and2 (and2 hq).1).1).2
 have hs:=(and2 (and2 (and2 hq).1).1).1
 clear hq
 obtain rfl:=opB_eq ho
 have hna : nmAt F.nm m yy = true:=(and2 hs).1
 obtain ⟨⟨val,ac,r⟩,_⟩:=var_acc (i.vat fo) hna hx
 refine rest_snd i hk hrk (wpAny_AugAssign_Name (ac.load (relE_ev fo hre i (PS.bindE fo i h fun d p1 b h1 tk1 kk i1 r1 h=>?_))))
 obtain ⟨z,hz,h⟩:=PS.ofO h
 have fin : ∀ v tk2,Rep F.c.w h1 X F.c.pa v z → wpAny (model F.c.prog F.c.w) F.A (storeName F.env yy v) (fun Z=>QNext F O X s (csx F.Γ n k) Q E .next) E { s with heap:=h1,toks:=tk2 }:=fun v tk2 rv =>
  put_snd (s:={ s with heap:=h1,toks:=tk2 }) fo i1 hs rv fun h2 tk3 st i2=>⟨_,_,O,X,h2,tk3,rfl,(Stp.expr i kk).trans i st,i2,PS.at i1 st h⟩
 rcases augV_cases hz with ⟨x',y',rfl,rfl,rfl,rfl⟩ | ⟨x',y',rfl,rfl,rfl,rfl⟩
 ·obtain ⟨t,rfl⟩:=r
  obtain ⟨u,rfl⟩:=r1
  exact wpAny_iadd_int (fin _ _ ⟨_,rfl⟩)
 ·obtain ⟨t,rfl⟩:=r
  obtain ⟨u,rfl⟩:=r1
  exact isub_int (fin _ _ ⟨_,rfl⟩)
theorem s_ifs (fo : FnOk F) {t : CE} {b o k : CS} (hb : S1 F n b) (ho : S1 F n o) (hk : S1 F n k) : S1 F n (.ifs t b o k):=by
 intro O X vs p s Q E stmts hr i h
 refine lc_inv (show lc _ stmts = true from hr) fun st rr e0 h0=>sIf_inv h0 fun t' b' o' pos e1 hq=>?_
 clear hr h0
 subst e0 e1
 refine rest_snd i hk (and2 hq).2 (wpAny_If (relE_evB fo (and2 (and2 (and2 hq).1).1).1 i (PS.bindE fo i h fun d p1 c h1 tk1 kk i1 r1 h=>?_)))
 subst r1
 replace h:=PS.next i1 h
 have up : ∀ fl s',QNext F O X { s with heap:=h1,toks:=tk1 } (csx F.Γ n k) Q E fl s' → QNext F O X s (csx F.Γ n k) Q E fl s':=fun fl s' q=>by
  cases fl with
  | next=>obtain ⟨vs',p',O',X',h2,tk2,e,st,i',hp⟩:=q;exact ⟨vs',p',O',X',h2,tk2,e,(Stp.expr i kk).trans i st,i',hp⟩
  | _=>exact q
 cases c with
 | true=>exact wpAny_mono (hb (and2 (and2 (and2 hq).1).1).2 i1 h) up fun Z Z e=>e
 | false=>exact wpAny_mono (ho (and2 (and2 hq).1).2 i1 h) up fun Z Z e=>e
theorem s_brk : S1 F n .brk:=by
 intro O X vs p s Q E stmts hr i h
 refine l1_inv (show l1 _ stmts = true from hr) fun st e0 h0=>sBreak_inv h0 fun pos e1 Z=>?_
 clear hr h0
 subst e0 e1
 exact wpAny_execs_cons (wpAny_Break (h O X s.heap s.toks (.refl i) i))
theorem s_cont : S1 F n .cont:=by
 intro O X vs p s Q E stmts hr i h
 refine l1_inv (show l1 _ stmts = true from hr) fun st e0 h0=>sContinue_inv h0 fun pos e1 Z=>?_
 clear hr h0
 subst e0 e1
 exact wpAny_execs_cons (wpAny_Continue (h O X s.heap s.toks (.refl i) i))
theorem Out.less {c : Cx} {v : Value} {d : V} (x : Out c h X v d) (hX : ∀ a,a ∈ X' → a ∈ X) : Out c h X' v d:=by
 have k : Kp X c.pa h h:=Kp.refl _ _ _
 cases d <;> first | exact Rep.kp k hX _ _ x | skip
 obtain ⟨ea,dx,e1,e2,e3,e4⟩:=x
 exact ⟨ea,dx,e1,e2,e3,e4.kp k hX⟩
theorem s_ret (fo : FnOk F) {e : CE} : S1 F n (.ret e):=by
 intro O X vs p s Q E stmts hr i h
 refine l1_inv (show l1 _ stmts = true from hr) fun st e0 h0=>sReturn_inv h0 fun o pos e1 hq=>?_
 clear hr h0
 subst e0 e1
 cases o with
 | some v =>
  refine wpAny_execs_cons (wpAny_Return_some (evX_snd (fo.ev X) (show relE _ e _ _ v = true from hq) i.bs (i.vat fo) (PS.bindE fo i h fun d p1 b h1 tk1 kk i1 r1 h=>?_)))
  exact h O X h1 tk1 (.refl i1) i1 b (r1.less i1.x0)
 | none =>
  cases isLN_eq (show isLN e = true from hq)
  exact wpAny_execs_cons (wpAny_Return_none (h O X s.heap s.toks (.refl i) i .none rfl))
theorem s_retO {m : Nat} : S1 F n (.retO m):=by
 intro O X vs p s Q E stmts hr i h
 refine l1_inv (show l1 _ stmts = true from hr) fun st e0 h0=>sReturn_inv h0 fun o pos e1 h1=>oS_inv h1 fun v e2 h2=>eName_inv h2 fun x px e3 hq=>?_
 clear hr h0 h1 h2
 subst e0 e1 e2 e3
 refine gG fun P0 hP0=>?_
 obtain ⟨l,hx,h⟩:=PS.own h
 obtain ⟨e,hd⟩:=nmAt_get hq
 obtain ⟨hz,a,us,ac,ho,hl,r⟩:=i.sl m _ _ e hx
 refine hP0 ?_
 refine wpAny_execs_cons (wpAny_Return_some (wpAny_Name (ac.load ?_) hd))
 exact h O X s.heap s.toks (.refl i) i _ ⟨hz,a,us,rfl,(i.oin a ho).2.2.2.1,hl.isList,Reps.kp (Kp.refl X _ _) i.x0 _ _ r⟩
theorem s_exp (fo : FnOk F) {e : CE} {k : CS} (hk : S1 F n k) : S1 F n (.exp e k):=by
 intro O X vs p s Q E stmts hr i h
 refine sEx_inv (show sEx _ stmts = true from hr) fun v pos rr e0 hq=>?_
 clear hr
 subst e0
 refine rest_snd i hk (and2 hq).2 (wpAny_Expr (relE_ev fo (and2 (and2 hq).1).2 i (PS.bindE fo i h fun d p1 b h1 tk1 kk i1 r1 h=>?_)) fo.inter (noSwap (and2 (and2 hq).1).1 _ _ _))
 cases d <;> first | exact h.elim | skip
 subst r1
 exact ⟨vs,p1,O,X,h1,tk1,rfl,.expr i kk,i1,h⟩
end
end
section
open PySem PySem.W PyProof.Rows
section
variable {F : Fn} {O X O' X' O'' X'' : List Addr} {vs : List Sl} {p p' : Int} {h h' h'' : Heap} {s : Shared} {n : Nat}
theorem Inv.notin (i : Inv F O X vs p h) {a : Addr} (ha : h.get? a = none) : a ∉ X:=fun q=>by
 obtain ⟨o,e,_⟩:=i.bs.live a q
 exact nS ((ha).symm.trans e)
theorem SlotS.grow {a : Addr} (g : Grow h h') (ha : h.get? a = none) {O' : List Addr} (hO : ∀ b ∈ O,b ∈ O') {x : Str} {sl : Sl} (y : SlotS F O X h x sl) : SlotS F O' (a :: X) h' x sl:=by
 have sm : Sm X h h':=fun b o Z e Z=>g b o e
 have hX : ∀ b,b ∈ a :: X → b ∈ X ∨ Nov h b:=fun b hb=>by
  rcases memc hb with rfl | hb
  ·exact .inr fun o e=>by exact nS ((ha).symm.trans e)
  ·exact .inl hb
 have up : ∀ v,Acc F.env h x v → Acc F.env h' x v:=fun v ac=>ac.up fun b o Z e Z=>⟨o.slots,g b o e⟩
 cases sl with
 | un=>trivial
 | val d=>obtain ⟨v,ac,r⟩:=y;exact ⟨v,up _ ac,Rep.sm sm hX _ _ r⟩
 | own ds=>obtain ⟨hz,b,us,ac,ho,hl,r⟩:=y;exact ⟨hz,b,us,up _ ac,hO b ho,plain_at hl fun o e Z=>g _ _ e,Reps.sm sm hX _ _ r⟩
 | ownD kv=>obtain ⟨b,us,ac,ho,hl,r⟩:=y;exact ⟨b,us,up _ ac,hO b ho,dictOf_at hl fun o e Z=>g _ _ e,Reps.sm sm hX _ _ r⟩
theorem Inv.fresh (i : Inv F O X vs p h) (g : Grow h h') {a : Addr} (ha : h.get? a = none) (hl : ∃ o,h'.get? a = some o ∧ Nrm o) : Inv F O (a :: X) vs p h' ∧ Stp F O X h O (a :: X) h':=by
 refine ⟨⟨(i.bs.grow g).more hl,fun n x sl e1 e2=>(i.sl n x sl e1 e2).grow g ha fun Z q=>q,?_,?_,fun b hb=>List.mem_cons_of_mem _ (i.stx b hb),fun b hb=>?_,fun b hb=>List.mem_cons_of_mem _ (i.x0 b hb),i.one⟩,
  ⟨fun b o Z Z Z e Z=>g b o e,fun b o Z Z Z e Z=>⟨o.slots,g b o e⟩,fun b hb=>.inl hb,fun b hb=>?_,fun b hb=>List.mem_cons_of_mem _ hb,i.ost⟩⟩
 ·obtain ⟨m,hn⟩:=i.ns;exact ⟨m,hn.keeps g⟩
 ·intro y c e;obtain ⟨v,hc⟩:=i.cel y c e;exact ⟨v,cell_slots hc fun o e Z=>⟨o.slots,g _ _ e⟩⟩
 ·obtain ⟨h1,h2⟩:=i.oin b hb;exact ⟨List.mem_cons_of_mem _ h1,h2⟩
 ·rcases memc hb with rfl | hb
  ·exact .inr fun o e=>by exact nS ((ha).symm.trans e)
  ·exact .inl hb
theorem Inv.mkOwn (i : Inv F O X vs p h) (g : Grow h h') {a : Addr} (ha : h.get? a = none) (hl : ∃ o,h'.get? a = some o ∧ Nrm o) : Inv F (a :: O) (a :: X) vs p h' ∧ Stp F O X h (a :: O) (a :: X) h':=by
 have hna:=i.notin ha
 have hpf : a ∉ F.c.pa :: frs F.fs ∧ a ∉ stor F.env:=⟨fun q=>hna (by
   rcases memc q with rfl | q
   ·exact i.bs.pin
   ·exact i.bs.fin a q),fun q=>hna (i.stx a q)⟩
 have hb0 : F.c.base.get? a = none:=by
  cases e : F.c.base.get? a with
  | none=>rfl
  | some o=>have:=i.bs.stays a o e;exact nS ((ha).symm.trans this)
 obtain ⟨i',st⟩:=i.fresh g ha hl
 refine ⟨⟨i'.bs,fun n x sl e1 e2=>(i.sl n x sl e1 e2).grow g ha fun Z q=>List.mem_cons_of_mem _ q,i'.ns,i'.cel,i'.stx,fun b hb=>?_,i'.x0,i'.one⟩,
  ⟨st.same,st.slots,fun b hb=>?_,st.newX,st.subX,fun b hb=>?_⟩⟩
 ·rcases memc hb with rfl | hb
  ·exact ⟨List.mem_cons_self,hpf.1,hpf.2,fun q=>hna (i.x0 _ q),hb0⟩
  ·exact i'.oin b hb
 ·rcases memc hb with rfl | hb
  ·exact .inr fun o e=>by exact nS ((ha).symm.trans e)
  ·exact .inl hb
 ·rcases memc hb with rfl | hb
  ·exact ⟨fun e=>hpf.1 (by exact (e).symm ▸ List.mem_cons_self),hpf.2⟩
  ·exact i.ost b hb
theorem Inv.pokeO (i : Inv F O X vs p h) {a : Addr} (ha : a ∈ O) {m : Nat} {old new : Sl} {x : Str} (hnm : F.nm[m]? = some (some x)) (hold : vs[m]? = some old) (hown : old.isOwn = true)
  (hk : ∀ b o,b ≠ a → h.get? b = some o → h'.get? b = some o) (hl : ∃ o,A3 (h'.get? a = some o) (Nrm o) (a ∈ frs F.fs → ∀ vs,o.data ≠ .fields vs))
  (hs : (∀ u,Acc F.env h x u → Acc F.env h' x u) → SlotS F O X h' x new) : Inv F O X (vs.set m new) p h' ∧ Stp F O X h O X h':=by
 refine gG fun P0 hP0=>?_
 obtain ⟨h1,h2,h3,h4,h5⟩:=i.oin a ha
 refine hP0 ?_
 have hpa : a ≠ F.c.pa:=(i.ost a ha).1
 have st : Stp F O X h O X h':=Stp.poke i fun b o hb Z e=>hk b o (fun q=>hb (q ▸ ha)) e
 have hst : ∀ c ∈ stor F.env,c ≠ a:=fun c hc q=>h3 (q ▸ hc)
 have up : ∀ y u,Acc F.env h y u → Acc F.env h' y u:=fun y u ac=>ac.up fun c o hc e Z=>⟨o.slots,hk c o (hst c hc) e⟩
 have hlt : m < vs.length:=(List.getElem?_eq_some_iff.mp hold).1
 refine ⟨⟨i.bs.poke hpa h5 hk hl,fun j y sl e1 e2=>?_,?_,?_,i.stx,i.oin,i.x0,fun m1 m2 t1 t2 e1 e2 o1 o2=>?_⟩,st⟩
 ·by_cases hm : m = j
  ·subst hm
   rw [hnm] at e1
   obtain rfl:=sI (sI e1)
   rw [List.getElem?_set_self hlt] at e2
   obtain rfl:=sI e2
   exact hs (up x)
  ·rw [List.getElem?_set_ne hm] at e2
   have z:=i.sl j y sl e1 e2
   have hno : sl.isOwn = false:=by
    cases ho : sl.isOwn with
    | false=>rfl
    | true=>exact absurd (i.one m j old sl hold e2 hown ho) hm
   cases sl with
   | un=>trivial
   | val d=>obtain ⟨u,ac,r⟩:=z;exact ⟨u,up _ _ ac,st.rep i r⟩
   | own ds=>cases hno
   | ownD kv=>exact tF hno
 ·obtain ⟨mm,hn⟩:=i.ns;exact ⟨mm,ns_slots hn fun o e Z=>⟨o.slots,hk _ o (hst _ mem_stor_locals) e⟩⟩
 ·intro y c e;obtain ⟨v,hc⟩:=i.cel y c e;exact ⟨v,cell_slots hc fun o e' Z=>⟨o.slots,hk _ o (hst _ (mem_stor e)) e'⟩⟩
 ·rw [List.getElem?_set] at e1 e2
  by_cases q1 : m = m1 <;> by_cases q2 : m = m2
  ·lia
  ·rw [if_neg q2] at e2
   have:=i.one m m2 old t2 hold e2 hown o2
   lia
  ·rw [if_neg q1] at e1
   have:=i.one m m1 old t1 hold e1 hown o1
   lia
  ·rw [if_neg q1] at e1;rw [if_neg q2] at e2
   exact i.one m1 m2 t1 t2 e1 e2 o1 o2
theorem noOwn {vs : List Sl} (h : vs.all (fun s=>!s.isOwn) = true) : ∀ (m : Nat) (t : Sl),vs[m]? = some t → t.isOwn = true → False:=fun m t e o=>by
 have:=allT h t (List.mem_of_getElem? e)
 cases (o) ▸ this
theorem s_newL (fo : FnOk F) {m : Nat} {k : CS} (hk : S1 F n k) : S1 F n (.newL m k):=by
 intro O X vs p s Q E stmts hr i h
 refine sAN_inv (show sAN _ stmts = true from hr) fun x px v pos rr e0 h0=>eList_inv h0 fun l lp e1 h1=>ln_inv h1 fun e2 hq=>?_
 clear hr h0 h1
 subst e0 e1 e2
 by_cases hno : vs.all (fun s=>!s.isOwn) = true
 case neg=>exact (PS.iff hno h).elim
 replace h:=PS.ift hno h
 refine rest_snd i hk (and2 hq).2 (wpAny_Assign_Name ?_ rfl)
 refine wpAny_List_spliced (PySem.Calls.spliced_nil ⟨by decide,?_⟩)
 have hf : s.heap.get? s.heap.objs.size = none:=by
  cases e : s.heap.get? s.heap.objs.size with
  | none=>rfl
  | some o=>exact absurd (Heap.lt_size e) (Nat.lt_irrefl _)
 have hnew : (s.heap.push { cls := .type "list", data := .seq #[] }).get? s.heap.objs.size = some { cls := .type "list", data := .seq #[] } := Heap.get?_push_size _ rfl
 obtain ⟨i1, st1⟩ := i.mkOwn (Grow.push s.heap { cls := .type "list", data := .seq #[] }) hf ⟨_, hnew, .inl fun Z q => by exact PySem.Data.noConfusion q⟩
 refine sto_snd (s := { s with heap := s.heap.push { cls := .type "list", data := .seq #[] } }) (sl := .own []) fo i1 (and2 hq).1 (fun Z m' t e o => (noOwn hno m' t e o).elim)
  (fun h' hk' ac=>⟨by exact Nat.zero_le _,_,[],ac,List.mem_cons_self,⟨0,hk' _ _ (fun q=>i.notin hf (i.stx _ q)) hnew⟩,trivial⟩) fun h2 tk2 st2 Z i2 Z=>?_
 exact ⟨_,_,_,_,h2,tk2,rfl,st1.trans i st2,i2,PS.at i (st1.trans i st2) h⟩
theorem s_newD (fo : FnOk F) {m : Nat} {k : CS} (hk : S1 F n k) : S1 F n (.newD m k):=by
 intro O X vs p s Q E stmts hr i h
 refine sAN_inv (show sAN _ stmts = true from hr) fun x px v pos rr e0 h0=>eDict_inv h0 fun l l' lp e1 h1=>ln_inv h1 fun e2 h2=>ln_inv h2 fun e3 hq=>?_
 clear hr h0 h1 h2
 subst e0 e1 e2 e3
 by_cases hno : vs.all (fun s=>!s.isOwn) = true
 case neg=>exact (PS.iff hno h).elim
 replace h:=PS.ift hno h
 refine rest_snd i hk (and2 hq).2 (wpAny_Assign_Name ?_ rfl)
 refine wpAny_Dict_empty ?_
 have hf : s.heap.get? s.heap.objs.size = none:=by
  cases e : s.heap.get? s.heap.objs.size with
  | none=>rfl
  | some o=>exact absurd (Heap.lt_size e) (Nat.lt_irrefl _)
 have hnew : (s.heap.push { cls := .type "dict", data := .dict #[] }).get? s.heap.objs.size = some { cls := .type "dict", data := .dict #[] } := Heap.get?_push_size _ rfl
 obtain ⟨i1, st1⟩ := i.mkOwn (Grow.push s.heap { cls := .type "dict", data := .dict #[] }) hf ⟨_, hnew, .inl fun Z q => by exact PySem.Data.noConfusion q⟩
 refine sto_snd (s := { s with heap := s.heap.push { cls := .type "dict", data := .dict #[] } }) (sl := .ownD []) fo i1 (and2 hq).1 (fun Z m' t e o => (noOwn hno m' t e o).elim)
  (fun h' hk' ac=>⟨_,[],ac,List.mem_cons_self,dictOf_at (Heap.DictOf.new s.heap) fun o e Z=>hk' _ _ (fun q=>i.notin hf (i.stx _ q)) e,trivial⟩) fun h2 tk2 st2 Z i2 Z=>?_
 exact ⟨_,_,_,_,h2,tk2,rfl,st1.trans i st2,i2,PS.at i (st1.trans i st2) h⟩
theorem s_app (fo : FnOk F) {m : Nat} {e : CE} {k : CS} (hk : S1 F n k) : S1 F n (.app m e k):=by
 intro O X vs p s Q E stmts hr i h
 refine sM_inv (show sM _ stmts = true from hr) fun x px a apos args cpos pos rr e0 hl h0=>l1_inv h0 fun v e1 hq=>?_
 clear hr h0
 subst e0 e1
 have hrk:=(and2 hq).2
 have hre:=(and2 (and2 hq).1).2
 have hst:=(and2 (and2 (and2 hq).1).1).2
 have ha:=(and2 (and2 (and2 (and2 hq).1).1).1).2
 have hna:=(and2 (and2 (and2 (and2 hq).1).1).1).1
 clear hq
 obtain rfl:=seq_eq ha
 refine gG fun P0 hP0=>?_
 obtain ⟨hnm,hdb⟩:=nmAt_get hna
 refine hP0 ?_
 have htree : backTo cpos (starEach [v] F.env) = [(false,eval v F.env)]:=by rw [star_cons hst];rfl
 have hfew:=methForm (env:=F.env) (args:=[v]) (pos:=cpos) (by refine (htree).symm ▸ ?_;rfl) (show 1 < 20 by decide)
 refine rest_snd i hk hrk (wpAny_Expr (wpAny_Call_append rfl hfew hl htree ?_) fo.inter rfl)
 refine gG fun P0 hP0=>?_
 obtain ⟨l,hv,h⟩:=PS.own h
 obtain ⟨hz,ad,us,ac,ho,hli,hrs⟩:=i.sl m x _ hnm hv
 obtain ⟨nn,hob⟩:=id hli
 refine hP0 ?_
 refine wpAny_Name (ac.load ⟨ad,us.toArray,rfl,⟨_,nn,hob,rfl,rfl,rfl⟩,relE_ev fo hre i (PS.bindE fo i h fun d p1 b h1 tk1 kk i1 r1 h=>?_)⟩) hdb
 change PS F O X _ (if l.length < SZ then _ else _) Q E at h
 by_cases hlen : l.length < SZ
 ·replace h:=PS.ift hlen h
  refine gG fun P0 hP0=>?_
  obtain ⟨_,hnf,hns,_⟩:=i.oin ad ho
  refine hP0 ?_
  have hli1 : h1.PlainList ad us.toArray:=plain_at hli fun o=>kk.same ad o hnf
  have hlu:=hrs.len
  have hsz : SZ = sizeLine:=SZ_eq
  refine wpAny_list_append_plain hli1 (fun h2 hli2 hsb=>?_) (by refine (List.size_toArray).symm ▸ ?_;refine (hlu).symm ▸ ?_;refine (hsz).symm.symm ▸ ?_;assumption)
  have hk2 : ∀ b o,b ≠ ad → h1.get? b = some o → h2.get? b = some o:=fun b o hb e=>(hsb.2 b hb).trans e
  have ac1 : Acc F.env h1 x (.ref ad):=ac.up fun c o hc e hn=>kk.slots c o (fo.stb c hc).2 e hn
  obtain ⟨i2,st2⟩:=i1.pokeO (new:=.own (l ++ [d])) ho hnm hv rfl hk2 (by obtain ⟨n2,e2⟩:=hli2;exact ⟨_,e2,.inl fun Z q=>(by exact PySem.Data.noConfusion q),fun Z Z q=>(by exact PySem.Data.noConfusion q)⟩) fun up=>by
   refine ⟨by refine (List.length_append).symm ▸ ?_;simp;assumption,ad,us ++ [b],up _ ac1,ho,?_,?_⟩
   ·exact (show (us ++ [b]).toArray = us.toArray.push b by simp).symm ▸ hli2
   ·have st0 : Stp F O X h1 O X h2:=Stp.poke i1 fun c o hc Z e=>hk2 c o (fun q=>hc (q ▸ ho)) e
    exact st0.reps i1 (((Stp.expr i kk).reps i hrs).append ⟨r1,trivial⟩)
  exact ⟨_,_,O,X,h2,tk1,rfl,(Stp.expr i kk).trans i st2,i2,PS.at i1 st2 h⟩
 ·exact (PS.iff hlen h).elim
end
end
section
open PySem PySem.W PyProof.Rows
section
variable {F : Fn} {O X O' X' O'' X'' : List Addr} {vs : List Sl} {p p' : Int} {h h' h'' : Heap} {s : Shared} {n : Nat}
theorem s_rev (fo : FnOk F) {m : Nat} {k : CS} (hk : S1 F n k) : S1 F n (.rev m k):=by
 intro O X vs p s Q E stmts hr i h
 refine sM_inv (show sM _ stmts = true from hr) fun x px a apos args cpos pos rr e0 hl h0=>ln_inv h0 fun e1 hq=>?_
 clear hr h0
 subst e0 e1
 have hrk:=(and2 hq).2
 have ha:=(and2 (and2 hq).1).2
 have hna:=(and2 (and2 hq).1).1
 clear hq
 obtain rfl:=seq_eq ha
 refine gG fun P0 hP0=>?_
 obtain ⟨hnm,hdb⟩:=nmAt_get hna
 obtain ⟨l,hv,h⟩:=PS.own h
 obtain ⟨hz,ad,us,ac,ho,hli,hrs⟩:=i.sl m x _ hnm hv
 obtain ⟨nn,hob⟩:=id hli
 refine hP0 ?_
 have hfew:=methForm (env:=F.env) (args:=[]) (pos:=cpos) rfl (show 0 < 20 by decide)
 have hlu:=hrs.len
 have hsz : SZ = sizeLine:=SZ_eq
 refine rest_snd i hk hrk (wpAny_Expr (wpAny_Call_method_lateS rfl hfew hl (wpAny_Name (ac.load ?_) hdb)) fo.inter rfl)
 refine ⟨"list", "list.reverse", PySem.F.plainAttrs_list, PySem.F.slot_list_reverse, PySem.F.type_list_reverse, ⟨_, hob, rfl⟩, (fun a e => ⟨_, (by obtain rfl := Value.ref.inj e; exact hob), rfl⟩), ?_⟩
 refine PySem.Calls.callWith_builtin rfl (spliced_all rfl (PySem.Calls.spliced_nil ?_))
 refine call_meets PySem.F.slot_list_reverse ⟨_,hob,rfl⟩ PySem.F.entry_list_reverse (PySem.F.args_list_reverse_1 _) (AutoSeq1.list_reverse_list_0 ad us.toArray nn (by refine (List.size_toArray).symm ▸ ?_;refine (hlu).symm ▸ ?_;refine (hsz).symm.symm ▸ ?_;exact hz)) ⟨hob,?_⟩
 have hsb : Heap.SameBut ad s.heap (s.heap.update ad (Obj.mapSeq fun x=>x.reverse)):=Heap.SameBut.update ..
 have hk2 : ∀ b o,b ≠ ad → s.heap.get? b = some o → (s.heap.update ad (Obj.mapSeq fun x=>x.reverse)).get? b = some o:=fun b o hb e=>(hsb.2 b hb).trans e
 have hli2 : (s.heap.update ad (Obj.mapSeq fun x=>x.reverse)).PlainList ad us.reverse.toArray:=by
  refine ⟨nn,?_⟩
  refine (Heap.get?_update_self _ hob (by rw [mapSeq_reverse];rfl)).trans ?_;rw [mapSeq_reverse]
 generalize (s.heap.update ad (Obj.mapSeq fun x=>x.reverse)) = h2 at hsb hk2 hli2 ⊢
 obtain ⟨i2,st2⟩:=i.pokeO (new:=.own l.reverse) ho hnm hv rfl hk2 (by obtain ⟨n2,e2⟩:=hli2;exact ⟨_,e2,.inl fun Z q=>(by exact PySem.Data.noConfusion q),fun Z Z q=>(by exact PySem.Data.noConfusion q)⟩) fun up=>by
  refine ⟨by exact (List.length_reverse).symm ▸ hz,ad,us.reverse,up _ ac,ho,hli2,?_⟩
  have st0 : Stp F O X s.heap O X h2:=Stp.poke i fun c o hc Z e=>hk2 c o (fun q=>hc (q ▸ ho)) e
  exact st0.reps i hrs.reverse
 exact ⟨_,_,O,X,h2,s.toks,rfl,st2,i2,PS.at i st2 h⟩
theorem stored_none : ∀ {l : List (Int × Value)} {m : Int} {v : Value},m ∉ l.map (·.1) → l.map (fun kv=>if kv.1 = m then (kv.1,v) else kv) = l
 | [],_,_,_=>rfl
 | (a,u) :: r,m,v,h=>by
  rw [List.map_cons,List.mem_cons,not_or] at h
  rw [List.map_cons,stored_none h.2,if_neg (Ne.symm h.1)]
theorem stored_putD : ∀ {kv : List (Int × V)} {us : List Value} (m : Int) (v : Value) (d : V),us.length = kv.length → ((kv.map (·.1)).Nodup) →
  ∃ us',stored ((kv.map (·.1)).zip us) m v = ((putD m d kv).map (·.1)).zip us' ∧ ∀ {w h X pa},Reps w h X pa us (kv.map (·.2)) → Rep w h X pa v d → Reps w h X pa us' ((putD m d kv).map (·.2))
 | [],[],m,v,d,_,_=>⟨[v],rfl,fun Z r=>⟨r,trivial⟩⟩
 | (m0,y) :: r,u :: ur,m,v,d,hl,hn=>by
  replace hn:=(List.map_cons) ▸ hn;rw [List.nodup_cons] at hn
  have hl' : ur.length = r.length:=by simpa using hl
  by_cases hm : m0 = m
  ·subst hm
   refine ⟨v :: ur,?_,fun a b=>?_⟩
   ·unfold stored putD
    refine (List.map_cons).symm ▸ ?_;refine (List.zip_cons_cons).symm ▸ ?_;refine (if_pos (by simp)).trans ?_;refine (if_pos rfl).symm ▸ ?_;refine (List.map_cons).trans ?_;refine (List.map_cons).symm ▸ ?_;refine Eq.trans ?_ (List.zip_cons_cons).symm;refine (if_pos rfl).symm ▸ ?_;rw [stored_none (by rw [map_fst_zip _ _ (by simp [hl'])];exact hn.1)]
   ·unfold putD
    exact (if_pos rfl).symm ▸ ⟨b,a.2⟩
  ·obtain ⟨us',e,f⟩:=stored_putD m v d hl' hn.2
   refine ⟨u :: us',?_,fun a b=>?_⟩
   ·unfold putD
    rw [if_neg hm,List.map_cons,List.zip_cons_cons,List.map_cons,List.zip_cons_cons,← e]
    unfold stored
    simp only [List.any_cons,hm,decide_false,Bool.false_or,List.map_cons,if_false,List.cons_append]
    split <;> rfl
   ·unfold putD
    exact (if_neg hm).symm ▸ ⟨a.1,f a.2 b⟩
 | [],_ :: _,_,_,_,hl,_=>by cases hl
 | _ :: _,[],_,_,_,hl,_=>by exact Nat.noConfusion hl
set_option tactic.hygienic true in
theorem s_setD (fo : FnOk F) {m : Nat} {ke ve : CE} {k : CS} (hk : S1 F n k) : S1 F n (.setD m ke ve k):=by
 intro O X vs p s Q E stmts hr i h
 refine sAS_inv (show sAS _ stmts = true from hr) fun x px ki tp v pos rr e0 hq=>?_
 clear hr
 subst e0
 have hrk:=(and2 hq).2
 have hrk':=(and2 (and2 hq).1).2
 have hrv:=(and2 (and2 (and2 hq).1).1).2
 have hnc:=(and2 (and2 (and2 (and2 hq).1).1).1).2
 have hna:=(and2 (and2 (and2 (and2 (and2 hq).1).1).1).1).1
 clear hq
 obtain ⟨hnm,hdb⟩:=nmAt_get hna
 obtain ⟨kv,hv,h⟩:=PS.ownD h
 refine rest_snd i hk hrk (wpAny_Assign_Subscript (relE_ev fo hrv i (PS.bindE fo i h fun d p1 b h1 tk1 kk i1 r1 h=>?_)) (noSwap hnc _ _ _))
 obtain ⟨ad,us,ac,ho,hli,hrs⟩:=i1.sl m x _ hnm hv
 refine wpAny_Name (Acc.load (s:={ s with heap:=h1,toks:=tk1 }) ac (relE_ev fo hrk' i1 (PS.bindE fo i1 h fun dk p2 bk h2 tk2 kk2 i2 r2 h=>?_))) hdb
 cases dk <;> first | exact h.elim | skip
 rename_i mk
 obtain ⟨t,rfl⟩:=r2
 change PS F O X _ (if kv.length < 1000 then _ else _) Q E at h
 by_cases hlen : kv.length < 1000
 ·replace h:=PS.ift hlen h
  obtain ⟨_,hnf,hns',_⟩:=i2.oin ad ho
  have hlu:=hrs.len
  rw [List.length_map] at hlu
  have hli2:=dictOf_at hli fun o=>kk2.same ad o hnf
  have hnd : (kv.map (·.1)).Nodup:=by
   obtain ⟨_,_,_,_,_,_,_,_,hn⟩:=hli2
   rwa [map_fst_zip _ _ (by simp [hlu])] at hn
  obtain ⟨us',e1,e2⟩:=stored_putD mk b d hlu hnd
  refine wpAny_setItem_pairs (knd:=intKind F.c.prog F.c.w) (intKind_is _ _ _ _) hli2 (fun h3 hd3 hsb=>?_) (by refine (List.length_zip).symm ▸ ?_;rewrite [List.length_map];refine (hlu).symm ▸ ?_;refine (sizeLine_eq).symm ▸ ?_;lia)
  replace hd3:=(e1) ▸ hd3
  have hk2 : ∀ b o,b ≠ ad → h2.get? b = some o → h3.get? b = some o:=fun b o hb e=>(hsb.2 b hb).trans e
  have ac2 : Acc F.env h2 x (.ref ad):=ac.up fun c o hc e hn=>kk2.slots c o (fo.stb c hc).2 e hn
  obtain ⟨i3,st3⟩:=i2.pokeO (new:=.ownD (putD mk d kv)) ho hnm hv rfl hk2 (by
   obtain ⟨o,es,ep,e,_,hd,_⟩:=hd3
   exact ⟨o,e,.inl fun Z q=>(by exact PySem.Data.noConfusion ((hd).symm.trans q)),fun Z Z q=>(by exact PySem.Data.noConfusion ((hd).symm.trans q))⟩) fun up=>by
   refine ⟨ad,us',up _ ac2,ho,hd3,?_⟩
   have st0 : Stp F O X h2 O X h3:=Stp.poke i2 fun c o hc Z e=>hk2 c o (fun q=>hc (q ▸ ho)) e
   exact e2 (st0.reps i2 ((Stp.expr i1 kk2).reps i1 hrs)) (st0.rep i2 ((Stp.expr i1 kk2).rep i1 r1))
  exact ⟨_,_,O,X,h3,_,rfl,(Stp.expr i kk).trans i ((Stp.expr i1 kk2).trans i1 st3),i3,PS.at i2 st3 h⟩
 ·exact (PS.iff hlen h).elim
set_option tactic.hygienic true in
theorem s_setP (fo : FnOk F) {m : Nat} {e : CE} {k : CS} (hk : S1 F n k) : S1 F n (.setP m e k):=by
 intro O X vs p s Q E stmts hr i h
 refine sAS_inv (show sAS _ stmts = true from hr) fun x px ki tp v pos rr e0 h0=>eConstant_inv h0 fun c kk1 zp e1 h1=>coInt_inv h1 fun z e2 hq=>?_
 clear hr h0 h1
 subst e0 e1 e2
 have hrk:=(and2 hq).2
 have hre:=(and2 (and2 hq).1).2
 have hnc:=(and2 (and2 (and2 hq).1).1).2
 have hna:=(and2 (and2 (and2 (and2 hq).1).1).1).1
 cases of_decide_eq_true (and2 (and2 (and2 (and2 hq).1).1).1).2
 clear hq
 refine gG fun P0 hP0=>?_
 obtain ⟨hnm,hdb⟩:=nmAt_get hna
 obtain ⟨hv,h⟩:=PS.pen h
 refine hP0 ?_
 refine rest_snd i hk hrk (wpAny_Assign_Subscript (relE_ev fo hre i (PS.bindE fo i h fun d p1 b h1 tk1 kk i1 r1 h=>?_)) (noSwap hnc _ _ _))
 cases d <;> first | exact h.elim | skip
 rename_i q
 refine gG fun P0 hP0=>?_
 obtain ⟨t,rfl⟩:=r1
 obtain ⟨val,ac,rfl,hp0⟩:=i1.sl m x _ hnm hv
 obtain ⟨tp',hl⟩:=i1.bs.pen hp0
 refine hP0 ?_
 refine wpAny_Name (Acc.load (s:={ s with heap:=h1,toks:=tk1 }) ac (wpAny_Constant_int ?_)) hdb
 refine wpAny_setItem_list (items:=#[.int p1 tp']) hl (by decide) (by decide) (by simp) fun h2 hl2 hsb=>?_
 have kp2 : KpF F.c F.fs h1 h2:=⟨fun b o hb e Z=>(hsb.2 b (fun q=>hb (by exact (q).symm ▸ List.mem_cons_self))).trans e,fun b o hb e Z=>⟨o.slots,(hsb.2 b hb).trans e⟩⟩
 have b2 : Bs F.c F.fs X q h2:=i1.bs.step kp2 (fun a o e=>by
   have hne : a ≠ F.c.pa:=fun q=>by replace e:=(q) ▸ e;replace e:=(fo.paN hp0).symm.trans e;exact nS e
   exact (hsb.2 a hne).trans (i1.bs.stays a o e)) fun Z=>⟨t,hl2⟩
 have i2:=i1.expr fo kp2 b2
 exact ⟨_,_,O,X,h2,_,rfl,(Stp.expr i kk).trans i (.expr i1 kp2),i2,PS.at i1 (.expr i1 kp2) h⟩
theorem s_rai (fo : FnOk F) {e : CE} : S1 F n (.rai e):=by
 intro O X vs p s Q E stmts hr i h
 refine l1_inv (show l1 _ stmts = true from hr) fun st e0 h0=>sRaise_inv h0 fun o o' pos e1 h1=>oS_inv h1 fun v e2 h2=>oN_inv h2 fun e3 hq=>?_
 clear hr h0 h1 h2
 subst e0 e1 e2 e3
 refine gG fun P0 hP0=>?_
 obtain ⟨nm,q,N,bs,bm,hdct,sn,sub,ab,col,dd,k0,k1,k2,k3,k5,newId,hcls,hbase⟩:=fo.cls
 refine hP0 ?_
 refine wpAny_execs_cons ?_
 rw [arm_exec_Raise]
 refine wpAny_bind (wpAny_standAt ?_)
 refine raise_made hbase (fo.ev X).hh (C:=F.c.C) (nm:=nm) (q:=q) (N:=N) (bs:=bs) (hdct:=hdct) (sn:=sn) (sub:=sub) (ab:=ab) (col:=col) (dd:=dd) (k0:=k0) (k1:=k1) (k2:=k2) (k3:=k3) (k5:=k5) (newId:=newId) ?_
 refine wpAny_bind (evX_snd (fo.ev X) hq i.bs (i.vat fo) (PS.bindE fo i h fun d p1 b h1 tk1 kk i1 r1 h=>?_))
 cases d <;> first | exact h.elim | skip
 refine gG fun P0 hP0=>?_
 obtain ⟨ea,dx,rfl,hb0,hrec,hxd⟩:=r1
 refine hP0 ?_
 refine wpAny_bind (wpAny_standAt (wpAny_pure ?_))
 refine gG fun P0 hP0=>?_
 obtain ⟨fv,sl,he,hv1⟩:=id hrec
 refine hP0 ?_
 exact ⟨ea,dx,fv,sl,rfl,i1.bs.stays _ _ hcls,he,hv1,h _ O X h1 tk1 (.refl i1) i1.bs ⟨ea,dx,.none,.none,rfl,hb0,hrec,.fresh,.inl rfl,hxd⟩ i1.ns⟩
theorem tgts_cons {sc : Sc} {nm : List (Option Str)} {m : Nat} {is : List Nat} {ts : List Expr} (h : tgts sc nm (m :: is) ts = true) : Ex3 fun x px ts'=>A3 (ts = .Name x px :: ts') (stoB sc nm m x = true) (tgts sc nm is ts' = true) :=
 lc_inv (show lc _ ts = true from h) fun e es e0 h0=>eName_inv h0 fun x px e1 hq=>⟨x,px,es,by rw [e0,e1],(and2 hq).1,(and2 hq).2⟩
theorem tgts_nil {sc : Sc} {nm : List (Option Str)} {ts : List Expr} (h : tgts sc nm [] ts = true) : ts = []:=ln_inv (show ln true ts = true from h) fun e Z=>e
theorem tgts_mk2 {sc : Sc} {nm : List (Option Str)} {i j : Nat} {x y : Str} {px py : Pos} (h1 : stoB sc nm i x = true) (h2 : stoB sc nm j y = true) : tgts sc nm [i,j] [.Name x px,.Name y py] = true:=by
 show (stoB sc nm i x && (stoB sc nm j y && true)) = true
 refine (h1).symm ▸ ?_;refine (h2).symm ▸ ?_;rfl
theorem tgts_len {sc : Sc} {nm : List (Option Str)} : ∀ {is : List Nat} {ts : List Expr},tgts sc nm is ts = true → is.length = ts.length
 | [],_,h=>by refine (tgts_nil h).symm ▸ ?_;rfl
 | _ :: is,_,h=>by obtain ⟨x,px,ts,rfl,_,hr⟩:=tgts_cons h;exact congrArg Nat.succ (tgts_len hr)
theorem tgts_plain {env : Env} {sc : Sc} {nm : List (Option Str)} : ∀ {is : List Nat} {ts : List Expr},tgts sc nm is ts = true → (assignEach ts env).length = ts.length ∧ (assignEach ts env).findIdx? (·.1) = none
 | [],_,h=>by exact (tgts_nil h).symm ▸ ⟨rfl,rfl⟩
 | _ :: is,_,h=>by
  obtain ⟨id,pos,ts,rfl,_,hr⟩:=tgts_cons h
  obtain ⟨a,b⟩:=tgts_plain (env:=env) hr
  refine ⟨congrArg Nat.succ a,?_⟩
  show List.findIdx? _ ((false,assign (.Name id pos) env) :: assignEach ts env) = none
  refine (List.findIdx?_cons).trans ?_;refine (if_neg Bool.false_ne_true).trans ?_;refine (b).symm ▸ ?_;rfl
theorem put_all (fo : FnOk F) (is : List Nat) : ∀ {ts : List Expr} {us : List Value} {ds : List V} {vs vs' : List Sl} {s : Shared} {Q : Unit → Shared → Prop} {E : Value → Shared → Prop},tgts F.sc F.nm is ts = true → Inv F O X vs p s.heap →
  Reps F.c.w s.heap X F.c.pa us ds → setT is ds vs = some vs' → (∀ h' tk',Stp F O X s.heap O X h' → Inv F O X vs' p h' → Q () { s with heap:=h',toks:=tk' }) →
  wpAny (model F.c.prog F.c.w) F.A (assignInOrder ((assignEach ts F.env).map (·.2)) us) Q E s:=by
 induction is with
 | nil =>
  intro ts us ds vs vs' s Q E ht i hr hs h
  obtain rfl:=tgts_nil ht
  cases ds with
  | cons _ _=>cases hs
  | nil =>
   obtain rfl:=sI hs
   cases us with
   | cons _ _=>exact hr.elim
   | nil=>exact wpAny_pure (h s.heap s.toks (.refl i) i)
 | cons m is ih =>
  intro ts us ds vs vs' s Q E ht i hr hs h
  obtain ⟨x,px,ts,rfl,h1,h2⟩:=tgts_cons ht
  cases ds with
  | nil=>cases hs
  | cons d ds =>
   cases us with
   | nil=>exact hr.elim
   | cons u us =>
    refine wpAny_bind (wpAny_holding (PyProof.Rows.assign_Name (put_snd fo i h1 hr.1 fun h1 tk1 st1 i1=>?_)))
    exact ih (s:={ s with heap:=h1,toks:=tk1 }) h2 i1 (st1.reps i hr.2) hs fun h2 tk2 st2 i2=>h h2 tk2 (st1.trans i st2) i2
theorem put_names (fo : FnOk F) (is : List Nat) : ∀ {xs : List Str} {us : List Value} {ds : List V} {vs vs' : List Sl} {s : Shared} {Q : Unit → Shared → Prop} {E : Value → Shared → Prop},is.length = xs.length → (∀ y ∈ is.zip xs,stoB F.sc F.nm y.1 y.2 = true) → Inv F O X vs p s.heap →
  Reps F.c.w s.heap X F.c.pa us ds → setT is ds vs = some vs' → (∀ h' tk',Stp F O X s.heap O X h' → Inv F O X vs' p h' → Q () { s with heap:=h',toks:=tk' }) →
  wpAny (model F.c.prog F.c.w) F.A (assignInOrder (xs.map fun n=>bindName F.env n) us) Q E s:=by
 induction is with
 | nil =>
  intro xs us ds vs vs' s Q E hl ht i hr hs h
  obtain rfl:=len0 hl.symm
  cases ds with
  | cons _ _=>cases hs
  | nil =>
   obtain rfl:=sI hs
   cases us with
   | cons _ _=>exact hr.elim
   | nil=>exact wpAny_pure (h s.heap s.toks (.refl i) i)
 | cons m is ih =>
  intro xs us ds vs vs' s Q E hl ht i hr hs h
  cases xs with
  | nil=>cases hl
  | cons x xs =>
   cases ds with
   | nil=>cases hs
   | cons d ds =>
    cases us with
    | nil=>exact hr.elim
    | cons u us =>
     refine wpAny_bind (wpAny_holding (PyProof.Rows.bindName_ (put_snd fo i (ht (m,x) List.mem_cons_self) hr.1 fun h1 tk1 st1 i1=>?_)))
     exact ih (s:={ s with heap:=h1,toks:=tk1 }) (by simpa using hl) (fun y hy=>ht y (List.mem_cons_of_mem _ hy)) i1 (st1.reps i hr.2) hs fun h2 tk2 st2 i2=>h h2 tk2 (st1.trans i st2) i2
theorem seq_ne {a b : Str} (h : seq a b = false) : (a == b) = false:=beq_eq_false_iff_ne.mpr fun e=>by replace h:=(e) ▸ h;rw [seq_self] at h;exact tF h
theorem any_star {vs : List Expr} (h : vs.all notStar = true) (f : Expr → Bool) (hf : ∀ x,notStar x = true → f x = false) : vs.any f = false:=by
 rw [List.any_eq_false]
 intro x hx
 rw [hf x (allT h x hx)]
 simp
theorem swap2 {env : Env} {sc : Sc} {a b : Str} {pa pb : Pos} {vs : List Expr} {k kt : Nat} {tp vp : Pos} (hb : env.blockKind = .function) (hk : ∀ x,env.kindOf x = kOf sc x) (h : swB2 sc vs a pa b pb = true) :
  swappedStores [.Tuple [.Name a pa,.Name b pb] k tp] (.Tuple vs kt vp) env = pure (some [a,b]):=by
 unfold swB2 at h
 simp only [Bool.and_eq_true,Bool.not_eq_true',beq_iff_eq] at h
 refine gG fun P0 hP0=>?_
 obtain ⟨⟨⟨⟨⟨⟨⟨h1,h2⟩,h3⟩,h4⟩,h5⟩,h6⟩,h7⟩,h8⟩:=h
 refine hP0 ?_
 have e3 : env.kindOf a = some NameKind.local:=by rw [hk];exact isL_eq h3
 have e4 : env.kindOf b = some NameKind.local:=by rw [hk];exact isL_eq h4
 have e6:=seq_ne h6
 have hpos : (Expr.Name a pa).pos = pa:=rfl
 unfold swappedStores
 dsimp only
 rw [any_star h2 _ (by intro x hx;cases x <;> first | rfl | exact fT hx)]
 simp [hb,h1,e3,e4,h5,e6,h7,h8,List.eraseDups_cons,hpos]
theorem swap3 {env : Env} {sc : Sc} {a b c : Str} {pa pb pc : Pos} {vs : List Expr} {k kt : Nat} {tp vp : Pos} (hb : env.blockKind = .function) (hk : ∀ x,env.kindOf x = kOf sc x) (h : swB3 sc vs a pa b pb c pc = true) :
  swappedStores [.Tuple [.Name a pa,.Name b pb,.Name c pc] k tp] (.Tuple vs kt vp) env = pure (some [a,b,c]):=by
 unfold swB3 at h
 simp only [Bool.and_eq_true,Bool.not_eq_true',beq_iff_eq] at h
 refine gG fun P0 hP0=>?_
 obtain ⟨⟨⟨⟨⟨⟨⟨⟨⟨⟨⟨h1,h2⟩,h3⟩,h4⟩,h4'⟩,h5⟩,h5'⟩,h6⟩,h6'⟩,h6''⟩,h7⟩,h8⟩:=h
 refine hP0 ?_
 have e3 : env.kindOf a = some NameKind.local:=by rw [hk];exact isL_eq h3
 have e4 : env.kindOf b = some NameKind.local:=by rw [hk];exact isL_eq h4
 have e4' : env.kindOf c = some NameKind.local:=by rw [hk];exact isL_eq h4'
 have e6:=seq_ne h6
 have e6':=seq_ne h6'
 have e6'':=seq_ne h6''
 have hpos : (Expr.Name a pa).pos = pa:=rfl
 unfold swappedStores
 dsimp only
 rw [any_star h2 _ (by intro x hx;cases x <;> first | rfl | exact fT hx)]
 simp [hb,h1,e3,e4,e4',← h5,← h5',e6,e6',e6'',h7,h8,List.eraseDups_cons,hpos]
theorem setT_nil {ds : List V} {vs vs' : List Sl} (h : setT [] ds vs = some vs') : ds = [] ∧ vs' = vs:=by
 cases ds with
 | nil=>exact ⟨rfl,(Option.some.inj h).symm⟩
 | cons _ _=>exact nomatch (show none = some vs' from h)
theorem setT_cons {i : Nat} {r : List Nat} {ds : List V} {vs vs' : List Sl} (h : setT (i :: r) ds vs = some vs') : Ex2 fun x xs=>ds = x :: xs ∧ setT r xs (vs.set i (.val x)) = some vs':=by
 cases ds with
 | nil=>exact nomatch (show none = some vs' from h)
 | cons x xs=>exact ⟨x,xs,rfl,h⟩
theorem setT_len : ∀ {is : List Nat} {ds : List V} {vs vs' : List Sl},setT is ds vs = some vs' → ds.length = is.length
 | [],_,_,_,h=>by refine ((setT_nil h).1).symm ▸ ?_;rfl
 | _ :: is,_,_,_,h=>by obtain ⟨x,xs,rfl,h⟩:=setT_cons h;exact congrArg Nat.succ (setT_len h)
theorem stoB_ne {sc : Sc} {nm : List (Option Str)} {i j : Nat} {x y : Str} (h1 : stoB sc nm i x = true) (h2 : stoB sc nm j y = true) (hn : seq y x = false) : i ≠ j:=by
 rintro rfl
 have e1:=(nmAt_get (and2 h1).1).1
 obtain rfl:=sI (sI (((nmAt_get (and2 h2).1).1).symm.trans e1))
 rw [seq_self] at hn;exact tF hn
theorem tgts_inv {sc : Sc} {nm : List (Option Str)} {is : List Nat} {x : Str} {px : Pos} {ts : List Expr} (h : tgts sc nm is (.Name x px :: ts) = true) : Ex2 fun m is'=>A3 (is = m :: is') (stoB sc nm m x = true) (tgts sc nm is' ts = true):=by
 cases is with
 | nil=>exact absurd h Bool.false_ne_true
 | cons m is=>exact ⟨m,is,rfl,(and2 h).1,(and2 h).2⟩
theorem tgts_end {sc : Sc} {nm : List (Option Str)} {is : List Nat} (h : tgts sc nm is [] = true) : is = []:=by
 cases is with
 | nil=>rfl
 | cons m is=>exact absurd h Bool.false_ne_true
structure SwGo (sc : Sc) (nm : List (Option Str)) (env : Env) (is : List Nat) (st : Sem (Option (List Str))) (names : List Str) : Prop where
 eq : st = pure (some names)
 len : is.length = names.length
 sto : ∀ y ∈ is.reverse.zip names.reverse,stoB sc nm y.1 y.2 = true
 set : ∀ (ds : List V) (vs vs' : List Sl),setT is ds vs = some vs' → setT is.reverse ds.reverse vs = some vs'
theorem swap_go {sc : Sc} {nm : List (Option Str)} {env : Env} {is : List Nat} {ts tvs : List Expr} {kt kt' : Nat} {tp vp : Pos} (hb : env.blockKind = .function) (hk : ∀ x,env.kindOf x = kOf sc x) (ht : tgts sc nm is ts = true) (hsw : swapB sc ts tvs = true) :
  ∃ names,SwGo sc nm env is (swappedStores [.Tuple ts kt tp] (.Tuple tvs kt' vp) env) names:=by
 refine lc_inv (show lc _ ts = true from hsw) fun t1 r e1 h1=>eName_inv h1 fun a pa e2 h2=>lc_inv h2 fun t2 r2 e3 h3=>eName_inv h3 fun b pb e4 h4=>?_
 clear hsw h1 h2 h3
 subst e1 e2 e3 e4
 obtain ⟨m1,is1,q1,s1,ht1⟩:=tgts_inv ht
 obtain ⟨m2,is2,q2,s2,ht2⟩:=tgts_inv ht1
 clear ht ht1
 subst q1 q2
 cases r2 with
 | nil =>
  cases tgts_end ht2
  have h : swB2 sc tvs a pa b pb = true:=h4
  have n12 : m1 ≠ m2:=stoB_ne s1 s2 (not2 (and2 (and2 (and2 h).1).1).2)
  refine ⟨[a,b],swap2 hb hk h,rfl,fun y hy=>?_,fun ds vs vs' hs=>?_⟩
  ·rcases memc hy with rfl | hy
   ·exact s2
   ·cases mems hy;exact s1
  ·obtain ⟨x,ds1,e1,hs1⟩:=setT_cons hs
   obtain ⟨y,ds2,e2,hs2⟩:=setT_cons hs1
   obtain ⟨e3,e4⟩:=setT_nil hs2
   clear hs hs1 hs2
   subst e1 e2 e3 e4
   exact congrArg some (List.set_comm _ _ n12).symm
 | cons t3 r3 =>
  refine ln_inv (show ln _ r3 = true from h4) fun e5 h5=>eName_inv h5 fun c pc e6 h=>?_
  clear h4 h5
  subst e5 e6
  obtain ⟨m3,is3,q3,s3,ht3⟩:=tgts_inv ht2
  clear ht2
  subst q3
  cases tgts_end ht3
  have n23 : m2 ≠ m3:=stoB_ne s2 s3 (not2 (and2 (and2 (and2 h).1).1).2)
  have n13 : m1 ≠ m3:=stoB_ne s1 s3 (not2 (and2 (and2 (and2 (and2 h).1).1).1).2)
  have n12 : m1 ≠ m2:=stoB_ne s1 s2 (not2 (and2 (and2 (and2 (and2 (and2 h).1).1).1).1).2)
  refine ⟨[a,b,c],swap3 hb hk h,rfl,fun y hy=>?_,fun ds vs vs' hs=>?_⟩
  ·rcases memc hy with rfl | hy
   ·exact s3
   ·rcases memc hy with rfl | hy
    ·exact s2
    ·cases mems hy;exact s1
  ·obtain ⟨x,ds1,e1,hs1⟩:=setT_cons hs
   obtain ⟨y,ds2,e2,hs2⟩:=setT_cons hs1
   obtain ⟨z,ds3,e3,hs3⟩:=setT_cons hs2
   obtain ⟨e4,e5⟩:=setT_nil hs3
   clear hs hs1 hs2 hs3
   subst e1 e2 e3 e4 e5
   show some (((vs.set m3 (.val z)).set m2 (.val y)).set m1 (.val x)) = some (((vs.set m1 (.val x)).set m2 (.val y)).set m3 (.val z))
   rw [List.set_comm (l:=vs) (Sl.val z) (Sl.val y) (Ne.symm n23),List.set_comm (Sl.val z) (Sl.val x) (Ne.symm n13),List.set_comm (Sl.val y) (Sl.val x) (Ne.symm n12)]
set_option tactic.hygienic true in
theorem s_asgT (fo : FnOk F) {is : List Nat} {e : CE} {k : CS} (hk : S1 F n k) : S1 F n (.asgT is e k):=by
 intro O X vs p s Q E stmts hr i h
 refine sA1_inv (show sA1 _ stmts = true from hr) fun tg v pos rr e0 h0=>eTuple_inv h0 fun ts kt tp e1 hq=>?_
 clear hr h0
 subst e0 e1
 have hrk:=(and2 hq).2
 have hre:=(and2 (and2 hq).1).2
 have hnc:=(and2 (and2 (and2 hq).1).1).2
 have hsw:=(and2 (and2 (and2 (and2 hq).1).1).1).2
 have ht:=(and2 (and2 (and2 (and2 hq).1).1).1).1
 clear hq
 have hk' : ∀ x,F.env.kindOf x = kOf F.sc x:=(fo.ev X).kind_at
 have hbk : F.env.blockKind = .function:=by unfold Env.blockKind;rw [(fo.ev X).kind];rfl
 have hsole : swapsWithSole [.Tuple ts kt tp] v pos.line F.env = pure false:=by
  show swapsWith v (some (.Tuple ts kt tp)) pos.line F.env = pure false
  exact noSwap hnc _ _ _
 have val : ∀ (Q' : Value → Shared → Prop),(∀ a us ds vs' p1 h1 tk1,KpF F.c F.fs s.heap h1 → Inv F O X vs p1 h1 → IsTup h1 a us.toArray → Reps F.c.w h1 X F.c.pa us ds → setT is ds vs = some vs' →
   PS F O X { s with heap:=h1,toks:=tk1 } (csx F.Γ n k vs' p1) Q E → Q' (.ref a) { s with heap:=h1,toks:=tk1 }) → wpAny (model F.c.prog F.c.w) F.A (eval v F.env) Q' E s:=fun Q' g =>
  relE_ev fo hre i (PS.bindE fo i h fun d p1 b h1 tk1 kk i1 r1 h=>by
   cases d <;> first | exact h.elim | skip
   rename_i xs
   obtain ⟨_,a,us,rfl,_,htup,hrs⟩:=r1
   change PS F O X _ (dO .fail (fun vs=>csx F.Γ n k vs p1) (setT is xs vs)) Q E at h
   cases hset : setT is xs vs with
   | none=>rw [hset] at h;exact h.elim
   | some vs'=>rw [hset] at h;exact g a us _ _ p1 h1 tk1 kk i1 htup hrs hset h)
 have extG : ∀ {h1 h2 : Heap},Heap.ExtBut h1.objs.size h1 h2 → Grow h1 h2:=fun he b o e=>he b o (Nat.ne_of_lt (Heap.lt_size e)) e
 by_cases hv : Ex3 fun vs' kt' vp=>v = .Tuple vs' kt' vp
 ·obtain ⟨tvs,kt',vp,rfl⟩:=hv
  obtain ⟨names,hsn,hln,hst,hrev⟩:=swap_go (kt:=kt) (kt':=kt') (tp:=tp) (vp:=vp) hbk hk' ht hsw
  refine rest_snd i hk hrk (Assign_Tuple_swapped (names:=names) (val _ fun a us ds vs' p1 h1 tk1 kk i1 htup hrs hset h=>?_) hsole hsn)
  have hl : names.length = us.toArray.size:=by rw [List.size_toArray,hrs.len,setT_len hset,hln]
  rw [hl]
  refine unpackItems_tuple (fo.ev X).hh htup fun h2 he=>?_
  have g:=extG he
  have i2:=i1.expr fo (.grow g) (i1.bs.grow g)
  have st2 : Stp F O X h1 O X h2:=.expr i1 (.grow g)
  refine put_names (s:={ s with heap:=h2,toks:=tk1 }) fo is.reverse (by simp [hln]) hst i2 (Reps.reverse (st2.reps i1 hrs)) (hrev _ _ _ hset) fun h3 tk3 st3 i3=>?_
  exact ⟨_,_,O,X,h3,tk3,rfl,(Stp.expr i kk).trans i (st2.trans i1 st3),i3,PS.at (s:={ s with heap:=h1,toks:=tk1 }) i1 (st2.trans i1 st3) h⟩
 ·have hsn : swappedStores [.Tuple ts kt tp] v F.env = pure none:=by
   cases v <;> first | rfl | exact absurd ⟨_,_,_,rfl⟩ hv
  refine rest_snd i hk hrk (PyProof.Rows.Assign_Tuple (val _ fun a us ds vs' p1 h1 tk1 kk i1 htup hrs hset h=>?_) hsole hsn)
  obtain ⟨hl1,hl2⟩:=tgts_plain (env:=F.env) ht
  refine assign_Tuple_tuple (fo.ev X).hh htup (by rw [List.size_toArray,hrs.len,setT_len hset,hl1,tgts_len ht]) hl2 fun h2 he=>?_
  have g:=extG he
  have i2:=i1.expr fo (.grow g) (i1.bs.grow g)
  have st2 : Stp F O X h1 O X h2:=.expr i1 (.grow g)
  refine put_all (s:={ s with heap:=h2,toks:=tk1 }) fo is ht i2 (st2.reps i1 hrs) hset fun h3 tk3 st3 i3=>?_
  exact ⟨_,_,O,X,h3,tk3,rfl,(Stp.expr i kk).trans i (st2.trans i1 st3),i3,PS.at (s:={ s with heap:=h1,toks:=tk1 }) i1 (st2.trans i1 st3) h⟩
end
end
section
open PySem PySem.W PyProof.Rows
section
variable {F : Fn} {O X O' X' O'' X'' O1 X1 : List Addr} {vs : List Sl} {p p' : Int} {h h' h'' : Heap} {s : Shared} {n : Nat}
theorem fx_stp (st : Stp F O X h O' X' h') {h2 : Heap} (fx : Fx (frs F.fs) h' h2) : Stp F O' X' h' O' X' h2 :=
 ⟨fun b o Z h2 Z e hn=>fx.same b o (fun q=>h2 (List.mem_cons_of_mem _ q)) e hn,fun b o Z Z Z e hn=>fx.slots b o e hn,fun Z a=>.inl a,fun Z a=>.inl a,fun Z a=>a,st.offO⟩
theorem fx_bs {c : Cx} {fs : List Env} (b : Bs c fs X p h) (fx : Fx (frs fs) h h') (hs : c.base.StaysIn h') : Bs c fs X p h' :=
 b.step (fx.kp fun Z q=>List.mem_cons_of_mem _ q) hs fun hz=>by
  obtain ⟨t,hl⟩:=b.pen hz
  exact ⟨t,isList_at hl fun o e hn=>fx.same _ o b.paf e hn⟩
theorem PS.noted (fo : FnOk F) (i : Inv F O X vs p s.heap) {r : RS} {Q : Flow → Shared → Prop} {E : Value → Shared → Prop} (h : PS F O X s r Q E) :
  PS F O X s r Q (notedBy (model F.c.prog F.c.w) F.A F.env (cameBackBy (model F.c.prog F.c.w) F.A F.env E)):=by
 cases r with
 | fail=>exact h
 | ok fl vs' p'=>exact h
 | exc t cs p' =>
  rintro e O2 X2 h2 tk2 st2 b2 ⟨ea,dx,tb,fl,rfl,hb0,hrec,htb,hok,hxd⟩ ⟨mL,hnL⟩
  refine note_snd (s:={ s with heap:=h2,toks:=tk2 }) fo.hfr b2.frames fo.frame b2.stays hb0 hrec htb hok fun h3 T k1 k2 k3 k4=>?_
  have b3:=fx_bs b2 k2 k1
  have st3:=st2.trans i (fx_stp st2 k2)
  have x3 : XD F.c h3 X2 dx t cs:=hxd.kp (k2.kp fun a q=>b2.fin a q) fun Z q=>q
  unfold cameBackBy
  refine gG fun P0 hP0=>?_
  obtain ⟨fv,sl,he,hv1⟩:=id k3
  refine hP0 ?_
  refine wpAny_bind (wpAny_field he rfl hv1 ?_)
  refine (if_neg (show ¬ ((Value.ref T == Value.none) = true) from by simp)).symm ▸ ?_
  refine flight_snd (s:={ s with heap:=h3,toks:=tk2 }) k1 k3 k4 (frs F.fs) fun h4 j1 j2 j3 j4=>?_
  replace j4:=(fo.frame) ▸ j4
  exact h _ O2 X2 h4 tk2 (st3.trans i (fx_stp st3 j2)) (fx_bs b3 j2 j1) ⟨ea,dx,.ref T,rawInt F.L,rfl,hb0,j3,j4,.inr rfl,x3.kp (j2.kp fun a q=>b2.fin a q) fun Z q=>q⟩ ⟨mL,ns_slots (ns_slots hnL fun o e hn=>k2.slots _ o e hn) fun o e hn=>j2.slots _ o e hn⟩
noncomputable def QLoop (F : Fn) (O X : List Addr) (s : Shared) (f : List Sl → Int → RS) (O1 X1 : List Addr) (s1 : Shared) (Q : Flow → Shared → Prop) (E : Value → Shared → Prop) (fl : Flow) (s' : Shared) : Prop :=
 match fl with
 | .next | .cont=>Ex6 fun vs' p' O' X' h' tk'=>A4 (s' = { s1 with heap:=h',toks:=tk' }) (Stp F O1 X1 s1.heap O' X' h') (Inv F O' X' vs' p' h') (PS F O X s (f vs' p') Q E)
 | .brk=>Q .next s'
 | .ret v=>Q (.ret v) s'
theorem PS.loop (i : Inv F O X vs p s.heap) {h1 : Heap} {tk1 : Nat} (st : Stp F O X s.heap O1 X1 h1) {r : RS} {f : List Sl → Int → RS} {Q : Flow → Shared → Prop} {E : Value → Shared → Prop} (h : PS F O X s (loopR r f) Q E) :
  PS F O1 X1 { s with heap:=h1,toks:=tk1 } r (QLoop F O X s f O1 X1 { s with heap:=h1,toks:=tk1 } Q E) E:=by
 cases r with
 | fail=>exact h
 | exc t cs p'=>exact fun e O2 X2 h2 t2 st2 b2 f2 n2=>h e O2 X2 h2 t2 (st.trans i st2) b2 f2 n2
 | ok fl vs' p' =>
  cases fl with
  | next=>exact fun O' X' h' tk' st' i'=>⟨vs',p',O',X',h',tk',rfl,st',i',h⟩
  | cont=>exact fun O' X' h' tk' st' i'=>⟨vs',p',O',X',h',tk',rfl,st',i',h⟩
  | brk=>exact fun O' X' h' tk' st' i'=>h O' X' h' tk' (st.trans i st') i'
  | ret v=>exact fun O' X' h' tk' st' i' u o=>h O' X' h' tk' (st.trans i st') i' u o
theorem s_whl (fo : FnOk F) {t : CE} {b k : CS} (hb : S1 F n b) (hk : S1 F n k) : S1 F n (.whl t b k):=by
 intro O X vs p s Q E stmts hr i h
 refine lc_inv (show lc _ stmts = true from hr) fun st rr e0 h0=>sWhile_inv h0 fun t' b' o pos e1 h1=>ln_inv h1 fun e2 hq=>?_
 clear hr h0 h1
 subst e0 e1 e2
 replace h:=PS.noted fo i (PS.next i h)
 refine rest_snd i hk (and2 hq).2 (wpAny_While ?_)
 refine codeAny_whileLoop (fun m s'=>Ex6 fun vs' p' O1 X1 h1 tk1=>A4 (s' = { s with heap:=h1,toks:=tk1 }) (Stp F O X s.heap O1 X1 h1) (Inv F O1 X1 vs' p' h1) (PS F O X s (wloop (cevB F.Γ t) (csx F.Γ n b) m vs' p') (QNext F O X s (csx F.Γ n k) Q E) (notedBy (model F.c.prog F.c.w) F.A F.env (cameBackBy (model F.c.prog F.c.w) F.A F.env E)))) (fun m s' hI=>?_) n ⟨vs,p,O,X,s.heap,s.toks,rfl,.refl i,i,h⟩
 obtain ⟨vs',p',O1,X1,h1,tk1,rfl,st1,i1,h⟩:=hI
 cases m with
 | zero=>exact h.elim
 | succ m =>
  change PS F O X s ((cevB F.Γ t vs' p').bindS fun c p=>if c then loopR (csx F.Γ n b vs' p) (wloop (cevB F.Γ t) (csx F.Γ n b) m) else .ok .next vs' p) _ _ at h
  refine relE_evB (s:={ s with heap:=h1,toks:=tk1 }) fo (and2 (and2 hq).1).1 i1 ?_
  cases hc : cevB F.Γ t vs' p' with
  | fail=>rw [hc] at h;exact h.elim
  | exc et ec ep=>rw [hc] at h;exact fun e h2 t2 kk bb fl=>h e O1 X1 h2 t2 (st1.trans i (.expr i1 kk)) bb fl (i1.expr fo kk bb).ns
  | ok c p2 =>
   rw [hc] at h
   change PS F O X s (if c then _ else _) _ _ at h
   rintro c' h2 tk2 kk bb rfl
   have i2:=i1.expr fo kk bb
   have st2:=st1.trans i (.expr i1 kk)
   cases c' with
   | true =>
    rw [if_pos rfl] at h ⊢
    refine wpAny_mono (hb (s:={ s with heap:=h2,toks:=tk2 }) (and2 (and2 hq).1).2 i2 (PS.loop i st2 h)) (fun fl s3 q=>?_) fun Z Z e=>e
    have step : (Ex6 fun vs' p' O' X' h' tk'=>A4 (s3 = { s with heap:=h',toks:=tk' }) (Stp F O1 X1 h2 O' X' h') (Inv F O' X' vs' p' h') (PS F O X s (wloop (cevB F.Γ t) (csx F.Γ n b) m vs' p') (QNext F O X s (csx F.Γ n k) Q E) (notedBy (model F.c.prog F.c.w) F.A F.env (cameBackBy (model F.c.prog F.c.w) F.A F.env E)))) → ∃ m',m' < m + 1 ∧ Ex6 fun vs' p' O1 X1 h1 tk1=>A4 (s3 = { s with heap:=h1,toks:=tk1 }) (Stp F O X s.heap O1 X1 h1) (Inv F O1 X1 vs' p' h1) (PS F O X s (wloop (cevB F.Γ t) (csx F.Γ n b) m' vs' p') (QNext F O X s (csx F.Γ n k) Q E) (notedBy (model F.c.prog F.c.w) F.A F.env (cameBackBy (model F.c.prog F.c.w) F.A F.env E))):=by
     rintro ⟨vs3,p3,O3,X3,h3,tk3,e3,st3,i3,h⟩
     exact ⟨m,Nat.lt_succ_self _,vs3,p3,O3,X3,h3,tk3,e3,st2.trans i st3,i3,h⟩
    cases fl with
    | next=>exact step q
    | cont=>exact step q
    | brk=>exact q
    | ret v=>exact q
   | false =>
    rw [if_neg (by simp)] at h ⊢
    exact wpAny_execs_nil (h O1 X1 h2 tk2 st2 i2)
end
end
section
open PySem PySem.W PyProof.Rows
section
variable {F : Fn} {O X O' X' O'' X'' O1 X1 : List Addr} {vs : List Sl} {p p' : Int} {h h' h'' : Heap} {s : Shared} {n : Nat}
theorem Bs.pokeN {c : Cx} {fs : List Env} {I : List Addr} (x : Bs c fs X p h) (hb : ∀ b ∈ I,b ∉ X) (hbase : ∀ b ∈ I,c.base.get? b = none) (hk : ∀ a o,a ∉ I → h.get? a = some o → h'.get? a = some o) : Bs c fs X p h':=by
 refine ⟨fun a o e=>hk a o (fun q=>by exact nS ((hbase a q).symm.trans e)) (x.stays a o e),funFrames_up x.frames fun a o ha e hn=>?_,fun hz=>?_,x.sys,x.pin,x.fin,x.paf,fun a ha=>?_,x.zero⟩
 ·exact ⟨o,hk a o (fun q=>hb a q (x.fin a ha)) e,hn⟩
 ·obtain ⟨t,hl⟩:=x.pen hz
  exact ⟨t,isList_at hl fun o e Z=>hk _ o (fun q=>hb _ q x.pin) e⟩
 ·obtain ⟨o,e,hn⟩:=x.live a ha
  exact ⟨o,hk a o (fun q=>hb a q ha) e,hn⟩
theorem Inv.pokeL (i : Inv F O X vs p h) {I : List Addr} (hI : ∀ b ∈ I,Ex2 fun o us=>h.get? b = some o ∧ o.data = .fields us) (hX : ∀ b ∈ I,b ∉ X) (hbase : ∀ b ∈ I,F.c.base.get? b = none) (hk : ∀ a o,a ∉ I → h.get? a = some o → h'.get? a = some o) : Inv F O X vs p h':=by
 have sm : Sm X h h':=fun b o Z e hn=>hk b o (fun q=>by
  obtain ⟨o',us,e',hd⟩:=hI b q
  obtain rfl:=sI ((e').symm.trans e)
  exact hn us hd) e
 have hst : ∀ c ∈ stor F.env,c ∉ I:=fun c hc q=>hX c q (i.stx c hc)
 have hO : ∀ a ∈ O,a ∉ I:=fun c hc q=>hX c q (i.oin c hc).1
 have up : ∀ y u,Acc F.env h y u → Acc F.env h' y u:=fun y u ac=>ac.up fun c o hc e Z=>⟨o.slots,hk c o (hst c hc) e⟩
 refine ⟨i.bs.pokeN hX hbase hk,fun j y sl e1 e2=>?_,?_,?_,i.stx,i.oin,i.x0,i.one⟩
 ·have z:=i.sl j y sl e1 e2
  cases sl with
  | un=>trivial
  | val d=>obtain ⟨v,ac,r⟩:=z;exact ⟨v,up _ _ ac,Rep.sm sm (fun Z q=>.inl q) _ _ r⟩
  | own ds=>obtain ⟨hz,b,us,ac,ho,hl,r⟩:=z;exact ⟨hz,b,us,up _ _ ac,ho,plain_at hl fun o e Z=>hk _ o (hO b ho) e,Reps.sm sm (fun Z q=>.inl q) _ _ r⟩
  | ownD kv=>obtain ⟨b,us,ac,ho,hl,r⟩:=z;exact ⟨b,us,up _ _ ac,ho,dictOf_at hl fun o e Z=>hk _ o (hO b ho) e,Reps.sm sm (fun Z q=>.inl q) _ _ r⟩
 ·obtain ⟨mm,hn⟩:=i.ns;exact ⟨mm,ns_slots hn fun o e Z=>⟨o.slots,hk _ o (hst _ mem_stor_locals) e⟩⟩
 ·intro y c e;obtain ⟨v,hc⟩:=i.cel y c e;exact ⟨v,cell_slots hc fun o e' Z=>⟨o.slots,hk _ o (hst _ (mem_stor e)) e'⟩⟩
theorem Inv.pokeI (i : Inv F O X vs p h) {I : Addr} (hI : Ex2 fun o us=>h.get? I = some o ∧ o.data = .fields us) (hX : I ∉ X) (hbase : F.c.base.get? I = none) (hk : ∀ a o,a ≠ I → h.get? a = some o → h'.get? a = some o) : Inv F O X vs p h' :=
 i.pokeL (I:=[I]) (fun b hb=>by exact (mems hb).symm ▸ hI) (fun b hb=>by exact (mems hb).symm ▸ hX) (fun b hb=>by exact (mems hb).symm ▸ hbase) fun a o ha=>hk a o (by simpa using ha)
theorem Stp.pokeL (st : Stp F O X h O' X' h') {I : List Addr} (hI : ∀ b ∈ I,h.get? b = none) (hk : ∀ a o,a ∉ I → h'.get? a = some o → h''.get? a = some o) : Stp F O X h O' X' h'':=by
 have ne : ∀ b o,h.get? b = some o → b ∉ I:=fun b o e q=>by exact nS ((hI b q).symm.trans e)
 exact ⟨fun b o h1 h2 h3 e hn=>hk b o (ne b o e) (st.same b o h1 h2 h3 e hn),fun b o h1 h2 h3 e hn=>(by obtain ⟨sl,e'⟩:=st.slots b o h1 h2 h3 e hn;exact ⟨sl,hk b _ (ne b o e) e'⟩),st.newO,st.newX,st.subX,st.offO⟩
theorem Stp.pokeI (st : Stp F O X h O' X' h') {I : Addr} (hI : h.get? I = none) (hk : ∀ a o,a ≠ I → h'.get? a = some o → h''.get? a = some o) : Stp F O X h O' X' h'' :=
 st.pokeL (I:=[I]) (fun b hb=>by exact (mems hb).symm ▸ hI) fun a o ha=>hk a o (by simpa using ha)
theorem base_none (i : Inv F O X vs p h) {a : Addr} (ha : h.get? a = none) : F.c.base.get? a = none:=by
 cases e : F.c.base.get? a with
 | none=>rfl
 | some o=>have:=i.bs.stays a o e;exact nS ((ha).symm.trans this)
theorem walk_frame {St : Nat → Heap → Prop} {it : Addr} {fp : List Addr} {N : Nat} {P : Nat → Value → Prop} (W : Walks F.c.prog F.c.w F.A it fp [it] N P St) (hfpN : ∀ j h,St j h → ∀ b ∈ fp,∃ o,h.get? b = some o ∧ Nrm o)
  {j : Nat} (i : Inv F O X vs p h) (hfx : ∀ b ∈ fp,b ∉ X) (st0 : St j h) (st : Stp F O X h O' X' h') : St j h' ∧ ∀ b ∈ fp,b ∉ X':=by
 refine ⟨W.frame j h h' st0 fun b hb o e=>?_,fun b hb q=>?_⟩
 ·obtain ⟨o',e',hn⟩:=hfpN j h st0 b hb
  obtain rfl:=sI ((e').symm.trans e)
  have hbx:=hfx b hb
  exact st.same b _ (fun q=>hbx (i.oin b q).1) (fun q=>hbx (by
   rcases memc q with rfl | q
   ·exact i.bs.pin
   ·exact i.bs.fin b q)) (fun q=>hbx (i.stx b q)) e' hn
 ·rcases st.newX b q with q | q
  ·exact hfx b hb q
  ·obtain ⟨o',e',hn⟩:=hfpN j h st0 b hb
   exact q o' e' hn
theorem for_snd (fo : FnOk F) {m : Nat} {x : Str} {px : Pos} {b : CS} {body : List Stmt} (hb : S1 F n b) (hsto : stoB F.sc F.nm m x = true) (hrb : relS F.fnm b F.sc F.nm body = true) {s1 : Shared} (i1 : Inv F O X vs p s1.heap)
  {it : Addr} {fp : List Addr} {N : Nat} {P : Nat → Value → Prop} {St : Nat → Heap → Prop} (W : Walks F.c.prog F.c.w F.A it fp [it] N P St) (hnew : s1.heap.get? it = none)
  (hfpN : ∀ j h,St j h → ∀ b ∈ fp,∃ o,h.get? b = some o ∧ Nrm o) (hit : ∀ j h,St j h → Ex2 fun o us=>h.get? it = some o ∧ o.data = .fields us) (hfx : ∀ b ∈ fp,b ∉ X)
  (items : List V) (hN : items.length = N) (hP : ∀ j v d,items[j]? = some d → P j v → Rep F.c.w s1.heap X F.c.pa v d) {h2 : Heap} {tk2 : Nat} (g : Grow s1.heap h2) (st0 : St 0 h2) {Q : Flow → Shared → Prop} {E : Value → Shared → Prop}
  (h : PS F O X s1 (floop (fun y vs p=>csx F.Γ n b (vs.set m (.val y)) p) items vs p) Q (notedBy (model F.c.prog F.c.w) F.A F.env (cameBackBy (model F.c.prog F.c.w) F.A F.env E))) :
  codeAny (model F.c.prog F.c.w) F.A (.forLoop (.Name x px) (.ref it) body [] F.env) (fun r s'=>match r with | .ok f=>Q f s' | .error e=>cameBackBy (model F.c.prog F.c.w) F.A F.env E e s') { s1 with heap:=h2,toks:=tk2 }:=by
 have hbase:=base_none i1 hnew
 have hitf : it ∈ fp:=W.sub it (by exact List.mem_cons_self)
 generalize hB : (fun (y : V) (vs : List Sl) (p : Int)=>csx F.Γ n b (vs.set m (.val y)) p) = B at h
 refine codeAny_forLoop (fun mm s'=>Ex7 fun j vs' p' O1 X1 hh tk=>A8 (mm = N - j) (j ≤ N) (s' = { s1 with heap:=hh,toks:=tk }) (Stp F O X s1.heap O1 X1 hh) (Inv F O1 X1 vs' p' hh) (St j hh) (∀ b ∈ fp,b ∉ X1) (PS F O X s1 (floop B (items.drop j) vs' p') Q (notedBy (model F.c.prog F.c.w) F.A F.env (cameBackBy (model F.c.prog F.c.w) F.A F.env E)))) (fun mm s' hI=>?_) N
  ⟨0,vs,p,O,X,h2,tk2,rfl,Nat.zero_le _,rfl,.expr i1 (.grow g),i1.expr fo (.grow g) (i1.bs.grow g),st0,hfx,h⟩
 obtain ⟨j,vs',p',O1,X1,hh,tk,rfl,hj,rfl,st1,iv,stj,hfx1,h⟩:=hI
 by_cases hlt : j < N
 ·refine W.item j _ _ _ hlt stj fun v h3 tk3 hPv st3 hk=>?_
  have hk' : ∀ a o,a ≠ it → hh.get? a = some o → h3.get? a = some o:=fun a o ha e=>hk a o (by simpa using ha) e
  have iv3:=iv.pokeI (hit j hh stj) (hfx1 it hitf) hbase hk'
  have stp3:=st1.pokeI hnew hk'
  have hget : items[j]? = some items[j]:=by rw [List.getElem?_eq_getElem]
  have rv:=stp3.rep i1 (hP j v _ hget hPv)
  rw [List.drop_eq_getElem_cons (by omega)] at h
  refine PyProof.Rows.assign_Name (put_snd (s:={ s1 with heap:=h3,toks:=tk3 }) fo iv3 hsto rv fun h4 tk4 st4 iv4=>?_)
  have stp4:=stp3.trans i1 st4
  rw [← hB] at h
  refine wpAny_mono (hb (s:={ s1 with heap:=h4,toks:=tk4 }) hrb iv4 (PS.loop i1 stp4 h)) (fun fl s5 q=>?_) fun Z Z e=>e
  rw [hB] at q
  have step : (Ex6 fun vs' p' O' X' h' tk'=>A4 (s5 = { s1 with heap:=h',toks:=tk' }) (Stp F O1 X1 h4 O' X' h') (Inv F O' X' vs' p' h') (PS F O X s1 (floop B (items.drop (j + 1)) vs' p') Q (notedBy (model F.c.prog F.c.w) F.A F.env (cameBackBy (model F.c.prog F.c.w) F.A F.env E)))) → ∃ m',m' < N - j ∧ Ex7 fun j vs' p' O1 X1 hh tk=>A8 (m' = N - j) (j ≤ N) (s5 = { s1 with heap:=hh,toks:=tk }) (Stp F O X s1.heap O1 X1 hh) (Inv F O1 X1 vs' p' hh) (St j hh) (∀ b ∈ fp,b ∉ X1) (PS F O X s1 (floop B (items.drop j) vs' p') Q (notedBy (model F.c.prog F.c.w) F.A F.env (cameBackBy (model F.c.prog F.c.w) F.A F.env E))):=by
   rintro ⟨vs5,p5,O5,X5,h5,tk5,e5,st5,i5,h⟩
   obtain ⟨w1,w2⟩:=walk_frame W hfpN iv3 hfx1 st3 (st4.trans iv3 st5)
   exact ⟨N - (j + 1),by omega,j + 1,vs5,p5,O5,X5,h5,tk5,rfl,hlt,e5,stp4.trans i1 st5,i5,w1,w2,h⟩
  cases fl with
  | next=>exact step q
  | cont=>exact step q
  | brk=>exact q
  | ret v=>exact q
 ·have hjn : j = N:=by omega
  subst hjn
  rw [List.drop_eq_nil_of_le (by omega)] at h
  refine W.done _ _ _ stj fun h3 tk3 hk=>wpAny_execs_nil ?_
  have hk' : ∀ a o,a ≠ it → hh.get? a = some o → h3.get? a = some o:=fun a o ha e=>hk a o (by simpa using ha) e
  exact h O1 X1 h3 tk3 (st1.pokeI hnew hk') (iv.pokeI (hit _ hh stj) (hfx1 it hitf) hbase hk')
theorem size_none (h : Heap) : h.get? h.objs.size = none:=by
 cases e : h.get? h.objs.size with
 | none=>rfl
 | some o=>exact absurd (Heap.lt_size e) (Nat.lt_irrefl _)
theorem noSet {e : Expr} {env : Env} (h : notSet e = true) : ∀ x,foldedSetIterable e env x = pure x:=by
 intro x
 cases e <;> first | rfl | exact fT h
set_option tactic.hygienic true in
theorem s_for1 (fo : FnOk F) {m : Nat} {e : CE} {b k : CS} (hb : S1 F n b) (hk : S1 F n k) : S1 F n (.for1 m e b k):=by
 intro O X vs p s Q E stmts hr i h
 refine sF_inv (show sF _ stmts = true from hr) fun tg v body pos rr e0 h0=>eName_inv h0 fun x px e1 hq=>?_
 clear hr h0
 subst e0 e1
 have hrk:=(and2 hq).2
 have hrb:=(and2 (and2 hq).1).2
 have hre:=(and2 (and2 (and2 hq).1).1).2
 have hset:=(and2 (and2 (and2 (and2 hq).1).1).1).2
 have hsto:=(and2 (and2 (and2 (and2 hq).1).1).1).1
 clear hq
 refine rest_snd i hk hrk (wpAny_For ?_ ?_)
 ·refine relE_ev fo hre i (PS.bindE fo i h fun d p1 va h1 tk1 kk i1 r1 h=>?_)
  have up : ∀ fl s',QNext F O X { s with heap:=h1,toks:=tk1 } (csx F.Γ n k) Q E fl s' → QNext F O X s (csx F.Γ n k) Q E fl s':=fun fl s' q=>by
   cases fl with
   | next=>obtain ⟨vs',p',O',X',h2,tk2,e,st,i',hp⟩:=q;exact ⟨vs',p',O',X',h2,tk2,e,(Stp.expr i kk).trans i st,i',hp⟩
   | _=>exact q
  cases hi : itemsV d with
  | none=>rw [hi] at h;exact h.elim
  | some l =>
   rw [hi] at h
   replace h:=PS.noted fo i1 (PS.next i1 h)
   have mono : ∀ {it : Value} {s2 : Shared} {x : Str} {px : Pos} {body : List Stmt},codeAny (model F.c.prog F.c.w) F.A (.forLoop (.Name x px) it body [] F.env) (fun r s'=>match r with | .ok f=>QNext F O X { s with heap:=h1,toks:=tk1 } (csx F.Γ n k) Q E f s' | .error e=>cameBackBy (model F.c.prog F.c.w) F.A F.env E e s') s2 →
     codeAny (model F.c.prog F.c.w) F.A (.forLoop (.Name x px) it body [] F.env) (fun r s'=>match r with | .ok f=>QNext F O X s (csx F.Γ n k) Q E f s' | .error e=>cameBackBy (model F.c.prog F.c.w) F.A F.env E e s') s2:=fun q=>codeAny_mono q fun r s' hq=>by
    cases r with
    | ok f=>exact up f s' hq
    | error e=>exact hq
   cases d <;> simp only [itemsV,reduceCtorEq,Option.some.injEq] at hi
   case str t =>
    obtain ⟨ht,tt,rfl⟩:=r1
    subst hi
    refine wpAny_pyIter_strU (mono ?_)
    have hg:=Grow.push h1 { cls:=.type (strIterType (S t)),data:=.fields #[.str (S t) tt,.int 0 0] }
    have hget : (h1.push { cls:=.type (strIterType (S t)),data:=.fields #[.str (S t) tt,.int 0 0] }).get? h1.objs.size = some { cls:=.type (strIterType (S t)),data:=.fields #[.str (S t) tt,.int 0 0] }:=Heap.get?_push_size _ rfl
    have hP : ∀ (j : Nat) v d,(t.map fun c=>V.str [c])[j]? = some d → SignAt (S t) j v → Rep F.c.w h1 X F.c.pa v d:=by
     rintro j v d hd ⟨c,u,hc,rfl⟩
     rw [List.getElem?_map] at hd
     obtain ⟨c',hc',rfl⟩:=mapS hd
     have hcc : (S t).cps[j]? = some c':=by simpa [S] using hc'
     rw [hc] at hcc
     obtain rfl:=sI hcc
     refine ⟨⟨by simp [SZ],fun y hy=>?_⟩,u,rfl⟩
     rw [mems hy]
     exact ht.2 _ (List.mem_of_getElem? hc')
    have hlen : (t.map fun c=>V.str [c]).length = (S t).cps.size:=by simp [S]
    cases ha : (S t).cps.all (· < 128) with
    | true =>
     have hty : strIterType (S t) = "str_ascii_iterator" := by unfold strIterType; rw [if_pos ha]
     rw [hty] at hg hget ⊢
     refine for_snd (s1:={ s with heap:=h1,toks:=tk1 }) fo hb hsto hrb i1 (Walks.strAscii (fo.ev X).hh h1.objs.size (S t) tt) (size_none h1) ?_ ?_ (fun b hb=>by rw [mems hb];exact i1.notin (size_none h1)) _ hlen hP hg ⟨_,hget,rfl,rfl⟩ h
     ·rintro j hh ⟨o,e,hc,hd⟩ b hb
      rw [mems hb]
      exact ⟨o,e,.inr ⟨_,hc,by decide⟩⟩
     ·rintro j hh ⟨o,e,hc,hd⟩
      exact ⟨o,_,e,hd⟩
    | false =>
     have hty : strIterType (S t) = "str_iterator" := by unfold strIterType; rw [if_neg (by rw [ha]; simp)]
     rw [hty] at hg hget ⊢
     refine for_snd (s1:={ s with heap:=h1,toks:=tk1 }) fo hb hsto hrb i1 (Walks.strWide (fo.ev X).hh h1.objs.size (S t) tt) (size_none h1) ?_ ?_ (fun b hb=>by rw [mems hb];exact i1.notin (size_none h1)) _ hlen hP hg ⟨_,hget,rfl,rfl⟩ h
     ·rintro j hh ⟨o,e,hc,hd⟩ b hb
      rw [mems hb]
      exact ⟨o,e,.inr ⟨_,hc,by decide⟩⟩
     ·rintro j hh ⟨o,e,hc,hd⟩
      exact ⟨o,_,e,hd⟩
   case lst ds =>
    obtain ⟨hz,ax,us,rfl,hax,hli,hrs⟩:=r1
    subst hi
    refine wpAny_pyIter_list hli (mono ?_)
    have hg := Grow.push h1 { cls := .type "list_iterator", data := .fields #[.ref ax, .int 0 0] }
    have hget : (h1.push { cls := .type "list_iterator", data := .fields #[.ref ax, .int 0 0] }).get? h1.objs.size = some { cls := .type "list_iterator", data := .fields #[.ref ax, .int 0 0] } := Heap.get?_push_size _ rfl
    have hne : ax ≠ h1.objs.size:=by obtain ⟨o,e,_⟩:=hli;exact Nat.ne_of_lt (Heap.lt_size e)
    refine for_snd (s1:={ s with heap:=h1,toks:=tk1 }) fo hb hsto hrb i1 (Walks.list (fo.ev X).hh h1.objs.size ax hne us.toArray) (size_none h1) ?_ ?_ ?_ ds (by rw [List.size_toArray,hrs.len]) ?_ hg ⟨⟨_,hget,rfl,rfl⟩,hli.push _⟩ h
    ·rintro j hh ⟨⟨o,e,hc,hd⟩,hl⟩ b hb
     rcases memc hb with rfl | hb
     ·exact ⟨o,e,.inr ⟨_,hc,by decide⟩⟩
     ·rw [mems hb];exact IsList.nrm hl
    ·rintro j hh ⟨⟨o,e,hc,hd⟩,hl⟩
     exact ⟨o,_,e,hd⟩
    ·intro b hb
     rcases memc hb with rfl | hb
     ·exact i1.notin (size_none h1)
     ·rw [mems hb];exact hax
    ·intro j v d hd hv
     obtain ⟨v',hv',r⟩:=hrs.get hd
     have : us[j]? = some v:=by simpa using hv
     rw [hv'] at this
     obtain rfl:=sI this
     exact r
 ·exact noSet hset
end
end
section
open PySem PySem.W PyProof.Rows
section
variable {F : Fn} {O X O' X' O'' X'' O1 X1 : List Addr} {vs : List Sl} {p p' : Int} {h h' h'' : Heap} {s : Shared} {n : Nat}
abbrev EnJ (F : Fn) (O X : List Addr) (s1 : Shared) (B : Int → V → List Sl → Int → RS) (ds : List V) (us : List Value) (e it l : Addr) (Q : Flow → Shared → Prop) (N : Value → Shared → Prop) (mm : Nat) (s' : Shared) : Prop:=Ex8 fun (j : Nat) (vs' : List Sl) (p' : Int) (O1 X1 : List Addr) (hh : Heap) (tk : Nat) (old : Value)=>A10 (mm = us.length - j) (j ≤ us.length) (s' = { s1 with heap:=hh,toks:=tk }) (Stp F O X s1.heap O1 X1 hh) (Inv F O1 X1 vs' p' hh) (IsEnum hh e it j old) (hh.IsListIter it l j) (hh.IsList l us.toArray) (∀ b ∈ [e,it,l],b ∉ X1) (PS F O X s1 (floop2 B (j : Nat) (ds.drop j) vs' p') Q N)
theorem enum_snd (fo : FnOk F) {m1 m2 : Nat} {x y : Str} {px py : Pos} {kt : Nat} {tp : Pos} {b : CS} {body : List Stmt} (hb : S1 F n b) (hs1 : stoB F.sc F.nm m1 x = true) (hs2 : stoB F.sc F.nm m2 y = true) (hrb : relS F.fnm b F.sc F.nm body = true)
  {s1 : Shared} (i1 : Inv F O X vs p s1.heap) {e it l : Addr} {us : List Value} {ds : List V} (hne : e ≠ it) (hn1 : s1.heap.get? e = none) (hn2 : s1.heap.get? it = none) (hlX : l ∉ X) (hl : s1.heap.IsList l us.toArray) (hrs : Reps F.c.w s1.heap X F.c.pa us ds)
  {h2 : Heap} {tk2 : Nat} (g : Grow s1.heap h2) (he : IsEnum h2 e it 0 .none) (hit : h2.IsListIter it l 0) {Q : Flow → Shared → Prop} {E : Value → Shared → Prop}
  (h : PS F O X s1 (floop2 (fun k y vs p=>csx F.Γ n b ((vs.set m1 (.val (.int k))).set m2 (.val y)) p) 0 ds vs p) Q (notedBy (model F.c.prog F.c.w) F.A F.env (cameBackBy (model F.c.prog F.c.w) F.A F.env E))) :
  codeAny (model F.c.prog F.c.w) F.A (.forLoop (.Tuple [.Name x px,.Name y py] kt tp) (.ref e) body [] F.env) (fun r s'=>match r with | .ok f=>Q f s' | .error e=>cameBackBy (model F.c.prog F.c.w) F.A F.env E e s') { s1 with heap:=h2,toks:=tk2 }:=by
 obtain hb1:=base_none i1 hn1
 obtain hb2:=base_none i1 hn2
 have hnI : ∀ b ∈ [e,it],s1.heap.get? b = none:=fun b hb=>by
  rcases memc hb with rfl | hb
  ·exact hn1
  ·rw [mems hb];exact hn2
 have hbI : ∀ b ∈ [e,it],F.c.base.get? b = none:=fun b hb=>base_none i1 (hnI b hb)
 generalize hB : (fun (k : Int) (y : V) (vs : List Sl) (p : Int)=>csx F.Γ n b ((vs.set m1 (.val (.int k))).set m2 (.val y)) p) = B at h
 obtain hlen:=hrs.len
 refine codeAny_forLoop_any (EnJ F O X s1 B ds us e it l Q (notedBy (model F.c.prog F.c.w) F.A F.env (cameBackBy (model F.c.prog F.c.w) F.A F.env E))) (fun mm s' hI=>?_) us.length
  ⟨0,vs,p,O,X,h2,tk2,.none,rfl,Nat.zero_le _,rfl,.expr i1 (.grow g),i1.expr fo (.grow g) (i1.bs.grow g),he,hit,g.isList hl,fun b hb=>?_,h⟩
 ·obtain ⟨j,vs',p',O1,X1,hh,tk,old,rfl,hj,rfl,st1,iv,he1,hit1,hl1,hfx1,h⟩:=hI
  have hfI : ∀ b ∈ [e,it],b ∉ X1:=fun b hb=>hfx1 b (by
   rcases memc hb with rfl | hb
   ·exact List.mem_cons_self
   ·rw [mems hb];simp)
  have hIf : ∀ b ∈ [e,it],Ex2 fun o us=>hh.get? b = some o ∧ o.data = .fields us:=fun b hb=>by
   rcases memc hb with rfl | hb
   ·exact ⟨_,_,he1,rfl⟩
   ·rw [mems hb];obtain ⟨o,eo,_,hd⟩:=hit1;exact ⟨o,_,eo,hd⟩
  by_cases hlt : j < us.length
  ·have hget : us.toArray[j]? = some us[j]:=by simp [hlt]
   refine wpAny_pyNext_enum_item he1 hit1 hl1 hget hne fun h3 he3 hit3 htup hsz hk=>?_
   have hk' : ∀ a o,a ∉ [e,it] → hh.get? a = some o → h3.get? a = some o:=fun a o ha eo=>by
    rw [List.mem_cons,List.mem_singleton,not_or] at ha
    exact hk a o ha.1 ha.2 eo
   obtain iv3:=iv.pokeL hIf hfI hbI hk'
   obtain stp3:=st1.pokeL hnI hk'
   dsimp only
   refine wpAny_letOwnedTupleGo_enum he3 fun h4 he4 hsb=>?_
   have hk4 : ∀ a o,a ∉ [e,it] → h3.get? a = some o → h4.get? a = some o:=fun a o ha eo=>by
    rw [List.mem_cons,List.mem_singleton,not_or] at ha
    exact (hsb.2 a ha.1).trans eo
   have iv4:=iv3.pokeL (h':=h4) (fun b hb=>by
    rcases memc hb with rfl | hb
    ·exact ⟨_,_,he3,rfl⟩
    ·rw [mems hb];obtain ⟨o,eo,_,hd⟩:=hit3;exact ⟨o,_,eo,hd⟩) hfI hbI hk4
   obtain stp4:=stp3.pokeL hnI hk4
   have hde : j < ds.length:=by lia
   rw [List.drop_eq_getElem_cons hde] at h
   obtain ⟨ux,hux,rx⟩:=hrs.get (List.getElem?_eq_getElem hde)
   have : us[j] = ux:=by rw [List.getElem?_eq_getElem hlt] at hux;exact Option.some.inj hux
   subst this
   obtain rv:=stp4.rep i1 rx
   have htne : hh.objs.size ≠ e:=fun q=>by
    have:=Heap.lt_size he1
    rw [← q] at this
    exact Nat.lt_irrefl _ this
   obtain htup4 : IsTup h4 hh.objs.size #[.int (j : Nat) tk,us[j]]:=⟨_,(hsb.2 _ htne).trans htup,rfl,_,rfl⟩
   refine assign_Tuple_tuple (fo.ev X).hh htup4 rfl rfl fun h5 he5=>?_
   have g5 : Grow h4 h5:=fun b o eo=>he5 b o (Nat.ne_of_lt (Heap.lt_size eo)) eo
   obtain iv5:=iv4.expr fo (.grow g5) (iv4.bs.grow g5)
   obtain st5 : Stp F O1 X1 h4 O1 X1 h5:=.expr iv4 (.grow g5)
   obtain tg : tgts F.sc F.nm [m1,m2] [.Name x px,.Name y py] = true:=tgts_mk2 hs1 hs2
   refine put_all (s:={ s1 with heap:=h5,toks:=tk + 1 }) (ds:=[.int (j : Nat),ds[j]]) fo [m1,m2] tg iv5 ⟨⟨_,rfl⟩,st5.rep iv4 rv,trivial⟩ rfl fun h6 tk6 st6 iv6=>?_
   obtain stp46:=st5.trans iv4 st6
   obtain stp6:=stp4.trans i1 stp46
   change PS F O X s1 (loopR (B (j : Nat) ds[j] vs' p') (floop2 B ((j : Nat) + 1) (ds.drop (j + 1)))) Q _ at h
   rw [← hB] at h
   refine wpAny_mono (hb (s:={ s1 with heap:=h6,toks:=tk6 }) hrb iv6 (PS.loop i1 stp6 h)) (fun fl s7 q=>?_) fun Z Z e=>e
   rw [hB] at q
   have step : (Ex6 fun vs' p' O' X' h' tk'=>A4 (s7 = { s1 with heap:=h',toks:=tk' }) (Stp F O1 X1 h6 O' X' h') (Inv F O' X' vs' p' h') (PS F O X s1 (floop2 B ((j : Nat) + 1) (ds.drop (j + 1)) vs' p') Q (notedBy (model F.c.prog F.c.w) F.A F.env (cameBackBy (model F.c.prog F.c.w) F.A F.env E)))) → ∃ m',m' < us.length - j ∧ EnJ F O X s1 B ds us e it l Q (notedBy (model F.c.prog F.c.w) F.A F.env (cameBackBy (model F.c.prog F.c.w) F.A F.env E)) m' s7:=by
    rintro ⟨vs7,p7,O7,X7,h7,tk7,e7,st7,i7,h⟩
    obtain st47:=stp46.trans iv4 st7
    have keep : ∀ b ∈ [e,it,l],∀ o,h4.get? b = some o → Nrm o → h7.get? b = some o ∧ b ∉ X7:=fun b hb o eo hn=>by
     obtain hbx:=hfx1 b hb
     refine ⟨st47.same b _ (fun q=>hbx (iv4.oin b q).1) (fun q=>hbx (by
      rcases memc q with rfl | q
      ·exact iv4.bs.pin
      ·exact iv4.bs.fin b q)) (fun q=>hbx (iv4.stx b q)) eo hn,fun q=>?_⟩
     rcases st47.newX b q with q | q
     ·exact hbx q
     ·exact q o eo hn
    obtain hit4 : h4.IsListIter it l (j + 1):=hit3.at fun o eo=>(hsb.2 it (Ne.symm hne)).trans eo
    have hle : l ∉ [e,it]:=fun q=>by
     obtain ⟨o,eo,_,nn,hd⟩:=hl1
     obtain ⟨o',us',e',hd'⟩:=hIf l q
     rw [eo] at e';obtain rfl:=sI e'
     rw [hd] at hd';exact PySem.Data.noConfusion hd'
    obtain hl4 : h4.IsList l us.toArray:=isList_at hl1 fun o eo Z=>hk4 l o hle (hk' l o hle eo)
    have ke:=keep e (by exact List.mem_cons_self) _ he4 (.inr ⟨_,rfl,by decide⟩)
    obtain ⟨oi,ei,hci,hdi⟩:=hit4
    have ki:=keep it (by exact .tail _ (.head _)) _ ei (.inr ⟨_,hci,by decide⟩)
    obtain ⟨ol,el,hcl,nl,hdl⟩:=hl4
    have kl:=keep l (by exact .tail _ (.tail _ (.head _))) _ el (.inl fun Z q=>by rw [hdl] at q;exact PySem.Data.noConfusion q)
    refine ⟨us.length - (j + 1),by lia,j + 1,vs7,p7,O7,X7,h7,tk7,us[j],rfl,hlt,e7,stp6.trans i1 st7,i7,?_,⟨oi,ki.1,hci,hdi⟩,⟨ol,kl.1,hcl,nl,hdl⟩,fun b hb=>?_,h⟩
    ·have:=ke.1
     exact this
    ·rcases memc hb with rfl | hb
     ·exact ke.2
     ·rcases memc hb with rfl | hb
      ·exact ki.2
      ·rw [mems hb];exact kl.2
   cases fl with
   | next=>exact step q
   | cont=>exact step q
   | brk=>exact q
   | ret v=>exact q
  ·have hjn : j = us.length:=by lia
   rw [List.drop_eq_nil_of_le (by lia)] at h
   refine wpAny_pyNext_enum_end (fo.ev X).hh he1 hit1 hl1 (by simp [hjn]) fun h3 hk=>wpAny_execs_nil ?_
   have hk' : ∀ a o,a ∉ [e,it] → hh.get? a = some o → h3.get? a = some o:=fun a o ha eo=>by
    rw [List.mem_cons,List.mem_singleton,not_or] at ha
    exact hk a o ha.2 eo
   exact h O1 X1 h3 tk (st1.pokeL hnI hk') (iv.pokeL hIf hfI hbI hk')
 ·rcases memc hb with rfl | hb
  ·exact i1.notin hn1
  ·rcases memc hb with rfl | hb
   ·exact i1.notin hn2
   ·rw [mems hb];exact hlX
theorem s_for2 (fo : FnOk F) {m1 m2 : Nat} {e : CE} {b k : CS} (hb : S1 F n b) (hk : S1 F n k) : S1 F n (.for2 m1 m2 e b k):=by
 intro O X vs p s Q E stmts hr i h
 refine sF_inv (show sF _ stmts = true from hr) fun tg it b' pos rr e0 h0=>eTuple_inv h0 fun ts kt tp e1 h1=>l2_inv h1 fun tx ty e2 h2=>eName_inv h2 fun x px e3 h3=>eName_inv h3 fun y py e4 h4=>eCN_inv h4 fun id ipos args cpos e5 h5=>l1_inv h5 fun v e6 hq=>?_
 clear hr h0 h1 h2 h3 h4 h5
 subst e0 e1 e2 e3 e4 e5 e6
 obtain hrk:=(and2 hq).2
 obtain hrb:=(and2 (and2 hq).1).2
 replace hq:=(and2 (and2 hq).1).1
 obtain hre:=(and2 hq).2
 obtain hst:=(and2 (and2 hq).1).2
 replace hq:=(and2 (and2 hq).1).1
 obtain hg:=(and2 hq).2
 obtain hid:=(and2 (and2 hq).1).2
 obtain hs2:=(and2 (and2 (and2 hq).1).1).2
 obtain hs1:=(and2 (and2 (and2 hq).1).1).1
 clear hq
 obtain rfl:=seq_eq hid
 obtain ev:=fo.ev X
 refine gG fun P0 hP0=>?_
 obtain ⟨mg,hns,_,_,heg,_⟩:=ev.gl
 obtain ⟨mb,hnb,_,_,heb⟩:=ev.bl
 refine hP0 ?_
 have tr : Trs F.env [v] (backTo cpos (starEach [v] F.env)):=by
  rw [star_cons hst]
  exact ⟨rfl,fun Z Z Z Z Z x=>x,trivial⟩
 refine rest_snd i hk hrk (wpAny_For ?_ (fun Z=>rfl))
 refine wpAny_Call_NameR (PySem.Calls.Name_function_global ev.kind ((ev.kind_at _).trans (isG_eq hg)) (PySem.Calls.loadGlobal_builtin (stays_ns i.bs.stays hns) heg (stays_ns i.bs.stays hnb) heb ?_) (by decide))
 refine PySem.callWith_type tr.noStar (spliced_all tr.noStar ?_)
 rw [star_cons hst]
 refine PySem.Calls.spliced_cons (relE_ev fo hre i (PS.bindE fo i h fun d p1 va h1 tk1 kk i1 r1 h=>PySem.Calls.spliced_nil ?_))
 cases d <;> first | exact h.elim | skip
 rename_i ds
 refine gG fun P0 hP0=>?_
 obtain ⟨hz,ax,us,rfl,hax,hli,hrs⟩:=r1
 refine hP0 ?_
 replace h:=PS.noted fo i1 (PS.next i1 h)
 refine call_enumerate_list hli fun h2 he hit hsz hk2=>wpAny_pyIter_enum he ?_
 have up : ∀ fl s',QNext F O X { s with heap:=h1,toks:=tk1 } (csx F.Γ n k) Q E fl s' → QNext F O X s (csx F.Γ n k) Q E fl s':=fun fl s' q=>by
  cases fl with
  | next=>obtain ⟨vs',p',O',X',h2,tk2,e,st,i',hp⟩:=q;exact ⟨vs',p',O',X',h2,tk2,e,(Stp.expr i kk).trans i st,i',hp⟩
  | _=>exact q
 have hn1 : h1.get? (h1.objs.size + 1) = none:=by
  cases e : h1.get? (h1.objs.size + 1) with
  | none=>rfl
  | some o=>exact absurd (Heap.lt_size e) (nlt (Nat.le_succ _))
 refine codeAny_mono (enum_snd (s1:={ s with heap:=h1,toks:=tk1 }) fo hb hs1 hs2 hrb i1 (Nat.succ_ne_self _) hn1 (size_none h1) hax hli hrs hk2 he hit h) fun r s' hq=>?_
 cases r with
 | ok f=>exact up f s' hq
 | error e=>exact hq
theorem cs_snd (fo : FnOk F) : ∀ cs : CS,S1 F n cs
 | .done=>s_done
 | .asg _ _ k=>s_asg fo (cs_snd fo k)
 | .asgT _ _ k=>s_asgT fo (cs_snd fo k)
 | .newL _ k=>s_newL fo (cs_snd fo k)
 | .newD _ k=>s_newD fo (cs_snd fo k)
 | .app _ _ k=>s_app fo (cs_snd fo k)
 | .rev _ k=>s_rev fo (cs_snd fo k)
 | .setD _ _ _ k=>s_setD fo (cs_snd fo k)
 | .setP _ _ k=>s_setP fo (cs_snd fo k)
 | .aug _ _ _ k=>s_aug fo (cs_snd fo k)
 | .ifs _ b o k=>s_ifs fo (cs_snd fo b) (cs_snd fo o) (cs_snd fo k)
 | .whl _ b k=>s_whl fo (cs_snd fo b) (cs_snd fo k)
 | .for1 _ _ b k=>s_for1 fo (cs_snd fo b) (cs_snd fo k)
 | .for2 _ _ _ b k=>s_for2 fo (cs_snd fo b) (cs_snd fo k)
 | .ret _=>s_ret fo
 | .retO _=>s_retO
 | .rai _=>s_rai fo
 | .brk=>s_brk
 | .cont=>s_cont
 | .exp _ k=>s_exp fo (cs_snd fo k)
end
end
section
open PySem PySem.W PyProof.Rows
theorem zip_lookup : ∀ {ns : List Str} {vs : List Value},vs.length = ns.length → ∀ n ∈ ns,∃ v,(ns.zip vs).lookup n = some v
 | [],_,_,_,h=>by cases h
 | m :: ns,[],h,_,_=>by cases h
 | m :: ns,v :: vs,h,n,hn=>by
  rw [List.zip_cons_cons,List.lookup_cons]
  cases he : n == m with
  | true=>exact ⟨v,rfl⟩
  | false =>
   rcases memc hn with rfl | hn
   ·rw [beq_self_eq_true] at he;exact tF he
   ·exact zip_lookup (by simpa using h) n hn
theorem filterMap_same {α β : Type} {f g : α → Option β} : ∀ {l : List α},(∀ x ∈ l,f x = g x) → l.filterMap f = l.filterMap g
 | [],_=>rfl
 | a :: l,h=>by
  rw [List.filterMap_cons,List.filterMap_cons,h a List.mem_cons_self,filterMap_same fun x hx=>h x (List.mem_cons_of_mem _ hx)]
theorem zip_filterMap : ∀ {ns : List Str} {vs : List Value},vs.length = ns.length → ns.Nodup → ns.filterMap (fun n=>((ns.zip vs).lookup n).map (n,·)) = ns.zip vs
 | [],_,_,_=>rfl
 | m :: ns,[],h,_=>by cases h
 | m :: ns,v :: vs,h,hn=>by
  rw [List.nodup_cons] at hn
  rw [List.filterMap_cons,List.zip_cons_cons,List.lookup_cons,beq_self_eq_true]
  show (m,v) :: List.filterMap (fun n=>(((m,v) :: ns.zip vs).lookup n).map (n,·)) ns = (m,v) :: ns.zip vs
  rw [filterMap_same (g:=fun n=>((ns.zip vs).lookup n).map (n,·)) fun n hn'=>?_,zip_filterMap (by simpa using h) hn.2]
  have : (n == m) = false:=beq_eq_false_iff_ne.mpr fun e=>hn.1 (e ▸ hn')
  rw [List.lookup_cons,this]
theorem fzR {α β γ δ : Type} (l : List α) (k : Nat) (s : γ) (f : α × β → γ → Sem (ForInStep γ)) (g : γ → Sem δ) : (forIn (l.zip (List.drop k ([] : List β))) s f >>= g) = g s:=by rw [List.drop_nil,List.zip_nil_right];rfl
theorem pbR {α β : Type} (a : α) (f : α → Sem β) : (pure a >>= f) = f a:=rfl
theorem siR : seqItems? (.none) = pure none:=rfl
theorem bind_simple {fd : FuncData} {names : List Str} {vals : List Value} (h1 : fd.params.posonlyargs = []) (h2 : fd.params.args.map (·.arg) = names) (h3 : fd.params.vararg = none) (h4 : fd.params.kwonlyargs = []) (h5 : fd.params.kwarg = none)
  (hd : fd.defaults = .none) (hl : vals.length = names.length) (hn : names.Nodup) : bindArgs fd ⟨vals,[]⟩ = pure (names.zip vals):=by
 have e1 : (names.take names.length).filter (fun n=>((names.zip vals).lookup n).isNone) = []:=by
  rw [List.take_length,List.filter_eq_nil_iff]
  intro n hn
  obtain ⟨v,e⟩:=zip_lookup hl n hn
  rw [e];exact Bool.false_ne_true
 rcases fd with ⟨_,_,⟨_,_,_,_,_,_⟩,_,_,_,_,_,_,_,_,_,_,_,_⟩
 dsimp only at h1 h2 h3 h4 h5 hd
 subst h1 h2 h3 h4 h5 hd
 dsimp only [bindArgs,List.map_nil,List.nil_append,List.forIn_nil,pbR,siR,Option.getD_none,List.length_nil,Nat.sub_zero,List.drop_nil,List.any_nil]
 refine (if_neg ?c1).trans ?_
 case c1 =>
  intro h
  exact Nat.lt_irrefl _ (hl ▸ of_decide_eq_true (and2 h).1)
 refine (if_neg ?c2).trans ?_
 case c2 =>
  rw [List.drop_nil]
  intro h
  exact fT (Eq.mp (congrArg (fun l : List Str=>(!l.isEmpty) = true) e1) h)
 refine (fzR _ _ _ _ _).trans ?_
 refine congrArg (pure : List (Str × Value) → Sem _) ?_
 exact (congrArg (List.filterMap _) (List.append_nil (List.map (fun x=>x.arg) args))).trans (zip_filterMap hl hn)
noncomputable def nmDist : List (Option Str) → Bool
 | []=>true
 | none :: r=>nmDist r
 | some x :: r=>r.all (fun o=>match o with | some y=>!seq x y | none=>true) && nmDist r
theorem nmDist_ne : ∀ {nm : List (Option Str)},nmDist nm = true → ∀ (i j : Nat) (x : Str),nm[i]? = some (some x) → nm[j]? = some (some x) → i = j
 | [],_,i,_,_,h,_=>by simp at h
 | none :: r,h,0,_,_,e,_=>by cases e
 | none :: r,h,_ + 1,0,_,_,e=>by cases e
 | none :: r,h,i + 1,j + 1,x,e1,e2=>congrArg (· + 1) (nmDist_ne (nm:=r) h i j x (by simpa using e1) (by simpa using e2))
 | some y :: r,h,0,0,_,_,_=>rfl
 | some y :: r,h,0,j + 1,x,e1,e2=>by
  unfold nmDist at h
  rw [Bool.and_eq_true,List.all_eq_true] at h
  obtain rfl:=sI (sI e1)
  have:=h.1 (some y) (List.mem_of_getElem? (by simpa using e2))
  simp only [seq_self] at this
  cases this
 | some y :: r,h,i + 1,0,x,e1,e2=>by
  unfold nmDist at h
  rw [Bool.and_eq_true,List.all_eq_true] at h
  obtain rfl:=sI (sI e2)
  have:=h.1 (some y) (List.mem_of_getElem? (by simpa using e1))
  simp only [seq_self] at this
  cases this
 | some y :: r,h,i + 1,j + 1,x,e1,e2=>by
  unfold nmDist at h
  rw [Bool.and_eq_true] at h
  exact congrArg (· + 1) (nmDist_ne (nm:=r) h.2 i j x (by simpa using e1) (by simpa using e2))
noncomputable def parB (sc : Sc) : List Arg → List (Option Str) → Bool
 | [],_=>true
 | a :: as,some y :: nm=>seq y a.arg && (isL (kOf sc a.arg) || isC (kOf sc a.arg)) && parB sc as nm
 | _,_=>false
theorem parB_get {sc : Sc} : ∀ {as : List Arg} {nm : List (Option Str)},parB sc as nm = true → ∀ (i : Nat) (a : Arg),as[i]? = some a → nm[i]? = some (some a.arg) ∧ (isL (kOf sc a.arg) || isC (kOf sc a.arg)) = true
 | [],_,_,i,a,e=>by simp at e
 | b :: as,some y :: nm,h,0,a,e=>by
  unfold parB at h
  rw [Bool.and_eq_true,Bool.and_eq_true] at h
  obtain rfl:=sI e
  exact ⟨by rw [← seq_eq h.1.1];rfl,h.1.2⟩
 | b :: as,some y :: nm,h,i + 1,a,e=>by
  unfold parB at h
  rw [Bool.and_eq_true] at h
  simpa using parB_get h.2 i a (by simpa using e)
 | b :: as,none :: nm,h,_,_,_=>by cases h
 | b :: as,[],h,_,_,_=>by exact fT h
noncomputable def fnB0 (ar nv : Nat) (vars : List String) (fd : FuncData) : Bool :=
 (fd.params.posonlyargs.isEmpty && (fd.params.vararg.isNone && (fd.params.kwonlyargs.isEmpty && (fd.params.kwarg.isNone && (decide (fd.params.args.length = ar) && (decide (vars.length = nv) && (decide (ar ≤ nv) &&
 (parB fd.scope.names fd.params.args (nmsOf fd.scope.names vars) && (nmDist (nmsOf fd.scope.names vars) && ((match fd.scope.kind with | .function=>true | _=>false) && (!fd.scope.isCoroutine && (!fd.scope.isGenerator &&
 ((match fd.defaults with | .none=>true | _=>false) && fd.closure.isEmpty)))))))))))))
noncomputable def fnB (fnm : List Str) (cs : CS) (ar nv : Nat) (vars : List String) (fd : FuncData) : Bool :=
 (match fd.body with | .stmts b=>relS fnm cs fd.scope.names (nmsOf fd.scope.names vars) b | _=>false) && fnB0 ar nv vars fd
theorem cellsFrom_acc : ∀ (names : List (Str × NameKind)) (n : Nat) (acc : List (Str × Addr)) (x : Str),(acc.lookup x).isSome = true → ((cellsFrom n names acc).lookup x).isSome = true
 | [],_,_,_,h=>h
 | (m,kd) :: r,n,acc,x,h=>by
  unfold cellsFrom
  split
  ·refine cellsFrom_acc r _ _ x ?_
   rw [List.lookup_cons]
   split
   ·rfl
   ·exact h
  ·exact cellsFrom_acc r _ _ x h
theorem cellsFrom_some : ∀ {names : List (Str × NameKind)} {n : Nat} {acc : List (Str × Addr)} {x : Str},kOf names x = some .cell → ((cellsFrom n names acc).lookup x).isSome = true
 | (m,kd) :: r,n,acc,x,h=>by
  rw [kOf] at h
  unfold cellsFrom
  by_cases hs : seq x m = true
  ·rw [if_pos hs] at h
   obtain rfl:=sI h
   rw [if_pos (by rfl)]
   refine cellsFrom_acc r _ _ x ?_
   rw [seq_eq hs,List.lookup_cons,beq_self_eq_true]
   rfl
  ·rw [if_neg hs] at h
   split
   ·exact cellsFrom_some h
   ·exact cellsFrom_some h
 | [],_,_,_,h=>by exact nS h
theorem pairwise_inj : ∀ {l : List (Str × Addr)},l.Pairwise (fun x y=>x.2 ≠ y.2) → ∀ y z c,l.lookup y = some c → l.lookup z = some c → y = z
 | [],_,y,_,_,h,_=>by cases h
 | (n,a) :: r,hp,y,z,c,h1,h2=>by
  rw [List.pairwise_cons] at hp
  rw [List.lookup_cons] at h1 h2
  cases hy : y == n with
  | true =>
   rw [hy] at h1;obtain rfl:=sI h1
   cases hz : z == n with
   | true=>rw [eq_of_beq hy,eq_of_beq hz]
   | false=>rw [hz] at h2;exact absurd rfl (hp.1 (z,a) (PySem.mem_of_lookup h2))
  | false =>
   rw [hy] at h1
   cases hz : z == n with
   | true=>rw [hz] at h2;obtain rfl:=sI h2;exact absurd rfl (hp.1 (y,a) (PySem.mem_of_lookup h1))
   | false=>rw [hz] at h2;exact pairwise_inj hp.2 y z c h1 h2
theorem bindL_same {kindOf : Str → Option NameKind} : ∀ {binds : List (Str × Value)} {m : Str → Option Value} {x : Str},x ∉ binds.map (·.1) → bindL kindOf binds m x = m x
 | [],_,_,_=>rfl
 | (n,v) :: r,m,x,h=>by
  rw [List.map_cons,List.mem_cons,not_or] at h
  unfold bindL
  rw [bindL_same h.2]
  split
  ·exact if_neg h.1
  ·rfl
theorem bindC_same {kindOf : Str → Option NameKind} : ∀ {binds : List (Str × Value)} {m : Str → Option Value} {x : Str},x ∉ binds.map (·.1) → bindC kindOf binds m x = m x
 | [],_,_,_=>rfl
 | (n,v) :: r,m,x,h=>by
  rw [List.map_cons,List.mem_cons,not_or] at h
  unfold bindC
  rw [bindC_same h.2]
  split
  ·rfl
  ·exact if_neg h.1
theorem bindL_get {kindOf : Str → Option NameKind} : ∀ {binds : List (Str × Value)} {m : Str → Option Value} {x : Str} {v : Value},(binds.map (·.1)).Nodup → (x,v) ∈ binds → kindOf x = some .local → bindL kindOf binds m x = some v
 | (n,u) :: r,m,x,v,hn,hm,hk=>by
  rw [List.map_cons,List.nodup_cons] at hn
  unfold bindL
  rcases memc hm with e | hm
  ·obtain ⟨rfl,rfl⟩:=pI e
   rw [bindL_same hn.1,if_pos hk,if_pos rfl]
  ·exact bindL_get hn.2 hm hk
 | [],_,_,_,_,hm,_=>by exact nM hm
theorem bindC_get {kindOf : Str → Option NameKind} : ∀ {binds : List (Str × Value)} {m : Str → Option Value} {x : Str} {v : Value},(binds.map (·.1)).Nodup → (x,v) ∈ binds → kindOf x = some .cell → bindC kindOf binds m x = some v
 | (n,u) :: r,m,x,v,hn,hm,hk=>by
  rw [List.map_cons,List.nodup_cons] at hn
  unfold bindC
  rcases memc hm with e | hm
  ·obtain ⟨rfl,rfl⟩:=pI e
   rw [bindC_same hn.1,if_neg (by rw [hk];decide),if_pos rfl]
  ·exact bindC_get hn.2 hm hk
 | [],_,_,_,_,hm,_=>by exact nM hm
end
section
open PySem PySem.W PyProof.Rows
structure WorldOk (c : Cx) (G B : Addr) (fnm : List Str) (fa : Nat → Addr) : Prop where
 cls : ExcCls c.base c.C
 paN : c.pa ≠ 0 → c.base.get? c.pa = none
 lim : c.base.NoLimit
 gl : ∃ mg, A5 (c.base.Ns G mg) (∀ b, mg (bnm b) = none) (mg ("range" : Str) = none) (mg ("enumerate" : Str) = none) (∀ f x, fnm[f]? = some x → mg x = some (.ref (fa f)) ∧ Ex2 fun o fd => c.base.get? (fa f) = some o ∧ o.data = .func fd)
 bl : ∃ mb, A4 (c.base.Ns B mb) (∀ b, isMeth b = false → mb (bnm b) = some (bval b)) (mb ("range" : Str) = some (.type "range")) (mb ("enumerate" : Str) = some (.type "enumerate"))
noncomputable def DefAt (c : Cx) (G B : Addr) (fnm : List Str) (a : Addr) (cs : CS) (ar nv : Nat) : Prop :=
 (Ex3 fun o fd vars=>A6 (c.base.get? a = some o) (o.data = .func fd) (fd.globals = G) (fd.builtins = B) (c.base.CodeRec fd.code fd.qualname) (fnB fnm cs ar nv vars fd = true))
noncomputable def Con (c : Cx) (Γ : Gam) (f : Nat) (a : Addr) : Prop:=∀ (A : Around) (fs : List Env) (X : List Addr) (ok : Value → Prop) (s : Shared) (p : Int) (vs : List Value) (ds : List V) (Q : Value → Shared → Prop) (E : Value → Shared → Prop),
 A.frames = some fs → A.handled = none → A.depth + f + 4 ≤ recursionLimit → A.units + 8 * f + 100 < cLine → ok .none → Bs c fs X p s.heap → Reps c.w s.heap X c.pa vs ds →
 PE ⟨c,fs,X,ok,KpF c fs⟩ s (fun h v d=>Out c h X v d) (Γ f ds p) Q E → wpAny (model c.prog c.w) A (call (.ref a) vs []) Q E s
theorem ktOk {c : Cx} {fs : List Env} {X : List Addr} {ok : Value → Prop} : KtOk ⟨c,fs,X,ok,KpF c fs⟩:=⟨fun g=>.grow g,fun a b=>a.trans b,fun k=>k⟩
theorem keep_fresh {h h' : Heap} (g : Grow h h') {a : Addr} {o : Obj} (e : h.get? a = some o) : a < h.objs.size:=Heap.lt_size e
noncomputable def PB (F : Fn) (O X : List Addr) (s : Shared) (r : RE V) (Q : Value → Shared → Prop) (E : Value → Shared → Prop) : Prop :=
 match r with
 | .ok d p'=>∀ O' X' h' tk',Stp F O X s.heap O' X' h' → Bs F.c F.fs X' p' h' → ∀ v,Out F.c h' F.X0 v d → Q v { s with heap:=h',toks:=tk' }
 | .exc t cs p'=>∀ e O' X' h' tk',Stp F O X s.heap O' X' h' → Bs F.c F.fs X' p' h' → FlyAt F.c X' F.ok t cs e h' → E e { s with heap:=h',toks:=tk' }
 | .fail=>False
set_option maxHeartbeats 1000000 in
theorem call_genC {c : Cx} {G B : Addr} {fnm : List Str} {fa : Nat → Addr} (wo : WorldOk c G B fnm fa) {Γ : Gam} {ar nv : Nat} {a : Addr} {vars : List String} {o : Obj} {fd : FuncData} {body : List Stmt}
  (ho : c.base.get? a = some o) (hdt : o.data = .func fd) (hG : fd.globals = G) (hB : fd.builtins = B) (hcode : c.base.CodeRec fd.code fd.qualname) (hbd : fd.body = .stmts body) (hfn : fnB0 ar nv vars fd = true)
  {A : Around} {fs : List Env} {X : List Addr} {ok : Value → Prop} {s : Shared} {p : Int} {vs : List Value} {ds : List V} {Q : Value → Shared → Prop} {E : Value → Shared → Prop}
  (hfr : A.frames = some fs) (hh : A.handled = none) (hroom : A.depth < recursionLimit) (hu : A.units + 100 < cLine) (hok : ok .none)
  (hcon : ∀ env : Env,∀ f x,fnm[f]? = some x → ∀ (X : List Addr) (ok : Value → Prop) (s : Shared) (p : Int) (vs : List Value) (ds : List V) (Q : Value → Shared → Prop) (E : Value → Shared → Prop),
   ok .none → Bs c (env :: fs) X p s.heap → Reps c.w s.heap X c.pa vs ds → PE ⟨c,env :: fs,X,ok,KpF c (env :: fs)⟩ s (fun h v d=>Out c h X v d) (Γ f ds p) Q E → wpAny (model c.prog c.w) (A.deeper env) (call (.ref (fa f)) vs []) Q E s)
  (hb : Bs c fs X p s.heap) (hr : Reps c.w s.heap X c.pa vs ds) (hlen : ds.length = ar) {r : RE V} (h : PE ⟨c,fs,X,ok,KpF c fs⟩ s (fun h v d=>Out c h X v d) r Q E)
  (hrun : ∀ (F : Fn),FnOk F → F.c = c → F.sc = fd.scope.names → F.nm = nmsOf fd.scope.names vars → F.fnm = fnm → F.Γ = Γ → F.env.globals = G → ∀ (X1 : List Addr) (s1 : Shared) (Q' : Value → Shared → Prop) (E' : Value → Shared → Prop),
   (F.A = A.deeper F.env ∧ (Ex2 fun hp tk=>s1 = { s with heap:=hp,toks:=tk }) ∧ ∀ v s',Q v s' → Q' v s') → Inv F [] X1 (ds.map .val ++ List.replicate (nv - ar) .un) p s1.heap → PB F [] X1 s1 r Q' E' → wpAny (model F.c.prog F.c.w) F.A (execs body F.env) (fun f s'=>Q' (match f with | .ret v=>v | _=>.none) s') E' s1) :
  codeAny (model c.prog c.w) A (.call (.ref a) ⟨vs,[]⟩) (fun r s'=>match r with | .ok (.ret v)=>Q v s' | .ok _=>False | .error e=>E e s') s:=by
 unfold fnB0 at hfn
 simp only [Bool.and_eq_true,decide_eq_true_eq,Bool.not_eq_true',List.isEmpty_iff,Option.isNone_iff_eq_none] at hfn
 obtain ⟨hpos,hva,hkw,hkwa,hpar,hvars,harnv,hparB,hdist,hkind,hco,hgen,hdef,hclo⟩:=hfn
 have hkind' : fd.scope.kind = .function:=by
  split at hkind
  ·assumption
  ·exact fT hkind
 have hdef' : fd.defaults = .none:=by
  split at hdef
  ·assumption
  ·exact fT hdef
 generalize hnm : nmsOf fd.scope.names vars = nm at hparB hdist hrun
 have hvl : vs.length = ar:=by rw [hr.len];exact hlen
 generalize hns : fd.params.args.map (·.arg) = names
 have hnl : names.length = ar:=by rw [← hns,List.length_map];exact hpar
 have hparG : ∀ (i : Nat) (x : Str),names[i]? = some x → nm[i]? = some (some x) ∧ (isL (kOf fd.scope.names x) || isC (kOf fd.scope.names x)) = true:=fun i x e=>by
  rw [← hns,List.getElem?_map] at e
  obtain ⟨ag,e1,rfl⟩:=mapS e
  exact parB_get hparB i ag e1
 have hnd : names.Nodup:=by
  rw [List.Nodup,List.pairwise_iff_getElem]
  intro i j hi hj hij e
  have:=nmDist_ne hdist i j names[i] (hparG i _ (List.getElem?_eq_getElem hi)).1 (hparG j _ (by rw [e];exact List.getElem?_eq_getElem hj)).1
  lia
 have hbind:=bind_simple (fd:=fd) (vals:=vs) hpos hns hva hkw hkwa hdef' (by rw [hvl,hnl]) hnd
 have hkinds : ∀ x ∈ names.zip vs,fd.scope.names.lookup x.1 = some .local ∨ (fd.scope.names.lookup x.1 = some .cell ∧ ((cellsFrom (s.heap.objs.size + 1) fd.scope.names []).lookup x.1).isSome = true):=fun x hx=>by
  obtain ⟨i,hi⟩:=List.mem_iff_getElem?.mp (List.of_mem_zip hx).1
  have:=(hparG i _ hi).2
  rw [Bool.or_eq_true] at this
  rw [← kOf_eq]
  rcases this with q | q
  ·exact .inl (isL_eq q)
  ·exact .inr ⟨isC_eq q,cellsFrom_some (isC_eq q)⟩
 refine codeAny_call_cells (binds:=names.zip vs) hroom (hb.stays _ _ ho) hdt (wo.lim.keeps hb.stays) (hcode.keeps hb.stays) hbd hbind hclo hkinds (fun s₁ x=>?_) hco hgen hkind'
 generalize henv : callEnvC fd s.heap.objs.size a = env at x ⊢
 have eloc : env.locals = s.heap.objs.size:=by rw [← henv];rfl
 have efr : env.frame = some s.heap.objs.size:=by rw [← henv];rfl
 have ecel : env.cells = cellsFrom (s.heap.objs.size + 1) fd.scope.names []:=by rw [← henv];rfl
 have esc : env.scope = fd.scope:=by rw [← henv];rfl
 have eG : env.globals = G:=by rw [← henv];exact hG
 have eB : env.builtins = B:=by rw [← henv];exact hB
 obtain ⟨hp1,tk1,hs1⟩:=x.toInCall.same
 have g1 : Grow s.heap hp1:=fun b o e=>by have:=x.toInCall.keep b o e;rw [hs1] at this;exact this
 have xns:=x.toInCall.ns
 have xcell:=x.cell
 have xapart:=x.apart
 have xabove:=x.above
 subst hs1
 dsimp only at xns xcell
 have hst : ∀ b ∈ stor env,s.heap.objs.size ≤ b:=fun b hb=>by
  rcases mem_stor_inv hb with rfl | ⟨y,hy⟩
  ·rw [eloc];exact Nat.le_refl _
  ·have:=xabove y b (PySem.mem_of_lookup hy)
   rw [eloc] at this
   exact Nat.le_of_lt this
 have hstN : ∀ b ∈ stor env,s.heap.get? b = none:=fun b hb'=>by
  cases e : s.heap.get? b with
  | none=>rfl
  | some o=>exact absurd (Heap.lt_size e) (nlt (hst b hb'))
 have hstX : ∀ b ∈ stor env,b ∉ X:=fun b hb' q=>absurd (hb.lt b q) (nlt (hst b hb'))
 have hstB : ∀ b ∈ stor env,c.base.get? b = none:=fun b hb'=>by
  cases e : c.base.get? b with
  | none=>rfl
  | some o=>have:=hb.stays b o e;rw [hstN b hb'] at this;exact nS this
 have hLst : s.heap.objs.size ∈ stor env:=by rw [← eloc];exact mem_stor_locals
 generalize hF : ({ c:=c,env:=env,outer:=fs,L:=s.heap.objs.size,X0:=X,nm:=nm,sc:=fd.scope.names,fnm:=fnm,A:=A.deeper env,Γ:=Γ } : Fn) = F
 have fc : F.c = c:=by rw [← hF]
 have fenv : F.env = env:=by rw [← hF]
 have ffs : F.fs = env :: fs:=by rw [← hF];rfl
 have fL : F.L = s.heap.objs.size:=by rw [← hF]
 have fX0 : F.X0 = X:=by rw [← hF]
 have fnmE : F.nm = nm:=by rw [← hF]
 have fo : FnOk F:=by
  subst hF
  refine ⟨wo.cls,?_,wo.paN,efr,?_,fun X'=>?_,pairwise_inj xapart,fun y cc e=>?_,fun b hb'=>⟨hstB b hb',fun q=>hstX b hb' (q ▸ hb.pin)⟩,nmDist_ne hdist⟩
  ·show interactive env = false
   unfold interactive
   rw [esc,hkind'];rfl
  ·show A.frames.map (env :: ·) = some (env :: fs)
   rw [hfr];rfl
  ·refine ⟨ktOk,by show env.scope.kind = _;rw [esc];exact hkind',by show env.scope.names = _;rw [esc],fun m hm=>?_,hh,by show A.units + 3 + 64 < cLine;lia,?_,?_⟩
   ·have:=cellsFrom_some (n:=s.heap.objs.size + 1) (acc:=[]) (isC_eq hm)
    show ∃ c',env.cells.lookup m = some c'
    rw [ecel]
    exact Option.isSome_iff_exists.mp this
   ·obtain ⟨mg,w1,w2,w3,w4,w5⟩:=wo.gl
    refine ⟨mg,by show c.base.Ns env.globals mg;rw [eG];exact w1,w2,w3,w4,fun f x hx=>?_⟩
    obtain ⟨w6,oo,fd',w7,w8⟩:=w5 f x hx
    exact ⟨fa f,oo,fd',w6,w7,w8,fun s p vs ds Q E b1 r1 h1=>hcon env f x hx X' _ s p vs ds Q E (.inl rfl) b1 r1 h1⟩
   ·obtain ⟨mb,w1,w2,w3,w4⟩:=wo.bl
    exact ⟨mb,by show c.base.Ns env.builtins mb;rw [eB];exact w1,w2,w3,w4⟩
  ·have:=xabove y cc (PySem.mem_of_lookup e)
   exact fun q=>absurd this (by rw [q];exact Nat.lt_irrefl _)
 have ksub : ∀ x,env.kindOf x = kOf fd.scope.names x:=fun x=>by unfold Env.kindOf;rw [esc,kOf_eq]
 have hbs1 : Bs c (env :: fs) (stor env ++ X) p hp1:=by
  have b0:=hb.grow g1
  obtain ⟨oL,es,ep,eL,hdL,_⟩:=xns
  have nL : ∀ vs,oL.data ≠ .fields vs:=fun Z q=>by rw [hdL] at q;exact PySem.Data.noConfusion q
  refine ⟨b0.stays,⟨by rw [esc,hkind'];decide,⟨_,oL,efr,hstB _ hLst,by rw [← eloc];exact eL,nL⟩,b0.frames⟩,b0.pen,List.mem_append_right _ b0.sys,List.mem_append_right _ b0.pin,fun b hb'=>?_,fun q=>?_,fun b hb'=>?_,b0.zero⟩
  ·unfold frs at hb'
   rw [List.filterMap_cons,efr] at hb'
   rcases memc hb' with rfl | hb'
   ·exact List.mem_append_left _ hLst
   ·exact List.mem_append_right _ (b0.fin b hb')
  ·unfold frs at q
   rw [List.filterMap_cons,efr] at q
   rcases memc q with q | q
   ·exact hstX _ hLst (q ▸ hb.pin)
   ·exact b0.paf q
  ·rcases memA hb' with hb' | hb'
   ·rcases mem_stor_inv hb' with rfl | ⟨y,hy⟩
    ·exact ⟨oL,eL,.inl nL⟩
    ·obtain ⟨oc,ec,hdc⟩:=xcell _ _ hy
     exact ⟨oc,ec,.inl fun Z q=>by rw [hdc] at q;exact PySem.Data.noConfusion q⟩
   ·exact b0.live b hb'
 have hRX : ∀ b,b ∈ stor env ++ X → b ∈ X ∨ Nov s.heap b:=fun b hb'=>by
  rcases memA hb' with q | q
  ·exact .inr fun o e=>by rw [hstN b q] at e;exact nS e
  ·exact .inl q
 have smG : Sm X s.heap hp1:=fun b o Z e Z=>g1 b o e
 have inv : Inv F [] (stor env ++ X) (ds.map .val ++ List.replicate (nv - ar) .un) p hp1:=by
  subst hF
  refine ⟨hbs1,fun i x sl e1 e2=>?_,⟨_,xns⟩,fun y cc e=>⟨_,xcell y cc e⟩,fun b hb'=>List.mem_append_left _ hb',fun a ha=>(by exact nM ha),fun b hb'=>List.mem_append_right _ hb',fun i j s1 t1 e1 e2 o1 o2=>?_⟩
  ·by_cases hi : i < ar
   ·have hid : i < ds.length:=by lia
    rw [List.getElem?_append_left (by rw [List.length_map];exact hid),List.getElem?_map,List.getElem?_eq_getElem hid] at e2
    obtain rfl:=sI e2
    obtain ⟨v,hv,rv⟩:=hr.get (List.getElem?_eq_getElem hid)
    obtain ⟨x',hx'⟩ : ∃ x',names[i]? = some x':=⟨_,List.getElem?_eq_getElem (by lia)⟩
    obtain ⟨g1',g2⟩:=hparG i x' hx'
    have e1' : nm[i]? = some (some x):=e1
    rw [g1'] at e1'
    cases e1'
    have hmem : (x,v) ∈ names.zip vs:=by
     rw [List.mem_iff_getElem?]
     exact ⟨i,by rw [List.getElem?_zip_eq_some];exact ⟨hx',hv⟩⟩
    have hnz : ((names.zip vs).map (·.1)).Nodup:=by rw [map_fst_zip names vs (by rw [hnl,hvl])];exact hnd
    refine ⟨v,⟨by show env.scope.kind = _;rw [esc];exact hkind',?_⟩,Rep.sm smG hRX _ _ rv⟩
    rw [Bool.or_eq_true] at g2
    rcases g2 with q | q
    ·have hk : env.kindOf x = some .local:=(ksub x).trans (isL_eq q)
     exact .inl ⟨hk,_,xns,bindL_get hnz hmem hk⟩
    ·have hk : env.kindOf x = some .cell:=(ksub x).trans (isC_eq q)
     have:=cellsFrom_some (n:=s.heap.objs.size + 1) (acc:=[]) (isC_eq q)
     rw [← ecel] at this
     obtain ⟨cc,hcc⟩:=Option.isSome_iff_exists.mp this
     refine .inr ⟨cc,hcc,?_,.inl hk⟩
     have:=xcell x cc hcc
     rw [bindC_get hnz hmem hk] at this
     exact this
   ·rw [List.getElem?_append_right (by rw [List.length_map];lia)] at e2
    have:=List.eq_of_mem_replicate (List.mem_of_getElem? e2)
    subst this
    trivial
  ·exfalso
   rcases memA (List.mem_of_getElem? e1) with q | q
   ·obtain ⟨d,_,rfl⟩:=memM q
    exact fT o1
   ·rw [List.eq_of_mem_replicate q] at o1;exact fT o1
 have back : ∀ {O' X' h'},Stp F [] (stor env ++ X) hp1 O' X' h' → KpF c fs s.heap h':=fun {O' X' h'} st=>by
  have hfF : ∀ b o,s.heap.get? b = some o → b ∉ c.pa :: frs fs → b ∉ F.c.pa :: frs F.fs:=fun b o e hn q=>by
   rw [fc,ffs] at q
   rcases memc q with q | q
   ·exact hn (q ▸ List.mem_cons_self)
   ·unfold frs at q
    rw [List.filterMap_cons,efr] at q
    rcases memc q with q | q
    ·rw [q,hstN _ hLst] at e;exact nS e
    ·exact hn (List.mem_cons_of_mem _ q)
  have hns : ∀ b o,s.heap.get? b = some o → b ∉ stor F.env:=fun b o e q=>by
   rw [fenv] at q
   rw [hstN b q] at e;exact nS e
  refine ⟨fun b o hb' e hn=>st.same b o (by simp) (hfF b o e hb') (hns b o e) (g1 b o e) hn,fun b o hb' e hn=>?_⟩
  exact st.slots b o (by rw [fc];exact hb') (by simp) (hns b o e) (g1 b o e) hn
 have bsB : ∀ {X' p' h'},Bs c (env :: fs) X' p' h' → (∀ a ∈ X,a ∈ X') → Bs c fs X p' h':=fun {X' p' h'} b hX=>by
  refine ⟨b.stays,b.frames.2.2,b.pen,hb.sys,hb.pin,hb.fin,hb.paf,fun a ha=>b.live a (hX a ha),b.zero⟩
 have hPB : PB F [] (stor env ++ X) { s with heap:=hp1,toks:=tk1 } r (fun v s'=>Q v s')
   (fun e s'=>wpAny (model c.prog c.w) (A.deeper env) (leaving env e) (fun Z s''=>E e s'') (fun e' s''=>E e' s'') s'):=by
  cases r with
  | fail=>exact h
  | ok d p' =>
   intro O' X' h' tk' st bF v ho'
   rw [fc,ffs] at bF
   rw [fc,fX0] at ho'
   exact h v h' tk' (back st) (bsB bF fun a ha=>st.subX a (List.mem_append_right _ ha)) ho'
  | exc t cs' p' =>
   rintro e O' X' h' tk' st bF ⟨ea,dx,tb,fl,rfl,hb0,hrec,htb,hokf,hxd⟩
   rw [fc,ffs] at bF
   rw [fc] at hb0 hrec htb hxd
   have hokf' : fl = .none ∨ fl = rawInt s.heap.objs.size:=by rw [← fL];exact hokf
   refine leaving_snd (s:={ s with heap:=h',toks:=tk' }) (A:=A.deeper env) (by show A.frames.map (env :: ·) = some (env :: fs);rw [hfr];rfl) bF.frames efr bF.stays hb0 hrec htb hokf' fun h2 T k1 k2 k3 k4=>?_
   have st2 : Stp F [] (stor env ++ X) hp1 O' X' h2:=st.trans inv (fx_stp st (by rw [ffs];exact k2))
   exact h _ h2 tk' (back st2) (bsB (fx_bs bF k2 k1) fun a ha=>st.subX a (List.mem_append_right _ ha)) ⟨ea,dx,.ref T,.none,rfl,hb0,k3,k4,hok,
    (hxd.kp (k2.kp fun a q=>bF.fin a q) (fun Z q=>q)).kp (Kp.refl _ _ _) fun a ha=>st.subX a (List.mem_append_right _ ha)⟩
 have fin:=hrun F fo fc (by rw [← hF]) (by rw [← hF]) (by rw [← hF]) (by rw [← hF]) (by rw [fenv];exact eG) (stor env ++ X) { s with heap:=hp1,toks:=tk1 } _ _ ⟨by rw [← hF],⟨hp1,tk1,rfl⟩,fun Z Z q=>q⟩ inv hPB
 have fA : F.A = A.deeper env:=by rw [← hF]
 rw [fc,fA,fenv] at fin
 exact fin
theorem call_gen {c : Cx} {G B : Addr} {fnm : List Str} {fa : Nat → Addr} (wo : WorldOk c G B fnm fa) {Γ : Gam} {ar nv : Nat} {a : Addr} {vars : List String} {o : Obj} {fd : FuncData} {body : List Stmt}
  (ho : c.base.get? a = some o) (hdt : o.data = .func fd) (hG : fd.globals = G) (hB : fd.builtins = B) (hcode : c.base.CodeRec fd.code fd.qualname) (hbd : fd.body = .stmts body) (hfn : fnB0 ar nv vars fd = true)
  {A : Around} {fs : List Env} {X : List Addr} {ok : Value → Prop} {s : Shared} {p : Int} {vs : List Value} {ds : List V} {Q : Value → Shared → Prop} {E : Value → Shared → Prop}
  (hfr : A.frames = some fs) (hh : A.handled = none) (hroom : A.depth < recursionLimit) (hu : A.units + 100 < cLine) (hok : ok .none)
  (hcon : ∀ env : Env,∀ f x,fnm[f]? = some x → ∀ (X : List Addr) (ok : Value → Prop) (s : Shared) (p : Int) (vs : List Value) (ds : List V) (Q : Value → Shared → Prop) (E : Value → Shared → Prop),
   ok .none → Bs c (env :: fs) X p s.heap → Reps c.w s.heap X c.pa vs ds → PE ⟨c,env :: fs,X,ok,KpF c (env :: fs)⟩ s (fun h v d=>Out c h X v d) (Γ f ds p) Q E → wpAny (model c.prog c.w) (A.deeper env) (call (.ref (fa f)) vs []) Q E s)
  (hb : Bs c fs X p s.heap) (hr : Reps c.w s.heap X c.pa vs ds) (hlen : ds.length = ar) {r : RE V} (h : PE ⟨c,fs,X,ok,KpF c fs⟩ s (fun h v d=>Out c h X v d) r Q E)
  (hrun : ∀ (F : Fn),FnOk F → F.c = c → F.sc = fd.scope.names → F.nm = nmsOf fd.scope.names vars → F.fnm = fnm → F.Γ = Γ → F.env.globals = G → ∀ (X1 : List Addr) (s1 : Shared) (Q' : Value → Shared → Prop) (E' : Value → Shared → Prop),
   (F.A = A.deeper F.env ∧ (Ex2 fun hp tk=>s1 = { s with heap:=hp,toks:=tk }) ∧ ∀ v s',Q v s' → Q' v s') → Inv F [] X1 (ds.map .val ++ List.replicate (nv - ar) .un) p s1.heap → PB F [] X1 s1 r Q' E' → wpAny (model F.c.prog F.c.w) F.A (execs body F.env) (fun f s'=>Q' (match f with | .ret v=>v | _=>.none) s') E' s1) :
  wpAny (model c.prog c.w) A (call (.ref a) vs []) Q E s:=wpAny_call (call_genC wo ho hdt hG hB hcode hbd hfn hfr hh hroom hu hok hcon hb hr hlen h hrun)
set_option tactic.hygienic true in
theorem call_def {c : Cx} {G B : Addr} {fnm : List Str} {fa : Nat → Addr} (wo : WorldOk c G B fnm fa) {Γ : Gam} {n : Nat} {cs : CS} {ar nv : Nat} {a : Addr} (hd : DefAt c G B fnm a cs ar nv)
  {A : Around} {fs : List Env} {X : List Addr} {ok : Value → Prop} {s : Shared} {p : Int} {vs : List Value} {ds : List V} {Q : Value → Shared → Prop} {E : Value → Shared → Prop}
  (hfr : A.frames = some fs) (hh : A.handled = none) (hroom : A.depth < recursionLimit) (hu : A.units + 100 < cLine) (hok : ok .none)
  (hcon : ∀ env : Env,∀ f x,fnm[f]? = some x → ∀ (X : List Addr) (ok : Value → Prop) (s : Shared) (p : Int) (vs : List Value) (ds : List V) (Q : Value → Shared → Prop) (E : Value → Shared → Prop),
   ok .none → Bs c (env :: fs) X p s.heap → Reps c.w s.heap X c.pa vs ds → PE ⟨c,env :: fs,X,ok,KpF c (env :: fs)⟩ s (fun h v d=>Out c h X v d) (Γ f ds p) Q E → wpAny (model c.prog c.w) (A.deeper env) (call (.ref (fa f)) vs []) Q E s)
  (hb : Bs c fs X p s.heap) (hr : Reps c.w s.heap X c.pa vs ds) (h : PE ⟨c,fs,X,ok,KpF c fs⟩ s (fun h v d=>Out c h X v d) (callB Γ n cs ar nv ds p) Q E) :
  wpAny (model c.prog c.w) A (call (.ref a) vs []) Q E s:=by
 obtain ⟨o,fd,vars,ho,hdt,hG,hB,hcode,hfn⟩:=hd
 unfold fnB at hfn
 rw [Bool.and_eq_true] at hfn
 obtain ⟨hbody,hfn⟩:=hfn
 split at hbody
 ·rename_i body hbd
  by_cases hlen : ds.length = ar
  ·refine call_gen wo ho hdt hG hB hcode hbd hfn hfr hh hroom hu hok hcon hb hr hlen h fun F fo f1 f2 f3 f4 f5 Z X1 s1 Q' E' Z inv hPB=>?_
   refine cs_snd (n:=n) fo cs (by rw [f2,f3,f4];exact hbody) inv ?_
   unfold callB at hPB
   rw [if_pos hlen] at hPB
   rw [f5]
   generalize csx Γ n cs (ds.map .val ++ List.replicate (nv - ar) .un) p = r at hPB ⊢
   cases r with
   | fail=>exact hPB
   | ok fl vs' p' =>
    cases fl with
    | next=>exact fun O' X' h' tk' st i'=>hPB O' X' h' tk' st i'.bs .none rfl
    | ret d=>exact fun O' X' h' tk' st i' v ho'=>hPB O' X' h' tk' st i'.bs v ho'
    | brk=>exact hPB.elim
    | cont=>exact hPB.elim
   | exc t cs' p'=>exact fun e O' X' h' tk' st b f Z=>hPB e O' X' h' tk' st b f
  ·unfold callB at h
   rw [if_neg hlen] at h
   exact h.elim
 ·exact fT hbody
end
section
noncomputable section
noncomputable def lookC (f : Nat) : List (Nat × CS × Nat × Nat) → Option (CS × Nat × Nat)
 | []=>none
 | (g,x) :: r=>if g = f then some x else lookC f r
noncomputable def errorG (l : List V) (p : Int) : RE V:=oL2 .fail (fun a b=>dS .fail (fun t=>dT .fail (fun c=>dO .fail (fun l=>.ok (.exc t l) p) (strsOf c)) b) a) l
noncomputable def told1 (r : RE V) : RE V:=RE.casesOn (motive:=fun Z=>RE V) r (fun x p=>dS .fail (fun s=>.ok (.tup [.int 0,.str s,.tup []]) p) x) (fun t c p=>.ok (.tup [.int 1,.str t,.tup (c.map .str)]) p) .fail
noncomputable def toldG (G : Gam) (l : List V) (p : Int) : RE V:=oL2 .fail (fun a b=>dS .fail (fun t=>dL .fail (fun w=>told1 (G 31 [.str t,.lst w] p)) b) a) l
noncomputable def fuel : Nat:=1000
noncomputable def stepG (G : Gam) (f : Nat) (args : List V) (p : Int) : RE V :=
 if f = 0 then errorG args p else if f = 39 then toldG G args p else
 match lookC f codes with
 | some (cs,ar,nv)=>callB G fuel cs ar nv args p
 | none=>.fail
noncomputable def lay : Nat → Gam
 | 0=>Γ0
 | f + 1=>fun g args p=>if g = f then stepG (lay f) f args p else lay f g args p
end
end
section
theorem lay_at : ∀ {L f : Nat},f < L → lay L f = stepG (lay f) f
 | 0,f,h=>absurd h (Nat.not_lt_zero f)
 | L + 1,f,h=>by
  funext args p
  show (if f = L then stepG (lay L) L args p else lay L f args p) = _
  by_cases e : f = L
  ·rw [if_pos e,e]
  ·rw [if_neg e,lay_at (by omega)]
theorem lay_def {L f : Nat} {cs : CS} {ar nv : Nat} (h : f < L) (h0 : (f ≠ 0 ∧ f ≠ 39) ∧ lookC f codes = some (cs,ar,nv)) (args : List V) (p : Int) : lay L f args p = callB (lay f) fuel cs ar nv args p:=by
 rw [lay_at h]
 unfold stepG
 rw [if_neg h0.1.1,if_neg h0.1.2,h0.2]
section
variable {Γ : Gam} {n i j f : Nat} {vs vs1 vs2 : List Sl} {p p1 p2 p3 : Int} {R : RS} {e a b d x1 k1 : CE} {t : CE} {x y z : V} {xs : List V} {cb co k : CS} {tt : Tx} {cc : List Tx} {c u : Bool} {op : Op} {cp cp' : Cp}
theorem def_ret {L : Nat} {cs : CS} {ar nv : Nat} {args : List V} {v : V} (h : f < L) (h0 : (f ≠ 0 ∧ f ≠ 39) ∧ lookC f codes = some (cs,ar,nv)) (hl : args.length = ar) (hc : csx (lay f) fuel cs (args.map .val ++ List.replicate (nv - ar) .un) p = .ok (.ret v) vs1 p1) : lay L f args p = .ok v p1:=by
 rw [lay_def h h0];unfold callB;rw [if_pos hl,hc]
theorem def_exc {L : Nat} {cs : CS} {ar nv : Nat} {args : List V} (h : f < L) (h0 : (f ≠ 0 ∧ f ≠ 39) ∧ lookC f codes = some (cs,ar,nv)) (hl : args.length = ar) (hc : csx (lay f) fuel cs (args.map .val ++ List.replicate (nv - ar) .un) p = .exc tt cc p1) : lay L f args p = .exc tt cc p1:=by
 rw [lay_def h h0];unfold callB;rw [if_pos hl,hc]
theorem def_nxt {L : Nat} {cs : CS} {ar nv : Nat} {args : List V} (h : f < L) (h0 : (f ≠ 0 ∧ f ≠ 39) ∧ lookC f codes = some (cs,ar,nv)) (hl : args.length = ar) (hc : csx (lay f) fuel cs (args.map .val ++ List.replicate (nv - ar) .un) p = .ok .next vs1 p1) : lay L f args p = .ok .none p1:=by
 rw [lay_def h h0];unfold callB;rw [if_pos hl,hc]
section
variable {α β : Type} {A : α} {r : RE α} {g : α → Int → RS} {G : α → Int → RE β} {r' : RS} {g' : List Sl → Int → RS} {T : RE β} {U : β} {o : Option α} {s : Option Sl} {l : List V} {kv : List (Int × V)}
theorem bS (h : r = .ok A p1) (k : g A p1 = R) : r.bindS g = R:=h ▸ k
theorem bSx (h : r = .exc tt cc p1) : r.bindS g = .exc tt cc p1:=h ▸ rfl
theorem bSf (h : r = .fail) : r.bindS g = .fail:=h ▸ rfl
theorem bEf (h : r = .fail) : r.bind G = .fail:=h ▸ rfl
theorem bE (h : r = .ok A p1) (k : G A p1 = T) : r.bind G = T:=h ▸ k
theorem bEx (h : r = .exc tt cc p1) : r.bind G = .exc tt cc p1:=h ▸ rfl
theorem oF (h : o = some A) : RE.ofO o p = .ok A p:=h ▸ rfl
theorem nX (h : r' = .ok .next vs1 p1) (k : g' vs1 p1 = R) : r'.next g' = R:=h ▸ k
theorem nR (h : r' = R) (k : ∀ f,R.next f = R) : r'.next g' = R:=h ▸ k _
theorem sVe {d : β} {f : V → β} (h : s = some (.val x)) (k : f x = U) : sV d f s = U:=h ▸ k
theorem sOe {d : β} {f : List V → β} (h : s = some (.own l)) (k : f l = U) : sO d f s = U:=h ▸ k
theorem sDe {d : β} {f : List (Int × V) → β} (h : s = some (.ownD kv)) (k : f kv = U) : sD d f s = U:=h ▸ k
theorem dOe {d : β} {f : α → β} (h : o = some A) (k : f A = U) : dO d f o = U:=h ▸ k
theorem iP {c : Prop} [Decidable c] {a b : β} (h : c) (k : a = U) : (if c then a else b) = U:=(if_pos h).trans k
end
theorem q_asg (h : cev Γ e vs p = .ok x p1) (hk : csx Γ n k (vs.set i (.val x)) p1 = R) : csx Γ n (.asg i e k) vs p = R:=bS h hk
theorem q_asgx (h : cev Γ e vs p = .exc tt cc p1) : csx Γ n (.asg i e k) vs p = .exc tt cc p1:=bSx h
theorem q_asgT {is : List Nat} (h : cev Γ e vs p = .ok (.tup xs) p1) (hs : setT is xs vs = some vs1) (hk : csx Γ n k vs1 p1 = R) : csx Γ n (.asgT is e k) vs p = R:=bS h (dOe hs hk)
theorem q_asgTx {is : List Nat} (h : cev Γ e vs p = .exc tt cc p1) : csx Γ n (.asgT is e k) vs p = .exc tt cc p1:=bSx h
theorem q_exp (h : cev Γ e vs p = .ok .none p1) (hk : csx Γ n k vs p1 = R) : csx Γ n (.exp e k) vs p = R:=bS h hk
theorem q_expx (h : cev Γ e vs p = .exc tt cc p1) : csx Γ n (.exp e k) vs p = .exc tt cc p1:=bSx h
theorem q_ret (h : cevX Γ e vs p = .ok x p1) : csx Γ n (.ret e) vs p = .ok (.ret x) vs p1:=bS h rfl
theorem q_retx (h : cevX Γ e vs p = .exc tt cc p1) : csx Γ n (.ret e) vs p = .exc tt cc p1:=bSx h
theorem q_rai (h : cevX Γ e vs p = .ok (.exc tt cc) p1) : csx Γ n (.rai e) vs p = .exc tt cc p1:=bS h rfl
theorem q_aug (hx : vs[i]? = some (.val x)) (h : cev Γ e vs p = .ok y p1) (hz : augV op x y = some z) (hk : csx Γ n k (vs.set i (.val z)) p1 = R) : csx Γ n (.aug i op e k) vs p = R:=sVe hx (bS h (bS (oF hz) hk))
theorem q_app {l : List V} (hx : vs[i]? = some (.own l)) (h : cev Γ e vs p = .ok y p1) (hl : l.length < SZ) (hk : csx Γ n k (vs.set i (.own (l ++ [y]))) p1 = R) : csx Γ n (.app i e k) vs p = R:=sOe hx (bS h (iP hl hk))
theorem q_if (h : cevB Γ t vs p = .ok c p1) (hb : (if c then csx Γ n cb vs p1 else csx Γ n co vs p1) = .ok .next vs1 p2) (hk : csx Γ n k vs1 p2 = R) : csx Γ n (.ifs t cb co k) vs p = R:=bS h (nX hb hk)
theorem q_ift (h : cevB Γ t vs p = .ok c p1) (hc : c = true) (hb : csx Γ n cb vs p1 = .ok .next vs1 p2) (hk : csx Γ n k vs1 p2 = R) : csx Γ n (.ifs t cb co k) vs p = R:=q_if h ((if_pos hc).trans hb) hk
theorem q_iff (h : cevB Γ t vs p = .ok c p1) (hc : c = false) (hb : csx Γ n co vs p1 = .ok .next vs1 p2) (hk : csx Γ n k vs1 p2 = R) : csx Γ n (.ifs t cb co k) vs p = R:=by subst hc;exact q_if h hb hk
theorem q_itr (h : cevB Γ t vs p = .ok c p1) (hc : c = true) (hb : csx Γ n cb vs p1 = R) (hr : ∀ f,R.next f = R) : csx Γ n (.ifs t cb co k) vs p = R:=bS h (nR ((if_pos hc).trans hb) hr)
theorem q_ifr (h : cevB Γ t vs p = .ok c p1) (hc : c = false) (hb : csx Γ n co vs p1 = R) (hr : ∀ f,R.next f = R) : csx Γ n (.ifs t cb co k) vs p = R:=by subst hc;exact bS h (nR hb hr)
theorem q_whl (h : wloop (cevB Γ t) (csx Γ n cb) n vs p = .ok .next vs1 p1) (hk : csx Γ n k vs1 p1 = R) : csx Γ n (.whl t cb k) vs p = R:=nX h hk
theorem q_whlr (h : wloop (cevB Γ t) (csx Γ n cb) n vs p = R) (hr : ∀ f,R.next f = R) : csx Γ n (.whl t cb k) vs p = R:=nR h hr
section
variable {T : List Sl → Int → RE Bool} {B : List Sl → Int → RS} {m : Nat}
theorem w_r {r : RS} (h : T vs p = .ok c p1) (hc : c = true) (hb : B vs p1 = r) (hk : loopR r (wloop T B m) = R) : wloop T B (m + 1) vs p = R:=bS h (by subst hc hb;exact hk)
theorem w_t (h : T vs p = .ok c p1) (hc : c = true) (hb : B vs p1 = .ok .next vs1 p2) (hk : wloop T B m vs1 p2 = R) : wloop T B (m + 1) vs p = R:=w_r h hc hb hk
theorem w_tc (h : T vs p = .ok c p1) (hc : c = true) (hb : B vs p1 = .ok .cont vs1 p2) (hk : wloop T B m vs1 p2 = R) : wloop T B (m + 1) vs p = R:=w_r h hc hb hk
theorem w_tb (h : T vs p = .ok c p1) (hc : c = true) (hb : B vs p1 = .ok .brk vs1 p2) : wloop T B (m + 1) vs p = .ok .next vs1 p2:=w_r h hc hb rfl
theorem w_tx (h : T vs p = .ok c p1) (hc : c = true) (hb : B vs p1 = .exc tt cc p2) : wloop T B (m + 1) vs p = .exc tt cc p2:=w_r h hc hb rfl
theorem w_f (h : T vs p = .ok c p1) (hc : c = false) : wloop T B (m + 1) vs p = .ok .next vs p1:=bS h (by subst hc;rfl)
end
theorem e_call {v : V} (ha : cevs Γ a vs p = .ok xs p1) (h : Γ f xs p1 = .ok v p2) (hv : noX v p2 = .ok v p2) : cev Γ (.call f a) vs p = .ok v p2:=bE ha (bE h hv)
theorem e_callx (ha : cevs Γ a vs p = .ok xs p1) (h : Γ f xs p1 = .exc tt cc p2) : cev Γ (.call f a) vs p = .exc tt cc p2:=bE ha (bEx h)
theorem e_callB (ha : cevs Γ a vs p = .ok xs p1) (h : Γ f xs p1 = .ok (.bool c) p2) : cevB Γ (.call f a) vs p = .ok c p2:=bE ha (bE h rfl)
theorem e_callX (ha : cevs Γ a vs p = .ok xs p1) (h : Γ f xs p1 = .ok x p2) : cevX Γ (.call f a) vs p = .ok x p2:=bE ha h
theorem e_nil : cevs Γ .nil vs p = .ok [] p:=rfl
theorem e_cons (h : cev Γ a vs p = .ok x p1) (hr : cevs Γ b vs p1 = .ok xs p2) : cevs Γ (.cons a b) vs p = .ok (x :: xs) p2:=bE h (bE hr rfl)
theorem e_consx (h : cev Γ a vs p = .exc tt cc p1) : cevs Γ (.cons a b) vs p = .exc tt cc p1:=bEx h
theorem e_consx2 (h : cev Γ a vs p = .ok x p1) (hr : cevs Γ b vs p1 = .exc tt cc p2) : cevs Γ (.cons a b) vs p = .exc tt cc p2:=bE h (bEx hr)
theorem e_consf (h : cev Γ a vs p = .fail) : cevs Γ (.cons a b) vs p = .fail:=bEf h
theorem e_consf2 (h : cev Γ a vs p = .ok x p1) (hr : cevs Γ b vs p1 = .fail) : cevs Γ (.cons a b) vs p = .fail:=bE h (bEf hr)
theorem e_callf (ha : cevs Γ a vs p = .ok xs p1) (h : (Γ f xs p1).bind noX = .fail) : cev Γ (.call f a) vs p = .fail:=bE ha h
theorem e_tupf (h : cevs Γ a vs p = .fail) : cev Γ (.tup a) vs p = .fail:=bEf h
theorem q_retf (h : cevX Γ e vs p = .fail) : csx Γ n (.ret e) vs p = .fail:=bSf h
theorem e_callax (ha : cevs Γ a vs p = .exc tt cc p1) : cev Γ (.call f a) vs p = .exc tt cc p1:=bEx ha
theorem e_bin (ha : cev Γ a vs p = .ok x p1) (hb : cev Γ b vs p1 = .ok y p2) (h : binV op x y = some z) : cev Γ (.bin op a b) vs p = .ok z p2:=bE ha (bE hb (oF h))
theorem e_ite (ht : cevB Γ t vs p = .ok c p1) (h : (if c then cev Γ a vs p1 else cev Γ b vs p1) = .ok z p2) : cev Γ (.ite t a b) vs p = .ok z p2:=bE ht h
theorem e_cmp (ha : cev Γ a vs p = .ok x p1) (hb : cev Γ b vs p1 = .ok y p2) (h : cmpV cp x y = some c) : cev Γ (.cmp a cp b) vs p = .ok (.bool c) p2:=bE ha (bE hb (bE (oF h) rfl))
theorem b_cmp (ha : cev Γ a vs p = .ok x p1) (hb : cev Γ b vs p1 = .ok y p2) (h : cmpV cp x y = some c) : cevB Γ (.cmp a cp b) vs p = .ok c p2:=bE ha (bE hb (oF h))
theorem b_cmp2 (ha : cev Γ a vs p = .ok x p1) (hb : cev Γ b vs p1 = .ok y p2) (h : cmpV cp x y = some c) (hd : cev Γ d vs p2 = .ok z p2) (h2 : cmpV cp' y z = some u) : cevB Γ (.cmp2 a cp b cp' d) vs p = .ok (c && u) p2 :=
 bE ha (bE hb (bE (oF h) (by cases c;rfl;exact bE hd (oF h2))))
theorem b_and (ha : cevB Γ a vs p = .ok c p1) (hb : c = true → cevB Γ b vs p1 = .ok u p1) : cevB Γ (.and a b) vs p = .ok (c && u) p1:=bE ha (by cases c;rfl;exact hb rfl)
theorem b_or (ha : cevB Γ a vs p = .ok c p1) (hb : c = false → cevB Γ b vs p1 = .ok u p1) : cevB Γ (.or a b) vs p = .ok (c || u) p1:=bE ha (by cases c;exact hb rfl;rfl)
theorem b_not (ha : cevB Γ a vs p = .ok c p1) : cevB Γ (.not a) vs p = .ok (!c) p1:=bE ha rfl
theorem e_var (h : vs[i]? = some (.val x)) : cev Γ (.var i) vs p = .ok x p:=sVe h rfl
theorem b_var (h : vs[i]? = some (.val (.bool c))) : cevB Γ (.var i) vs p = .ok c p:=sVe h rfl
theorem e_item (ha : cev Γ a vs p = .ok x p1) (hb : cev Γ b vs p1 = .ok y p2) (h : itemV x y p2 = some z) : cev Γ (.item a b) vs p = .ok z p2:=bE ha (bE hb (oF h))
theorem e_slc (ha : cev Γ a vs p = .ok x p1) (hb : cev Γ b vs p1 = .ok y p2) (hd : cev Γ d vs p2 = .ok z p3) {w : V} (h : sliceV x y z = some w) : cev Γ (.slc a b d) vs p = .ok w p3:=bE ha (bE hb (bE hd (oF h)))
theorem e_tup (h : cevs Γ a vs p = .ok xs p1) (hl : xs.length ≤ 1000) : cev Γ (.tup a) vs p = .ok (.tup xs) p1:=bE h (iP hl rfl)
theorem e_tupx (h : cevs Γ a vs p = .exc tt cc p1) : cev Γ (.tup a) vs p = .exc tt cc p1:=bEx h
theorem e_bi {bb : Bi} (ha : cevs Γ a vs p = .ok xs p1) (h : biV bb xs = some z) : cev Γ (.bi bb a) vs p = .ok z p1:=bE ha (oF h)
noncomputable def CE.isCall : CE → Bool | .call _ _=>true | _=>false
theorem cevX_of (h : cev Γ e vs p = .ok x p1) (hn : e.isCall = false) : cevX Γ e vs p = .ok x p1:=by
 cases e <;> first | exact h | exact tF hn
end
end
section
open PySem PySem.W PyProof.Rows
theorem lay_ge : ∀ (f g : Nat) (args : List V) (p : Int),f ≤ g → lay f g args p = .fail
 | 0,_,_,_,_=>rfl
 | f + 1,g,args,p,h=>by
  unfold lay
  rw [if_neg (by lia),lay_ge f g args p (by exact Nat.le_of_lt (by assumption))]
theorem con_all {c : Cx} {G B : Addr} {fnm : List Str} {fa : Nat → Addr} (wo : WorldOk c G B fnm fa)
  (hdef : ∀ f cs ar nv,lookC f codes = some (cs,ar,nv) → DefAt c G B fnm (fa f) cs ar nv)
  (herr : Con c (lay 1) 0 (fa 0)) (htold : (∀ g,g < 39 → Con c (lay 39) g (fa g)) → Con c (lay 40) 39 (fa 39)) : ∀ f,f ≤ 50 → ∀ g,g < f → Con c (lay f) g (fa g)
 | 0,_,g,hg=>absurd hg (Nat.not_lt_zero g)
 | f + 1,hf,g,hg=>by
  have ih:=con_all wo hdef herr htold f (by exact Nat.le_of_lt (by assumption))
  by_cases hgf : g = f
  ·subst hgf
   by_cases h0 : g = 0
   ·subst h0;exact herr
   ·by_cases h39 : g = 39
    ·subst h39;exact htold ih
    ·intro A fs X ok s p vs ds Q E hfr hh hd hu hok hb hr h
     have e : lay (g + 1) g ds p = stepG (lay g) g ds p:=by
      show (if g = g then _ else _) = _
      rw [if_pos rfl]
     rw [e] at h
     unfold stepG at h
     rw [if_neg h0,if_neg h39] at h
     cases hl : lookC g codes with
     | none=>rw [hl] at h;exact h.elim
     | some x =>
      refine gG fun P0 hP0=>?_
      obtain ⟨cs,ar,nv⟩:=x
      refine hP0 ?_
      rw [hl] at h
      refine call_def wo (hdef g cs ar nv hl) hfr hh (by lia) (by lia) hok (fun env f x hx X' ok' s' p' vs' ds' Q' E' hok' hb' hr' h'=>?_) hb hr h
      by_cases hfg : f < g
      ·refine ih f hfg (A.deeper env) (env :: fs) X' ok' s' p' vs' ds' Q' E' ?_ hh ?_ ?_ hok' hb' hr' h'
       ·show A.frames.map (env :: ·) = _;rw [hfr];rfl
       ·show A.depth + 1 + f + 4 ≤ _;lia
       ·show A.units + 3 + 8 * f + 100 < _;lia
      ·change PE _ _ _ (lay g f ds' p') _ _ at h'
       rw [lay_ge g f ds' p' (by lia)] at h'
       exact h'.elim
  ·intro A fs X ok s p vs ds Q E hfr hh hd hu hok hb hr h
   have e : lay (f + 1) g ds p = lay f g ds p:=by
    show (if g = f then _ else _) = _
    rw [if_neg hgf]
   rw [e] at h
   exact ih g (by lia) A fs X ok s p vs ds Q E hfr hh hd hu hok hb hr h
end
section
open PySem PySem.W PyProof.Rows
open Builtin Builtin.ObjectAttr
section
variable {prog : Program} {w : World} {A : Around} {E : Value → Shared → Prop} {h : Heap} {g : Array GenState} {d : Drawn} {t : Nat} {os : OsState}
variable {nm q : Str} {C N x : Addr} {bs bm : List Value} {sn : List Str} {sub : List Value} {ab : Bool} {col : Option Bool} {dd : Option Addr} {k0 k1 k2 k3 k5 : Option Value} {B newId sa owner : String}
 {mN : Str → Option Value} {name : Str} {v : Value} {vs : Array Value} {sl : Array (Option Value)}
theorem first_entry {tk : Tok} {o : Obj} {Q : Fin → Shared → Prop} (SF : StoreFacts B bm sa owner)
  (hC : h.get? C = some (excClassObj nm q C N bs bm true sn sub ab col dd k0 k1 k2 k3 k5 newId)) (hn : h.Ns N mN) (hna : mN name = none)
  (hB : typeLookup (.type B) name = pure none) (hx : h.get? x = some o) (hc : o.cls = .ref C) (hdn : o.dict = none) (hdat : o.data = .fields vs)
  (hq : ∀ h' tk',h'.Ns1 h.objs.size (fun y=>if y = name then some v else none) → h'.get? x = some { o with dict:=some h.objs.size } →
   (∀ b o,b ≠ x → h.get? b = some o → h'.get? b = some o) → Q (.done (.ret .none)) ⟨h',g,d,tk',os⟩) :
  wpAny (model prog w) A (Builtin.«object.__setattr__» ⟨[.ref x,.str name tk,v],[]⟩) Q E ⟨h,g,d,t,os⟩:=by
 have hpass:=SF.passes (.ref x)
 unfold Builtin.«object.__setattr__»
 repeat (first | rw [refuse_eq] | (rw [refuseLoop_ref,hpass]) | (with_reducible refine wpAny_loadPart_at hx ?_;rw [hc]) | with_reducible refine wpAny_mroOf_exc hC ?_ | (with_reducible refine wpAny_typeLookup_exc hC hn SF.mro hB ?_;rw [hna]) | wp_step)
 rw [hdn,if_neg (by simp [typeHasDict])]
 split
 ·rename_i hcd;exact nS hcd
 split
 ·rename_i c hcd
  rw [hdat] at hcd;exact PySem.Data.noConfusion hcd
 ·have hx₁ : (h.push { cls := .type "dict", data := .dict #[] }).get? x = some o := Heap.get?_push_of_some _ hx
  have hxs : x ≠ h.objs.size:=Nat.ne_of_lt (Heap.lt_size hx)
  refine wpAny_bind (wpAny_alloc' (wpAny_bind (wpAny_update' hx₁ (wpAny_pure ?_))))
  generalize hh1 : ((h.push { cls := .type "dict", data := .dict #[] }).update x fun o => { cls := o.cls, dict := some h.objs.size, data := o.data, slots := o.slots }) = h1
  have hgd : h1.get? h.objs.size = some { cls := .type "dict", data := .dict #[] } := by
   rw [← hh1];exact (Heap.get?_update_ne _ _ _ _ hxs.symm).trans (Heap.get?_push_at rfl rfl)
  have hgx : h1.get? x = some { o with dict:=some h.objs.size }:=by
   rw [← hh1];exact Heap.get?_update_self _ hx₁ (Obj.isFreed_of_fields (show _ = Data.fields vs from hdat))
  have hgb : ∀ b o,b ≠ x → h.get? b = some o → h1.get? b = some o:=fun b o hb e=>by
   rw [← hh1];exact (Heap.get?_update_ne _ _ _ _ hb).trans (Heap.get?_push_of_some _ e)
  show wpAny _ _ (storeInDict h.objs.size (.str name tk) name v) _ _ _
  unfold storeInDict newKeyGuard
  refine wpAny_bind (wpAny_pure (wpAny_bind (wpAny_nsSet1 (Heap.Ns1.of_empty ⟨_,#[],_,hgd,rfl,fun e he=>absurd he (by simp),fun Z=>rfl⟩) fun h' hn' hs=>?_)))
  refine gG fun P0 hP0=>?_
  obtain ⟨oD,esD,epD,hoD,hdD,hcD⟩:=hn'.count (Within.cons name v Within.nil)
  refine hP0 ?_
  refine wpAny_bind (wpAny_lookBehind hoD (by rw [hdD];exact pastItsLine_dict (Nat.le_trans hcD (by rw [List.length_cons,List.length_nil,sizeLine_eq];lia))) ?_)
  wp_walk
  exact hq h' _ hn' ((hs.2 x hxs).trans hgx) fun b o hb e=>(hs.2 b (Nat.ne_of_lt (Heap.lt_size e))).trans (hgb b o hb e)
theorem first_attr {o : Obj} {Q : Unit → Shared → Prop} (SF : StoreFacts B bm sa owner)
  (hC : h.get? C = some (excClassObj nm q C N bs bm true sn sub ab col dd k0 k1 k2 k3 k5 newId)) (hn : h.Ns N mN) (hns : mN "__setattr__" = none) (hna : mN name = none)
  (hB : typeLookup (.type B) name = pure none) (hx : h.get? x = some o) (hc : o.cls = .ref C) (hdn : o.dict = none) (hdat : o.data = .fields vs)
  (hq : ∀ h' tk',h'.Ns1 h.objs.size (fun y=>if y = name then some v else none) → h'.get? x = some { o with dict:=some h.objs.size } →
   (∀ b o,b ≠ x → h.get? b = some o → h'.get? b = some o) → Q () ⟨h',g,d,tk',os⟩) :
  wpAny (model prog w) A (setAttr (.ref x) name v) Q E ⟨h,g,d,t,os⟩:=by
 have f3:=SF.slot.bind (.ref x)
 unfold setAttr callSpecial? specialOf
 repeat (any_goals (first | assumption | (with_reducible refine wpAny_loadPart_at hx ?_;rw [hc]) | (with_reducible refine wpAny_typeLookup_exc hC hn SF.mro SF.slot.lookup ?_;rw [hns]) | wp_step))
 refine codeAny_call_builtin SF.slot.plain SF.entry (wpAny_check_sa SF hC hx hc (first_entry SF hC hn hna hB hx hc hdn hdat fun h' tk' I' hx' hk=>?_))
 repeat (any_goals (first | assumption | wp_step))
 exact hq h' tk' I' hx' hk
end
end
section
open PySem PySem.W PyProof.Rows
section
variable {prog : Program} {w : World} {A : Around} {E : Value → Shared → Prop} {h : Heap} {g : Array GenState} {d : Drawn} {t : Nat} {os : OsState}
variable {nm q : Str} {C N x : Addr} {bs bm : List Value} {sn : List Str} {sub : List Value} {ab : Bool} {col : Option Bool} {dd : Option Addr} {k0 k1 k2 k3 k5 : Option Value} {newId : String} {vs : Array Value}
theorem exc_init {o : Obj} {y : Value} {Q : Value → Shared → Prop} (hbm : bm.contains (.type "Exception") = true)
  (hC : h.get? C = some (excClassObj nm q C N bs bm true sn sub ab col dd k0 k1 k2 k3 k5 newId)) (hx : h.get? x = some o) (hc : o.cls = .ref C) (hdat : o.data = .fields vs) (hsz : 0 < vs.size) {T : Addr} (h0 : vs[0]? = some (.ref T))
  (hq : ∀ h' tk',h'.get? x = some { o with data:=.fields (vs.setIfInBounds 0 (.ref h.objs.size)) } → (∀ b o,b ≠ x → h.get? b = some o → h'.get? b = some o) → Q .none ⟨h',g,d,tk',os⟩) :
  wpAny (model prog w) A (call (.builtin "Exception.__init__") [.ref x, y]) Q E ⟨h, g, d, t, os⟩ := by
 have FE:=PySem.F.excCall_Exception
 have hcB : (Value.ref C :: bm).contains (.type "Exception") = true := by rw [List.contains_cons, hbm, Bool.or_true]
 refine wpAny_call (codeAny_call_builtin FE.init.plain FE.initEntry ?_)
 simp only [checkBuiltinCall,FE.initKind,FE.initSplit,FE.initRow]
 repeat (first | (with_reducible refine wpAny_loadPart_at hx ?_;rw [hc]) | (with_reducible refine wpAny_isSubtype_exc hC ?_;rw [hcB]) | wp_step)
 rw [hdat]
 refine wpAny_pure ?_
 rw [h0]
 refine wpAny_pure (wpAny_bind (wpAny_setField (Heap.get?_push_of_some _ hx) hdat hsz ?_))
 show wpAny _ _ (letGo [Value.ref T]) _ _ _
 refine wpAny_letGo ?_
 repeat (first | wp_step)
 refine hq _ _ ?_ fun b ob hb e=>?_
 ·rw [Heap.get?_update_self _ (Heap.get?_push_of_some _ hx) (Obj.isFreed_of_fields (Obj.data_mapFields hdat _))]
  obtain ⟨oc,od,odt,osl⟩:=o
  dsimp only at hdat
  subst hdat
  rfl
 ·exact (Heap.get?_update_other _ _ (Ne.symm hb)).trans (Heap.get?_push_of_some _ e)
end
end
section
open PySem PySem.W PyProof.Rows
structure ClsOk (base : Heap) (C : Addr) (fI : Addr) : Prop where
 obj : Ex8 fun (nm : Str) (q : Str) (N : Addr) (bs : List Value) (sn : List Str) (sub : List Value) (ab : Bool) (col : Option Bool) => Ex8 fun (dd : Option Addr) (k0 : Option Value) (k1 : Option Value) (k2 : Option Value) (k3 : Option Value) (k5 : Option Value) (newId : String) (mN : Str → Option Value) => ∃ oI : Obj, A8 (base.get? C = some (excClassObj nm q C N bs [.type "Exception", .type "BaseException", .type "object"] true sn sub ab col dd k0 k1 k2 k3 k5 newId)) (newId = "Exception.__new__") (base.Ns N mN) (mN "__init__" = some (.ref fI)) (base.get? fI = some oI) (oI.cls = .type "function") (mN "__setattr__" = none) (∀ x ∈ (["code", "value", "errorcode", "level", "ret", "info", "is_noted", "line", "extra"] : List String), mN (Str.ofString x) = none)
structure J (h0 : Heap) (C e L : Addr) (m mA : Str → Option Value) (n : Nat) (h : Heap) : Prop where
 grow : Grow h0 h
 ns : h.Ns L m
 eL : e ≠ L
 few : ∃ ns : List Str,Within mA ns ∧ ns.length ≤ n
 obj : Ex2 fun tup dct=>h.get? e = some { cls:=.ref C,dict:=dct,data:=.fields #[tup,.none,.none,.none,.bool false,.none] } ∧ ((∃ T,tup = .ref T) ∧
  (dct = none ∧ (∀ n,mA n = none) ∨ ∃ dx,A5 (dct = some dx) (h0.get? dx = none) (dx ≠ e) (dx ≠ L) (h.Ns1 dx mA)))
section
variable {prog : Program} {w : World} {A : Around} {E : Value → Shared → Prop} {s : Shared} {n : Nat} {h0 : Heap} {C e L fI : Addr} {m mA : Str → Option Value} {base : Heap}
theorem J.inst (j : J h0 C e L m mA n s.heap) : s.heap.Inst e C mA:=by
 obtain ⟨tup,dct,hx,_,hd⟩:=j.obj
 refine ⟨_,hx,rfl,fun c q=>(by exact PySem.Data.noConfusion q),?_⟩
 refine gG fun P0 hP0=>?_
 rcases hd with ⟨h1,h2⟩ | ⟨dx,h1,_,h3,_,h4⟩
 ·refine hP0 ?_
  exact .inl ⟨h1,h2⟩
 ·refine hP0 ?_
  exact .inr ⟨dx,h1,h3,h4⟩
theorem attr_step (ck : ClsOk base C fI) (st : base.StaysIn h0) (he : h0.get? e = none) {x : String} {v : Value} {Q : Unit → Shared → Prop} (hx : x ∈ (["code", "value", "errorcode", "level", "ret", "info", "is_noted", "line", "extra"] : List String))
  (hB : typeLookup (.type "Exception") (Str.ofString x) = pure none) (j : J h0 C e L m mA n s.heap) (hnn : n ≤ 1000) (hL : h0.get? L = none)
  (h : ∀ h' tk',J h0 C e L m (fun y=>if y = Str.ofString x then some v else mA y) (n + 1) h' → (∀ b o,h0.get? b = some o → h'.get? b = some o) → Q () { s with heap:=h',toks:=tk' }) :
  wpAny (model prog w) A (setAttr (.ref e) (Str.ofString x) v) Q E s:=by
 obtain ⟨nm,q,N,bs,sn,sub,ab,col,dd,k0,k1,k2,k3,k5,newId,mN,oI,hC,_,hn,_,_,_,hns,hna⟩:=ck.obj
 obtain ⟨tup,dct,ho,hT,hd⟩:=j.obj
 have hC':=j.grow _ _ (st _ _ hC)
 have hn':=(hn.keeps st).keeps j.grow
 have hCe : e ≠ C:=fun q=>by rw [q] at he;rw [st _ _ hC] at he;exact sN he
 have ne0 : ∀ b o,h0.get? b = some o → b ≠ e:=fun b o e1 q=>by rw [q,he] at e1;exact nS e1
 obtain ⟨ns,hw,hl⟩:=j.few
 obtain ⟨hp,g,d,t,os⟩:=s
 refine gG fun P0 hP0=>?_
 rcases hd with ⟨rfl,hm⟩ | ⟨dx,rfl,hdx,hde,hdL,hn1⟩
 ·refine hP0 ?_
  refine first_attr PySem.F.store_Exception hC' hn' hns (hna x hx) hB ho rfl rfl rfl fun h' tk' hn1 hx' hk=>?_
  have hkk : ∀ b o,h0.get? b = some o → h'.get? b = some o:=fun b o e1=>hk b o (ne0 b o e1) (j.grow b o e1)
  refine h h' tk' ⟨hkk,?_,j.eL,⟨[Str.ofString x],?_,by exact Nat.succ_pos _⟩,tup,_,hx',hT,.inr ⟨hp.objs.size,rfl,?_,fun q=>?_,fun q=>?_,?_⟩⟩ hkk
  ·exact j.ns.at fun o e1=>hk _ o (Ne.symm j.eL) e1
  ·have:=Within.cons (Str.ofString x) v (Within.of_none hm)
   exact this
  ·cases e1 : h0.get? hp.objs.size with
   | none=>rfl
   | some o=>exact absurd (Heap.lt_size (j.grow _ _ e1)) (Nat.lt_irrefl _)
  ·have:=Heap.lt_size ho
   rw [← q] at this
   exact absurd this (Nat.lt_irrefl _)
  ·have:=j.ns.lt
   rw [← q] at this
   exact absurd this (Nat.lt_irrefl _)
  ·have : (fun y=>if y = Str.ofString x then some v else mA y) = fun y=>if y = Str.ofString x then some v else none:=funext fun y=>by rw [hm y]
   rw [this];exact hn1
 ·refine hP0 ?_
  refine store_attr (ns:=ns) PySem.F.store_Exception hC' hn' hns (hna x hx) hB hCe j.inst (fun h' tk' I' hk hsame=>?_) hw (by rw [sizeLine_eq];lia)
  have hkk0 : ∀ b o,b ≠ e → b ≠ dx → hp.get? b = some o → h'.get? b = some o:=fun b o h1 h2 e1=>hk b o h1 (fun o₀ d' e2 e3=>by
   rw [ho] at e2;obtain rfl:=sI e2;obtain rfl:=sI e3;exact h2) e1
  have hkk : ∀ b o,h0.get? b = some o → h'.get? b = some o:=fun b o e1=>hkk0 b o (ne0 b o e1) (fun q=>by rw [q,hdx] at e1;exact nS e1) (j.grow b o e1)
  obtain ⟨o₁,ho1,hc1,hd1,hs1,hdd⟩:=hsame _ ho
  obtain ⟨o2,e2,_,_,hI⟩:=I'
  rw [ho1] at e2
  obtain rfl:=sI e2
  have hdict:=hdd dx rfl
  have ho1' : o₁ = { cls:=.ref C,dict:=some dx,data:=.fields #[tup,.none,.none,.none,.bool false,.none] }:=by
   obtain ⟨oc,od,odt,osl⟩:=o₁
   dsimp only at hc1 hd1 hs1 hdict
   subst hc1 hd1 hs1 hdict
   rfl
  rw [ho1'] at ho1
  refine h h' tk' ⟨hkk,?_,j.eL,⟨_,Within.cons (Str.ofString x) v hw,?_⟩,tup,some dx,ho1,hT,.inr ⟨dx,rfl,hdx,hde,hdL,?_⟩⟩ hkk
  ·exact j.ns.at fun o e1=>hkk0 _ o (Ne.symm j.eL) (Ne.symm hdL) e1
  ·rw [List.length_cons];lia
  ·rcases hI with ⟨q,_⟩ | ⟨d',q,_,hn2⟩
   ·rw [hdict] at q;exact sN q
   ·rw [hdict] at q;obtain rfl:=sI q
    exact hn2
end
end
section
open PySem PySem.W PyProof.Rows
noncomputable def AttrN (x a : String) (st : Stmt) : Prop := (Ex4 fun p1 p2 p3 p4 => st = .Assign [.Attribute (.Name ("self" : Str) p1) (Str.ofString x) p2] (.Name (Str.ofString a) p3) p4)
noncomputable def AttrC (x : String) (c : Const) (st : Stmt) : Prop := (Ex5 fun p1 p2 k p3 p4 => st = .Assign [.Attribute (.Name ("self" : Str) p1) (Str.ofString x) p2] (.Constant c k p3) p4)
noncomputable def AttrL (x : String) (st : Stmt) : Prop := (Ex4 fun p1 p2 p3 p4 => st = .Assign [.Attribute (.Name ("self" : Str) p1) (Str.ofString x) p2] (.List [] p3) p4)
noncomputable def InitC (st : Stmt) : Prop := (Ex6 fun p1 p2 p3 p4 p5 p6 => st = .Expr (.Call (.Attribute (.Name ("Exception" : Str) p1) ("__init__" : Str) p2) [.Name ("self" : Str) p3, .Name ("value" : Str) p4] [] p5) p6 ∧ (p2.endLine == p5.line) = true)
noncomputable def InitB (b : List Stmt) : Prop := (Ex8 fun s0 s1 s2 s3 s4 s5 s6 s7 => Ex2 fun s8 s9 => A10 (b = [s0, s1, s2, s3, s4, s5, s6, s7, s8, s9]) (InitC s0) (AttrN "code" "code" s1) (AttrN "value" "value" s2) (AttrN "errorcode" "errorcode" s3) (AttrN "level" "level" s4) (AttrN "ret" "ret" s5) (AttrC "info" (.str "") s6) (AttrC "is_noted" (.bool false) s7) (AttrC "line" (.int 0) s8 ∧ AttrL "extra" s9))
section
variable {prog : Program} {w : World} {A : Around} {E : Value → Shared → Prop} {s : Shared} {n : Nat} {h0 : Heap} {C e L fI : Addr} {m mA : Str → Option Value} {base : Heap} {env : Env}
structure IEnv (base : Heap) (env : Env) (L : Addr) : Prop where
 kind : env.scope.kind = .function
 loc : env.locals = L
 names : ∀ x ∈ (["self", "code", "value", "errorcode", "level", "ret"] : List String), env.kindOf (Str.ofString x) = some .local
 ex : env.kindOf ("Exception" : Str) = some .globalImplicit
 gl : Ex2 fun mg mb => A4 (base.Ns env.globals mg) (mg ("Exception" : Str) = none) (base.Ns env.builtins mb) (mb ("Exception" : Str) = some (.type "Exception"))
theorem set_snd (ck : ClsOk base C fI) (ie : IEnv base env L) (st : base.StaysIn h0) (he : h0.get? e = none) {x : String} {ve : Expr} {v : Value} {Q : Flow → Shared → Prop} {p1 p2 p4 : Pos} (hx : x ∈ (["code", "value", "errorcode", "level", "ret", "info", "is_noted", "line", "extra"] : List String))
  (hB : typeLookup (.type "Exception") (Str.ofString x) = pure none) (hnn : n ≤ 1000) (hL : h0.get? L = none) (hself : m ("self" : Str) = some (.ref e)) (hs : swapsWith ve (some (.Attribute (.Name ("self" : Str) p1) (Str.ofString x) p2)) p4.line env = pure false)
  (hv : ∀ Q',(∀ h' tk',J h0 C e L m mA n h' → Q' v { s with heap:=h',toks:=tk' }) → wpAny (model prog w) A (eval ve env) Q' E s)
  (h : ∀ h' tk',J h0 C e L m (fun y=>if y = Str.ofString x then some v else mA y) (n + 1) h' → Q .next { s with heap:=h',toks:=tk' }) :
  wpAny (model prog w) A (exec (.Assign [.Attribute (.Name ("self" : Str) p1) (Str.ofString x) p2] ve p4) env) Q E s := by
 refine plainObj_wpAny_Assign_Attribute (hv _ fun h1 tk1 j1=>?_) hs
 refine wpAny_Name (wpAny_loadName_local ie.kind (ie.names "self" (by exact List.mem_cons_self)) (by rw [ie.loc]; exact j1.ns) hself ?_) (by decide)
 exact attr_step (s:={ s with heap:=h1,toks:=tk1 }) ck st he hx hB j1 hnn hL fun h' tk' j' Z=>h h' tk' j'
noncomputable def noHeap : Heap:={ (default : Heap) with objs:=#[] }
theorem noHeap_get {b : Addr} {o : Obj} (e : noHeap.get? b = some o) : False:=absurd (Heap.lt_size e) (Nat.not_lt_zero _)
theorem find_init : findCls [] (.type "Exception") (.type "type") ("__init__" : Str) = some (.val (.builtin "Exception.__init__")) := by kernel_rfl
set_option maxHeartbeats 2000000 in
theorem initC_snd (ck : ClsOk base C fI) (ie : IEnv base env L) (st : base.StaysIn h0) (he : h0.get? e = none) {v : Value} {Q : Flow → Shared → Prop} {sm : Stmt} (hsm : InitC sm) (hself : m ("self" : Str) = some (.ref e)) (hval : m ("value" : Str) = some v)
  (hi : interactive env = false) (j : J h0 C e L m mA n s.heap) (h : ∀ h' tk',J h0 C e L m mA n h' → Q .next { s with heap:=h',toks:=tk' }) :
  wpAny (model prog w) A (exec sm env) Q E s:=by
 refine gG fun P0 hP0=>?_
 obtain ⟨p1,p2,p3,p4,p5,p6,rfl,hline⟩:=hsm
 obtain ⟨nm,q,N,bs,sn,sub,ab,col,dd,k0,k1,k2,k3,k5,newId,mN,oI,hC,_⟩:=ck.obj
 obtain ⟨mg,mb,hg,hgx,hb,hbx⟩:=ie.gl
 refine hP0 ?_
 have ns0:=(hg.keeps st).keeps j.grow
 have nb0:=(hb.keeps st).keeps j.grow
 have hfew := methForm (env := env) (args := [.Name ("self" : Str) p3, .Name ("value" : Str) p4]) (pos := p5) rfl (show 2 < 20 by decide)
 refine wpAny_Expr ?_ hi rfl
 rw [arm_eval_Call, base_plain (o := .Name ("Exception" : Str) p1) rfl]
 refine wpAny_bind (PySem.Calls.Name_function_global ie.kind ie.ex (PySem.Calls.loadGlobal_builtin ns0 hgx nb0 hbx ?_) (by decide))
 refine wpAny_bind (wpAny_standAt ?_)
 have hform : methodCallForm (([.Name ("self" : Str) p3, .Name ("value" : Str) p4] : List Expr).length + ([] : List Keyword).length) (backTo p5 (starEach [.Name ("self" : Str) p3, .Name ("value" : Str) p4] env)) (backToKw p5 (keywordEach [] env)) = true := hfew
 have hpos : methodCallPos true (.Name ("Exception" : Str) p1) env p2 p5 = pure p5 := by unfold methodCallPos; simp [hline]
 unfold methodCall
 rw [hform]
 refine wpAny_bind (wpAny_holding ?_)
 have F : Fr noHeap L s.heap m:=⟨j.ns,fun b o e=>(noHeap_get e).elim,Nat.zero_le _⟩
 refine method_type (K:=[]) F (fun a o q=>by exact nS q) (by rfl) (by decide +kernel) find_init (by decide +kernel) (wpAny_bind (wpAny_of_eq hpos ?_))
 refine PySem.Calls.callWith_builtin rfl (PySem.Calls.evalArgs_plain (PySem.Calls.spliced_cons ?_))
 refine wpAny_Name (wpAny_loadName_local ie.kind (ie.names "self" (by exact List.mem_cons_self)) (by rw [ie.loc]; exact j.ns) hself ?_) (by decide)
 refine PySem.Calls.spliced_cons ?_
 refine wpAny_Name (wpAny_loadName_local ie.kind (ie.names "value" (by exact .tail _ (.tail _ (.head _)))) (by rw [ie.loc]; exact j.ns) hval ?_) (by decide)
 refine PySem.Calls.spliced_nil ?_
 refine gG fun P0 hP0=>?_
 obtain ⟨tup,dct,ho,⟨T,rfl⟩,hd⟩:=j.obj
 refine hP0 ?_
 have ne0 : ∀ b o,h0.get? b = some o → b ≠ e:=fun b o e1 q=>by rw [q,he] at e1;exact nS e1
 refine exc_init (by decide) (j.grow _ _ (st _ _ hC)) ho rfl rfl (by exact Nat.succ_pos _) (T:=T) rfl fun h' tk' hx' hk=>?_
 refine h h' tk' ⟨fun b o e1=>hk b o (ne0 b o e1) (j.grow b o e1),j.ns.at fun o e1=>hk _ o (Ne.symm j.eL) e1,j.eL,j.few,_,dct,hx',⟨_,rfl⟩,?_⟩
 rcases hd with hd | ⟨dx,h1,h2,h3,h4,h5⟩
 ·exact .inl hd
 ·exact .inr ⟨dx,h1,h2,h3,h4,h5.at fun o e1=>hk _ o h3 e1⟩
theorem lkE (x : String) (hx : x ∈ (["code", "value", "errorcode", "level", "ret", "info", "is_noted", "line", "extra"] : List String)) : typeLookup (.type "Exception") (Str.ofString x) = pure none := by
 rw [typeLookup_type,builtinLookup_eq_fast]
 simp only [List.mem_cons,List.not_mem_nil,or_false] at hx
 rcases hx with rfl | rfl | rfl | rfl | rfl | rfl | rfl | rfl | rfl <;> kernel_rfl
end
end
section
open PySem PySem.W PyProof.Rows
section
variable {prog : Program} {w : World} {A : Around} {E : Value → Shared → Prop} {s : Shared} {n : Nat} {h0 : Heap} {C e L fI : Addr} {m mA : Str → Option Value} {base : Heap} {env : Env}
noncomputable def put (mA : Str → Option Value) (x : String) (v : Value) : Str → Option Value:=fun y=>if y = Str.ofString x then some v else mA y
theorem setN_snd (ck : ClsOk base C fI) (ie : IEnv base env L) (st : base.StaysIn h0) (he : h0.get? e = none) (hL : h0.get? L = none) (hself : m ("self" : Str) = some (.ref e)) {x a : String} {v : Value} {sm : Stmt} {rest : List Stmt} {Q : Flow → Shared → Prop} (hsm : AttrN x a sm)
  (hx : x ∈ (["code", "value", "errorcode", "level", "ret", "info", "is_noted", "line", "extra"] : List String)) (ha : a ∈ (["self", "code", "value", "errorcode", "level", "ret"] : List String)) (hd : (Str.ofString a == ("__debug__" : Str)) = false)
  (hv : m (Str.ofString a) = some v) (hnn : n ≤ 1000) (j : J h0 C e L m mA n s.heap) (h : ∀ h' tk',J h0 C e L m (put mA x v) (n + 1) h' → wpAny (model prog w) A (execs rest env) Q E { s with heap:=h',toks:=tk' }) :
  wpAny (model prog w) A (execs (sm :: rest) env) Q E s:=by
 obtain ⟨p1,p2,p3,p4,rfl⟩:=hsm
 refine wpAny_execs_cons (set_snd ck ie st he hx (lkE x hx) hnn hL hself rfl (fun Q' hQ=>?_) h)
 exact wpAny_Name (wpAny_loadName_local ie.kind (ie.names a ha) (by rw [ie.loc];exact j.ns) hv (hQ s.heap s.toks j)) hd
theorem setC_snd (ck : ClsOk base C fI) (ie : IEnv base env L) (st : base.StaysIn h0) (he : h0.get? e = none) (hL : h0.get? L = none) (hself : m ("self" : Str) = some (.ref e)) {x : String} {c : Const} {sm : Stmt} {rest : List Stmt} {Q : Flow → Shared → Prop} (hsm : AttrC x c sm)
  (hx : x ∈ (["code", "value", "errorcode", "level", "ret", "info", "is_noted", "line", "extra"] : List String))
  (hc : ∀ (k : Nat) (p : Pos) (Q' : Value → Shared → Prop),(∀ v tk',Q' v { s with toks:=tk' }) → wpAny (model prog w) A (eval (.Constant c k p) env) Q' E s)
  (hnn : n ≤ 1000) (j : J h0 C e L m mA n s.heap) (h : ∀ v h' tk',J h0 C e L m (put mA x v) (n + 1) h' → wpAny (model prog w) A (execs rest env) Q E { s with heap:=h',toks:=tk' }) :
  wpAny (model prog w) A (execs (sm :: rest) env) Q E s:=by
 obtain ⟨p1,p2,k,p3,p4,rfl⟩:=hsm
 refine wpAny_execs_cons ?_
 refine plainObj_wpAny_Assign_Attribute (hc k p3 _ fun v tk1=>?_) rfl
 refine wpAny_Name (wpAny_loadName_local ie.kind (ie.names "self" (by exact List.mem_cons_self)) (by rw [ie.loc]; exact j.ns) hself ?_) (by decide)
 exact attr_step (s:={ s with toks:=tk1 }) ck st he hx (lkE x hx) j hnn hL fun h' tk' j' Z=>h v h' tk' j'
theorem setL_snd (ck : ClsOk base C fI) (ie : IEnv base env L) (st : base.StaysIn h0) (he : h0.get? e = none) (hL : h0.get? L = none) (hself : m ("self" : Str) = some (.ref e)) {x : String} {sm : Stmt} {rest : List Stmt} {Q : Flow → Shared → Prop} (hsm : AttrL x sm)
  (hx : x ∈ (["code", "value", "errorcode", "level", "ret", "info", "is_noted", "line", "extra"] : List String))
  (hnn : n ≤ 1000) (j : J h0 C e L m mA n s.heap) (h : ∀ v h' tk',J h0 C e L m (put mA x v) (n + 1) h' → wpAny (model prog w) A (execs rest env) Q E { s with heap:=h',toks:=tk' }) :
  wpAny (model prog w) A (execs (sm :: rest) env) Q E s:=by
 obtain ⟨p1,p2,p3,p4,rfl⟩:=hsm
 refine wpAny_execs_cons (set_snd ck ie st he hx (lkE x hx) hnn hL hself rfl (fun Q' hQ=>?_) (h (.ref s.heap.objs.size)))
 refine wpAny_List_spliced (PySem.Calls.spliced_nil ⟨by decide,hQ _ _ ?_⟩)
 have g := Grow.push s.heap { cls := .type "list", data := .seq #[] }
 obtain ⟨tup,dct,ho,hT,hd⟩:=j.obj
 refine ⟨j.grow.trans g,j.ns.keeps g,j.eL,j.few,tup,dct,g _ _ ho,hT,?_⟩
 rcases hd with hd | ⟨dx,h1,h2,h3,h4,h5⟩
 ·exact .inl hd
 ·exact .inr ⟨dx,h1,h2,h3,h4,h5.at fun o e1=>g _ o e1⟩
noncomputable def endA (v1 v2 v3 v4 v5 v6 v7 v8 v9 : Value) : Str → Option Value :=
 put (put (put (put (put (put (put (put (put (fun Z => none) "code" v1) "value" v2) "errorcode" v3) "level" v4) "ret" v5) "info" v6) "is_noted" v7) "line" v8) "extra" v9
theorem init_walk (ck : ClsOk base C fI) (ie : IEnv base env L) (st : base.StaysIn h0) (he : h0.get? e = none) (hL : h0.get? L = none) (hi : interactive env = false) {b : List Stmt} (hb : InitB b) {v1 v2 v3 v4 v5 : Value} {Q : Flow → Shared → Prop}
  (hself : m ("self" : Str) = some (.ref e)) (h1 : m ("code" : Str) = some v1) (h2 : m ("value" : Str) = some v2) (h3 : m ("errorcode" : Str) = some v3) (h4 : m ("level" : Str) = some v4) (h5 : m ("ret" : Str) = some v5)
  (j : J h0 C e L m (fun Z=>none) 0 s.heap) (h : ∀ v6 v7 v8 v9 h' tk',J h0 C e L m (endA v1 v2 v3 v4 v5 v6 v7 v8 v9) 9 h' → Q .next { s with heap:=h',toks:=tk' }) :
  wpAny (model prog w) A (execs b env) Q E s:=by
 refine gG fun P0 hP0=>?_
 obtain ⟨s0,s1,s2,s3,s4,s5,s6,s7,s8,s9,rfl,c0,c1,c2,c3,c4,c5,c6,c7,c8,c9⟩:=hb
 refine hP0 ?_
 refine wpAny_execs_cons (initC_snd ck ie st he c0 hself h2 hi j fun ha ta ja=>?_)
 refine setN_snd (s:={ s with heap:=ha,toks:=ta }) ck ie st he hL hself c1 (by exact List.mem_cons_self) (by exact .tail _ (.head _)) (by decide) h1 (by exact Nat.zero_le _) ja fun hb tb jb=>?_
 refine setN_snd (s:={ s with heap:=hb,toks:=tb }) ck ie st he hL hself c2 (by exact .tail _ (.head _)) (by exact .tail _ (.tail _ (.head _))) (by decide) h2 (by exact Nat.succ_pos _) jb fun hc tc jc=>?_
 refine setN_snd (s:={ s with heap:=hc,toks:=tc }) ck ie st he hL hself c3 (by exact .tail _ (.tail _ (.head _))) (by exact .tail _ (.tail _ (.tail _ (.head _)))) (by decide) h3 (by decide) jc fun hd td jd=>?_
 refine setN_snd (s:={ s with heap:=hd,toks:=td }) ck ie st he hL hself c4 (by exact .tail _ (.tail _ (.tail _ (.head _)))) (by exact .tail _ (.tail _ (.tail _ (.tail _ (.head _))))) (by decide) h4 (by decide) jd fun hf tf jf=>?_
 refine setN_snd (s:={ s with heap:=hf,toks:=tf }) ck ie st he hL hself c5 (by exact .tail _ (.tail _ (.tail _ (.tail _ (.head _))))) (by decide) (by decide) h5 (by decide) jf fun hg tg jg=>?_
 refine setC_snd (s:={ s with heap:=hg,toks:=tg }) ck ie st he hL hself c6 (by decide) (fun k p Q' hQ=>wpAny_Constant_str (hQ _ _)) (by decide) jg fun v6 hh th jh=>?_
 refine setC_snd (s:={ s with heap:=hh,toks:=th }) ck ie st he hL hself c7 (by decide) (fun k p Q' hQ=>Constant_bool (hQ _ th)) (by decide) jh fun v7 hk tk jk=>?_
 refine setC_snd (s:={ s with heap:=hk,toks:=tk }) ck ie st he hL hself c8 (by decide) (fun k p Q' hQ=>wpAny_Constant_int (hQ _ _)) (by decide) jk fun v8 hl tl jl=>?_
 refine setL_snd (s:={ s with heap:=hl,toks:=tl }) ck ie st he hL hself c9 (by decide) (by decide) jl fun v9 hm tm jm=>?_
 exact wpAny_execs_nil (h v6 v7 v8 v9 hm tm jm)
end
end
section
open PySem PySem.W PyProof.Rows
structure PlainFn (base : Heap) (G B a : Addr) (ps : List String) (body : List Stmt) (dfl : List Value) (globs : List String) : Prop where
 ex : Ex5 fun o fd T oT n => A10 (base.get? a = some o) (o.cls = .type "function") (o.data = .func fd) (fd.globals = G) (fd.builtins = B) (base.CodeRec fd.code fd.qualname) (fd.body = .stmts body) (fd.scope.isCoroutine = false) (fd.scope.isGenerator = false) (A10 (fd.scope.kind = .function) (∀ x ∈ fd.scope.names, x.2 ≠ .cell) (∀ x ∈ ps, kOf fd.scope.names (Str.ofString x) = some .local) (∀ x ∈ globs, kOf fd.scope.names (Str.ofString x) = some .globalImplicit) (fd.params.posonlyargs = []) (fd.params.args.map (·.arg) = ps.map Str.ofString) (fd.params.vararg = none) (fd.params.kwonlyargs = []) (fd.params.kwarg = none) (A3 (fd.defaults = .ref T) (base.get? T = some oT) (oT.data = .seq dfl.toArray n)))
noncomputable def ErrB (b : List Stmt) : Prop := (Ex7 fun p1 p2 p3 p4 p5 p6 k => b = [.Return (some (.Call (.Name ("Raised" : Str) p1) [.Constant (.int 1) k p2, .Name ("text" : Str) p3, .Name ("errorcode" : Str) p4] [] p5)) p6])
theorem args_cons {as : List Arg} {x : Str} {r : List Str} (h : as.map (·.arg) = x :: r) : Ex3 fun an p as'=>as = ⟨x,an,p⟩ :: as' ∧ as'.map (·.arg) = r:=by
 cases as with
 | nil=>cases h
 | cons a as =>
  cases a with | mk y an p =>
  injection h with h1 h2
  exact ⟨an,p,as,by rw [← h1],h2⟩
theorem binds2 {fd : FuncData} {T : Addr} {v1 v2 d : Value} {s : Shared} {oT : Obj} {n : Nat} (h1 : fd.params.posonlyargs = []) (h2 : fd.params.args.map (·.arg) = (["text", "errorcode"] : List String).map Str.ofString) (h3 : fd.params.vararg = none) (h4 : fd.params.kwonlyargs = []) (h5 : fd.params.kwarg = none)
  (hd : fd.defaults = .ref T) (ho : s.heap.get? T = some oT) (hs : oT.data = .seq #[d] n) : BindsTo s fd ⟨[v1, v2], []⟩ [(Str.ofString "text", v1), (Str.ofString "errorcode", v2)] := by
 obtain ⟨a1,p1,as1,e1,h2⟩:=args_cons h2
 obtain ⟨a2,p2,as2,e2,h2⟩:=args_cons h2
 cases List.map_eq_nil_iff.mp h2
 subst e2
 clear h2
 obtain ⟨f1,f2,ps,f4,f5,f6,f7,f8,f9,f10,f11,f12,f13⟩:=fd
 cases ps with | mk q1 q2 q3 q4 q5 q6 q7 =>
 dsimp only at h1 e1 h3 h4 h5 hd
 subst h1 e1 h3 h4 h5
 exact BindsTo.of_defaults hd ho hs rfl (by kernel_rfl)
theorem binds6 {fd : FuncData} {T : Addr} {v1 v2 v3 v4 d1 d2 d3 : Value} {s : Shared} {oT : Obj} {n : Nat} (h1 : fd.params.posonlyargs = []) (h2 : fd.params.args.map (·.arg) = (["self", "code", "value", "errorcode", "level", "ret"] : List String).map Str.ofString) (h3 : fd.params.vararg = none) (h4 : fd.params.kwonlyargs = []) (h5 : fd.params.kwarg = none)
  (hd : fd.defaults = .ref T) (ho : s.heap.get? T = some oT) (hs : oT.data = .seq #[d1, d2, d3] n) : BindsTo s fd ⟨[v1, v2, v3, v4], []⟩ [(Str.ofString "self", v1), (Str.ofString "code", v2), (Str.ofString "value", v3), (Str.ofString "errorcode", v4), (Str.ofString "level", d2), (Str.ofString "ret", d3)] := by
 obtain ⟨a1,p1,as1,e1,h2⟩:=args_cons h2
 obtain ⟨a2,p2,as2,e2,h2⟩:=args_cons h2
 obtain ⟨a3,p3,as3,e3,h2⟩:=args_cons h2
 obtain ⟨a4,p4,as4,e4,h2⟩:=args_cons h2
 obtain ⟨a5,p5,as5,e5,h2⟩:=args_cons h2
 obtain ⟨a6,p6,as6,e6,h2⟩:=args_cons h2
 cases List.map_eq_nil_iff.mp h2
 subst e6
 subst e5
 subst e4
 subst e3
 subst e2
 clear h2
 obtain ⟨f1,f2,ps,f4,f5,f6,f7,f8,f9,f10,f11,f12,f13⟩:=fd
 cases ps with | mk q1 q2 q3 q4 q5 q6 q7 =>
 dsimp only at h1 e1 h3 h4 h5 hd
 subst h1 e1 h3 h4 h5
 exact BindsTo.of_defaults hd ho hs rfl (by kernel_rfl)
end
section
open PySem PySem.W PyProof.Rows
theorem strsOf_map : ∀ {ds : List V} {l : List Tx},strsOf ds = some l → ds = l.map .str
 | [],l,h=>by obtain rfl:=sI h;rfl
 | d :: ds,l,h=>by
  obtain ⟨s,r,rfl,hr,rfl⟩:=strsOf_cons h
  rw [List.map_cons,strsOf_map hr]
structure ErrOk (c : Cx) (G B a0 fI : Addr) (K : Frag) : Prop where
 cls : ClsOk c.base c.C fI
 kin : K.In c.base
 kcl : keepIn K (.ref c.C) = true
 lim : c.base.NoLimit
 err : Ex2 fun b d => ErrB b ∧ PlainFn c.base G B a0 ["text", "errorcode"] b [d] ["Raised"]
 ini : Ex4 fun b d k1 k2 => InitB b ∧ PlainFn c.base G B fI ["self", "code", "value", "errorcode", "level", "ret"] b [d, .int 0 k1, .int 0 k2] ["Exception"]
 gl : Ex2 fun mg mb => A5 (c.base.Ns G mg) (mg ("Raised" : Str) = some (.ref c.C)) (mg ("Exception" : Str) = none) (c.base.Ns B mb) (mb ("Exception" : Str) = some (.type "Exception"))
set_option maxHeartbeats 4000000 in
theorem con_err {c : Cx} {G B a0 fI : Addr} {K : Frag} (eo : ErrOk c G B a0 fI K) : Con c (lay 1) 0 a0:=by
 intro A fs X ok s p vs ds Q E hfr hh hd hu hok hb hr h
 change PE _ s _ (errorG ds p) Q E at h
 refine gG fun P0 hP0=>?_
 obtain ⟨a1,a2,rfl,h⟩:=oL2_k (P:=fun r=>PE _ s _ r Q E) h id
 obtain ⟨t,rfl,h⟩:=dS_k (P:=fun r=>PE _ s _ r Q E) h id
 obtain ⟨cc,rfl,h⟩:=dT_k (P:=fun r=>PE _ s _ r Q E) h id
 obtain ⟨l,hl,h⟩:=dO_k (P:=fun r=>PE _ s _ r Q E) h id
 obtain ⟨v1,us1,rfl,r1,hr⟩:=Reps.cons_inv hr
 obtain ⟨v2,us2,rfl,r2,hr⟩:=Reps.cons_inv hr
 obtain rfl:=Reps.nil_inv hr
 obtain ⟨ht,tk,rfl⟩:=r1
 refine hP0 ?_
 rw [strsOf_map hl] at r2
 refine gG fun P0 hP0=>?_
 obtain ⟨bE,dE,hEB,hEF⟩:=eo.err
 obtain ⟨bI,dI,k1,k2,hIB,hIF⟩:=eo.ini
 obtain ⟨o,fd,T,oT,n,f1,_,f2,f3,f4,f5,f6,f7,f8,f9,f10,f11,f12,f13,f14,f15,f16,f17,f18,f19,f20⟩:=hEF.ex
 obtain ⟨o',fd',T',oT',n',i1,i0,i2,i3,i4,i5,i6,i7,i8,i9,i10,i11,i12,i13,i14,i15,i16,i17,i18,i19,i20⟩:=hIF.ex
 obtain ⟨mg,mb,g1,g2,g3,g4,g5⟩:=eo.gl
 obtain ⟨p1,p2,p3,p4,p5,p6,k,rfl⟩:=hEB
 refine hP0 ?_
 obtain hst:=hb.stays
 refine wpAny_call (codeAny_call_def (by lia) (hst _ _ f1) f2 (eo.lim.keeps hst) (f5.keeps hst) f6 (binds2 f13 f14 f15 f16 f17 f18 (hst _ _ f19) f20) f10 (fun x hx=>?_) (fun h1 hns1 hk1=>?_) f7 f8 f9)
 ·rw [← kOf_eq]
  rcases memc hx with rfl | hx
  ·exact f11 "text" (by exact List.mem_cons_self)
  ·rw [mems hx]; exact f11 "errorcode" (by exact .tail _ (.head _))
 generalize henv : callEnv fd s.heap.objs.size a0 = env
 have eloc : env.locals = s.heap.objs.size:=by rw [← henv];rfl
 have esc : env.scope = fd.scope:=by rw [← henv];rfl
 have eG : env.globals = G:=by rw [← henv];exact f3
 have eB : env.builtins = B:=by rw [← henv];exact f4
 have ekind : env.scope.kind = .function:=by rw [esc];exact f9
 have kofE : ∀ x,env.kindOf x = kOf fd.scope.names x:=fun x=>by unfold Env.kindOf;rw [esc,kOf_eq]
 have st1 : c.base.StaysIn h1:=fun a o e=>hk1 a o (hst a o e)
 refine wpAny_execs_cons (wpAny_Return_some (wpAny_Call_NameR (PySem.Calls.Name_function_global ekind ((kofE _).trans (f12 "Raised" (by exact List.mem_cons_self))) (PySem.Calls.loadGlobal_global (by rw [eG]; exact g1.keeps st1) g2 ?_) (by decide))))
 refine callWith_KW (K := K) (h₀ := c.base) (e := .Constant (.int 1) k p2) (rest := [.Name ("text" : Str) p3, .Name ("errorcode" : Str) p4]) (kws := []) eo.kin eo.kcl rfl ?_ rfl rfl
 refine PySem.Calls.spliced_cons (wpAny_Constant_int (k:=k) (pos:=p2) ?_)
 show wpAny _ _ (spliced [(false, eval (.Name ("text" : Str) p3) env), (false, eval (.Name ("errorcode" : Str) p4) env)]) _ _ _
 refine PySem.Calls.spliced_cons (wpAny_Name (wpAny_loadName_local ekind ((kofE _).trans (f11 "text" (by exact List.mem_cons_self))) (by rw [eloc]; exact hns1) rfl ?_) (by decide))
 refine PySem.Calls.spliced_cons (wpAny_Name (wpAny_loadName_local ekind ((kofE _).trans (f11 "errorcode" (by exact .tail _ (.head _)))) (by rw [eloc]; exact hns1) rfl ?_) (by decide))
 refine PySem.Calls.spliced_nil (wpAny_evalAll_nil ⟨eo.kin.keeps st1,?_⟩)
 refine gG fun P0 hP0=>?_
 obtain ⟨nm,q,N,bs,sn,sub,ab,col,dd,k0',k1',k2',k3',k5',newId,mN,oI,hC,hnew,hnN,hini,hIo,hIc,hns,hna⟩:=eo.cls.obj
 refine hP0 ?_
 subst hnew
 refine wpAny_call_exc_init (B := "Exception") PySem.F.excBase_Exception (st1 _ _ hC) (hnN.keeps st1) hini (st1 _ _ hIo) hIc (fun h2 e hm => ?_) (by rw [sizeLine_eq]; simp)
 refine gG fun P0 hP0=>?_
 obtain ⟨tt,het,htt,_⟩:=hm.there
 refine hP0 ?_
 have st2 : c.base.StaysIn h2:=fun a o e=>hm.keeps a o (st1 a o e)
 refine wpAny_call (codeAny_call_def ?_ (st2 _ _ i1) i2 (eo.lim.keeps st2) (i5.keeps st2) i6 (binds6 i13 i14 i15 i16 i17 i18 (st2 _ _ i19) i20) i10 (fun x hx=>?_) (fun h3 hns3 hk3=>?_) i7 i8 i9)
 ·show A.depth + 1 + 1 < recursionLimit
  exact Nat.le_of_lt (by assumption)
 ·rw [← kOf_eq]
  simp only [List.mem_cons,List.not_mem_nil,or_false] at hx
  rcases hx with rfl | rfl | rfl | rfl | rfl | rfl
  ·exact i11 "self" (by exact List.mem_cons_self)
  ·exact i11 "code" (by exact .tail _ (.head _))
  ·exact i11 "value" (by exact .tail _ (.tail _ (.head _)))
  ·exact i11 "errorcode" (by exact .tail _ (.tail _ (.tail _ (.head _))))
  ·exact i11 "level" (by exact .tail _ (.tail _ (.tail _ (.tail _ (.head _)))))
  ·exact i11 "ret" (by decide)
 generalize henv2 : callEnv fd' h2.objs.size fI = env2
 have eloc2 : env2.locals = h2.objs.size:=by rw [← henv2];rfl
 have esc2 : env2.scope = fd'.scope:=by rw [← henv2];rfl
 have eG2 : env2.globals = G:=by rw [← henv2];exact i3
 have eB2 : env2.builtins = B:=by rw [← henv2];exact i4
 have kofI : ∀ x,env2.kindOf x = kOf fd'.scope.names x:=fun x=>by unfold Env.kindOf;rw [esc2,kOf_eq]
 have ie : IEnv c.base env2 h2.objs.size := ⟨by rw [esc2]; exact i9, eloc2, fun x hx => (kofI _).trans (i11 x hx), (kofI _).trans (i12 "Exception" (by exact List.mem_cons_self)), mg, mb, by rw [eG2]; exact g1, g3, by rw [eB2]; exact g4, g5⟩
 have hLn : h1.get? h2.objs.size = none:=by
  cases e1 : h1.get? h2.objs.size with
  | none=>rfl
  | some oo=>exact absurd (Heap.lt_size (hm.keeps _ _ e1)) (Nat.lt_irrefl _)
 have g13 : Grow h1 h3:=fun b oo e1=>hk3 b oo (hm.keeps b oo e1)
 obtain heL : e ≠ h2.objs.size:=Nat.ne_of_lt (Heap.lt_size het)
 obtain j0 : J h1 c.C e h2.objs.size _ (fun Z=>none) 0 h3:=⟨g13,hns3,heL,⟨[],Within.nil,Nat.le_refl _⟩,_,none,hk3 _ _ het,⟨_,rfl⟩,.inl ⟨rfl,fun Z=>rfl⟩⟩
 have hi2 : interactive env2 = false:=by unfold interactive;rw [esc2,i9];rfl
 refine init_walk (s:={ heap:=h3,gens:=s.gens,drawn:=s.drawn,toks:=_,os:=s.os }) eo.cls ie st1 hm.new hLn hi2 hIB rfl rfl rfl rfl rfl rfl j0 fun v6 v7 v8 v9 h4 tk4 j4=>?_
 refine ⟨rfl,?_⟩
 refine gG fun P0 hP0=>?_
 obtain ⟨tup,dct,ho4,_,hd4⟩:=j4.obj
 refine hP0 ?_
 rcases hd4 with ⟨_,q⟩ | ⟨dx,rfl,hdx,hde,hdL,hn4⟩
 ·have := q (Str.ofString "extra")
  simp [endA,put] at this
 have g04 : Grow s.heap h4:=fun b oo e1=>j4.grow b oo (hk1 b oo e1)
 have hdxs : s.heap.get? dx = none:=by
  cases e1 : s.heap.get? dx with
  | none=>rfl
  | some oo=>have:=hk1 _ _ e1;rw [hdx] at this;exact nS this
 have hes : c.base.get? e = none:=by
  cases e1 : c.base.get? e with
  | none=>rfl
  | some oo=>have:=st1 _ _ e1;rw [hm.new] at this;exact nS this
 have hdxX : dx ∉ X:=fun q=>by
  refine gG fun P0 hP0=>?_
  obtain ⟨oo,e1,_⟩:=hb.live dx q
  refine hP0 ?_
  rw [hdxs] at e1;exact nS e1
 refine h (.ref e) h4 tk4 (.grow g04) (hb.grow g04) ⟨e,dx,rfl,hes,⟨_,_,ho4,rfl⟩,hdxX,_,hn4,⟨_,rfl⟩,ht,⟨_,rfl⟩,_,rfl,?_⟩
 exact r2.kp (Grow.kp g04 X c.pa) fun Z q=>q
end
section
open PySem PySem.W PyProof.Rows
noncomputable def tryC : CS:=.ret (.tup (.cons (.lit (.int 0)) (.cons (.call 31 (.cons (.var 0) (.cons (.var 1) .nil))) (.cons (.tup .nil) .nil))))
noncomputable def ToldB (fnm : List Str) (sc : Sc) (nm : List (Option Str)) (b : List Stmt) : Prop := (Ex8 fun st p1 p2 p3 q1 q2 q3 q4 => Ex5 fun q5 q6 q7 q8 k => A5 (b = [.Try [st] [.ExceptHandler (some (.Name ("Raised" : Str) p1)) (some ("fault" : Str)) [.Return (some (.Tuple [.Attribute (.Name ("fault" : Str) q1) ("code" : Str) q2, .Attribute (.Name ("fault" : Str) q3) ("value" : Str) q4, .Attribute (.Name ("fault" : Str) q5) ("errorcode" : Str) q6] k q7)) q8] p2] [] [] p3]) (relS fnm tryC sc nm [st] = true) (stoB sc nm 2 ("fault" : Str) = true) (isL (kOf sc ("fault" : Str)) = true) (isG (kOf sc ("Raised" : Str)) = true))
section
variable {prog : Program} {w : World} {A : Around} {E : Value → Shared → Prop} {s : Shared} {K : Frag} {x C N : Addr} {ox : Obj} {od : Option Obj} {name nm q : Str} {expr : Bool} {Q : Value → Shared → Prop}
 {bs : List Value} {hdct : Bool} {sn : List Str} {sub : List Value} {ab : Bool} {col : Option Bool} {dd : Option Addr} {k0 k1 k2 k3 k5 : Option Value} {newId : String}
theorem exc_entry {h : Heap} {g : Array GenState} {d : Drawn} {t : Nat} {os : OsState} {tk : Tok} {v : Value} {Q : Fin → Shared → Prop} (X : K.In h) (I : InstAt h x ox C od) (hf : findObj K C od name = some (.value v)) (hq : Q (.done (.ret v)) ⟨h,g,d,t,os⟩) :
  wpAny (model prog w) A (Builtin.«object.__getattribute__» ⟨[.ref x,.str name tk],[]⟩) Q E ⟨h,g,d,t,os⟩:=by
 obtain L0:=I.type (M:=model prog w)
 obtain L3:=looks_find (M:=model prog w) X I hf
 refine wpAny_bind (wpAny_pure (wpAny_bind (wpAny_pure (wpAny_bind (L0.at (wpAny_bind (L3.at ?_)))))))
 exact wpAny_pure hq
theorem get_excv {v : Value} (X : K.In s.heap) (I : InstAt s.heap x ox C od) (hga : findIn K (.ref C) "__getattribute__" = some (some (.builtin "BaseException.__getattribute__"))) (hgt : findIn K (.ref C) "__getattr__" = some none)
  (hf : findObj K C od name = some (.value v)) (hh : handedIn v = true) (hC : s.heap.get? C = some (excClassObj nm q C N bs [.type "Exception", .type "BaseException", .type "object"] hdct sn sub ab col dd k0 k1 k2 k3 k5 newId))
  (h : Q v { s with toks:=s.toks + 1 }) : wpAny (model prog w) A (getAttr (.ref x) name expr) Q E s:=by
 obtain ⟨hp,g,d,t,os⟩:=s
 obtain L0:=I.type (M:=model prog w)
 obtain L1:=looks_findIn (M:=model prog w) X hga
 obtain L2:=looks_findIn (M:=model prog w) X hgt
 obtain f3:=F.attrBase_Exception.ga.bind (.ref x)
 have hx0 : (expr && onTheHeap (Value.builtin "BaseException.__getattribute__")) = false := by cases expr <;> rfl
 have hx2 : (Value.builtin "BaseException.__getattribute__" == Value.builtin "object.__getattribute__") = false := by decide +kernel
 have hx1 : (onTheHeap (Value.ref C) && Value.builtin "BaseException.__getattribute__" == Value.builtin "object.__getattribute__") = false := by refine (hx2).trans ?_; rfl
 unfold getAttr getAttrBy
 refine wpAny_bind (wpAny_mkText (wpAny_holding (wpAny_bind (L0.at (wpAny_bind (L1.at ?_))))))
 dsimp only
 refine (hx1).symm ▸ ?_;refine (if_neg Bool.false_ne_true).symm ▸ ?_
 unfold getAttrByItsOwn hookBefore
 refine wpAny_bind ?_
 show wpAny _ _ (typeLookup (.ref C) "__getattr__") _ _ _
 refine L2.at ?_
 unfold callGetattribute
 refine (hx0).symm ▸ ?_;refine (if_neg Bool.false_ne_true).symm ▸ ?_
 unfold boundAndCalled
 refine (f3).symm ▸ ?_
 repeat (any_goals (first | assumption | wp_step))
 refine codeAny_call_builtin F.attrBase_Exception.ga.plain F.entry_bexc_ga (wpAny_check_ga_own F.attrBase_Exception hC .base I.at_ I.cls (exc_entry X I hf ?_))
 show wpAny _ _ (handedOut v) _ _ _
 exact (handedOut_of hh).symm ▸ wpAny_pure h
end
structure ReadOk (c : Cx) (K : Frag) : Prop where
 kin : K.In c.base
 ga : findIn K (.ref c.C) "__getattribute__" = some (some (.builtin "BaseException.__getattribute__"))
 gt : findIn K (.ref c.C) "__getattr__" = some none
 obj : ∃ fI,ClsOk c.base c.C fI
 hasD : hasDictIn K c.C = true
 no : ∀ x ∈ (["code", "value", "errorcode"] : List String), findIn K (.ref c.C) (Str.ofString x) = some none
theorem nsFind_lookIn {es : Array DictEntry} {o : Obj} {ep : Nat} {x : Str} {v : Value} (hd : o.data = .dict es ep) (h : nsFind es x = some v) : lookIn x o = some (some v):=by
 unfold lookIn
 rw [hd]
 unfold nsFind findBy at h
 obtain ⟨l⟩:=es
 simp only [List.find?_toArray] at h
 dsimp only
 cases hf : l.find? (fun e=>e.key.isStr x) with
 | none=>rw [hf] at h;cases h
 | some e=>rw [hf] at h;obtain rfl:=sI h;rfl
section
variable {prog : Program} {w : World} {A : Around} {E : Value → Shared → Prop} {s : Shared} {c : Cx} {K : Frag} {X : List Addr} {t : Tx} {cs : List Tx} {ea dx : Addr} {tb : Value}
theorem get_exc {x : String} {v : Value} {m : Str → Option Value} {Q : Value → Shared → Prop} (rk : ReadOk c K) (st : c.base.StaysIn s.heap) (he : ExcRec s.heap c.C ea dx tb) (hn : s.heap.Ns1 dx m) (hx : x ∈ (["code", "value", "errorcode"] : List String)) (hm : m (Str.ofString x) = some v) (hv : handedIn v = true)
  (h : ∀ tk',Q v { s with toks:=tk' }) : wpAny (model prog w) A (getAttr (.ref ea) (Str.ofString x) true) Q E s:=by
 refine gG fun P0 hP0=>?_
 obtain ⟨vs,sl,ho,_⟩:=he
 obtain ⟨od,es,ep,hd,hdd,_,_,hf⟩:=hn
 obtain hl : lookIn (Str.ofString x) od = some (some v):=nsFind_lookIn hdd ((hf _).trans hm)
 obtain ⟨fI,nm,q,N,bs,sn,sub,ab,col,dd,k0,k1,k2,k3,k5,newId,mN,oI,hC,_⟩:=rk.obj
 refine hP0 ?_
 exact get_excv (od:=some od) (rk.kin.keeps st) ⟨ho,rfl,rfl,hd⟩ rk.ga rk.gt (findObj_own rk.hasD (rk.no x hx) rfl hl) hv (st _ _ hC) (h _)
theorem attr_snd {env : Env} {x : String} {v : Value} {m : Str → Option Value} {q1 q2 : Pos} {Q : Value → Shared → Prop} (rk : ReadOk c K) (st : c.base.StaysIn s.heap) (ac : Acc env s.heap ("fault" : Str) (.ref ea)) (he : ExcRec s.heap c.C ea dx tb) (hn : s.heap.Ns1 dx m) (hx : x ∈ (["code", "value", "errorcode"] : List String)) (hm : m (Str.ofString x) = some v) (hv : handedIn v = true)
  (h : ∀ tk', Q v { s with toks := tk' }) : wpAny (model prog w) A (eval (.Attribute (.Name ("fault" : Str) q1) (Str.ofString x) q2) env) Q E s := by
 rw [arm_eval_Attribute, base_plain (o := .Name ("fault" : Str) q1) rfl]
 refine wpAny_bind (wpAny_Name (ac.load ?_) (by decide))
 refine wpAny_bind (wpAny_standAt (wpAny_bind (wpAny_holding (get_exc rk st he hn hx hm hv fun tk'=>?_))))
 exact wpAny_bind (wpAny_of_eq (a:=()) rfl (wpAny_pure (h tk')))
end
section
variable {F : Fn} {O X O' X' : List Addr} {vs : List Sl} {p p' : Int} {h h' : Heap} {s : Shared} {K : Frag}
theorem Stp.ext (st : Stp F O X h O' X' h') {h2 : Heap} (hk : ∀ a o,a ∉ stor F.env → h'.get? a = some o → h2.get? a = some o) : Stp F O X h O' X' h2 :=
 ⟨fun b o h1 h2 h3 e hn=>hk b o h3 (st.same b o h1 h2 h3 e hn),fun b o h1 h2 h3 e hn=>(by obtain ⟨sl,e'⟩:=st.slots b o h1 h2 h3 e hn;exact ⟨sl,hk b _ h3 e'⟩),st.newO,st.newX,st.subX,st.offO⟩
theorem tryC_eq (Γ : Gam) (t : Tx) (w : List V) (p : Int) : csx Γ 0 tryC [.val (.str t),.val (.lst w),.un] p = (Γ 31 [.str t,.lst w] p).bindS fun x p'=>(noX x p').bindS fun x p=>.ok (.ret (.tup [.int 0,x,.tup []])) [.val (.str t),.val (.lst w),.un] p:=by
 have ar : cevs Γ (.cons (.var 0) (.cons (.var 1) .nil)) [.val (.str t),.val (.lst w),.un] p = .ok [.str t,.lst w] p:=rfl
 have e0 : cev Γ (.lit (.int 0)) [.val (.str t),.val (.lst w),.un] p = .ok (.int 0) p:=rfl
 cases hr : Γ 31 [.str t,.lst w] p with
 | fail=>exact q_retf (e_tupf (e_consf2 e0 (e_consf (e_callf ar (bEf hr)))))
 | exc t c p'=>exact q_retx (e_tupx (e_consx2 e0 (e_consx (e_callx ar hr))))
 | ok x p' =>
  cases x with
  | exc t c=>exact q_retf (e_tupf (e_consf2 e0 (e_consf (e_callf ar (bE hr rfl)))))
  | _=>exact q_ret (e_tup (e_cons e0 (e_cons (e_call ar hr rfl) (e_cons (e_tup e_nil (by exact Nat.zero_le _)) e_nil))) (by simp))
theorem suite_snd (rk : ReadOk F.c K) {A : Around} {t : Tx} {cs : List Tx} {ea dx : Addr} {tb : Value} {q1 q2 q3 q4 q5 q6 q7 q8 : Pos} {k : Nat} {Q : Flow → Shared → Prop} {E : Value → Shared → Prop} (bs : Bs F.c F.fs X p s.heap) (he : ExcRec s.heap F.c.C ea dx tb) (hxd : XD F.c s.heap X dx t cs)
  (ac : Acc F.env s.heap ("fault" : Str) (.ref ea)) (h : ∀ v h' tk', Grow s.heap h' → Rep F.c.w h' X F.c.pa v (.tup [.int 1, .str t, .tup (cs.map .str)]) → Q (.ret v) { s with heap := h', toks := tk' }) :
  wpAny (model F.c.prog F.c.w) A (execs [.Return (some (.Tuple [.Attribute (.Name ("fault" : Str) q1) ("code" : Str) q2, .Attribute (.Name ("fault" : Str) q3) ("value" : Str) q4, .Attribute (.Name ("fault" : Str) q5) ("errorcode" : Str) q6] k q7)) q8] F.env) Q E s := by
 refine gG fun P0 hP0=>?_
 obtain ⟨hdX,m,hn,⟨k1,hc1⟩,ht,⟨k2,hc2⟩,v3,hc3,hr3⟩:=hxd
 refine hP0 ?_
 obtain st:=bs.stays
 have hh3 : handedIn v3 = true:=by obtain ⟨_,a,us,rfl,_⟩:=hr3;rfl
 refine wpAny_execs_cons (wpAny_Return_some (wpAny_Tuple_spliced ?_))
 show wpAny _ _ (spliced [(false, eval (.Attribute (.Name ("fault" : Str) q1) ("code" : Str) q2) F.env), (false, eval (.Attribute (.Name ("fault" : Str) q3) ("value" : Str) q4) F.env), (false, eval (.Attribute (.Name ("fault" : Str) q5) ("errorcode" : Str) q6) F.env)]) _ _ _
 refine PySem.Calls.spliced_cons (attr_snd rk st ac he hn (x := "code") (by exact List.mem_cons_self) hc1 rfl fun ta => ?_)
 refine PySem.Calls.spliced_cons (attr_snd (s := { s with toks := ta }) rk st ac he hn (x := "value") (by exact .tail _ (.head _)) hc2 rfl fun tb => ?_)
 refine PySem.Calls.spliced_cons (attr_snd (s := { s with toks := tb }) rk st ac he hn (x := "errorcode") (by exact .tail _ (.tail _ (.head _))) hc3 hh3 fun tc => ?_)
 refine PySem.Calls.spliced_nil ⟨by refine (sizeLine_eq).symm ▸ ?_;simp,?_⟩
 obtain g := Grow.push s.heap { cls := .type "tuple", data := .seq #[.int 1 k1, .str (S t) k2, v3] }
 refine h _ _ tc g ⟨by simp [SZ],_,[.int 1 k1,.str (S t) k2,v3],rfl,bs.fresh,⟨_,Heap.get?_push_size _ rfl,rfl,_,rfl⟩,⟨_,rfl⟩,⟨ht,_,rfl⟩,?_,trivial⟩
 exact Rep.kp (g.kp X F.c.pa) (fun Z q=>q) _ _ hr3
end
set_option maxHeartbeats 2000000 in
theorem con_told {c : Cx} {G B fI a0 : Addr} {fnm : List Str} {fa : Nat → Addr} {K : Frag} (wo : WorldOk c G B fnm fa) (rk : ReadOk c K)
  (hraised : ∃ mg, c.base.Ns G mg ∧ mg ("Raised" : Str) = some (.ref c.C)) (hcls : ExcCls c.base c.C)
  {o : Obj} {fd : FuncData} {body : List Stmt} (ho : c.base.get? (fa 39) = some o) (hdt : o.data = .func fd) (hG : fd.globals = G) (hB : fd.builtins = B) (hcode : c.base.CodeRec fd.code fd.qualname) (hbd : fd.body = .stmts body)
  (hfn : fnB0 2 3 ["form", "words", "fault"] fd = true) (hb : ToldB fnm fd.scope.names (nmsOf fd.scope.names ["form", "words", "fault"]) body) (ih : ∀ g, g < 39 → Con c (lay 39) g (fa g)) : Con c (lay 40) 39 (fa 39) := by
 intro A fs X ok s p vs ds Q E hfr hh hd hu hok hbs hr h
 have e : lay (39 + 1) 39 ds p = stepG (lay 39) 39 ds p:=by
  show (if (39 : Nat) = 39 then stepG (lay 39) 39 ds p else lay 39 39 ds p) = _
  rw [if_pos rfl]
 rw [e] at h
 have e2 : stepG (lay 39) 39 ds p = toldG (lay 39) ds p:=by
  unfold stepG
  rw [if_neg (by decide),if_pos rfl]
 rw [e2] at h
 by_cases hds : Ex2 fun t w=>ds = [.str t,.lst w]
 ·obtain ⟨t,w,rfl⟩:=hds
  refine call_gen wo ho hdt hG hB hcode hbd hfn hfr hh (by lia) (by lia) hok (Γ:=lay 39) (fun env f x hx X' ok' s' p' vs' ds' Q' E' hok' hb' hr' h'=>?_) hbs hr rfl h fun F fo f1 f2 f3 f4 f5 f6 X1 s1 Q' E' Z inv hPB=>?_
  ·by_cases hfg : f < 39
   ·refine ih f hfg (A.deeper env) (env :: fs) X' ok' s' p' vs' ds' Q' E' ?_ hh ?_ ?_ hok' hb' hr' h'
    ·show A.frames.map (env :: ·) = _;rw [hfr];rfl
    ·show A.depth + 1 + f + 4 ≤ _;lia
    ·show A.units + 3 + 8 * f + 100 < _;lia
   ·change PE _ _ _ (lay 39 f ds' p') _ _ at h'
    rw [lay_ge 39 f ds' p' (by lia)] at h'
    exact h'.elim
  ·obtain ⟨st,p1,p2,p3,q1,q2,q3,q4,q5,q6,q7,q8,k,rfl,hst,hsto,hlf,hgr⟩:=hb
   have hst' : relS F.fnm tryC F.sc F.nm [st] = true:=by rw [f4,f2,f3];exact hst
   have hsto' : stoB F.sc F.nm 2 ("fault" : Str) = true := by rw [f2, f3]; exact hsto
   obtain ev:=fo.ev X1
   have hlf' : F.env.kindOf ("fault" : Str) = some .local := (ev.kind_at _).trans (by rw [f2]; exact isL_eq hlf)
   have hgr' : F.env.kindOf ("Raised" : Str) = some .globalImplicit := (ev.kind_at _).trans (by rw [f2]; exact isG_eq hgr)
   obtain ⟨nm,q,N,bs,bm,hdct,sn,sub,ab,col,dd,k0,k1,k2,k3,k5,newId,hC,hbase⟩:=hcls
   refine wpAny_execs_cons ?_
   rw [arm_exec_Try]
   refine wpAny_bind (wpAny_standAt (wpAny_tryStmt_except ?_))
   have hrun : PS F [] X1 s1 (csx F.Γ 0 tryC ([.val (.str t),.val (.lst w),.un]) p) (fun f s'=>∃ v,f = .ret v ∧ Q' v s')
     (fun e s'=>Ex7 fun t' cs p' O' X' h' tk'=>A6 (s' = { s1 with heap:=h',toks:=tk' }) (lay 39 31 [.str t,.lst w] p = .exc t' cs p') (Stp F [] X1 s1.heap O' X' h') (Bs F.c F.fs X' p' h') (FlyAt F.c X' F.ok t' cs e h') (∃ m,h'.Ns F.env.locals m)):=by
    rw [tryC_eq,f5]
    rw [show toldG (lay 39) [.str t,.lst w] p = told1 (lay 39 31 [.str t,.lst w] p) from rfl] at hPB
    generalize lay 39 31 [.str t,.lst w] p = r at hPB ⊢
    cases r with
    | fail=>exact hPB
    | exc t' c' p'=>exact fun e O' X' h' tk' st b f n=>⟨t',c',p',O',X',h',tk',rfl,rfl,st,b,f,n⟩
    | ok x p' =>
     cases x <;> first | exact hPB.elim | skip
     exact fun O' X' h' tk' st i' v ho'=>⟨v,rfl,hPB O' X' h' tk' st i'.bs v ho'⟩
   refine wpAny_mono (cs_snd fo tryC hst' inv hrun) (fun f s2 hq=>?_) (fun e s2 hq=>?_)
   ·obtain ⟨v,rfl,hq⟩:=hq
    exact hq
   ·obtain ⟨t',cs',p',O',X',h',tk',rfl,hr31,st1,b1,⟨ea,dx,tb,fl,rfl,hb0,hrec,htb,hok1,hxd⟩,mL,hnL⟩:=hq
    rw [show toldG (lay 39) [.str t,.lst w] p = told1 (lay 39 31 [.str t,.lst w] p) from rfl,hr31] at hPB
    refine note_snd (s:={ s1 with heap:=h',toks:=tk' }) fo.hfr b1.frames fo.frame b1.stays hb0 hrec htb hok1 fun h2 T e1 e2 e3 e4=>?_
    refine flight_snd (s:={ s1 with heap:=h2,toks:=tk' }) (fr:=none) e1 e3 e4 (frs F.fs) fun h3 d1 d2 d3 d4=>?_
    obtain fx3 : Fx (frs F.fs) h' h3:=e2.trans d2
    obtain b3:=fx_bs b1 fx3 d1
    obtain st3:=st1.trans inv (fx_stp st1 fx3)
    obtain x3 : XD F.c h3 X' dx t' cs':=hxd.kp (fx3.kp fun a q=>b1.fin a q) fun Z q=>q
    obtain n3 : h3.Ns F.env.locals mL:=ns_slots hnL fun o e hn=>fx3.slots _ o e hn
    obtain ⟨mg,hmg,hmr⟩:=hraised
    have hbp : Value.ref ea ≠ byPass:=by intro q;exact PySem.Value.noConfusion q
    refine wpAny_handleBy_cons ?_ hbp
    refine codeAny_handlers_test (PySem.Calls.Name_function_global ev.kind hgr' (PySem.Calls.loadGlobal_global (mg:=mg) (by rw [f6];exact stays_ns b3.stays (by rw [f1];exact hmg)) hmr ?_) (by decide))
    obtain ⟨fv,sl,hef,hfv⟩:=id d3
    have hef':=hef
    rw [f1] at hef'
    refine wpAny_excMatches_sub_self (C:=c.C) (nm:=nm) (q:=q) (N:=N) (bs:=bs) (bm:=bm) (hdct:=hdct) (sn:=sn) (sub:=sub) (ab:=ab) (col:=col) (dd:=dd) (k0:=k0) (k1:=k1) (k2:=k2) (k3:=k3) (k5:=k5) (newId:=newId) (b3.stays _ _ (by rw [f1];exact hC)) hef' rfl hbase ?_
    refine codeAny_handlers_suite_as ?_
    refine flight_snd (s:={ s1 with heap:=h3,toks:=tk' }) (fr:=none) d1 d3 d4 (frs F.fs) fun h4 c1 c2 c3 c4=>?_
    obtain b4:=fx_bs b3 c2 c1
    obtain st4:=st3.trans inv (fx_stp st3 c2)
    obtain x4 : XD F.c h4 X' dx t' cs':=x3.kp (c2.kp fun a q=>b3.fin a q) fun Z q=>q
    obtain n4 : h4.Ns F.env.locals mL:=ns_slots n3 fun o e hn=>c2.slots _ o e hn
    obtain hLX : F.env.locals ∈ X':=st4.subX _ (inv.stx _ mem_stor_locals)
    obtain hLb:=(fo.stb _ mem_stor_locals).1
    obtain hLp:=(fo.stb _ mem_stor_locals).2
    have hp : (F.env.scope.kind == .class || (F.env.scope.kind == .module && F.env.locals != F.env.globals)) = false:=by rw [ev.kind];rfl
    have chg : ∀ {ha hb : Heap} {m1 m2 : Str → Option Value},Stp F [] X1 s1.heap O' X' ha → Bs F.c F.fs X' p' ha → hb.Ns F.env.locals m2 → Heap.SameBut F.env.locals ha hb →
      Stp F [] X1 s1.heap O' X' hb ∧ Bs F.c F.fs X' p' hb ∧ Sm X' ha hb:=fun {ha hb m1 m2} sa ba nb hs=>by
     have hk : ∀ a o,a ≠ F.env.locals → ha.get? a = some o → hb.get? a = some o:=fun a o hne e=>(hs.2 a hne).trans e
     obtain ⟨oL,es,ep,eL,hdL,_⟩:=nb
     have nf : ∀ vs,oL.data ≠ .fields vs:=fun Z q=>by rw [hdL] at q;exact PySem.Data.noConfusion q
     exact ⟨sa.ext fun a o hn e=>hk a o (fun q=>hn (q ▸ mem_stor_locals)) e,ba.poke hLp hLb hk ⟨oL,eL,.inl nf,fun Z=>nf⟩,fun a o hn e Z=>hk a o (fun q=>hn (q ▸ hLX)) e⟩
    refine wpAny_storeName_local hlf' n4 (fun h5 n5 hs5=>?_) hp
    obtain ⟨st5,b5,sm5⟩:=chg (m1:=mL) st4 b4 n5 hs5
    obtain x5:=x4.sm sm5 fun Z q=>.inl q
    obtain ⟨fv4,sl4,hef4,hfv4⟩:=id c3
    have heL : ea ≠ F.env.locals:=by
     rintro rfl
     obtain ⟨oL,es,ep,eL,hdL,_⟩:=n4
     rw [hef4] at eL;obtain rfl:=sI eL
     exact PySem.Data.noConfusion hdL
    obtain r5 : ExcRec h5 F.c.C ea dx (.ref T):=⟨fv4,sl4,(hs5.2 _ heL).trans hef4,hfv4⟩
    obtain ac5 : Acc F.env h5 ("fault" : Str) (.ref ea) := ⟨ev.kind, .inl ⟨hlf', _, n5, if_pos rfl⟩⟩
    refine suite_snd (s:={ s1 with heap:=h5,toks:=tk' + 1 }) (by rw [f1];exact rk) b5 r5 x5 ac5 fun v h6 tk6 g6 r6=>?_
    obtain st6:=st5.ext fun a o Z e=>g6 a o e
    obtain b6:=b5.grow g6
    obtain n6:=n5.keeps g6
    refine wpAny_bind (wpAny_bindName (wpAny_storeName_local (s:={ s1 with heap:=h6,toks:=tk6 }) hlf' n6 (fun h7 n7 hs7=>?_) hp))
    obtain ⟨st7,b7,sm7⟩:=chg (m1:=mL) st6 b6 n7 hs7
    refine wpAny_onRaise (wpAny_unbindName_local (s:={ s1 with heap:=h7,toks:=tk6 + 1 }) hlf' n7 (if_pos rfl) hp fun h8 u n8 hs8=>?_)
    obtain ⟨st8,b8,sm8⟩:=chg (m1:=mL) st7 b7 n8 hs8
    obtain r8:=Rep.sm sm8 (fun Z q=>.inl q) _ _ (Rep.sm sm7 (fun Z q=>.inl q) _ _ r6)
    exact hPB O' X' h8 (tk6 + 1) st8 b8 v (Rep.kp (Kp.refl X' F.c.pa h8) (fun a q=>st8.subX a (inv.x0 a q)) _ _ r8)
 ·exfalso
  obtain ⟨a1,a2,rfl,h⟩:=oL2_k (P:=fun r=>PE _ s _ r Q E) h id
  obtain ⟨t,rfl,h⟩:=dS_k (P:=fun r=>PE _ s _ r Q E) h id
  obtain ⟨w,rfl,h⟩:=dL_k (P:=fun r=>PE _ s _ r Q E) h id
  exact hds ⟨_,_,rfl⟩
end
section
open PySem PySem.W PyProof.Rows
noncomputable def fieldsG (G : Gam) : List V → Int → RE (List V)
 | [],p=>.ok [] p
 | x :: r,p=>((G 36 [x,.pen] p).bind noX).bind fun y p=>(fieldsG G r p).bind fun ys p=>.ok (y :: ys) p
theorem fieldsG_cons {G : Gam} {x : V} {r ys : List V} {p p' : Int} (h : fieldsG G (x :: r) p = .ok ys p') : Ex3 fun y p1 ys'=>A3 ((G 36 [x,.pen] p).bind noX = .ok y p1) (fieldsG G r p1 = .ok ys' p') (ys = y :: ys'):=by
 unfold fieldsG at h
 cases h1 : (G 36 [x,.pen] p).bind noX with
 | fail=>rw [h1] at h;cases h
 | exc _ _ _=>rw [h1] at h;cases h
 | ok y p1 =>
  rw [h1] at h
  change (fieldsG G r p1).bind _ = _ at h
  cases h2 : fieldsG G r p1 with
  | fail=>rw [h2] at h;cases h
  | exc _ _ _=>rw [h2] at h;cases h
  | ok ys' p2=>rw [h2] at h;obtain ⟨rfl,rfl⟩:=okI h;exact ⟨y,p1,ys',rfl,h2,rfl⟩
section
variable {k : Kt} {A : Around} {env : Env} {Γ : Gam} {sc : Sc} {fnm : List Str}
theorem Ev.innerF {scope : Scope} {cl : List (Str × Addr)} {C : Addr} (ev : Ev k A env Γ sc fnm) (hk : scope.kind = .function) (hcl : ∀ y ∈ scope.names,y.2 = .free → cl.lookup y.1 ≠ none)
  (hnc : ∀ y ∈ scope.names,isC (some y.2) = false) : Ev k A (compEnvC scope cl C env) Γ (relab scope.names sc) fnm :=
 ⟨ev.ko,hk,relab_eq ev.kind ev.names,(ev.inner (C:=C) hk hcl hnc).cells,ev.hh,ev.hu,ev.gl,ev.bl⟩
end
section
variable {F : Fn} {O X O' X' : List Addr} {vs : List Sl} {p p' : Int} {h h' : Heap} {s : Shared} {n : Nat}
theorem Inv.pokeX (i : Inv F O X vs p h) {b : Addr} (hbX : b ∈ X) (hbO : b ∉ O) (hbs : b ∉ stor F.env) (hbp : b ≠ F.c.pa) (hb0 : F.c.base.get? b = none) (hk : ∀ a o,a ≠ b → h.get? a = some o → h'.get? a = some o)
  (hl : ∃ o,h'.get? b = some o ∧ ∀ vs,o.data ≠ .fields vs) : Inv F O X vs p h':=by
 have sm : Sm X h h':=fun a o ha e Z=>hk a o (fun q=>ha (q ▸ hbX)) e
 have hst : ∀ c ∈ stor F.env,c ≠ b:=fun c hc q=>hbs (q ▸ hc)
 have hO : ∀ a ∈ O,a ≠ b:=fun c hc q=>hbO (q ▸ hc)
 have up : ∀ y u,Acc F.env h y u → Acc F.env h' y u:=fun y u ac=>ac.up fun c o hc e Z=>⟨o.slots,hk c o (hst c hc) e⟩
 obtain ⟨ob,eb,hnb⟩:=hl
 refine ⟨i.bs.poke hbp hb0 hk ⟨ob,eb,.inl hnb,fun Z=>hnb⟩,fun j y sl e1 e2=>?_,?_,?_,i.stx,i.oin,i.x0,i.one⟩
 ·have z:=i.sl j y sl e1 e2
  cases sl with
  | un=>trivial
  | val d=>obtain ⟨v,ac,r⟩:=z;exact ⟨v,up _ _ ac,Rep.sm sm (fun Z q=>.inl q) _ _ r⟩
  | own ds=>obtain ⟨hz,b',us,ac,ho,hl,r⟩:=z;exact ⟨hz,b',us,up _ _ ac,ho,plain_at hl fun o e Z=>hk _ o (hO b' ho) e,Reps.sm sm (fun Z q=>.inl q) _ _ r⟩
  | ownD kv=>obtain ⟨b',us,ac,ho,hl,r⟩:=z;exact ⟨b',us,up _ _ ac,ho,dictOf_at hl fun o e Z=>hk _ o (hO b' ho) e,Reps.sm sm (fun Z q=>.inl q) _ _ r⟩
 ·obtain ⟨mm,hn⟩:=i.ns;exact ⟨mm,ns_slots hn fun o e Z=>⟨o.slots,hk _ o (hst _ mem_stor_locals) e⟩⟩
 ·intro y c e;obtain ⟨v,hc⟩:=i.cel y c e;exact ⟨v,cell_slots hc fun o e' Z=>⟨o.slots,hk _ o (hst _ (mem_stor e)) e'⟩⟩
theorem Inv.dropX (i0 : Inv F O X vs p h) {vs' : List Sl} {p' : Int} (i : Inv F O X' vs' p' h') (hs : ∀ a ∈ X,a ∈ X') : Inv F O X vs' p' h':=by
 have k : Kp X' F.c.pa h' h':=Kp.refl _ _ _
 refine ⟨⟨i.bs.stays,i.bs.frames,i.bs.pen,i0.bs.sys,i0.bs.pin,i0.bs.fin,i.bs.paf,fun a ha=>i.bs.live a (hs a ha),i.bs.zero⟩,fun j y sl e1 e2=>?_,i.ns,i.cel,i0.stx,fun a ha=>⟨(i0.oin a ha).1,(i.oin a ha).2⟩,i0.x0,i.one⟩
 have z:=i.sl j y sl e1 e2
 cases sl with
 | un=>trivial
 | val d=>obtain ⟨v,ac,r⟩:=z;exact ⟨v,ac,Rep.kp k hs _ _ r⟩
 | own ds=>obtain ⟨hz,b',us,ac,ho,hl,r⟩:=z;exact ⟨hz,b',us,ac,ho,hl,Reps.kp k hs _ _ r⟩
 | ownD kv=>obtain ⟨b',us,ac,ho,hl,r⟩:=z;exact ⟨b',us,ac,ho,hl,Reps.kp k hs _ _ r⟩
end
end
section
open PySem PySem.W PyProof.Rows
section
variable {k : Kt} {A : Around} {env : Env} {Γ : Gam} {sc : Sc} {fnm : List Str}
theorem kOf_relab {l : Sc} {x : Str} (hc : isC (kOf sc x) = true) (h : kOf l x = some .free) : kOf (relab l sc) x = some .cell:=by
 induction l with
 | nil=>cases h
 | cons a r ih =>
  obtain ⟨n,kd⟩:=a
  rw [kOf] at h
  show kOf ((if (isF (some kd) && isC (kOf sc n)) = true then (n,NameKind.cell) else (n,kd)) :: _) x = _
  by_cases hs : seq x n = true
  ·rw [if_pos hs] at h
   injection h with h
   subst h
   rw [← seq_eq hs,show (isF (some NameKind.free) && isC (kOf sc x)) = true from by rw [hc];rfl,if_pos rfl,kOf,seq_self]
   rfl
  ·rw [if_neg hs] at h
   have hs' : seq x n = false:=by simpa using hs
   split <;> (rw [kOf,hs'];exact ih h)
theorem Vs.innerF {scope : Scope} {cl : List (Str × Addr)} {C : Addr} {nm : List (Option Str)} {vs : List Sl} {h : Heap} {j : Nat} {x : Str} {m : Str → Option Value} {v : Value} {d : V} (ev : Ev k A env Γ sc fnm)
  (hk : scope.kind = .function) (hcl1 : ∀ y ∈ cl,env.cells.lookup y.1 = some y.2) (hcl2 : ∀ y ∈ scope.names,y.2 = .free → cl.lookup y.1 ≠ none)
  (hx : kOf (relab scope.names sc) x = some .local) (hC : C ≠ k.c.pa) (hn : h.Ns C m) (hm : m x = some v) (hr : Rep k.c.w h k.X k.c.pa v d) (hj : j < nm.length) (hno : vs.all (fun s=>!s.isOwn) = true)
  (hv : Vs k.c k.fs env k.X nm vs h) : Vs k.c k.fs (compEnvC scope cl C env) k.X (nmIn scope.names sc j x nm) (vs.set j (.val d)) h:=by
 refine ⟨fun a ha=>?_,fun i' x' sl e1 e2=>?_⟩
 ·rcases mem_stor_inv ha with rfl | ⟨y,hy⟩
  ·exact hC
  ·exact hv.1 a (mem_stor (hcl1 (y,a) (PySem.mem_of_lookup hy)))
 ·unfold nmIn at e1
  by_cases hij : j = i'
  ·subst hij
   rw [List.getElem?_set_self (by simpa using hj)] at e1
   obtain rfl:=sI (sI e1)
   rw [List.getElem?_set] at e2
   simp only [if_true] at e2
   split at e2
   ·obtain rfl:=sI e2
    refine ⟨v,⟨hk,.inl ⟨?_,m,hn,hm⟩⟩,hr⟩
    unfold Env.kindOf
    show List.lookup x (relabel scope env).names = _
    rw [relab_eq ev.kind ev.names,← kOf_eq]
    exact hx
   ·exact nS e2
  ·rw [List.getElem?_set_ne hij] at e1 e2
   rw [List.getElem?_map] at e1
   obtain ⟨o,ho,e1⟩:=mapS e1
   cases o with
   | none=>cases e1
   | some y =>
    simp only at e1
    split at e1
    ·rename_i hc
     cases e1
     rw [Bool.and_eq_true] at hc
     have hsl:=hv.2 i' _ sl ho e2
     have hko : env.kindOf x' = some .cell:=by rw [ev.kind_at];exact isC_eq hc.2
     have hki : (compEnvC scope cl C env).kindOf x' = some .cell:=by
      unfold Env.kindOf
      show List.lookup x' (relabel scope env).names = _
      rw [relab_eq ev.kind ev.names,← kOf_eq]
      exact kOf_relab hc.2 (isF_eq hc.1)
     have hnow:=allT hno sl (List.mem_of_getElem? e2)
     cases sl with
     | un=>trivial
     | val d' =>
      obtain ⟨v',⟨_,ha⟩,r⟩:=hsl
      refine ⟨v',⟨hk,?_⟩,r⟩
      rcases ha with ⟨hl,_⟩ | ⟨c,hc',hi,_⟩
      ·rw [hko] at hl;cases sI hl
      ·refine .inr ⟨c,?_,hi,.inl hki⟩
       have:=hcl2 _ (mem_of_kOf (isF_eq hc.1)) rfl
       cases hq : cl.lookup x' with
       | none=>exact absurd hq this
       | some c'=>have h2:=hcl1 _ (PySem.mem_of_lookup hq);rw [h2] at hc';obtain rfl:=sI hc';exact hq
     | own ds=>cases hnow
     | ownD kv=>exact fT hnow
    ·exact nS e1
end
noncomputable def CompB (fnm : List Str) (sc : Sc) (nm : List (Option Str)) (st : Stmt) : Prop := (Ex7 fun elt px pi scope lpos py spos => A10 (st = .Assign [.Name ("fields" : Str) py] (.ListComp elt [⟨.Name ("told" : Str) px, .Name ("row" : Str) pi, [], 0⟩] scope lpos) spos) (relE fnm (.call 36 (.cons (.var 12) (.cons (.var 4) .nil))) (relab scope.names sc) (nmIn scope.names sc 12 ("told" : Str) nm) elt = true) (scope.kind = .function) (∀ y ∈ scope.names, isC (some y.2) = false ∧ (y.2 = .local → kOf scope.names y.1 = some .local) ∧ (y.2 = .free → isC (kOf sc y.1) = true)) (kOf scope.names ("told" : Str) = some .local) (nmAt nm 3 ("row" : Str) = true) (stoB sc nm 5 ("fields" : Str) = true) (kOf sc ("fields" : Str) = some .local) ((py.line == lpos.line) = true) ((scope.names.any fun y => y.1 == ("fields" : Str) && (y.2 == .local || y.2 == .cell)) = false ∧ 12 < nm.length))
theorem comp_swaps {env : Env} {elt : Expr} {g : List Comprehension} {scope : Scope} {lpos py : Pos} {l : Nat} {x : Str} (hb : env.blockKind = .function) (hk : env.kindOf x = some .local) (hl : (py.line == lpos.line) = true)
  (hn : (scope.names.any fun y=>y.1 == x && (y.2 == .local || y.2 == .cell)) = false) : swapsWith (.ListComp elt g scope lpos) (some (.Name x py)) l env = pure true:=by
 unfold swapsWith
 simp only [hb,hk]
 have hl' : (py.line == (Expr.ListComp elt g scope lpos).pos.line) = true:=hl
 rw [hl']
 simp only [hn]
 rfl
end
section
open PySem PySem.W PyProof.Rows
section
variable {F : Fn} {O X O' X' : List Addr} {vs : List Sl} {p p' : Int} {h h' : Heap} {s : Shared} {n : Nat}
theorem noOwn_set {vs : List Sl} {j : Nat} {d : V} (h : vs.all (fun s=>!s.isOwn) = true) : (vs.set j (.val d)).all (fun s=>!s.isOwn) = true:=by
 rw [List.all_eq_true] at h ⊢
 intro x hx
 rcases List.mem_or_eq_of_mem_set hx with q | q
 ·exact h x q
 ·rw [q];rfl
theorem Inv.dropPoke {b : Addr} {vs0 : List Sl} {p0 : Int} {h0 : Heap} (i0 : Inv F O X vs0 p0 h0) (i : Inv F O (b :: X) vs p h) (hb : b ∉ X) (hb0 : F.c.base.get? b = none) (hk : ∀ a o,a ≠ b → h.get? a = some o → h'.get? a = some o) : Inv F O X vs p h':=by
 have sm : Sm (b :: X) h h':=fun a o ha e Z=>hk a o (fun q=>ha (q ▸ List.mem_cons_self)) e
 have hst : ∀ c ∈ stor F.env,c ≠ b:=fun c hc q=>hb (q ▸ i0.stx c hc)
 have hO : ∀ a ∈ O,a ≠ b:=fun c hc q=>hb (q ▸ (i0.oin c hc).1)
 have up : ∀ y u,Acc F.env h y u → Acc F.env h' y u:=fun y u ac=>ac.up fun c o hc e Z=>⟨o.slots,hk c o (hst c hc) e⟩
 obtain bX : Bs F.c F.fs X p h:=⟨i.bs.stays,i.bs.frames,i.bs.pen,i0.bs.sys,i0.bs.pin,i0.bs.fin,i.bs.paf,fun a ha=>i.bs.live a (List.mem_cons_of_mem _ ha),i.bs.zero⟩
 have hX : ∀ a,a ∈ X → a ∈ b :: X ∨ Nov h a:=fun a ha=>.inl (List.mem_cons_of_mem _ ha)
 refine ⟨bX.pokeN (I:=[b]) (fun a ha=>by rw [mems ha];exact hb) (fun a ha=>by rw [mems ha];exact hb0) fun a o ha e=>hk a o (by simpa using ha) e,fun j y sl e1 e2=>?_,?_,?_,i0.stx,fun a ha=>⟨(i0.oin a ha).1,(i.oin a ha).2⟩,i0.x0,i.one⟩
 ·obtain z:=i.sl j y sl e1 e2
  cases sl with
  | un=>trivial
  | val d=>obtain ⟨v,ac,r⟩:=z;exact ⟨v,up _ _ ac,Rep.sm sm hX _ _ r⟩
  | own ds=>obtain ⟨hz,b',us,ac,ho,hl,r⟩:=z;exact ⟨hz,b',us,up _ _ ac,ho,plain_at hl fun o e Z=>hk _ o (hO b' ho) e,Reps.sm sm hX _ _ r⟩
  | ownD kv=>obtain ⟨b',us,ac,ho,hl,r⟩:=z;exact ⟨b',us,up _ _ ac,ho,dictOf_at hl fun o e Z=>hk _ o (hO b' ho) e,Reps.sm sm hX _ _ r⟩
 ·obtain ⟨mm,hn⟩:=i.ns;exact ⟨mm,ns_slots hn fun o e Z=>⟨o.slots,hk _ o (hst _ mem_stor_locals) e⟩⟩
 ·intro y c e;obtain ⟨v,hc⟩:=i.cel y c e;exact ⟨v,cell_slots hc fun o e' Z=>⟨o.slots,hk _ o (hst _ (mem_stor e)) e'⟩⟩
inductive CfJ (F : Fn) (O X : List Addr) (s : Shared) (us : List Value) (vs : List Sl) (C D I ax : Addr) (l ys : List V) (p' : Int) (m : Nat) (s' : Shared) : Prop
 | mk (j : Nat) (done : List Value) (yd : List V) (yr : List V) (pj : Int) (mC : Str → Option Value) (hh : Heap) (tk : Nat) (h0 : m = us.length - j) (h1 : j ≤ us.length) (h2 : s' = { s with heap:=hh,toks:=tk }) (h3 : Inv F O (C :: D :: X) vs pj hh) (h4 : hh.PlainList D done.toArray)
  (h5 : Reps F.c.w hh (C :: D :: X) F.c.pa done yd) (h6 : hh.Ns C mC) (h7 : hh.IsListIter I ax j ∧ hh.IsList ax us.toArray) (h8 : Stp F O X s.heap O (C :: D :: X) hh) (h9 : fieldsG F.Γ (l.drop j) pj = .ok yr p') (h10 : yd ++ yr = ys) (h11 : yd.length = j)
set_option maxHeartbeats 4000000 in
theorem comp_fields (fo : FnOk F) (i : Inv F O X vs p s.heap) {st : Stmt} (hst : CompB F.fnm F.sc F.nm st) {l ys : List V} (hrow : vs[3]? = some (.val (.lst l))) (hpen : vs[4]? = some (.val .pen)) (hno : vs.all (fun s=>!s.isOwn) = true) (hlen : 12 < vs.length)
  (hl : l.length ≤ 1000) (hf : fieldsG F.Γ l p = .ok ys p') {Q : Flow → Shared → Prop} {E : Value → Shared → Prop}
  (hQ : ∀ O' X' h' tk',Inv F O' X' (vs.set 5 (.val (.lst ys))) p' h' → (∀ a ∈ X,a ∈ X') → Stp F O X s.heap O' X' h' → Q .next { s with heap:=h',toks:=tk' }) :
  wpAny (model F.c.prog F.c.w) F.A (exec st F.env) Q E s:=by
 obtain ⟨elt,px,pi,scope,lpos,py,spos,rfl,hre,hkind,hnm,htold,hna,hsto,hfl,hline,hsc,hjn⟩:=hst
 obtain ev:=fo.ev X
 have hbk : F.env.blockKind = .function:=by unfold Env.blockKind;rw [ev.kind];rfl
 obtain hfk : F.env.kindOf ("fields" : Str) = some .local := (ev.kind_at _).trans hfl
 obtain hsw := comp_swaps (elt := elt) (g := [⟨.Name ("told" : Str) px, .Name ("row" : Str) pi, [], 0⟩]) (l := spos.line) hbk hfk hline hsc
 obtain ⟨cl,hclos,hcl1,hcl2⟩:=closure_of (env:=F.env) (scope:=scope) fun y hy hf'=>ev.cells y.1 ((hnm y hy).2.2 hf')
 have hnc : ∀ y ∈ scope.names,isC (some y.2) = false:=fun y hy=>(hnm y hy).1
 have htoldR : kOf (relab scope.names F.sc) ("told" : Str) = some .local := by
  rw [← relab_eq ev.kind ev.names,kOf_eq]
  exact lookup_relabel_local (by rw [← kOf_eq];exact htold)
 rw [exec_Assign_Name_used _ _ _ _ hsw]
 refine wpAny_bind (wpAny_standAt (wpAny_bind ?_))
 show wpAny _ F.A (do let _ ← comprehension (.ListComp elt [⟨.Name ("told" : Str) px, .Name ("row" : Str) pi, [], 0⟩] scope lpos) scope F.env _ (newList []) false (eval (.Name ("row" : Str) pi) F.env) (some (assign (.Name ("fields" : Str) py) F.env))) _ _ s
 obtain ⟨hnm3,hdb3⟩:=nmAt_get hna
 obtain ⟨vrow,acrow,hzl,ax,us,rfl,hax,hli,hrs⟩:=i.sl 3 _ _ hnm3 hrow
 refine wpAny_bind (wpAny_mono (wpAny_comprehension_free (use := some (assign (.Name ("fields" : Str) py) F.env)) (Q := fun Z s' => Q .next s') rfl (fun Z => rfl) hclos hkind
  (fun y hy q=>by rw [← kOf_eq];exact (hnm y hy).2.1 q)
  (wpAny_Name (acrow.load (wpAny_pyIter_list hli ?_)) hdb3)) (fun Z s' hq=>wpAny_pure (wpAny_pure hq)) fun Z Z e=>e)
 obtain hIn : s.heap.get? s.heap.objs.size = none:=size_none _
 obtain gI := Grow.push s.heap { cls := .type "list_iterator", data := .fields #[.ref ax, .int 0 0] }
 obtain hIget : (s.heap.push { cls := .type "list_iterator", data := .fields #[.ref ax, .int 0 0] }).get? s.heap.objs.size = some { cls := .type "list_iterator", data := .fields #[.ref ax, .int 0 0] } := Heap.get?_push_size _ rfl
 generalize hI : s.heap.objs.size = I at hIn hIget ⊢
 generalize hH1 : s.heap.push { cls := .type "list_iterator", data := .fields #[.ref ax, .int 0 0] } = H1 at gI hIget ⊢
 refine wpAny_newObj_type (wpAny_newFunctionEnv (fun y hy q=>by have:=hnc y hy;rw [q] at this;exact tF this) (by intro y hy;simp at hy) (fun h₁ hns₁ hsb₁=>?_) hkind)
 dsimp only at hns₁ hsb₁ ⊢
 generalize hD : H1.objs.size = D at hns₁ hsb₁ ⊢
 have hDn : H1.get? D = none:=by rw [← hD];exact size_none _
 generalize hH2 : H1.push { cls := .type "list", dict := none, data := .seq ([] : List Value).toArray } = H2 at hns₁ hsb₁ ⊢
 have hDget : H2.get? D = some { cls := .type "list", dict := none, data := .seq ([] : List Value).toArray } := by rw [← hH2, ← hD]; exact Heap.get?_push_size _ rfl
 have g12 : Grow H1 H2:=by rw [← hH2];exact Grow.push _ _
 generalize hC : H2.objs.size = C at hns₁ hsb₁ ⊢
 have hCn : H2.get? C = none:=by rw [← hC];exact size_none _
 have g23 : Grow H2 h₁:=fun b o e=>(hsb₁.2 b (fun q=>by rw [q,hCn] at e;exact nS e)).trans (Heap.get?_push_of_some _ e)
 obtain gs2 : Grow s.heap H2:=gI.trans g12
 clear hI hH1 hD hH2 hC
 as_aux_lemma =>
  refine byG fun G gg=>?_
  have up0 : ∀ {a b : Heap} {x : Addr},Grow a b → b.get? x = none → a.get? x = none:=fun {a b x} g e=>by
   cases q : a.get? x with
   | none=>rfl
   | some o=>rw [g x o q] at e;exact sN e
  obtain hDs:=up0 gI hDn
  obtain hCs:=up0 gs2 hCn
  have hDC : D ≠ C:=fun q=>by rw [q,hCn] at hDget;exact nS hDget
  have hID : I ≠ D:=fun q=>by rw [q] at hIget;rw [hDn] at hIget;exact nS hIget
  have hIC : I ≠ C:=fun q=>by have:=g12 _ _ hIget;rw [q,hCn] at this;exact nS this
  obtain ⟨oC,esC,epC,eC,hdC,_⟩:=id hns₁
  have nC : ∀ vs,oC.data ≠ .fields vs:=fun Z q=>by rw [hdC] at q;exact PySem.Data.noConfusion q
  obtain ⟨iD,stD⟩:=i.fresh gs2 hDs ⟨_,hDget,.inl fun Z q=>by exact PySem.Data.noConfusion q⟩
  obtain ⟨iCD,stCD⟩:=iD.fresh g23 hCn ⟨oC,eC,.inl nC⟩
  have hneI : ax ≠ I:=fun q=>by
   obtain ⟨o,e,_⟩:=hli
   rw [q,hIn] at e;exact nS e
  obtain W:=Walks.list (prog:=F.c.prog) (w:=F.c.w) (A:=F.A) ev.hh I ax hneI us.toArray
  obtain hbD : F.c.base.get? D = none:=base_none i hDs
  obtain hbC : F.c.base.get? C = none:=base_none i hCs
  obtain hbI : F.c.base.get? I = none:=base_none i hIn
  have hX' : ∀ a ∈ C :: D :: X,a = C ∨ a = D ∨ a ∈ X:=fun a ha=>by
   rcases memc ha with q | q
   ·exact .inl q
   ·rcases memc q with q | q
    ·exact .inr (.inl q)
    ·exact .inr (.inr q)
  have nX : ∀ {x : Addr},s.heap.get? x = none → A5 (x ∉ X) (x ∉ O) (x ∉ stor F.env) (x ≠ F.c.pa) (x ∉ F.c.pa :: frs F.fs):=fun {x} e=>by
   obtain h0:=i.notin e
   refine ⟨h0,fun q=>h0 (i.oin x q).1,fun q=>h0 (i.stx x q),fun q=>h0 (q ▸ i.bs.pin),fun q=>?_⟩
   rcases memc q with q | q
   ·exact h0 (q ▸ i.bs.pin)
   ·exact h0 (i.bs.fin x q)
  obtain ⟨dX,dO,dS,dP,dF⟩:=nX hDs
  obtain ⟨cX,cO,cS,cP,cF⟩:=nX hCs
  obtain ⟨iX,iO,iS,iP,iF⟩:=nX hIn
  have hIX : I ∉ C :: D :: X:=fun q=>by
   rcases hX' I q with q | q | q
   ·exact hIC q
   ·exact hID q
   ·exact iX q
  have haxD : ax ≠ D:=fun q=>by obtain ⟨o,e,_⟩:=hli;rw [q,hDs] at e;exact nS e
  have haxC : ax ≠ C:=fun q=>by obtain ⟨o,e,_⟩:=hli;rw [q,hCs] at e;exact nS e
  have haxX : ax ∉ C :: D :: X:=fun q=>by
   rcases hX' ax q with q | q | q
   ·exact haxC q
   ·exact haxD q
   ·exact hax q
  obtain evF:=(fo.ev (C :: D :: X)).innerF (C:=C) hkind hcl2 hnc
  have loop : ∀ s₃ : Shared,s₃ = { s with heap:=h₁,toks:=s.toks + ([] : List (Str × Value)).length } →
    codeAny (model F.c.prog F.c.w) F.A (.compLoop (.ListComp elt [⟨.Name ("told" : Str) px, .Name ("row" : Str) pi, [], 0⟩] scope lpos) 0 (.ref I) (.ref D) (compEnvC scope cl C F.env))
     (compPost (model F.c.prog F.c.w) F.A E (some (assign (.Name ("fields" : Str) py) F.env)) (fun Z s' => Q .next s') (.ref D) C) s₃ := by
   rintro s₃ rfl
   generalize hR : compPost _ _ _ _ _ _ _ = R
   refine codeAny_compLoop_tests (CfJ F O X s us vs C D I ax l ys p')
    (fun m s' hJ=>?_) us.length ⟨0,[],[],ys,p,_,h₁,_,rfl,Nat.zero_le _,rfl,iCD,⟨_,g23 _ _ hDget⟩,trivial,hns₁,⟨⟨_,(g12.trans g23) _ _ hIget,rfl,rfl⟩,(gs2.trans g23).isList hli⟩,stD.trans i stCD,hf,rfl,rfl⟩
   obtain ⟨j,done,yd,yr,pj,mC,hh,tk,rfl,hj,rfl,iv,hpl,hrd,hnC,hstj,stp,hfj,hyy,hyl⟩:=hJ
   obtain hul:=hrs.len
   by_cases hlt : j < us.length
   ·clear hR
    as_aux_lemma =>
     refine W.item j _ _ _ (by exact hlt) hstj fun v h2 tk2 hPv hst2 hk2=>?_
     have hk2' : ∀ a o,a ≠ I → hh.get? a = some o → h2.get? a = some o:=fun a o ha e=>hk2 a o (by simpa using ha) e
     have iv2:=iv.pokeI (by obtain ⟨⟨o,e,_,hd⟩,_⟩:=hstj;exact ⟨o,_,e,hd⟩) hIX hbI hk2'
     obtain stp2:=stp.pokeI hIn hk2'
     obtain hnC2:=hnC.at' fun o e=>hk2' C o (Ne.symm hIC) e
     have hkC : (compEnvC scope cl C F.env).kindOf ("told" : Str) = some .local := by
      unfold Env.kindOf
      show List.lookup _ (relabel scope F.env).names = _
      rw [relab_eq ev.kind ev.names,← kOf_eq]
      exact htoldR
     refine PyProof.Rows.assign_Name (wpAny_storeName_local (s:={ s with heap:=h2,toks:=tk2 }) hkC (by exact hnC2) (fun h3 hn3 hs3=>?_) (by show (scope.kind == .class || (scope.kind == .module && C != F.env.globals)) = false;rw [hkind];rfl))
     have hk3 : ∀ a o,a ≠ C → h2.get? a = some o → h3.get? a = some o:=fun a o ha e=>(hs3.2 a ha).trans e
     have hn3' : h3.Ns C (fun x => if x = ("told" : Str) then some v else mC x) := hn3
     obtain ⟨o3,es3,ep3,e3,hd3,_⟩:=id hn3'
     have iv3:=iv2.pokeX (h':=h3) (b:=C) List.mem_cons_self cO cS cP hbC hk3 ⟨o3,e3,fun Z q=>by rw [hd3] at q;exact PySem.Data.noConfusion q⟩
     obtain stp3:=stp2.pokeI (I:=C) hCs hk3
     refine wpAny_tests_nil ?_
     rw [if_pos rfl]
     have hjl : j < l.length:=by lia
     obtain ⟨u,hu,ru⟩:=hrs.get (List.getElem?_eq_getElem hjl)
     have hvu : v = u:=by
      have h1 : us[j]? = some v:=by simpa using hPv
      rw [h1] at hu;exact Option.some.inj hu
     subst hvu
     obtain rv:=stp3.rep i ru
     rw [List.drop_eq_getElem_cons hjl] at hfj
     obtain ⟨y,p1,yr',hcall,hfr,rfl⟩:=fieldsG_cons hfj
     obtain hV:=Vs.innerF (k:=F.k (C :: D :: X)) (C:=C) (fo.ev _) hkind hcl1 hcl2 htoldR cP hn3' (if_pos rfl) rv hjn hno (iv3.vat fo)
     refine (ev_snd (.call 36 (.cons (.var 12) (.cons (.var 4) .nil)))).1 evF (s:={ s with heap:=h3,toks:=tk2 + 1 }) hre iv3.bs hV ?_
     have hcev : cev F.Γ (.call 36 (.cons (.var 12) (.cons (.var 4) .nil))) (vs.set 12 (.val l[j])) pj = .ok y p1:=by
      obtain h12 : (vs.set 12 (.val l[j]))[12]? = some (Sl.val l[j]):=List.getElem?_set_self hlen
      have h4 : (vs.set 12 (.val l[j]))[4]? = some (Sl.val .pen):=by rw [List.getElem?_set_ne (by decide)];exact hpen
      exact bE (e_cons (e_var h12) (e_cons (e_var h4) e_nil)) hcall
     rw [hcev]
     intro b h4 tk4 kk4 bs4 rb
     obtain iv4:=iv3.expr fo kk4 bs4
     obtain hpl4 : h4.PlainList D done.toArray:=plain_at (plain_at (plain_at hpl fun o e Z=>hk2' D o (Ne.symm hID) e) fun o e Z=>hk3 D o hDC e) fun o e hn=>kk4.same D o dF e hn
     have hrd4 : Reps F.c.w h4 (C :: D :: X) F.c.pa done yd:=by
      have sm2 : Sm (C :: D :: X) hh h2:=fun a o Z e hn=>hk2' a o (fun q=>by
       obtain ⟨⟨o',e',_,hd⟩,_⟩:=hstj
       rw [q,e'] at e;obtain rfl:=sI e
       exact hn _ hd) e
      have sm3 : Sm (C :: D :: X) h2 h3:=fun a o ha e Z=>hk3 a o (fun q=>ha (q ▸ List.mem_cons_self)) e
      exact Reps.kp (iv3.bs.kpX kk4) (fun Z q=>q) _ _ (Reps.sm sm3 (fun Z q=>.inl q) _ _ (Reps.sm sm2 (fun Z q=>.inl q) _ _ hrd))
     obtain hdl:=hrd4.len
     refine wpAny_list_append_plain (s:={ s with heap:=h4,toks:=tk4 }) hpl4 (fun h5 hpl5 hs5=>?_) (by rw [List.size_toArray,hdl,hyl,sizeLine_eq];lia)
     have hk5 : ∀ a o,a ≠ D → h4.get? a = some o → h5.get? a = some o:=fun a o ha e=>(hs5.2 a ha).trans e
     have iv5:=iv4.pokeX (h':=h5) (b:=D) (by exact .tail _ (.head _)) dO dS dP hbD hk5 (by obtain ⟨n5,e5⟩:=hpl5;exact ⟨_,e5,fun Z q=>by exact PySem.Data.noConfusion q⟩)
     obtain stp5:=(stp3.trans i (.expr iv3 kk4)).pokeI (I:=D) hDs hk5
     have sm5 : Sm (C :: D :: X) h4 h5:=fun a o ha e Z=>hk5 a o (fun q=>ha (by rw [q];simp)) e
     obtain hn5 : h5.Ns C (fun x => if x = ("told" : Str) then some v else mC x) := (ns_slots hn3' fun o e hn => ⟨o.slots, kk4.same C o cF e hn⟩).at' fun o e => hk5 C o (Ne.symm hDC) e
     have hst5 : h5.IsListIter I ax (j + 1) ∧ h5.IsList ax us.toArray:=by
      refine W.frame (j + 1) h2 h5 hst2 fun b' hb' o e=>?_
      have hNrm : Nrm o:=by
       rcases memc hb' with rfl | hb'
       ·obtain ⟨⟨o',e',hc,_⟩,_⟩:=hst2
        rw [e'] at e;obtain rfl:=sI e
        exact .inr ⟨_,hc,by decide⟩
       ·rw [mems hb'] at e
        obtain ⟨_,⟨o',e',_,_,hd⟩⟩:=hst2
        rw [e'] at e;obtain rfl:=sI e
        exact .inl fun Z q=>by rw [hd] at q;exact PySem.Data.noConfusion q
      have hb3 : b' ∉ C :: D :: X:=by
       rcases memc hb' with rfl | hb'
       ·exact hIX
       ·rw [mems hb'];exact haxX
      have hbC' : b' ≠ C:=fun q=>hb3 (by rw [q];simp)
      have hbD' : b' ≠ D:=fun q=>hb3 (by rw [q];simp)
      refine hk5 b' o hbD' (kk4.same b' o (fun q=>hb3 ?_) (hk3 b' o hbC' e) hNrm)
      rcases memc q with q | q
      ·rw [q];exact List.mem_cons_of_mem _ (List.mem_cons_of_mem _ i.bs.pin)
      ·exact List.mem_cons_of_mem _ (List.mem_cons_of_mem _ (i.bs.fin b' q))
     exact ⟨us.length - (j + 1),by lia,j + 1,done ++ [b],yd ++ [y],yr',p1,_,h5,tk4,rfl,hlt,rfl,iv5,by rw [show (done ++ [b]).toArray = done.toArray.push b by simp];exact hpl5,
      Reps.sm sm5 (fun Z q=>.inl q) _ _ (hrd4.append ⟨rb,trivial⟩),hn5,hst5,stp5,hfr,by rw [← hyy];simp,by rw [List.length_append,hyl];rfl⟩
   ·as_aux_lemma =>
     have hjn' : j = us.length:=by lia
     refine W.done _ _ _ (by rw [List.size_toArray,← hjn'];exact hstj) fun h2 tk2 hk2=>?_
     subst hjn'
     rw [List.drop_eq_nil_of_le (by lia)] at hfj
     cases hfj
     rw [List.append_nil] at hyy
     subst hyy
     have hk2' : ∀ a o,a ≠ I → hh.get? a = some o → h2.get? a = some o:=fun a o ha e=>hk2 a o (by simpa using ha) e
     have iv2:=iv.pokeI (by obtain ⟨⟨o,e,_,hd⟩,_⟩:=hstj;exact ⟨o,_,e,hd⟩) hIX hbI hk2'
     obtain stp2:=stp.pokeI hIn hk2'
     obtain hnC2:=hnC.at' fun o e=>hk2' C o (Ne.symm hIC) e
     obtain hpl2 : h2.PlainList D done.toArray:=plain_at hpl fun o e Z=>hk2' D o (Ne.symm hID) e
     have sm2 : Sm (C :: D :: X) hh h2:=fun a o Z e hn=>hk2' a o (fun q=>by
      obtain ⟨⟨o',e',_,hd⟩,_⟩:=hstj
      rw [q,e'] at e;cases e
      exact hn _ hd) e
     obtain hrd2:=Reps.sm sm2 (fun Z q=>.inl q) _ _ hrd
     obtain ⟨iC0,_⟩:=i.fresh (gs2.trans g23) hCs ⟨oC,eC,.inl nC⟩
     have ivC : Inv F O (C :: X) vs p' h2:=iC0.dropX iv2 fun a ha=>by
      rcases memc ha with rfl | ha
      ·exact List.mem_cons_self
      ·exact List.mem_cons_of_mem _ (List.mem_cons_of_mem _ ha)
     have hDX : D ∉ C :: X:=fun q=>by
      rcases memc q with q | q
      ·exact hDC q
      ·exact dX q
     obtain hdl:=hrd2.len
     have rD : Rep F.c.w h2 (C :: X) F.c.pa (.ref D) (.lst yd):=⟨by rw [hyl];simp [SZ];lia,D,done,rfl,hDX,hpl2.isList,Reps.kp (Kp.refl (C :: D :: X) F.c.pa h2) (fun a ha=>by
      rcases memc ha with rfl | ha
      ·exact List.mem_cons_self
      ·exact List.mem_cons_of_mem _ (List.mem_cons_of_mem _ ha)) _ _ hrd2⟩
     subst hR
     show wpAny _ F.A (assign (.Name ("fields" : Str) py) F.env (.ref D)) _ _ _
     refine PyProof.Rows.assign_Name (put_snd (s:={ s with heap:=h2,toks:=tk2 }) fo ivC hsto rD fun h3 tk3 st3 iv3=>?_)
     obtain ⟨o2,es2,ep2,e2,hd2,hk2n⟩:=id hnC2
     refine ⟨_,hnC2.at' fun o e=>?_,fun h4 hs4=>?_⟩
     ·rw [e2] at e;obtain rfl:=sI e
      exact st3.same C _ cO cF cS e2 (.inl fun Z q=>by rw [hd2] at q;exact PySem.Data.noConfusion q)
     ·have hk4 : ∀ a o,a ≠ C → h3.get? a = some o → h4.get? a = some o:=fun a o ha e=>(hs4.2 a ha).trans e
      have stF : Stp F O X s.heap O X h4:=by
       have a1 : Stp F O X s.heap O (C :: D :: X) h2:=stp2
       refine ⟨fun b o q1 q2 q3 e hn=>?_,fun b o q1 q2 q3 e hn=>?_,fun a ha=>.inl ha,fun a ha=>.inl ha,fun a ha=>ha,i.ost⟩
       ·obtain e1:=a1.same b o q1 q2 q3 e hn
        exact hk4 b o (fun q=>by rw [q,hCs] at e;exact nS e) (st3.same b o q1 q2 q3 e1 hn)
       ·obtain ⟨sl1,e1⟩:=a1.slots b o q1 q2 q3 e hn
        obtain ⟨sl2,e2'⟩:=st3.slots b _ q1 q2 q3 e1 hn.slots
        exact ⟨sl2,hk4 b _ (fun q=>by rw [q,hCs] at e;exact nS e) e2'⟩
      exact hQ O X h4 tk3 (i.dropPoke iv3 cX hbC hk4) (fun Z q=>q) stF
  exact gg <| codeAny_compStart_list (loop _ rfl) (W.self 0 _ _ _ ⟨⟨_,(g12.trans g23) _ _ hIget,rfl,rfl⟩,(gs2.trans g23).isList hli⟩ (loop _ rfl))
end
end
section
open PySem PySem.W PyProof.Rows
section
variable {F : Fn} {O X O' X' : List Addr} {vs : List Sl} {p p' : Int} {h h' : Heap} {s : Shared} {n : Nat}
noncomputable def PenB (fnm : List Str) (sc : Sc) (nm : List (Option Str)) (st : Stmt) : Prop := (Ex8 fun pp p1 p2 p3 p4 p5 p6 p7 => Ex2 fun p8 stepE => A6 (st = .Assign [.Name ("pen" : Str) pp] (.List [.Call (.Name ("sum" : Str) p1) [.Subscript (.Name ("script" : Str) p2) (.Slice (some (.Name ("k" : Str) p3)) none (some stepE) p4) p5] [] p6] p7) p8) (relE fnm (.bi .len (.cons (.var 1) .nil)) sc nm stepE = true) (nmAt nm 0 ("script" : Str) = true) (nmAt nm 2 ("k" : Str) = true) (stoB sc nm 4 ("pen" : Str) = true) (isG (kOf sc ("sum" : Str)) = true))
theorem all_ints : ∀ {vs : List Value},(∀ v ∈ vs,Ex2 fun i t=>v = .int i t) → ∃ xs : List (Int × Tok),vs = xs.map fun p=>.int p.1 p.2
 | [],_=>⟨[],rfl⟩
 | v :: vs,h=>by
  obtain ⟨i,t,rfl⟩:=h v List.mem_cons_self
  obtain ⟨xs,rfl⟩:=all_ints fun v hv=>h v (List.mem_cons_of_mem _ hv)
  exact ⟨(i,t) :: xs,rfl⟩
theorem reps_ints {w : World} {X : List Addr} {pa : Addr} : ∀ {is : List Int} {us : List Value},Reps w h X pa us (is.map .int) → ∀ v ∈ us,Ex2 fun i t=>v = .int i t
 | [],[],_,v,hv=>by cases hv
 | i :: is,u :: us,⟨a,b⟩,v,hv=>by
  rcases memc hv with rfl | hv
  ·obtain ⟨t,rfl⟩:=a;exact ⟨i,t,rfl⟩
  ·exact reps_ints b v hv
 | [],_ :: _,x,_,_=>x.elim
 | _ :: _,[],x,_,_=>x.elim
theorem pen_snd (fo : FnOk F) (i : Inv F O X vs p s.heap) {st : Stmt} (hst : PenB F.fnm F.sc F.nm st) {is : List Int} {kk : Int} {forms : List V} (h0 : vs[0]? = some (.val (.lst (is.map .int)))) (h1 : vs[1]? = some (.val (.lst forms))) (h2 : vs[2]? = some (.val (.int kk)))
  (hno : vs.all (fun s=>!s.isOwn) = true) (hne : forms ≠ []) {Q : Flow → Shared → Prop} {E : Value → Shared → Prop}
  (hQ : ∀ (q : Int) (t : Tok) (D : Addr) h' tk', Nov s.heap D → D ∉ X → F.c.base.get? D = none → h'.IsList D #[.int q t] → Inv F O (D :: X) (vs.set 4 .un) p h' → Acc F.env h' ("pen" : Str) (.ref D) → Stp F O X s.heap O (D :: X) h' → Q .next { s with heap := h', toks := tk' }) :
  wpAny (model F.c.prog F.c.w) F.A (exec st F.env) Q E s:=by
 obtain ⟨pp,p1,p2,p3,p4,p5,p6,p7,p8,stepE,rfl,hre,hn0,hn2,hsto,hg⟩:=hst
 have ev:=fo.ev X
 obtain ⟨e0,d0⟩:=nmAt_get hn0
 obtain ⟨e2,d2⟩:=nmAt_get hn2
 obtain ⟨v0,ac0,hz0,ax,us,rfl,hax,hli,hrs⟩:=i.sl 0 _ _ e0 h0
 obtain ⟨v2,ac2,t2,rfl⟩:=i.sl 2 _ _ e2 h2
 refine wpAny_Assign_Name (wpAny_List_spliced ?_) rfl
 refine PySem.Calls.spliced_cons (wpAny_Call_NameR (ev.name_bi (b:=.sum) rfl (seq_self _) hg (by decide) i.bs.stays ?_))
 refine PySem.Calls.callWith_builtin rfl (PySem.Calls.evalArgs_plain (PySem.Calls.spliced_cons ?_))
 refine wpAny_Subscript_Slice_step (T := "list") slot_list_getitem.lookup (wpAny_Name (ac0.load ?_) d0)
 refine wpAny_Slice (wpAny_evalPart_some (wpAny_Name (ac2.load (wpAny_evalPart_none (wpAny_evalPart_some ?_))) d2))
 have hcev : cev F.Γ (.bi .len (.cons (.var 1) .nil)) vs p = .ok (.int forms.length) p:=e_bi (e_cons (e_var h1) e_nil) rfl
 refine (ev_snd (.bi .len (.cons (.var 1) .nil))).1 (fo.ev X) hre i.bs (i.vat fo) ?_
 rw [hcev]
 intro b ha tka kka bsa ra
 obtain ⟨tb,rfl⟩:=ra
 have ia:=i.expr fo kka bsa
 have sta : Stp F O X s.heap O X ha:=.expr i kka
 have hlia:=IsList.sm (sta.sm i) hax hli
 have hrsa:=sta.reps i hrs
 have gb := Grow.push ha { cls := .type "slice", data := .fields #[.int kk t2, .none, .int forms.length tb] }
 refine ⟨(hlia.push _).typeIs,?_⟩
 have hlen : (forms.length : Int) ≠ 0:=by
  cases forms with
  | nil=>exact absurd rfl hne
  | cons a r=>simp;lia
 refine wpAny_getItem_list_slice (lo:=some kk) (hi:=none) (st:=some (forms.length : Int)) (hlia.push _) (Heap.IsSliceOf.new ..) ?_ ?_ ?_ (by simpa using hlen) ?_ (by rw [List.size_toArray,hrs.len,List.length_map];have:=hz0;rw [List.length_map] at this;rw [← SZ_eq];exact this)
 ·first | exact .int | exact .some | (constructor)
 ·first | exact .none | (constructor)
 ·first | exact .int | (constructor)
 refine PySem.Calls.spliced_nil ?_
 generalize hpk : slicePick us.toArray (some kk) none (some (forms.length : Int)) = pk
 have hpki : ∀ v ∈ pk.toList,Ex2 fun i t=>v = .int i t:=by
  intro v hv
  rw [← hpk] at hv
  unfold slicePick at hv
  rw [List.toList_toArray] at hv
  obtain ⟨j,_,hj⟩:=List.mem_filterMap.mp hv
  exact reps_ints hrs v (by
   have:=Array.mem_of_getElem? hj
   simpa using this)
 obtain ⟨xs,hxs⟩:=all_ints hpki
 have hpk2 : pk = intItems xs.toArray:=by
  unfold intItems
  apply Array.toList_inj.mp
  rw [hxs]
  simp
 have gc := Grow.push (ha.push { cls := .type "slice", data := .fields #[.int kk t2, .none, .int forms.length tb] }) { cls := .type "list", data := .seq pk }
 refine sum_intListG (xs:=xs.toArray) ev.hh ⟨_,Heap.get?_push_size _ rfl,rfl,_,by rw [hpk2]⟩ fun hd tkd td hkd=>?_
 have gd : Grow ha hd:=(gb.trans gc).trans hkd
 have id:=ia.expr fo (.grow gd) (bsa.grow gd)
 have std : Stp F O X s.heap O X hd:=sta.trans i (.expr ia (.grow gd))
 refine PySem.Calls.spliced_nil ⟨by rw [sizeLine_eq];simp,?_⟩
 have hDn:=size_none hd
 have ge := Grow.push hd { cls := .type "list", data := .seq #[.int (preSum (numAt xs.toArray) xs.toArray.size) td] }
 have hget : (hd.push { cls := .type "list", data := .seq #[.int (preSum (numAt xs.toArray) xs.toArray.size) td] }).get? hd.objs.size = some { cls := .type "list", data := .seq #[.int (preSum (numAt xs.toArray) xs.toArray.size) td] } := Heap.get?_push_size _ rfl
 obtain ⟨ie,ste0⟩:=id.fresh ge hDn ⟨_,hget,.inl fun Z q=>by exact PySem.Data.noConfusion q⟩
 have ste:=std.trans i ste0
 have hDX:=id.notin hDn
 have hDb:=base_none id hDn
 have hDs : Nov s.heap hd.objs.size:=fun o e hn=>by
  obtain ⟨o',e',_⟩:=std.nrm (fun q=>hDX (by rw [q];exact i.bs.pin)) (fun q=>hDX (i.oin _ q).1) (fun q=>hDX (i.stx _ q)) e hn
  rw [hDn] at e';exact nS e'
 refine sto_snd (s := { s with heap := hd.push { cls := .type "list", data := .seq #[.int (preSum (numAt xs.toArray) xs.toArray.size) td] }, toks := tkd }) (sl := .un) fo ie hsto (fun q => by exact fT q) (fun Z Z Z => trivial) fun hf tkf stf hkf iff acf => ?_
 exact hQ _ td hd.objs.size hf tkf hDs hDX hDb ⟨_,hkf _ _ (fun q=>by
  have:=id.notin hDn
  exact this (id.stx _ q)) hget,rfl,_,rfl⟩ iff acf (ste.trans i stf)
end
end
section
open PySem PySem.W PyProof.Rows
mutual
noncomputable def noPen : V → Bool
 | .pen=>false
 | .tup vs=>noPens vs
 | .lst vs=>noPens vs
 | .dct _ vs=>noPens vs
 | _=>true
noncomputable def noPens : List V → Bool
 | []=>true
 | v :: vs=>noPen v && noPens vs
end
mutual
theorem rep_pa {w : World} {h : Heap} {X : List Addr} {pa pa' : Addr} : ∀ (d : V) (v : Value),noPen d = true → Rep w h X pa v d → Rep w h X pa' v d
 | .none,_,_,x=>x
 | .bool _,_,_,x=>x
 | .int _,_,_,x=>x
 | .str _,_,_,x=>x
 | .tup ds,_,hn,⟨hl,a,vs,e,ha,ht,hr⟩=>⟨hl,a,vs,e,ha,ht,reps_pa ds vs hn hr⟩
 | .lst ds,_,hn,⟨hl,a,vs,e,ha,ht,hr⟩=>⟨hl,a,vs,e,ha,ht,reps_pa ds vs hn hr⟩
 | .dct _ ds,_,hn,⟨a,vs,e,ha,ht,hl,hr⟩=>⟨a,vs,e,ha,ht,hl,reps_pa ds vs hn hr⟩
 | .exc _ _,_,_,x=>x
 | .pen,_,hn,_=>by exact fT hn
theorem reps_pa {w : World} {h : Heap} {X : List Addr} {pa pa' : Addr} : ∀ (ds : List V) (vs : List Value),noPens ds = true → Reps w h X pa vs ds → Reps w h X pa' vs ds
 | [],[],_,_=>trivial
 | d :: ds,v :: vs,hn,⟨a,b⟩=>by
  unfold noPens at hn
  rw [Bool.and_eq_true] at hn
  exact ⟨rep_pa d v hn.1 a,reps_pa ds vs hn.2 b⟩
 | [],_ :: _,_,x=>x
 | _ :: _,[],_,x=>x
end
noncomputable def Fn.at (F : Fn) (D : Addr) : Fn:={ F with c:={ F.c with pa:=D } }
section
variable {F : Fn} {O X O' X' : List Addr} {vs vs' : List Sl} {p p' q : Int} {h h' : Heap} {s : Shared} {n : Nat} {D : Addr}
theorem Inv.forget (i : Inv F O X vs p h) (hs : ∀ (j : Nat) (sl : Sl),vs'[j]? = some sl → sl = .un ∨ (vs[j]? = some sl ∧ ∃ d,sl = .val d)) : Inv F [] X vs' p h:=by
 refine ⟨i.bs,fun j x sl e1 e2=>?_,i.ns,i.cel,i.stx,fun a ha=>(by exact nM ha),i.x0,fun j1 j2 s1 s2 e1 e2 o1 o2=>?_⟩
 ·rcases hs j sl e2 with rfl | ⟨e3,d,rfl⟩
  ·trivial
  ·exact i.sl j x _ e1 e3
 ·rcases hs j1 s1 e1 with rfl | ⟨_,d,rfl⟩ <;> exact fT o1
theorem Inv.repen (i : Inv F [] (D :: X) vs p h) (hD : D ∉ X) (hfin : ∀ a ∈ frs F.fs,a ∈ X) (hD0 : D ≠ 0) {t : Tok} (hl : h.IsList D #[.int q t])
  (hs : ∀ (j : Nat) (x : Str) (sl : Sl),F.nm[j]? = some (some x) → vs'[j]? = some sl → sl = .un ∨ (∃ d,A3 (sl = .val d) (noPen d = true) (vs[j]? = some sl)) ∨ (sl = .val .pen ∧ Acc F.env h x (.ref D))) (hno : vs'.all (fun s=>!s.isOwn) = true) : Inv (F.at D) [] (D :: X) vs' q h:=by
 refine ⟨⟨i.bs.stays,i.bs.frames,fun Z=>⟨t,hl⟩,i.bs.sys,List.mem_cons_self,i.bs.fin,fun z=>hD (hfin D z),i.bs.live,i.bs.zero⟩,fun j x sl e1 e2=>?_,i.ns,i.cel,i.stx,fun a ha=>(by exact nM ha),i.x0,fun j1 j2 s1 s2 e1 e2 o1 o2=>?_⟩
 ·rcases hs j x sl e1 e2 with rfl | ⟨d,rfl,hn,e3⟩ | ⟨rfl,ac⟩
  ·trivial
  ·obtain ⟨v,ac,r⟩:=i.sl j x _ e1 e3
   exact ⟨v,ac,rep_pa _ _ hn r⟩
  ·exact ⟨_,ac,rfl,hD0⟩
 ·exact (noOwn hno j1 s1 e1 o1).elim
theorem noPens_ints : ∀ is : List Int,noPens (is.map .int) = true
 | []=>rfl
 | _ :: r=>noPens_ints r
noncomputable def vsH (scr : V) (forms : List V) : List Sl:=[.val scr,.val (.lst forms),.un,.un,.un,.un,.un,.un,.un,.un,.un,.un,.un]
noncomputable def vsT (scr : V) (forms : List V) (k : Int) (row : V) (ys : List V) : List Sl:=[.val scr,.val (.lst forms),.val (.int k),.val row,.val .pen,.val (.lst ys),.un,.un,.un,.un,.un,.un,.un]
theorem nov_up (i : Inv F O X vs p h) (st : Stp F O X h O' X' h') {a : Addr} (ha : a ∉ X) (hl : ∃ o,h.get? a = some o ∧ Nrm o) : a ∉ X' ∧ ∀ o,h.get? a = some o → Nrm o → h'.get? a = some o:=by
 refine ⟨notin_of st.newX ha hl,fun o e hn=>st.same a o (fun q=>ha (i.oin a q).1) (fun q=>ha ?_) (fun q=>ha (i.stx a q)) e hn⟩
 rcases memc q with q | q
 ·rw [q];exact i.bs.pin
 ·exact i.bs.fin a q
set_option maxHeartbeats 4000000 in
abbrev LwJ (F : Fn) (is : List Int) (forms : List V) (s1 : Shared) (us : List Value) (e it l : Addr) (mm : Nat) (s' : Shared) : Prop:=Ex7 fun (j : Nat) (D : Addr) (X1 : List Addr) (p' : Int) (hh : Heap) (tk : Nat) (old : Value)=>A10 (mm = us.length - j) (j ≤ us.length) (s' = { s1 with heap:=hh,toks:=tk }) (FnOk (F.at D)) (Inv (F.at D) [] X1 (vsH (.lst (is.map .int)) forms) p' hh) (IsEnum hh e it j old) (hh.IsListIter it l j) (hh.IsList l us.toArray) (∀ b ∈ [e,it,l],b ∉ X1) (Reps F.c.w hh X1 0 us forms)
theorem law_loop {lawT : CS} (hfo : ∀ D,(D = 0 ∨ (F.c.base.get? D = none ∧ D ∉ stor F.env)) → FnOk (F.at D)) (h00 : F.c.pa = 0)
  {px py : Pos} {kt : Nat} {tp : Pos} {sPen sFld : Stmt} {rest : List Stmt} (hs2 : stoB F.sc F.nm 2 ("k" : Str) = true) (hs3 : stoB F.sc F.nm 3 ("row" : Str) = true)
  (hpen : PenB F.fnm F.sc F.nm sPen) (hfld : CompB F.fnm F.sc F.nm sFld) (hrest : relS F.fnm lawT F.sc F.nm rest = true) (hnm4 : F.nm[4]? = some (some ("pen" : Str)))
  {is : List Int} {forms : List V} (hfn : noPens forms = true) (hfl : forms.length ≤ 1000)
  (hturn : ∀ (k : Nat) (row : V),forms[k]? = some row → ∀ q : Int,Ex3 fun l ys p1=>A4 (row = .lst l) (l.length ≤ 1000) (fieldsG F.Γ l q = .ok ys p1) (Ex2 fun vs' p'=>A3 (csx F.Γ n lawT (vsT (.lst (is.map .int)) forms k row ys) p1 = .ok .next vs' p') (vs'[0]? = some (.val (.lst (is.map .int)))) (vs'[1]? = some (.val (.lst forms)))))
  {s1 : Shared} (i1 : Inv F [] X (vsH (.lst (is.map .int)) forms) p s1.heap) {e it l : Addr} {us : List Value} (hne : e ≠ it) (hn1 : s1.heap.get? e = none) (hn2 : s1.heap.get? it = none) (hlX : l ∉ X) (hl : s1.heap.IsList l us.toArray) (hrs : Reps F.c.w s1.heap X F.c.pa us forms)
  {h2 : Heap} {tk2 : Nat} (g : Grow s1.heap h2) (he : IsEnum h2 e it 0 .none) (hit : h2.IsListIter it l 0) {Q : Flow → Shared → Prop} {E : Value → Shared → Prop}
  (hQ : ∀ D X' vs' p' h' tk',Inv (F.at D) [] X' vs' p' h' → Q .next { s1 with heap:=h',toks:=tk' }) :
  codeAny (model F.c.prog F.c.w) F.A (.forLoop (.Tuple [.Name ("k" : Str) px, .Name ("row" : Str) py] kt tp) (.ref e) (sPen :: sFld :: rest) [] F.env) (fun r s' => match r with | .ok f => Q f s' | .error e => cameBackBy (model F.c.prog F.c.w) F.A F.env E e s') { s1 with heap := h2, toks := tk2 } := by
 have hFat : F.at 0 = F:=by unfold Fn.at;rw [← h00]
 obtain fo0:=hfo 0 (.inl rfl)
 rw [hFat] at fo0
 have hbI : ∀ b ∈ [e,it],F.c.base.get? b = none:=fun b hb=>base_none i1 (by
  rcases memc hb with rfl | hb
  ·exact hn1
  ·rw [mems hb];exact hn2)
 obtain hlen:=hrs.len
 have hrs0 : Reps F.c.w h2 X 0 us forms:=by
  have:=Reps.kp (g.kp X F.c.pa) (fun Z q=>q) _ _ hrs
  rw [h00] at this;exact this
 obtain i2 : Inv F [] X (vsH (.lst (is.map .int)) forms) p h2:=i1.expr fo0 (.grow g) (i1.bs.grow g)
 refine codeAny_forLoop_any (LwJ F is forms s1 us e it l) (fun mm s' hI=>?_) us.length
  ⟨0,0,X,p,h2,tk2,.none,rfl,Nat.zero_le _,rfl,by rw [hFat];exact fo0,by rw [hFat];exact i2,he,hit,g.isList hl,fun b hb=>?_,hrs0⟩
 ·obtain ⟨j,D,X1,p',hh,tk,old,rfl,hj,rfl,fo,iv,he1,hit1,hl1,hfx1,hrs1⟩:=hI
  have hfI : ∀ b ∈ [e,it],b ∉ X1:=fun b hb=>hfx1 b (by
   rcases memc hb with rfl | hb
   ·exact List.mem_cons_self
   ·rw [mems hb];simp)
  have hIf : ∀ b ∈ [e,it],Ex2 fun o us=>hh.get? b = some o ∧ o.data = .fields us:=fun b hb=>by
   rcases memc hb with rfl | hb
   ·exact ⟨_,_,he1,rfl⟩
   ·rw [mems hb];obtain ⟨o,eo,_,hd⟩:=hit1;exact ⟨o,_,eo,hd⟩
  by_cases hlt : j < us.length
  ·have hget : us.toArray[j]? = some us[j]:=by simp [hlt]
   refine wpAny_pyNext_enum_item he1 hit1 hl1 hget hne fun h3 he3 hit3 htup hsz hk=>?_
   have hk' : ∀ a o,a ∉ [e,it] → hh.get? a = some o → h3.get? a = some o:=fun a o ha eo=>by
    rw [List.mem_cons,List.mem_singleton,not_or] at ha
    exact hk a o ha.1 ha.2 eo
   obtain iv3:=iv.pokeL hIf hfI hbI hk'
   dsimp only
   refine wpAny_letOwnedTupleGo_enum he3 fun h4 he4 hsb=>?_
   have hk4 : ∀ a o,a ∉ [e,it] → h3.get? a = some o → h4.get? a = some o:=fun a o ha eo=>by
    rw [List.mem_cons,List.mem_singleton,not_or] at ha
    exact (hsb.2 a ha.1).trans eo
   have hIf3 : ∀ b ∈ [e,it],Ex2 fun o us=>h3.get? b = some o ∧ o.data = .fields us:=fun b hb=>by
    rcases memc hb with rfl | hb
    ·exact ⟨_,_,he3,rfl⟩
    ·rw [mems hb];obtain ⟨o,eo,_,hd⟩:=hit3;exact ⟨o,_,eo,hd⟩
   obtain iv4:=iv3.pokeL (h':=h4) hIf3 hfI hbI hk4
   have sm34 : Sm X1 hh h4:=fun a o Z eo hn=>by
    have q1 : a ∉ [e,it]:=fun q=>by obtain ⟨o',us',e',hd⟩:=hIf a q;rw [e'] at eo;obtain rfl:=sI eo;exact hn _ hd
    exact hk4 a o q1 (hk' a o q1 eo)
   obtain hrs4:=Reps.sm sm34 (fun Z q=>.inl q) _ _ hrs1
   have hle : l ∉ [e,it]:=fun q=>by
    obtain ⟨o,eo,_,nn,hd⟩:=hl1
    obtain ⟨o',us',e',hd'⟩:=hIf l q
    rw [eo] at e';obtain rfl:=sI e'
    rw [hd] at hd';exact PySem.Data.noConfusion hd'
   obtain hl4 : h4.IsList l us.toArray:=isList_at hl1 fun o eo Z=>hk4 l o hle (hk' l o hle eo)
   obtain hit4 : h4.IsListIter it l (j + 1):=hit3.at fun o eo=>(hsb.2 it (Ne.symm hne)).trans eo
   have hde : j < forms.length:=by lia
   obtain ⟨ux,hux,rx⟩:=hrs4.get (List.getElem?_eq_getElem hde)
   have : us[j] = ux:=by rw [List.getElem?_eq_getElem hlt] at hux;exact Option.some.inj hux
   subst this
   have htne : hh.objs.size ≠ e:=fun q=>by
    have:=Heap.lt_size he1
    rw [← q] at this
    exact Nat.lt_irrefl _ this
   obtain htup4 : IsTup h4 hh.objs.size #[.int (j : Nat) tk,us[j]]:=⟨_,(hsb.2 _ htne).trans htup,rfl,_,rfl⟩
   refine assign_Tuple_tuple (fo.ev X1).hh htup4 rfl rfl fun h5 he5=>?_
   have g5 : Grow h4 h5:=fun b o eo=>he5 b o (Nat.ne_of_lt (Heap.lt_size eo)) eo
   obtain iv5:=iv4.expr fo (.grow g5) (iv4.bs.grow g5)
   obtain st5 : Stp (F.at D) [] X1 h4 [] X1 h5:=.expr iv4 (.grow g5)
   obtain tg : tgts F.sc F.nm [2, 3] [.Name ("k" : Str) px, .Name ("row" : Str) py] = true := tgts_mk2 hs2 hs3
   have hnrow : noPen forms[j] = true:=by
    have key : ∀ (l : List V) (j : Nat) (hj : j < l.length),noPens l = true → noPen l[j] = true:=by
     intro l
     induction l with
     | nil=>intro j hj;cases hj
     | cons a r ih =>
      intro j hj h
      unfold noPens at h
      rw [Bool.and_eq_true] at h
      cases j with
      | zero=>exact h.1
      | succ j=>exact ih j (by simpa using hj) h.2
    exact key forms j hde hfn
   obtain rxD : Rep F.c.w h5 X1 D us[j] forms[j]:=rep_pa _ _ hnrow (Rep.kp (g5.kp X1 0) (fun Z q=>q) _ _ rx)
   refine put_all (F:=F.at D) (s:={ s1 with heap:=h5,toks:=tk + 1 }) (ds:=[.int (j : Nat),forms[j]]) fo [2,3] tg iv5 ⟨⟨_,rfl⟩,rxD,trivial⟩ rfl fun h6 tk6 st6 iv6=>?_
   have hfl0 : forms ≠ []:=fun q=>by rw [q] at hde;exact nL hde
   refine wpAny_execs_cons ?_
   refine pen_snd (F:=F.at D) (s:={ s1 with heap:=h6,toks:=tk6 }) fo iv6 hpen (is:=is) (kk:=(j : Nat)) (forms:=forms) rfl rfl rfl rfl hfl0 fun q t D' h7 tk7 hDn hDX hDb hlD iv7 ac7 st7=>?_
   obtain ⟨lr,ys,p1,hrow,hlr,hfG,vs',p2,hcsx,hv0,hv1⟩:=hturn j forms[j] (List.getElem?_eq_getElem hde) q
   obtain fo' : FnOk (F.at D'):=hfo D' (.inr ⟨hDb,fun z=>hDX (iv6.stx _ z)⟩)
   have hD0 : D' ≠ 0:=fun z=>by
    obtain ⟨o,eo,_⟩:=iv6.bs.zero
    have hDb':=hDb
    rw [z] at hDb'
    rw [show (F.at D).c.base.get? 0 = some o from eo] at hDb'
    exact sN hDb'
   have ivp : Inv (F.at D') [] (D' :: X1) [.val (.lst (is.map .int)),.val (.lst forms),.val (.int (j : Nat)),.val forms[j],.val .pen,.un,.un,.un,.un,.un,.un,.un,.un] q h7:=by
    refine Inv.repen (F:=F.at D) (t:=t) iv7 hDX iv6.bs.fin hD0 hlD (fun i' x sl e1 e2=>?_) rfl
    obtain hscr : noPen (.lst (is.map .int)) = true:=noPens_ints is
    match i',e2 with
    | 0,e2=>obtain rfl:=sI e2;exact .inr (.inl ⟨_,rfl,hscr,rfl⟩)
    | 1,e2=>obtain rfl:=sI e2;exact .inr (.inl ⟨_,rfl,hfn,rfl⟩)
    | 2,e2=>obtain rfl:=sI e2;exact .inr (.inl ⟨_,rfl,rfl,rfl⟩)
    | 3,e2=>obtain rfl:=sI e2;exact .inr (.inl ⟨_,rfl,hnrow,rfl⟩)
    | 4,e2 =>
     obtain rfl:=sI e2
     have : F.nm[4]? = some (some x):=e1
     rw [hnm4] at this
     obtain rfl:=sI (sI this)
     exact .inr (.inr ⟨rfl,ac7⟩)
    | 5,e2=>obtain rfl:=sI e2;exact .inl rfl
    | 6,e2=>obtain rfl:=sI e2;exact .inl rfl
    | 7,e2=>obtain rfl:=sI e2;exact .inl rfl
    | 8,e2=>obtain rfl:=sI e2;exact .inl rfl
    | 9,e2=>obtain rfl:=sI e2;exact .inl rfl
    | 10,e2=>obtain rfl:=sI e2;exact .inl rfl
    | 11,e2=>obtain rfl:=sI e2;exact .inl rfl
    | 12,e2=>obtain rfl:=sI e2;exact .inl rfl
    | _ + 13,e2=>exact nS e2
   refine wpAny_execs_cons ?_
   refine comp_fields (F:=F.at D') (s:={ s1 with heap:=h7,toks:=tk7 }) fo' ivp hfld (l:=lr) (by rw [hrow];rfl) rfl rfl (by exact Nat.le_refl _) hlr hfG fun O8 X8 h8 tk8 iv8 Z st8=>?_
   refine cs_snd (F:=F.at D') (n:=n) fo' lawT (s:={ s1 with heap:=h8,toks:=tk8 }) hrest iv8 ?_
   have hvs : ([.val (.lst (is.map .int)),.val (.lst forms),.val (.int (j : Nat)),.val forms[j],.val .pen,.un,.un,.un,.un,.un,.un,.un,.un] : List Sl).set 5 (.val (.lst ys)) = vsT (.lst (is.map .int)) forms (j : Nat) forms[j] ys:=rfl
   rw [hvs]
   rw [show (F.at D').Γ = F.Γ from rfl,hcsx]
   intro O9 X9 h9 tk9 st9 iv9
   obtain st47:=st5.trans iv4 (st6.trans iv5 st7)
   obtain st79:=st8.trans ivp st9
   have keep : ∀ b ∈ [e,it,l],∀ o,h4.get? b = some o → Nrm o → h9.get? b = some o ∧ b ∉ X9:=fun b hb o eo hn=>by
    obtain ⟨a1,a2⟩:=nov_up iv4 st47 (hfx1 b hb) ⟨o,eo,hn⟩
    obtain e7:=a2 o eo hn
    obtain ⟨c1,c2⟩:=nov_up ivp st79 a1 ⟨o,e7,hn⟩
    exact ⟨c2 o e7 hn,c1⟩
   have ke:=keep e (by exact List.mem_cons_self) _ he4 (.inr ⟨_,rfl,by decide⟩)
   obtain ⟨oi,ei,hci,hdi⟩:=hit4
   have ki:=keep it (by exact .tail _ (.head _)) _ ei (.inr ⟨_,hci,by decide⟩)
   obtain ⟨ol,el,hcl,nl,hdl⟩:=hl4
   have kl:=keep l (by exact .tail _ (.tail _ (.head _))) _ el (.inl fun Z q=>by rw [hdl] at q;exact PySem.Data.noConfusion q)
   obtain hrs9 : Reps F.c.w h9 X9 0 us forms:=Reps.sm (st79.sm ivp) st79.newX _ _ (Reps.sm (st47.sm iv4) st47.newX _ _ hrs4)
   refine ⟨us.length - (j + 1),by lia,j + 1,D',X9,p2,h9,tk9,us[j],rfl,hlt,rfl,fo',iv9.forget fun i' sl e2=>?_,ke.1,⟨oi,ki.1,hci,hdi⟩,⟨ol,kl.1,hcl,nl,hdl⟩,fun b hb=>?_,hrs9⟩
   ·match i',e2 with
    | 0,e2=>obtain rfl:=sI e2;exact .inr ⟨hv0,_,rfl⟩
    | 1,e2=>obtain rfl:=sI e2;exact .inr ⟨hv1,_,rfl⟩
    | 2,e2=>obtain rfl:=sI e2;exact .inl rfl
    | 3,e2=>obtain rfl:=sI e2;exact .inl rfl
    | 4,e2=>obtain rfl:=sI e2;exact .inl rfl
    | 5,e2=>obtain rfl:=sI e2;exact .inl rfl
    | 6,e2=>obtain rfl:=sI e2;exact .inl rfl
    | 7,e2=>obtain rfl:=sI e2;exact .inl rfl
    | 8,e2=>obtain rfl:=sI e2;exact .inl rfl
    | 9,e2=>obtain rfl:=sI e2;exact .inl rfl
    | 10,e2=>obtain rfl:=sI e2;exact .inl rfl
    | 11,e2=>obtain rfl:=sI e2;exact .inl rfl
    | 12,e2=>obtain rfl:=sI e2;exact .inl rfl
    | _ + 13,e2=>exact nS e2
   ·rcases memc hb with rfl | hb
    ·exact ke.2
    ·rcases memc hb with rfl | hb
     ·exact ki.2
     ·rw [mems hb];exact kl.2
  ·have hjn : j = us.length:=by lia
   refine wpAny_pyNext_enum_end (fo.ev X1).hh he1 hit1 hl1 (by simp [hjn]) fun h3 hk=>wpAny_execs_nil ?_
   have hk' : ∀ a o,a ∉ [e,it] → hh.get? a = some o → h3.get? a = some o:=fun a o ha eo=>by
    rw [List.mem_cons,List.mem_singleton,not_or] at ha
    exact hk a o ha.2 eo
   exact hQ D X1 _ p' h3 tk (iv.pokeL hIf hfI hbI hk')
 ·rcases memc hb with rfl | hb
  ·exact i1.notin hn1
  ·rcases memc hb with rfl | hb
   ·exact i1.notin hn2
   ·rw [mems hb];exact hlX
end
end
section
open PySem PySem.W PyProof.Rows
noncomputable def lawA : CS:=.asg 0 (.slc (.var 0) (.lit .none) (.lit (.int 63))) (.asg 1 (.call 32 .nil) .done)
noncomputable def LawB (fnm : List Str) (sc : Sc) (nm : List (Option Str)) (lawT : CS) (b : List Stmt) : Prop := (Ex8 fun s0 s1 px py kt tp p1 p2 => Ex8 fun p3 p4 p5 p6 k sPen sFld rest => A10 (b = [s0, s1, .For (.Tuple [.Name ("k" : Str) px, .Name ("row" : Str) py] kt tp) (.Call (.Name ("enumerate" : Str) p1) [.Name ("forms" : Str) p2] [] p3) (sPen :: sFld :: rest) [] p4, .Return (some (.Constant (.bool true) k p5)) p6]) (relS fnm lawA sc nm [s0, s1] = true) (stoB sc nm 2 ("k" : Str) = true) (stoB sc nm 3 ("row" : Str) = true) (isG (kOf sc ("enumerate" : Str)) = true) (nmAt nm 1 ("forms" : Str) = true) (PenB fnm sc nm sPen) (CompB fnm sc nm sFld) (relS fnm lawT sc nm rest = true) (nm[4]? = some (some ("pen" : Str))))
theorem execs_append_eq {env : Env} : ∀ (l1 l2 : List Stmt),execs (l1 ++ l2) env = (execs l1 env >>= fun f=>match f with | .next=>execs l2 env | f=>pure f)
 | [],l2=>by rw [List.nil_append,execs_nil,pure_bind]
 | st :: l1,l2=>by
  rw [List.cons_append,execs_cons,execs_cons,bind_assoc]
  congr 1
  funext f
  cases f with
  | next=>exact execs_append_eq l1 l2
  | _=>rw [pure_bind]
theorem execs_append {M : Model} {A : Around} {E : Value → Shared → Prop} {env : Env} {Q : Flow → Shared → Prop} {l1 l2 : List Stmt} {s : Shared} (h : wpAny M A (execs l1 env) (fun f s'=>match f with | .next=>wpAny M A (execs l2 env) Q E s' | f=>Q f s') E s) : wpAny M A (execs (l1 ++ l2) env) Q E s:=by
 rw [execs_append_eq]
 refine wpAny_bind (wpAny_mono h (fun f s' h'=>?_) fun Z Z e=>e)
 cases f with
 | next=>exact h'
 | _=>exact wpAny_pure h'
section
variable {F : Fn} {X : List Addr} {p : Int} {s : Shared} {n : Nat}
theorem lawA_eq {Γ : Gam} {is : List Int} {forms : List V} (h : Γ 32 [] p = .ok (.lst forms) p) : csx Γ n lawA (.val (.lst (is.map .int)) :: List.replicate 12 .un) p = .ok .next (vsH (.lst ((is.take 63).map .int)) forms) p:=by
 have e : sliceV (.lst (is.map V.int)) .none (.int 63) = some (.lst ((is.take 63).map .int)):=by
  have eb : bndV (.int 63) = some (some 63):=by show bndI 63 = _;unfold bndI;exact if_pos (by decide)
  unfold sliceV
  rw [eb]
  show (if (0 : Int) ≤ 63 then some ((is.map V.int).take 63) else none).map V.lst = _
  rw [if_pos (by decide),List.map_take]
  rfl
 exact q_asg (e_slc rfl rfl rfl e) (q_asg (e_call rfl h rfl) rfl)
theorem law_snd {lawT : CS} {body : List Stmt} (hb : LawB F.fnm F.sc F.nm lawT body) (hfo : ∀ D,(D = 0 ∨ (F.c.base.get? D = none ∧ D ∉ stor F.env)) → FnOk (F.at D)) (h00 : F.c.pa = 0)
  {is : List Int} {forms : List V} (hforms : F.Γ 32 [] p = .ok (.lst forms) p) (hfn : noPens forms = true) (hfl : forms.length ≤ 1000)
  (hturn : ∀ (k : Nat) (row : V),forms[k]? = some row → ∀ q : Int,Ex3 fun l ys p1=>A4 (row = .lst l) (l.length ≤ 1000) (fieldsG F.Γ l q = .ok ys p1) (Ex2 fun vs' p'=>A3 (csx F.Γ n lawT (vsT (.lst ((is.take 63).map .int)) forms k row ys) p1 = .ok .next vs' p') (vs'[0]? = some (.val (.lst ((is.take 63).map .int)))) (vs'[1]? = some (.val (.lst forms)))))
  (i : Inv F [] X (.val (.lst (is.map .int)) :: List.replicate 12 .un) p s.heap) {Q : Flow → Shared → Prop} {E : Value → Shared → Prop}
  (hQ : ∀ D X' vs' p' h' tk',Inv (F.at D) [] X' vs' p' h' → Q (.ret (.bool true)) { s with heap:=h',toks:=tk' }) : wpAny (model F.c.prog F.c.w) F.A (execs body F.env) Q E s:=by
 refine gG fun P0 hP0=>?_
 obtain ⟨s0,s1,px,py,kt,tp,p1,p2,p3,p4,p5,p6,k,sPen,sFld,rest,rfl,hA,hk,hrow,hen,hfm,hpen,hfld,hrest,hnm4⟩:=hb
 refine hP0 ?_
 have hFat : F.at 0 = F:=by unfold Fn.at;rw [← h00]
 have fo:=hfo 0 (.inl rfl)
 rw [hFat] at fo
 refine execs_append (l1:=[s0,s1]) (cs_snd (n:=n) fo lawA hA i ?_)
 rw [lawA_eq hforms]
 intro O' X' h' tk' st i'
 have i0 : Inv F [] X' (vsH (.lst ((is.take 63).map .int)) forms) p h':=i'.forget fun j sl e=>by
  match j,e with
  | 0,e=>obtain rfl:=sI e;exact .inr ⟨rfl,_,rfl⟩
  | 1,e=>obtain rfl:=sI e;exact .inr ⟨rfl,_,rfl⟩
  | 2,e=>obtain rfl:=sI e;exact .inl rfl
  | 3,e=>obtain rfl:=sI e;exact .inl rfl
  | 4,e=>obtain rfl:=sI e;exact .inl rfl
  | 5,e=>obtain rfl:=sI e;exact .inl rfl
  | 6,e=>obtain rfl:=sI e;exact .inl rfl
  | 7,e=>obtain rfl:=sI e;exact .inl rfl
  | 8,e=>obtain rfl:=sI e;exact .inl rfl
  | 9,e=>obtain rfl:=sI e;exact .inl rfl
  | 10,e=>obtain rfl:=sI e;exact .inl rfl
  | 11,e=>obtain rfl:=sI e;exact .inl rfl
  | 12,e=>obtain rfl:=sI e;exact .inl rfl
  | _ + 13,e=>exact nS e
 dsimp only
 have ev:=fo.ev X'
 refine gG fun P0 hP0=>?_
 obtain ⟨mg,hns,_,_,heg,_⟩:=ev.gl
 obtain ⟨mb,hnb,_,_,heb⟩:=ev.bl
 obtain ⟨e1,d1⟩:=nmAt_get hfm
 obtain ⟨v1,ac1,hz1,ax,us,rfl,hax,hli,hrs⟩:=i0.sl 1 _ _ e1 rfl
 refine hP0 ?_
 refine wpAny_execs_cons (wpAny_For ?_ (fun Z=>rfl))
 refine wpAny_Call_NameR (PySem.Calls.Name_function_global ev.kind ((ev.kind_at _).trans (isG_eq hen)) (PySem.Calls.loadGlobal_builtin (stays_ns i0.bs.stays hns) heg (stays_ns i0.bs.stays hnb) heb ?_) (by decide))
 refine PySem.callWith_type rfl (PySem.Calls.evalArgs_plain (PySem.Calls.spliced_cons (wpAny_Name (Acc.load (s:={ s with heap:=h',toks:=tk' }) ac1 (PySem.Calls.spliced_nil ?_)) d1)))
 refine call_enumerate_list hli fun h2 he hit hsz hk2=>wpAny_pyIter_enum he ?_
 have hn1 : h'.get? (h'.objs.size + 1) = none:=by
  cases e : h'.get? (h'.objs.size + 1) with
  | none=>rfl
  | some o=>exact absurd (Heap.lt_size e) (nlt (Nat.le_succ _))
 refine law_loop (n:=n) (lawT:=lawT) hfo h00 hk hrow hpen hfld hrest hnm4 hfn hfl hturn (s1:={ s with heap:=h',toks:=tk' }) i0 (Nat.succ_ne_self _) hn1 (size_none h') hax hli hrs hk2 he hit fun D X2 vs2 p2 h3 tk3 i3=>?_
 exact wpAny_execs_cons (wpAny_Return_some (Constant_bool (hQ D X2 vs2 p2 h3 tk3 i3)))
end
end
section
open PySem PySem.W PyProof.Rows
noncomputable def isNm (x : Str) : Expr → Bool:=eName fun y Z=>seq y x
theorem isNm_inv {x : Str} {e : Expr} (h : isNm x e = true) : ∃ p,e = .Name x p:=eName_inv h fun Z p e h=>⟨p,by rw [e,seq_eq h]⟩
noncomputable def isCst (v : V) : Expr → Bool:=eConstant fun c Z Z=>relC v c
theorem isInt_inv {i : Int} {e : Expr} (h : isCst (.int i) e = true) : Ex2 fun k p=>e = .Constant (.int i) k p :=
 eConstant_inv h fun c k p e h=>coInt_inv (show coInt _ c = true from h) fun j e2 h=>⟨k,p,by rw [e,e2,of_decide_eq_true h]⟩
theorem isBool_inv {i : Bool} {e : Expr} (h : isCst (.bool i) e = true) : Ex2 fun k p=>e = .Constant (.bool i) k p :=
 eConstant_inv h fun c k p e h=>coBool_inv (show coBool _ c = true from h) fun j e2 h=>⟨k,p,by rw [e,e2,eq_of_beq (show (i == j) = true from h)]⟩
noncomputable def isEmp : Expr → Bool := eConstant fun c Z Z => coStr (fun x => seq x ("" : Str)) c
theorem isEmp_inv {e : Expr} (h : isEmp e = true) : Ex2 fun k p => e = .Constant (.str ("" : Str)) k p :=
 eConstant_inv h fun c k p e h=>coStr_inv h fun j e2 h=>⟨k,p,by rw [e,e2,seq_eq h]⟩
noncomputable def cOf (f : Str) (g : List Expr → Bool) : Expr → Bool:=eCN fun id Z as Z=>seq id f && g as
theorem cOf_inv {f : Str} {g : List Expr → Bool} {e : Expr} (h : cOf f g e = true) : Ex3 fun p q as=>e = .Call (.Name f p) as [] q ∧ g as = true :=
 eCN_inv h fun Z p as q e h=>⟨p,q,as,by rw [e,seq_eq (and2 h).1],(and2 h).2⟩
noncomputable def isAttr (o x : Str) : Expr → Bool:=eAttribute fun b y Z=>isNm o b && seq y x
theorem isAttr_inv {o x : Str} {e : Expr} (h : isAttr o x e = true) : Ex2 fun q p=>e = .Attribute (.Name o q) x p :=
 eAttribute_inv h fun b y p e h=>(by obtain ⟨q,e2⟩:=isNm_inv (and2 h).1;exact ⟨q,p,by rw [e,e2,seq_eq (and2 h).2]⟩)
noncomputable def sRet (f : Expr → Bool) : Stmt → Bool:=sReturn fun o Z=>oS false f o
theorem sRet_inv {f : Expr → Bool} {s : Stmt} (h : sRet f s = true) : Ex2 fun v p=>s = .Return (some v) p ∧ f v = true :=
 sReturn_inv h fun o p e h=>oS_inv h fun v e2 h=>⟨v,p,by rw [e,e2],h⟩
noncomputable def errBb : List Stmt → Bool := l1 (sRet (cOf ("Raised" : Str) (l3 fun a b c => isCst (.int 1) a && (isNm ("text" : Str) b && isNm ("errorcode" : Str) c))))
theorem errBb_inv {b : List Stmt} (h : errBb b = true) : ErrB b:=by
 refine l1_inv h fun s e h=>?_
 obtain ⟨v,p6,e1,h⟩:=sRet_inv h
 obtain ⟨p1,p5,as,e2,h⟩:=cOf_inv h
 refine l3_inv h fun a b c e3 h=>?_
 obtain ⟨k,p2,e4⟩:=isInt_inv (and2 h).1
 obtain ⟨p3,e5⟩:=isNm_inv (and2 (and2 h).2).1
 obtain ⟨p4,e6⟩:=isNm_inv (and2 (and2 h).2).2
 exact ⟨p1,p2,p3,p4,p5,p6,k,by rw [e,e1,e2,e3,e4,e5,e6]⟩
noncomputable def setB (x : Str) (f : Expr → Bool) : Stmt → Bool := sAssign fun ts v Z => l1 (isAttr ("self" : Str) x) ts && f v
theorem setB_inv {x : Str} {f : Expr → Bool} {s : Stmt} (h : setB x f s = true) : Ex4 fun v p1 p2 p4 => s = .Assign [.Attribute (.Name ("self" : Str) p1) x p2] v p4 ∧ f v = true :=
 sAssign_inv h fun ts v p4 e h=>l1_inv (and2 h).1 fun t e2 h2=>(by obtain ⟨p1,p2,e3⟩:=isAttr_inv h2;exact ⟨v,p1,p2,p4,by rw [e,e2,e3],(and2 h).2⟩)
noncomputable def initCb : Stmt → Bool := sExpr fun v Z => eCA (fun o x q args p => isNm ("Exception" : Str) o && (seq x ("__init__" : Str) && (l2 (fun a b => isNm ("self" : Str) a && isNm ("value" : Str) b) args && (q.endLine == p.line)))) v
theorem initCb_inv {s : Stmt} (h : initCb s = true) : InitC s:=by
 refine sExpr_inv h fun v p6 e h=>eCA_inv h fun o x q args p e1 h=>l2_inv (and2 (and2 (and2 h).2).2).1 fun a b e2 h2=>?_
 obtain ⟨p1,e3⟩:=isNm_inv (and2 h).1
 obtain ⟨p3,e4⟩:=isNm_inv (and2 h2).1
 obtain ⟨p4,e5⟩:=isNm_inv (and2 h2).2
 exact ⟨p1,q,p3,p4,p,p6,by rw [e,e1,e2,e3,e4,e5,seq_eq (and2 (and2 h).2).1],(and2 (and2 (and2 h).2).2).2⟩
noncomputable def initBb : List Stmt → Bool := lc fun s0 r => initCb s0 && lc (fun s1 r => setB (Str.ofString "code") (isNm (Str.ofString "code")) s1 && lc (fun s2 r => setB (Str.ofString "value") (isNm (Str.ofString "value")) s2 && lc (fun s3 r => setB (Str.ofString "errorcode") (isNm (Str.ofString "errorcode")) s3 &&
 lc (fun s4 r => setB (Str.ofString "level") (isNm (Str.ofString "level")) s4 && lc (fun s5 r => setB (Str.ofString "ret") (isNm (Str.ofString "ret")) s5 && lc (fun s6 r => setB (Str.ofString "info") isEmp s6 && lc (fun s7 r => setB (Str.ofString "is_noted") (isCst (.bool false)) s7 &&
 l2 (fun s8 s9 => setB (Str.ofString "line") (isCst (.int 0)) s8 && setB (Str.ofString "extra") (eList fun l Z => ln true l) s9) r) r) r) r) r) r) r) r
theorem setN_inv {x a : String} {s : Stmt} (h : setB (Str.ofString x) (isNm (Str.ofString a)) s = true) : AttrN x a s :=
 let ⟨_,p1,p2,p4,e,hv⟩:=setB_inv h
 let ⟨p3,e2⟩:=isNm_inv hv
 ⟨p1,p2,p3,p4,by rw [e,e2]⟩
theorem initBb_inv {b : List Stmt} (h : initBb b = true) : InitB b :=
 lc_inv h fun s0 Z e0 h0=>lc_inv (and2 h0).2 fun s1 Z e1 h1=>lc_inv (and2 h1).2 fun s2 Z e2 h2=>lc_inv (and2 h2).2 fun s3 Z e3 h3=>lc_inv (and2 h3).2 fun s4 Z e4 h4=>lc_inv (and2 h4).2 fun s5 Z e5 h5=>lc_inv (and2 h5).2 fun s6 Z e6 h6=>lc_inv (and2 h6).2 fun s7 Z e7 h7=>l2_inv (and2 h7).2 fun s8 s9 e8 h8 =>
  ⟨s0,s1,s2,s3,s4,s5,s6,s7,s8,s9,by rw [e0,e1,e2,e3,e4,e5,e6,e7,e8],initCb_inv (and2 h0).1,setN_inv (and2 h1).1,setN_inv (and2 h2).1,setN_inv (and2 h3).1,setN_inv (and2 h4).1,setN_inv (and2 h5).1,
   (by obtain ⟨_,p1,p2,p4,e,hv⟩:=setB_inv (and2 h6).1;obtain ⟨k,p3,e'⟩:=isEmp_inv hv;exact ⟨p1,p2,k,p3,p4,by rw [e,e']⟩),
   (by obtain ⟨_,p1,p2,p4,e,hv⟩:=setB_inv (and2 h7).1;obtain ⟨k,p3,e'⟩:=isBool_inv hv;exact ⟨p1,p2,k,p3,p4,by rw [e,e']⟩),
   (by obtain ⟨_,p1,p2,p4,e,hv⟩:=setB_inv (and2 h8).1;obtain ⟨k,p3,e'⟩:=isInt_inv hv;exact ⟨p1,p2,k,p3,p4,by rw [e,e']⟩),
   (by obtain ⟨_,p1,p2,p4,e,hv⟩:=setB_inv (and2 h8).2;exact eList_inv hv fun l p3 e' h=>ln_inv h fun e'' Z=>⟨p1,p2,p3,p4,by rw [e,e',e'']⟩)⟩
end
section
open PySem PySem.W PyProof.Rows
noncomputable def hd1 (f : Option Expr → Option Str → List Stmt → Bool) (h : ExceptHandler) : Bool:=match h with | .ExceptHandler t n b _=>f t n b
theorem hd1_inv {f : Option Expr → Option Str → List Stmt → Bool} {h : ExceptHandler} {C : Prop} (e : hd1 f h = true) (k : ∀ t n b p,h = .ExceptHandler t n b p → f t n b = true → C) : C:=by
 cases h with | ExceptHandler t n b p=>exact k t n b p rfl e
noncomputable def toldR : Stmt → Bool := sRet (eTuple fun l Z Z => l3 (fun a b c => isAttr ("fault" : Str) ("code" : Str) a && (isAttr ("fault" : Str) ("value" : Str) b && isAttr ("fault" : Str) ("errorcode" : Str) c)) l)
theorem toldR_inv {s : Stmt} (h : toldR s = true) : Ex8 fun q1 q2 q3 q4 q5 q6 q7 q8 => ∃ k, s = .Return (some (.Tuple [.Attribute (.Name ("fault" : Str) q1) ("code" : Str) q2, .Attribute (.Name ("fault" : Str) q3) ("value" : Str) q4, .Attribute (.Name ("fault" : Str) q5) ("errorcode" : Str) q6] k q7)) q8 := by
 refine gG fun P0 hP0=>?_
 obtain ⟨v,q8,e,h⟩:=sRet_inv h
 refine hP0 ?_
 refine eTuple_inv h fun l k q7 e1 h=>l3_inv h fun a b c e2 h=>?_
 refine gG fun P0 hP0=>?_
 obtain ⟨q1,q2,e3⟩:=isAttr_inv (and2 h).1
 obtain ⟨q3,q4,e4⟩:=isAttr_inv (and2 (and2 h).2).1
 obtain ⟨q5,q6,e5⟩:=isAttr_inv (and2 (and2 h).2).2
 refine hP0 ?_
 exact ⟨q1,q2,q3,q4,q5,q6,q7,q8,k,by rw [e,e1,e2,e3,e4,e5]⟩
noncomputable def toldBb (fnm : List Str) (sc : Sc) (nm : List (Option Str)) : List Stmt → Bool := l1 (sTry fun b hs o f Z => l1 (fun st => l1 (hd1 fun t n r => oS false (isNm ("Raised" : Str)) t && (oS false (fun n => seq n ("fault" : Str)) n && (l1 toldR r && ln (ln (relS fnm tryC sc nm [st] && (stoB sc nm 2 ("fault" : Str) && (isL (kOf sc ("fault" : Str)) && isG (kOf sc ("Raised" : Str))))) o) f))) hs) b)
theorem toldBb_inv {fnm : List Str} {sc : Sc} {nm : List (Option Str)} {b : List Stmt} (h : toldBb fnm sc nm b = true) : ToldB fnm sc nm b:=by
 refine l1_inv h fun s e h=>sTry_inv h fun b hs o f p3 e1 h=>l1_inv h fun st e2 h=>l1_inv h fun hh e3 h=>hd1_inv h fun t n r p2 e4 h=>oS_inv (and2 h).1 fun t' e5 h5=>oS_inv (and2 (and2 h).2).1 fun n' e6 h6=>l1_inv (and2 (and2 (and2 h).2).2).1 fun r' e7 h7=>ln_inv (and2 (and2 (and2 h).2).2).2 fun e8 h=>ln_inv h fun e9 h=>?_
 obtain ⟨p1,e10⟩:=isNm_inv h5
 obtain ⟨q1,q2,q3,q4,q5,q6,q7,q8,k,e11⟩:=toldR_inv h7
 exact ⟨st,p1,p2,p3,q1,q2,q3,q4,q5,q6,q7,q8,k,by rw [e,e1,e2,e3,e4,e5,e6,e7,e8,e9,e10,e11,seq_eq h6],(and2 h).1,(and2 (and2 h).2).1,(and2 (and2 (and2 h).2).2).1,(and2 (and2 (and2 h).2).2).2⟩
noncomputable def penS (f : Expr → Bool) : Expr → Bool := eSubscript fun a sl Z => isNm ("script" : Str) a && eSlice (fun l u st Z => oS false (isNm ("k" : Str)) l && oS (oS false f st) (fun Z => false) u) sl
theorem penS_inv {f : Expr → Bool} {x : Expr} (h : penS f x = true) : Ex5 fun p2 p3 stp p4 p5 => x = .Subscript (.Name ("script" : Str) p2) (.Slice (some (.Name ("k" : Str) p3)) none (some stp) p4) p5 ∧ f stp = true := by
 refine eSubscript_inv h fun a sl p5 e h=>eSlice_inv (and2 h).2 fun l u st p4 e1 h1=>oS_inv (and2 h1).1 fun l' e2 h2=>oN_inv (and2 h1).2 fun e3 h3=>oS_inv h3 fun stp e4 h4=>?_
 obtain ⟨p2,e5⟩:=isNm_inv (and2 h).1
 obtain ⟨p3,e6⟩:=isNm_inv h2
 exact ⟨p2,p3,stp,p4,p5,by rw [e,e1,e2,e3,e4,e5,e6],h4⟩
noncomputable def penBb (fnm : List Str) (sc : Sc) (nm : List (Option Str)) : Stmt → Bool := sAssign fun ts v Z => l1 (isNm ("pen" : Str)) ts && eList (fun l Z => l1 (cOf ("sum" : Str) (l1 (penS fun stp => relE fnm (.bi .len (.cons (.var 1) .nil)) sc nm stp && (nmAt nm 0 ("script" : Str) && (nmAt nm 2 ("k" : Str) && (stoB sc nm 4 ("pen" : Str) && isG (kOf sc ("sum" : Str)))))))) l) v
theorem penBb_inv {fnm : List Str} {sc : Sc} {nm : List (Option Str)} {st : Stmt} (h : penBb fnm sc nm st = true) : PenB fnm sc nm st:=by
 refine sAssign_inv h fun ts v p8 e h=>l1_inv (and2 h).1 fun t e1 h1=>eList_inv (and2 h).2 fun l p7 e2 h2=>l1_inv h2 fun c e3 h3=>?_
 obtain ⟨pp,e4⟩:=isNm_inv h1
 obtain ⟨p1,p6,as,e5,h5⟩:=cOf_inv h3
 refine l1_inv h5 fun x e6 h6=>?_
 obtain ⟨p2,p3,stp,p4,p5,e7,h⟩:=penS_inv h6
 exact ⟨pp,p1,p2,p3,p4,p5,p6,p7,p8,stp,by rw [e,e1,e2,e3,e4,e5,e6,e7],(and2 h).1,(and2 (and2 h).2).1,(and2 (and2 (and2 h).2).2).1,(and2 (and2 (and2 (and2 h).2).2).2).1,(and2 (and2 (and2 (and2 h).2).2).2).2⟩
noncomputable def cmH (f : Expr → Scope → Pos → Bool) : Expr → Bool := eListComp fun elt gs scope lp => l1 (fun g => isNm ("told" : Str) g.target && (isNm ("row" : Str) g.iter && (ln true g.ifs && (decide (g.is_async = 0) && f elt scope lp)))) gs
theorem cmH_inv {f : Expr → Scope → Pos → Bool} {x : Expr} (h : cmH f x = true) : Ex5 fun elt px pi scope lp => x = .ListComp elt [⟨.Name ("told" : Str) px, .Name ("row" : Str) pi, [], 0⟩] scope lp ∧ f elt scope lp = true := by
 refine eListComp_inv h fun elt gs scope lp e h=>l1_inv h fun g e1 h=>?_
 obtain ⟨px,e2⟩:=isNm_inv (and2 h).1
 obtain ⟨pi,e3⟩:=isNm_inv (and2 (and2 h).2).1
 refine ln_inv (and2 (and2 (and2 h).2).2).1 fun e4 Z=>?_
 have e5:=of_decide_eq_true (and2 (and2 (and2 (and2 h).2).2).2).1
 refine ⟨elt,px,pi,scope,lp,?_,(and2 (and2 (and2 (and2 h).2).2).2).2⟩
 refine (e).trans ?_;refine (e1).symm ▸ ?_
 clear h
 cases g with | mk t it ifs a =>
 exact congrArg (fun z=>Expr.ListComp elt [z] scope lp) (by rw [Comprehension.mk.injEq];exact ⟨e2,e3,e4,e5⟩)
noncomputable def compBb (fnm : List Str) (sc : Sc) (nm : List (Option Str)) : Stmt → Bool := sAssign fun ts v Z => l1 (eName fun x py => seq x ("fields" : Str) && cmH (fun elt scope lpos =>
      relE fnm (.call 36 (.cons (.var 12) (.cons (.var 4) .nil))) (relab scope.names sc) (nmIn scope.names sc 12 ("told" : Str) nm) elt && (decide (scope.kind = .function) &&
      (scope.names.all (fun y => !isC (some y.2) && ((!isL (some y.2) || isL (kOf scope.names y.1)) && (!isF (some y.2) || isC (kOf sc y.1)))) && (isL (kOf scope.names ("told" : Str)) && (nmAt nm 3 ("row" : Str) && (stoB sc nm 5 ("fields" : Str) && (isL (kOf sc ("fields" : Str)) &&
      ((py.line == lpos.line) && (!(scope.names.any fun y => y.1 == ("fields" : Str) && (y.2 == .local || y.2 == .cell)) && decide (12 < nm.length)))))))))) v) ts
theorem compBb_inv {fnm : List Str} {sc : Sc} {nm : List (Option Str)} {st : Stmt} (h : compBb fnm sc nm st = true) : CompB fnm sc nm st:=by
 refine sAssign_inv h fun ts v p8 e h=>l1_inv h fun t e1 h=>eName_inv h fun x py e2 h=>?_
 obtain ⟨elt,px,pi,scope,lpos,e3,h1⟩:=cmH_inv (and2 h).2
 have g2:=and2 (and2 h1).2
 have g3:=and2 g2.2
 have g4:=and2 g3.2
 have g5:=and2 g4.2
 have g6:=and2 g5.2
 have g7:=and2 g6.2
 have g8:=and2 g7.2
 have g9:=and2 g8.2
 exact ⟨elt,px,pi,scope,lpos,py,p8,by rw [e,e1,e2,e3,seq_eq (and2 h).1],(and2 h1).1,of_decide_eq_true g2.1,
  fun y hy=>let h6:=and2 (allT g3.1 y hy);⟨not2 h6.1,fun q=>isL_eq (or2 (and2 h6.2).1 (by rw [q];rfl)),fun q=>or2 (and2 h6.2).2 (by rw [q];rfl)⟩,
  isL_eq g4.1,g5.1,g6.1,isL_eq g7.1,g8.1,not2 g9.1,of_decide_eq_true g9.2⟩
noncomputable def lawH (f : List Stmt → Bool) : Stmt → Bool := sFor fun t it b o Z => ln (eTuple (fun l Z Z => l2 (fun a b => isNm ("k" : Str) a && isNm ("row" : Str) b) l) t && (cOf ("enumerate" : Str) (l1 (isNm ("forms" : Str))) it && f b)) o
theorem lawH_inv {f : List Stmt → Bool} {s : Stmt} (h : lawH f s = true) : Ex8 fun px py kt tp p1 p2 p3 b => ∃ p4, s = .For (.Tuple [.Name ("k" : Str) px, .Name ("row" : Str) py] kt tp) (.Call (.Name ("enumerate" : Str) p1) [.Name ("forms" : Str) p2] [] p3) b [] p4 ∧ f b = true := by
 refine sFor_inv h fun t it b o p4 e h=>ln_inv h fun e1 h=>eTuple_inv (and2 h).1 fun l kt tp e2 h2=>l2_inv h2 fun x y e3 h3=>?_
 obtain ⟨px,e4⟩:=isNm_inv (and2 h3).1
 obtain ⟨py,e5⟩:=isNm_inv (and2 h3).2
 obtain ⟨p1,p3,as,e6,h6⟩:=cOf_inv (and2 (and2 h).2).1
 refine l1_inv h6 fun fm e7 h7=>?_
 obtain ⟨p2,e8⟩:=isNm_inv h7
 exact ⟨px,py,kt,tp,p1,p2,p3,b,p4,by rw [e,e1,e2,e3,e4,e5,e6,e7,e8],(and2 (and2 h).2).2⟩
noncomputable def lawBb (fnm : List Str) (sc : Sc) (nm : List (Option Str)) (lawT : CS) : List Stmt → Bool := lc fun s0 r => l3 (fun s1 sF sR => lawH (lc fun sPen r => lc (fun sFld rest => sRet (isCst (.bool true)) sR && (relS fnm lawA sc nm [s0, s1] && (stoB sc nm 2 ("k" : Str) && (stoB sc nm 3 ("row" : Str) && (isG (kOf sc ("enumerate" : Str)) && (nmAt nm 1 ("forms" : Str) &&
          (penBb fnm sc nm sPen && (compBb fnm sc nm sFld && (relS fnm lawT sc nm rest && nmAt nm 4 ("pen" : Str)))))))))) r) sF) r
theorem lawBb_inv {fnm : List Str} {sc : Sc} {nm : List (Option Str)} {lawT : CS} {b : List Stmt} (h : lawBb fnm sc nm lawT b = true) : LawB fnm sc nm lawT b:=by
 refine lc_inv h fun s0 r e h=>l3_inv h fun s1 sF sR e1 h=>?_
 obtain ⟨px,py,kt,tp,p1,p2,p3,bd,p4,e2,h⟩:=lawH_inv h
 refine lc_inv h fun sPen r e3 h=>lc_inv h fun sFld rest e4 h=>?_
 obtain ⟨rv,p6,e5,h5⟩:=sRet_inv (and2 h).1
 obtain ⟨k,p5,e6⟩:=isBool_inv h5
 have g1:=and2 (and2 h).2
 have g2:=and2 g1.2
 have g3:=and2 g2.2
 have g4:=and2 g3.2
 have g5:=and2 g4.2
 have g6:=and2 g5.2
 have g7:=and2 g6.2
 have g8:=and2 g7.2
 exact ⟨s0,s1,px,py,kt,tp,p1,p2,p3,p4,p5,p6,k,sPen,sFld,rest,by rw [e,e1,e2,e3,e4,e5,e6],g1.1,g2.1,g3.1,g4.1,g5.1,penBb_inv g6.1,compBb_inv g7.1,g8.1,(nmAt_get g8.2).1⟩
end
section
open PySem PySem.W PyProof.Rows
theorem no1 (h : false = true) : False:=nomatch h
noncomputable def gDict {β : Type} (d : β) (f : Array DictEntry → Nat → β) (x : Data) : β:=Data.casesOn (motive:=fun Z=>β) x d (fun Z=>d) (fun Z Z=>d) f (fun Z Z Z=>d) (fun Z Z=>d) (fun Z=>d) (fun Z=>d) (fun Z=>d) (fun Z=>d) d
theorem gDict_k {β : Type} {P : β → Prop} {d : β} {f : Array DictEntry → Nat → β} {x : Data} (h : P (gDict d f x)) (hd : P d → False) : Ex2 fun a b=>x = .dict a b ∧ P (f a b):=by cases x <;> first | exact ⟨_,_,rfl,h⟩ | exact (hd h).elim
noncomputable def gFunc {β : Type} (d : β) (f : FuncData → β) (x : Data) : β:=Data.casesOn (motive:=fun Z=>β) x d (fun Z=>d) (fun Z Z=>d) (fun Z Z=>d) (fun Z Z Z=>d) (fun Z Z=>d) (fun Z=>d) f (fun Z=>d) (fun Z=>d) d
theorem gFunc_k {β : Type} {P : β → Prop} {d : β} {f : FuncData → β} {x : Data} (h : P (gFunc d f x)) (hd : P d → False) : ∃ a,x = .func a ∧ P (f a):=by cases x <;> first | exact ⟨_,rfl,h⟩ | exact (hd h).elim
noncomputable def gFields {β : Type} (d : β) (f : Array Value → β) (x : Data) : β:=Data.casesOn (motive:=fun Z=>β) x d (fun Z=>d) (fun Z Z=>d) (fun Z Z=>d) (fun Z Z Z=>d) (fun Z Z=>d) (fun Z=>d) (fun Z=>d) (fun Z=>d) f d
theorem gFields_k {β : Type} {P : β → Prop} {d : β} {f : Array Value → β} {x : Data} (h : P (gFields d f x)) (hd : P d → False) : ∃ a,x = .fields a ∧ P (f a):=by cases x <;> first | exact ⟨_,rfl,h⟩ | exact (hd h).elim
noncomputable def gSeq {β : Type} (d : β) (f : Array Value → Nat → β) (x : Data) : β:=Data.casesOn (motive:=fun Z=>β) x d (fun Z=>d) f (fun Z Z=>d) (fun Z Z Z=>d) (fun Z Z=>d) (fun Z=>d) (fun Z=>d) (fun Z=>d) (fun Z=>d) d
theorem gSeq_k {β : Type} {P : β → Prop} {d : β} {f : Array Value → Nat → β} {x : Data} (h : P (gSeq d f x)) (hd : P d → False) : Ex2 fun a b=>x = .seq a b ∧ P (f a b):=by cases x <;> first | exact ⟨_,_,rfl,h⟩ | exact (hd h).elim
noncomputable def gCls {β : Type} (d : β) (f : ClassData → β) (x : Data) : β:=Data.casesOn (motive:=fun Z=>β) x d (fun Z=>d) (fun Z Z=>d) (fun Z Z=>d) (fun Z Z Z=>d) (fun Z Z=>d) (fun Z=>d) (fun Z=>d) f (fun Z=>d) d
theorem gCls_k {β : Type} {P : β → Prop} {d : β} {f : ClassData → β} {x : Data} (h : P (gCls d f x)) (hd : P d → False) : ∃ a,x = .cls a ∧ P (f a):=by cases x <;> first | exact ⟨_,rfl,h⟩ | exact (hd h).elim
noncomputable def gRef {β : Type} (d : β) (f : Addr → β) (x : Value) : β:=Value.casesOn (motive:=fun Z=>β) x d d d (fun Z=>d) (fun Z Z=>d) (fun Z Z=>d) (fun Z Z=>d) (fun Z Z=>d) (fun Z=>d) (fun Z=>d) f
theorem gRef_k {β : Type} {P : β → Prop} {d : β} {f : Addr → β} {x : Value} (h : P (gRef d f x)) (hd : P d → False) : ∃ a,x = .ref a ∧ P (f a):=by cases x <;> first | exact ⟨_,rfl,h⟩ | exact (hd h).elim
noncomputable def gInt {β : Type} (d : β) (f : Int → Tok → β) (x : Value) : β:=Value.casesOn (motive:=fun Z=>β) x d d d (fun Z=>d) f (fun Z Z=>d) (fun Z Z=>d) (fun Z Z=>d) (fun Z=>d) (fun Z=>d) (fun Z=>d)
theorem gInt_k {β : Type} {P : β → Prop} {d : β} {f : Int → Tok → β} {x : Value} (h : P (gInt d f x)) (hd : P d → False) : Ex2 fun a b=>x = .int a b ∧ P (f a b):=by cases x <;> first | exact ⟨_,_,rfl,h⟩ | exact (hd h).elim
noncomputable def gStr {β : Type} (d : β) (f : Str → Tok → β) (x : Value) : β:=Value.casesOn (motive:=fun Z=>β) x d d d (fun Z=>d) (fun Z Z=>d) (fun Z Z=>d) f (fun Z Z=>d) (fun Z=>d) (fun Z=>d) (fun Z=>d)
theorem gStr_k {β : Type} {P : β → Prop} {d : β} {f : Str → Tok → β} {x : Value} (h : P (gStr d f x)) (hd : P d → False) : Ex2 fun a b=>x = .str a b ∧ P (f a b):=by cases x <;> first | exact ⟨_,_,rfl,h⟩ | exact (hd h).elim
noncomputable def gTy {β : Type} (d : β) (f : String → β) (x : Value) : β:=Value.casesOn (motive:=fun Z=>β) x d d d (fun Z=>d) (fun Z Z=>d) (fun Z Z=>d) (fun Z Z=>d) (fun Z Z=>d) f (fun Z=>d) (fun Z=>d)
theorem gTy_k {β : Type} {P : β → Prop} {d : β} {f : String → β} {x : Value} (h : P (gTy d f x)) (hd : P d → False) : ∃ a,x = .type a ∧ P (f a):=by cases x <;> first | exact ⟨_,rfl,h⟩ | exact (hd h).elim
noncomputable def gBi {β : Type} (d : β) (f : String → β) (x : Value) : β:=Value.casesOn (motive:=fun Z=>β) x d d d (fun Z=>d) (fun Z Z=>d) (fun Z Z=>d) (fun Z Z=>d) (fun Z Z=>d) (fun Z=>d) f (fun Z=>d)
theorem gBi_k {β : Type} {P : β → Prop} {d : β} {f : String → β} {x : Value} (h : P (gBi d f x)) (hd : P d → False) : ∃ a,x = .builtin a ∧ P (f a):=by cases x <;> first | exact ⟨_,rfl,h⟩ | exact (hd h).elim
noncomputable def gSt {β : Type} (d : β) (f : List Stmt → β) (x : FuncBody) : β:=FuncBody.casesOn (motive:=fun Z=>β) x f (fun Z=>d)
theorem gSt_k {β : Type} {P : β → Prop} {d : β} {f : List Stmt → β} {x : FuncBody} (h : P (gSt d f x)) (hd : P d → False) : ∃ a,x = .stmts a ∧ P (f a):=by cases x <;> first | exact ⟨_,rfl,h⟩ | exact (hd h).elim
noncomputable def allB (l : List Bool) : Bool:=l.all id
theorem al {l : List Bool} (h : allB l = true) (i : Nat) {b : Bool} (e : l[i]? = some b) : b = true:=allT h b (List.mem_of_getElem? e)
theorem ad {l : List Bool} (h : allB l = true) (i : Nat) {p : Prop} [Decidable p] (e : l[i]? = some (decide p)) : p:=of_decide_eq_true (al h i e)
theorem an {l : List Bool} (h : allB l = true) (i : Nat) {b : Bool} (e : l[i]? = some (!b)) : b = false:=by cases b;rfl;exact nomatch al h i e
theorem ae {l : List Bool} (h : allB l = true) (i : Nat) {α : Type} {x : List α} (e : l[i]? = some x.isEmpty) : x = []:=List.isEmpty_iff.mp (al h i e)
theorem ao {l : List Bool} (h : allB l = true) (i : Nat) {α : Type} {x : Option α} (e : l[i]? = some x.isNone) : x = none:=Option.isNone_iff_eq_none.mp (al h i e)
noncomputable def dictK (K : Frag) (a : Addr) : Option (Array DictEntry):=dO none (fun o=>gDict none (fun es Z=>some es) o.data) (K.lookup a)
noncomputable def funK (K : Frag) (a : Addr) : Option FuncData:=dO none (fun o=>gFunc none some o.data) (K.lookup a)
noncomputable def nsK (K : Frag) (a : Addr) (x : Str) : Option Value:=dO none (fun es=>nsFind es x) (dictK K a)
noncomputable def adK (K : Frag) (a : Addr) (x : Str) : Addr:=dO 0 (gRef 0 id) (nsK K a x)
noncomputable def fnmL : List Str:=fnames.map Str.ofString
noncomputable def faK (K : Frag) (f : Nat) : Addr:=dO 0 (adK K mainGlobals) fnmL[f]?
noncomputable def keysB (es : Array DictEntry) : Bool:=es.toList.all fun e=>gStr false (fun Z Z=>true) e.key
noncomputable def codeB (K : Frag) (fd : FuncData) : Bool:=gRef false (fun c=>dO false (fun o=>gFields false (fun vs=>dO false (gStr false fun q Z=>seq q fd.qualname) (vs[1]? : Option Value)) o.data) (K.lookup c)) fd.code
noncomputable def baseB (K : Frag) (fd : FuncData) : Bool:=allB [decide (fd.globals = mainGlobals),decide (fd.builtins = builtinsNs),codeB K fd]
noncomputable def defB (K : Frag) (f : Nat) (cs : CS) (ar nv : Nat) (vars : List String) : Bool:=dO false (fun fd=>allB [baseB K fd,fnB fnmL cs ar nv vars fd]) (funK K (faK K f))
noncomputable def noneB (o : Option Value) : Bool:=o.isNone
noncomputable def refB (o : Option Value) (a : Addr) : Bool:=dO false (gRef false fun b=>decide (b = a)) o
noncomputable def nameB (K : Frag) : Bool:=fnmL.all fun x=>allB [refB (nsK K mainGlobals x) (adK K mainGlobals x),(funK K (adK K mainGlobals x)).isSome]
noncomputable def freeB (K : Frag) : Bool := allB [[Bi.len, .ord, .chr, .str, .abs, .max, .min, .sum, .upper, .lower, .index, .join].all (fun b => noneB (nsK K mainGlobals (bnm b))), noneB (nsK K mainGlobals ("range" : Str)), noneB (nsK K mainGlobals ("enumerate" : Str)), noneB (nsK K mainGlobals ("Exception" : Str))]
section
variable {K : Frag} {h : Heap}
theorem dictK_get (X : K.In h) {a : Addr} {es : Array DictEntry} (e : dictK K a = some es) : Ex2 fun o ep=>h.get? a = some o ∧ o.data = .dict es ep:=by
 refine gG fun P0 hP0=>?_
 obtain ⟨o,hl,e⟩:=dO_k (P:=(· = some es)) e nofun
 obtain ⟨es',ep,hd,e⟩:=gDict_k (P:=(· = some es)) e nofun
 refine hP0 ?_
 exact ⟨o,ep,X a o hl,Option.some.inj e ▸ hd⟩
theorem funK_get (X : K.In h) {a : Addr} {fd : FuncData} (e : funK K a = some fd) : ∃ o,A3 (h.get? a = some o) (o.data = .func fd) (K.lookup a = some o):=by
 refine gG fun P0 hP0=>?_
 obtain ⟨o,hl,e⟩:=dO_k (P:=(· = some fd)) e nofun
 obtain ⟨fd',hd,e⟩:=gFunc_k (P:=(· = some fd)) e nofun
 refine hP0 ?_
 exact ⟨o,X a o hl,Option.some.inj e ▸ hd,hl⟩
theorem nsK_eq (X : K.In h) {a : Addr} {m : Str → Option Value} (hn : h.Ns a m) {es : Array DictEntry} (e : dictK K a = some es) (x : Str) : m x = nsK K a x:=by
 refine gG fun P0 hP0=>?_
 obtain ⟨o,ep,ho,hd⟩:=dictK_get X e
 obtain ⟨o',es',ep',ho',hd',_,hf⟩:=hn
 refine hP0 ?_
 obtain rfl:=sI (ho.symm.trans ho')
 obtain ⟨rfl,rfl⟩:=Data.dict.inj (hd.symm.trans hd')
 exact (hf x).symm.trans (congrArg (dO none fun es=>nsFind es x) e.symm)
theorem nsK_ns (X : K.In h) {a : Addr} {es : Array DictEntry} (e : dictK K a = some es) (hk : keysB es = true) : h.Ns a (nsK K a):=by
 obtain ⟨o,ep,ho,hd⟩:=dictK_get X e
 refine ⟨o,es,ep,ho,hd,fun en hen=>?_,fun x=>(congrArg (dO none fun es=>nsFind es x) e.symm)⟩
 obtain ⟨a,b,e,_⟩:=gStr_k (P:=(· = true)) (allT hk en (Array.mem_toList_iff.mpr hen)) no1
 exact ⟨a,b,e⟩
theorem noneB_eq {o : Option Value} (h : noneB o = true) : o = none:=Option.isNone_iff_eq_none.mp h
theorem refB_eq {o : Option Value} {a : Addr} (h : refB o a = true) : o = some (.ref a):=by
 obtain ⟨v,rfl,h⟩:=dO_k (P:=(· = true)) h no1
 obtain ⟨b,rfl,h⟩:=gRef_k (P:=(· = true)) h no1
 rw [of_decide_eq_true h]
theorem codeB_get (X : K.In h) {fd : FuncData} (e : codeB K fd = true) : h.CodeRec fd.code fd.qualname:=by
 refine gG fun P0 hP0=>?_
 obtain ⟨c,hc,e⟩:=gRef_k (P:=(· = true)) e no1
 obtain ⟨o,hl,e⟩:=dO_k (P:=(· = true)) e no1
 obtain ⟨vs,hd,e⟩:=gFields_k (P:=(· = true)) e no1
 obtain ⟨v,hv,e⟩:=dO_k (P:=(· = true)) e no1
 obtain ⟨q,t,rfl,e⟩:=gStr_k (P:=(· = true)) e no1
 refine hP0 ?_
 exact ⟨c,o,vs,t,hc,X c o hl,hd,seq_eq e ▸ hv⟩
theorem baseB_get (X : K.In h) {fd : FuncData} (e : baseB K fd = true) : fd.globals = mainGlobals ∧ fd.builtins = builtinsNs ∧ h.CodeRec fd.code fd.qualname :=
 ⟨ad e 0 rfl,ad e 1 rfl,codeB_get X (al e 2 rfl)⟩
theorem defB_get {c : Cx} (X : K.In c.base) {f : Nat} {cs : CS} {ar nv : Nat} {vars : List String} (e : defB K f cs ar nv vars = true) : DefAt c mainGlobals builtinsNs fnmL (faK K f) cs ar nv:=by
 refine gG fun P0 hP0=>?_
 obtain ⟨fd,hf,e⟩:=dO_k (P:=(· = true)) e no1
 obtain ⟨o,ho,hd,_⟩:=funK_get X hf
 obtain ⟨h1,h2,h3⟩:=baseB_get X (al e 0 rfl)
 refine hP0 ?_
 exact ⟨o,fd,vars,ho,hd,h1,h2,h3,al e 1 rfl⟩
noncomputable def defsB (K : Frag) (l : List (Nat × CS × Nat × Nat)) : List (List String) → Bool:=List.rec (motive:=fun Z=>List (List String) → Bool) (fun Z=>true)
 (fun x Z ih vs=>List.casesOn (motive:=fun Z=>Bool) vs false fun v vs=>allB [defB K x.1 x.2.1 x.2.2.1 x.2.2.2 v,ih vs]) l
theorem defsB_get {K : Frag} {l : List (Nat × CS × Nat × Nat)} : ∀ {vs : List (List String)},defsB K l vs = true → ∀ f cs ar nv,lookC f l = some (cs,ar,nv) → ∃ v,defB K f cs ar nv v = true:=by
 induction l with
 | nil=>intro _ _ _ _ _ _ e;cases e
 | cons x r ih =>
  intro vs h f cs ar nv e
  refine gG fun P0 hP0=>?_
  cases vs with
  | nil=>cases h
  | cons v vs =>
   refine hP0 ?_
   refine gG fun P0 hP0=>?_
   obtain ⟨g,x⟩:=x
   refine hP0 ?_
   have e : (if g = f then some x else lookC f r) = some (cs,ar,nv):=e
   by_cases hg : g = f
   ·rw [if_pos hg] at e;obtain rfl:=sI e;exact ⟨v,hg ▸ al h 0 rfl⟩
   ·rw [if_neg hg] at e;exact ih (al h 1 rfl) f cs ar nv e
end
noncomputable def dflB (K : Frag) (fd : FuncData) (f : List Value → Bool) : Bool:=gRef false (fun T=>dO false (fun o=>gSeq false (fun vs Z=>f vs.toList) o.data) (K.lookup T)) fd.defaults
noncomputable def plainB (K : Frag) (a : Addr) (ps globs : List String) (body : List Stmt → Bool) (dfl : List Value → Bool) : Bool := dO false (fun o => allB [gTy false (fun t => decide (t = "function")) o.cls, gFunc false (fun fd =>
 allB [baseB K fd,gSt false body fd.body,!fd.scope.isCoroutine,!fd.scope.isGenerator,decide (fd.scope.kind = .function),fd.scope.names.all (fun x=>!isC (some x.2)),ps.all (fun x=>isL (kOf fd.scope.names (Str.ofString x))),
  globs.all (fun x=>isG (kOf fd.scope.names (Str.ofString x))),fd.params.posonlyargs.isEmpty,decide (fd.params.args.map (fun a=>a.arg.cps.toList) = ps.map fun x=>(Str.ofString x).cps.toList),fd.params.vararg.isNone,fd.params.kwonlyargs.isEmpty,fd.params.kwarg.isNone,dflB K fd dfl]) o.data]) (K.lookup a)
theorem args_eq : ∀ (l : List Arg) (m : List String),(l.map fun a=>a.arg.cps.toList) = (m.map fun x=>(Str.ofString x).cps.toList) → l.map (·.arg) = m.map Str.ofString:=by
 intro l
 induction l with
 | nil=>intro m h;cases m with | nil=>rfl | cons _ _=>cases h
 | cons a l ih =>
  intro m h
  cases m with
  | nil=>cases h
  | cons x m =>
   injection h with h1 h2
   exact congr (congrArg List.cons (seq_eq (beq_iff_eq.mpr h1))) (ih m h2)
theorem plainB_get {K : Frag} {h : Heap} (X : K.In h) {a : Addr} {ps globs : List String} {body : List Stmt → Bool} {dfl : List Value → Bool} (e : plainB K a ps globs body dfl = true) :
  Ex2 fun b d=>A3 (body b = true) (dfl d = true) (PlainFn h mainGlobals builtinsNs a ps b d globs):=by
 refine gG fun P0 hP0=>?_
 obtain ⟨o,hl,e⟩:=dO_k (P:=(· = true)) e no1
 obtain ⟨t,hcls,e0⟩:=gTy_k (P:=(· = true)) (al e 0 rfl) no1
 obtain ⟨fd,hd,e⟩:=gFunc_k (P:=(· = true)) (al e 1 rfl) no1
 obtain ⟨b1,b2,b3⟩:=baseB_get X (al e 0 rfl)
 obtain ⟨b,hb,e2⟩:=gSt_k (P:=(· = true)) (al e 1 rfl) no1
 obtain ⟨T,hT,e3⟩:=gRef_k (P:=(· = true)) (al e 13 rfl) no1
 obtain ⟨oT,hlT,e3⟩:=dO_k (P:=(· = true)) e3 no1
 obtain ⟨vs,n,hdT,e3⟩:=gSeq_k (P:=(· = true)) e3 no1
 refine hP0 ?_
 exact ⟨b,vs.toList,e2,e3,⟨o,fd,T,oT,n,X a o hl,hcls.trans (congrArg Value.type (of_decide_eq_true e0)),hd,b1,b2,b3,hb,an e 2 rfl,an e 3 rfl,ad e 4 rfl,fun x hx q=>(by have:=allT (al e 5 rfl) x hx;cases (q) ▸ this),
  fun x hx=>isL_eq (allT (al e 6 rfl) x hx),fun x hx=>isG_eq (allT (al e 7 rfl) x hx),ae e 8 rfl,args_eq _ _ (ad e 9 rfl),ao e 10 rfl,ae e 11 rfl,ao e 12 rfl,hT,X T oT hlT,hdT⟩⟩
noncomputable def gL4 {α : Type} (f : α → α → α → α → Bool) (l : List α) : Bool:=List.casesOn (motive:=fun Z=>Bool) l false fun a l=>List.casesOn (motive:=fun Z=>Bool) l false fun b l=>List.casesOn (motive:=fun Z=>Bool) l false fun c l=>List.casesOn (motive:=fun Z=>Bool) l false fun d l=>List.casesOn (motive:=fun Z=>Bool) l (f a b c d) fun Z Z=>false
theorem gL4_k {α : Type} {f : α → α → α → α → Bool} {l : List α} (h : gL4 f l = true) : Ex4 fun a b c d=>l = [a,b,c,d] ∧ f a b c d = true:=by
 rcases l with _ | ⟨a,_ | ⟨b,_ | ⟨c,_ | ⟨d,_ | ⟨_,_⟩⟩⟩⟩⟩ <;> first | exact ⟨_,_,_,_,rfl,h⟩ | exact fT h
noncomputable def gL2 {α : Type} (f : α → List α → Bool) (l : List α) : Bool:=List.casesOn (motive:=fun Z=>Bool) l false f
theorem gL2_k {α : Type} {f : α → List α → Bool} {l : List α} (h : gL2 f l = true) : Ex2 fun a r=>l = a :: r ∧ f a r = true:=by
 cases l <;> first | exact ⟨_,_,rfl,h⟩ | exact fT h
theorem obj_eq {o : Obj} {t : String} {d : Data} {l : List (Option Value)} (h1 : o.cls = .type t) (h2 : o.data = d) (h3 : o.slots.toList = l) : o = ⟨.type t,o.dict,d,⟨l⟩⟩:=by
 obtain ⟨c,dd,d',⟨sl⟩⟩:=o;subst h1;subst h2;subst h3;rfl
theorem cd_eq {cd : ClassData} {m : List Value} (h1 : cd.mro = m) (h2 : cd.hasDict = true) (h3 : cd.hasDel = false) : cd = ⟨cd.name,cd.bases,m,cd.ns,cd.qualname,true,cd.slotNames,cd.subclasses,cd.abstract,cd.collection,false⟩:=by
 cases cd;subst h1;subst h2;subst h3;rfl
noncomputable def mroB (C : Addr) (l : List Value) : Bool := gL4 (fun x a b d => allB [gRef false (fun c => decide (c = C)) x, gTy false (fun a => decide (a = "Exception")) a, gTy false (fun a => decide (a = "BaseException")) b, gTy false (fun a => decide (a = "object")) d]) l
theorem mroB_get {C : Addr} {l : List Value} (h : mroB C l = true) : l = [.ref C, .type "Exception", .type "BaseException", .type "object"] := by
 obtain ⟨m1,m2,m3,m4,rfl,em⟩:=gL4_k h
 clear h
 obtain ⟨c1,rfl,g1⟩:=gRef_k (P:=(· = true)) (al em 0 rfl) no1
 obtain ⟨c2,rfl,g2⟩:=gTy_k (P:=(· = true)) (al em 1 rfl) no1
 obtain ⟨c3,rfl,g3⟩:=gTy_k (P:=(· = true)) (al em 2 rfl) no1
 obtain ⟨c4,rfl,g4⟩:=gTy_k (P:=(· = true)) (al em 3 rfl) no1
 rw [of_decide_eq_true g1,of_decide_eq_true g2,of_decide_eq_true g3,of_decide_eq_true g4]
noncomputable def slB (l : List (Option Value)) : Bool := gL2 (fun Z l => gL2 (fun Z l => gL4 (fun Z Z b Z => dO false (gBi false fun nw => decide (nw = "Exception.__new__")) b) l) l) l
theorem slB_get {l : List (Option Value)} (h : slB l = true) : Ex5 fun k0 k1 k2 k3 k5 => l = [k0, k1, k2, k3, some (.builtin "Exception.__new__"), k5] := by
 obtain ⟨k0,r,rfl,E4⟩:=gL2_k h
 obtain ⟨k1,r1,rfl,E5⟩:=gL2_k E4
 obtain ⟨k2,k3,v,k5,rfl,E6⟩:=gL4_k E5
 obtain ⟨b,rfl,E7⟩:=dO_k (P:=(· = true)) E6 no1
 obtain ⟨nw,rfl,E8⟩:=gBi_k (P:=(· = true)) E7 no1
 exact ⟨k0,k1,k2,k3,k5,by exact (of_decide_eq_true E8) ▸ rfl⟩
noncomputable def clsB (K : Frag) (C fI : Addr) : Bool := dO false (fun o => allB [gTy false (fun t => decide (t = "type")) o.cls, gCls false (fun cd =>
 allB [slB o.slots.toList, mroB C cd.mro, cd.hasDict, !cd.hasDel, refB (nsK K cd.ns ("__init__" : Str)) fI, noneB (nsK K cd.ns ("__setattr__" : Str)), dO false keysB (dictK K cd.ns),
  ["code", "value", "errorcode", "level", "ret", "info", "is_noted", "line", "extra"].all fun x => noneB (nsK K cd.ns (Str.ofString x))]) o.data]) (K.lookup C)
theorem clsB_get {K : Frag} {h : Heap} (X : K.In h) {C fI : Addr} (e : clsB K C fI = true) {oI : Obj} (hI : h.get? fI = some oI) (hIc : oI.cls = .type "function") : ClsOk h C fI ∧ ExcCls h C := by
 refine gG fun P0 hP0=>?_
 obtain ⟨o,hl,E1⟩:=dO_k (P:=(· = true)) e no1
 obtain ⟨t,e1,e0⟩:=gTy_k (P:=(· = true)) (al E1 0 rfl) no1
 obtain ⟨cd,e2,e⟩:=gCls_k (P:=(· = true)) (al E1 1 rfl) no1
 obtain ⟨k0,k1,k2,k3,k5,e3⟩:=slB_get (al e 0 rfl)
 obtain ⟨ed,hdk,hk⟩:=dO_k (P:=(· = true)) (al e 6 rfl) no1
 refine hP0 ?_
 have hC:=(X _ _ hl).trans (congrArg some ((obj_eq e1 (e2.trans (congrArg Data.cls (cd_eq (mroB_get (al e 1 rfl)) (al e 2 rfl) (an e 3 rfl)))) e3).trans (by rw [of_decide_eq_true e0])))
 exact ⟨⟨cd.name,cd.qualname,cd.ns,cd.bases,cd.slotNames,cd.subclasses,cd.abstract,cd.collection,o.dict,k0,k1,k2,k3,k5,_,nsK K cd.ns,oI,hC,rfl,nsK_ns X hdk hk,refB_eq (al e 4 rfl),hI,hIc,noneB_eq (al e 5 rfl),fun x hx=>noneB_eq (allT (al e 7 rfl) x hx)⟩,
  ⟨cd.name,cd.qualname,cd.ns,cd.bases,_,true,cd.slotNames,cd.subclasses,cd.abstract,cd.collection,o.dict,k0,k1,k2,k3,k5,_,hC,by decide⟩⟩
end
section
open PySem PySem.W PyProof.Rows
noncomputable def clsA (K : Frag) : Addr := adK K mainGlobals ("Raised" : Str)
noncomputable def iniA (K : Frag) : Addr := dO 0 (fun o => gCls 0 (fun cd => adK K cd.ns ("__init__" : Str)) o.data) (K.lookup (clsA K))
noncomputable def lawKB (K : Frag) : Bool:=dO false (fun fd=>allB [baseB K fd,fnB0 1 13 law_vars fd,gSt false (lawBb fnmL fd.scope.names (nmsOf fd.scope.names law_vars) c_law_turn) fd.body]) (funK K (faK K 50))
noncomputable def toldKB (K : Frag) : Bool := dO false (fun fd => allB [baseB K fd, fnB0 2 3 ["form", "words", "fault"] fd, gSt false (toldBb fnmL fd.scope.names (nmsOf fd.scope.names ["form", "words", "fault"])) fd.body]) (funK K (faK K 39))
noncomputable def intB (v : Value) : Bool:=gInt false (fun i Z=>decide (i = 0)) v
noncomputable def gaB (K : Frag) (C : Addr) : Bool := findIn K (.ref C) "__getattribute__" == some (some (.builtin "BaseException.__getattribute__")) && findIn K (.ref C) "__getattr__" == some none
noncomputable def excKB (K : Frag) : Bool := allB
  [refB (nsK K mainGlobals ("Raised" : Str)) (clsA K), clsB K (clsA K) (iniA K), keepIn K (.ref (clsA K)), gaB K (clsA K), hasDictIn K (clsA K), ["code", "value", "errorcode"].all (fun x => dO false Option.isNone (findIn K (.ref (clsA K)) (Str.ofString x))),
   plainB K (faK K 0) ["text", "errorcode"] ["Raised"] errBb (gL2 fun Z d => d.isEmpty),
   plainB K (iniA K) ["self", "code", "value", "errorcode", "level", "ret"] ["Exception"] initBb (gL2 fun Z => gL2 fun a => gL2 fun b d => allB [intB a, intB b, d.isEmpty])]
noncomputable def topB (K : Frag) : Bool:=allB [dO false keysB (dictK K mainGlobals),nameB K,freeB K,defsB K codes cvars,lawKB K,toldKB K,excKB K]
theorem nms_len (sc : Sc) (l : List String) : (nmsOf sc l).length = l.length:=by unfold nmsOf;rw [List.length_map]
section
variable {prog : Program} {w : World} {K : Frag} {h : Heap} {mg mb : Str → Option Value}
theorem top_world (X : K.In h) (hK : topB K = true) (hg : h.Ns mainGlobals mg) (hb : h.Ns builtinsNs mb) (hbt : ∀ x : Str, x ≠ "__name__" → mb x = bootBuiltins x) (hlim : h.NoLimit) (pa : Addr) (hpa : pa ≠ 0 → h.get? pa = none) :
  WorldOk ⟨prog, w, h, pa, clsA K⟩ mainGlobals builtinsNs fnmL (faK K) ∧ ErrOk ⟨prog, w, h, pa, clsA K⟩ mainGlobals builtinsNs (faK K 0) (iniA K) K ∧ ReadOk ⟨prog, w, h, pa, clsA K⟩ K ∧ mg ("Raised" : Str) = some (.ref (clsA K)) ∧
  (∀ f cs ar nv,lookC f codes = some (cs,ar,nv) → DefAt ⟨prog,w,h,pa,clsA K⟩ mainGlobals builtinsNs fnmL (faK K f) cs ar nv):=by
 refine gG fun P0 hP0=>?_
 obtain ⟨es,hdk,_⟩:=dO_k (P:=(· = true)) (al hK 0 rfl) no1
 have hmg : ∀ x,mg x = nsK K mainGlobals x:=fun x=>nsK_eq X hg hdk x
 have h6 : excKB K = true:=al hK 6 rfl
 obtain ⟨bE,dE,q1,q2,pE⟩:=plainB_get X (al h6 6 rfl)
 obtain ⟨bI,dI,q3,q4,pI⟩:=plainB_get X (al h6 7 rfl)
 obtain ⟨oI,fdI,_,_,_,hI,hIc,_⟩:=pI.ex
 obtain ⟨ck,ec⟩:=clsB_get X (al h6 1 rfl) hI hIc
 refine hP0 ?_
 have hra : mg ("Raised" : Str) = some (.ref (clsA K)) := (hmg _).trans (refB_eq (al h6 0 rfl))
 have h2 : freeB K = true:=al hK 2 rfl
 have hbn : ∀ b,mg (bnm b) = none:=fun b=>(hmg _).trans (noneB_eq (allT (al h2 0 rfl) b (List.mem_of_getElem? (i:=b.ctorIdx) (by cases b <;> rfl))))
 have hmex : mg ("Exception" : Str) = none := (hmg _).trans (noneB_eq (al h2 3 rfl))
 have hbv : ∀ b,isMeth b = false → mb (bnm b) = some (bval b):=fun b hm=>by
  cases b <;> first | (exfalso;revert hm;decide) | exact (hbt _ (by decide)).trans (by kernel_rfl)
 have hbr : mb ("range" : Str) = some (.type "range") := (hbt _ (by decide)).trans (by kernel_rfl)
 have hbe : mb ("enumerate" : Str) = some (.type "enumerate") := (hbt _ (by decide)).trans (by kernel_rfl)
 have hbx : mb ("Exception" : Str) = some (.type "Exception") := (hbt _ (by decide)).trans (by kernel_rfl)
 refine ⟨⟨ec,hpa,hlim,⟨mg,hg,hbn,(hmg _).trans (noneB_eq (al h2 1 rfl)),(hmg _).trans (noneB_eq (al h2 2 rfl)),fun f x hx=>?_⟩,⟨mb,hb,hbv,hbr,hbe⟩⟩,?_,?_,hra,fun f cs ar nv hl=>?_⟩
 ·have t:=allT (al hK 1 rfl) x (List.mem_of_getElem? hx)
  have hfa : faK K f = adK K mainGlobals x:=congrArg (dO 0 (adK K mainGlobals)) hx
  rw [hfa]
  refine gG fun P0 hP0=>?_
  obtain ⟨fd,hf⟩:=Option.isSome_iff_exists.mp (al t 1 rfl)
  obtain ⟨o,ho,hd,_⟩:=funK_get X hf
  refine hP0 ?_
  exact ⟨(hmg _).trans (refB_eq (al t 0 rfl)),o,fd,ho,hd⟩
 ·refine ⟨ck,X,al h6 2 rfl,hlim,?_,?_,⟨mg,mb,hg,hra,hmex,hb,hbx⟩⟩
  ·refine gG fun P0 hP0=>?_
   obtain ⟨d,r,rfl,qa⟩:=gL2_k q2
   refine hP0 ?_
   obtain rfl:=List.isEmpty_iff.mp qa
   exact ⟨bE,d,errBb_inv q1,pE⟩
  ·have key : ∀ v,intB v = true → ∃ t,v = .int 0 t:=fun v hv=>by
    refine gG fun P0 hP0=>?_
    obtain ⟨i,t,rfl,hv⟩:=gInt_k (P:=(· = true)) hv no1
    refine hP0 ?_
    exact ⟨t,congrArg (Value.int · t) (of_decide_eq_true hv)⟩
   refine gG fun P0 hP0=>?_
   obtain ⟨d,r1,rfl,qa⟩:=gL2_k q4
   obtain ⟨a,r2,rfl,qb⟩:=gL2_k qa
   obtain ⟨b,r3,rfl,qc⟩:=gL2_k qb
   obtain rfl:=List.isEmpty_iff.mp (al qc 2 rfl)
   obtain ⟨k1,rfl⟩:=key a (al qc 0 rfl)
   obtain ⟨k2,rfl⟩:=key b (al qc 1 rfl)
   refine hP0 ?_
   exact ⟨bI,d,k1,k2,initBb_inv q3,pI⟩
 ·have e4:=and2 (al h6 3 rfl)
  refine ⟨X,beq_iff_eq.mp e4.1,beq_iff_eq.mp e4.2,⟨_,ck⟩,al h6 4 rfl,fun x hx=>?_⟩
  refine gG fun P0 hP0=>?_
  obtain ⟨o,ho,e⟩:=dO_k (P:=(· = true)) (allT (al h6 5 rfl) x hx) no1
  refine hP0 ?_
  rw [ho,Option.isNone_iff_eq_none.mp e]
 ·refine gG fun P0 hP0=>?_
  obtain ⟨v,hv⟩:=defsB_get (al hK 3 rfl) f cs ar nv hl
  refine hP0 ?_
  exact defB_get (c:=⟨prog,w,h,pa,clsA K⟩) X hv
end
end
section
open PySem PySem.W PyProof.Rows
section
variable {prog : Program} {w : World} {K : Frag} {h : Heap} {mg mb : Str → Option Value}
theorem cons_top (X : K.In h) (hK : topB K = true) (hg : h.Ns mainGlobals mg) (hb : h.Ns builtinsNs mb) (hbt : ∀ x : Str, x ≠ "__name__" → mb x = bootBuiltins x) (hlim : h.NoLimit) (pa : Addr) (hpa : pa ≠ 0 → h.get? pa = none) :
  ∀ g,g < 50 → Con ⟨prog,w,h,pa,clsA K⟩ (lay 50) g (faK K g):=by
 refine gG fun P0 hP0=>?_
 obtain ⟨wo,eo,ro,hra,hdef⟩:=top_world (prog:=prog) (w:=w) X hK hg hb hbt hlim pa hpa
 obtain ⟨fd,hf,h5⟩:=dO_k (P:=(· = true)) (show toldKB K = true from al hK 5 rfl) no1
 obtain ⟨o,ho,hd,_⟩:=funK_get X hf
 obtain ⟨b1,b2,b3⟩:=baseB_get X (al h5 0 rfl)
 obtain ⟨body,hbd,t3⟩:=gSt_k (P:=(· = true)) (al h5 2 rfl) no1
 refine hP0 ?_
 exact con_all wo hdef (con_err eo) (fun ih=>con_told (fI:=0) (a0:=0) wo ro ⟨mg,hg,hra⟩ wo.cls ho hd b1 b2 b3 hbd (al h5 1 rfl) (toldBb_inv t3) ih) 50 (Nat.le_refl _)
noncomputable def PlainLaw : Prop:=∃ forms : List V,A4 (∀ p,lay 50 32 [] p = .ok (.lst forms) p) (noPens forms = true) (forms.length ≤ 1000) (∀ (is : List Int) (k : Nat) (row : V),forms[k]? = some row → ∀ q : Int,Ex3 fun l ys p1=>A4 (row = .lst l) (l.length ≤ 1000) (fieldsG (lay 50) l q = .ok ys p1) (Ex2 fun vs' p'=>A3 (csx (lay 50) fuel c_law_turn (vsT (.lst (is.map .int)) forms k row ys) p1 = .ok .next vs' p') (vs'[0]? = some (.val (.lst (is.map .int)))) (vs'[1]? = some (.val (.lst forms)))))
theorem reps_of_ints {w : World} {X : List Addr} {pa : Addr} : ∀ {is : List Int} {us : List Value},us.length = is.length → (∀ (i : Nat) (v : Value) (n : Int),us[i]? = some v → is[i]? = some n → ∃ t,v = .int n t) → Reps w h X pa us (is.map .int)
 | [],[],_,_=>trivial
 | n :: is,u :: us,hl,hg=>⟨hg 0 u n rfl rfl,reps_of_ints (by simpa using hl) fun i v m e1 e2=>hg (i + 1) v m (by exact e1) (by exact e2)⟩
 | [],_ :: _,hl,_=>by cases hl
 | _ :: _,[],hl,_=>by exact Nat.noConfusion hl
theorem law_call (PL : PlainLaw) {s : Shared} (X : K.In s.heap) (hK : topB K = true) (hg : s.heap.Ns mainGlobals mg) (hb : s.heap.Ns builtinsNs mb) (hbt : ∀ x : Str, x ≠ "__name__" → mb x = bootBuiltins x) (hlim : s.heap.NoLimit)
  (hsys : ∃ o,s.heap.get? sysModules = some o ∧ Nrm o) (h0 : ∃ o,s.heap.get? 0 = some o ∧ Nrm o) {A : Around} (hfr : A.frames = some []) (hh : A.handled = none) (hroom : A.depth + 60 ≤ recursionLimit) (hu : A.units + 600 < cLine)
  {sa : Addr} {us : List Value} {is : List Int} (hL : s.heap.IsList sa us.toArray) (hsa : sa ≠ sysModules ∧ sa ≠ 0) (hlen : us.length = is.length) (h63 : is.length ≤ 63) (hI : ∀ (i : Nat) (v : Value) (n : Int),us[i]? = some v → is[i]? = some n → ∃ t,v = .int n t)
  {R : Except Value Flow → Shared → Prop} (hR : ∀ h' tk',s.heap.StaysIn h' → R (.ok (.ret (.bool true))) { s with heap:=h',toks:=tk' }) :
  codeAny (model prog w) A (.call (.ref (faK K 50)) ⟨[.ref sa],[]⟩) R s:=by
 refine gG fun P0 hP0=>?_
 obtain ⟨forms,pf1,pf2,pf3,pf4⟩:=PL
 obtain ⟨wo,eo,ro,hra,hdef⟩:=top_world (prog:=prog) (w:=w) X hK hg hb hbt hlim 0 (fun q=>absurd rfl q)
 obtain ⟨fd,hf,hlaw⟩:=dO_k (P:=(· = true)) (show lawKB K = true from al hK 4 rfl) no1
 obtain ⟨o,ho,hd,_⟩:=funK_get X hf
 obtain ⟨b1,b2,b3⟩:=baseB_get X (al hlaw 0 rfl)
 obtain ⟨body,hbd,t3⟩:=gSt_k (P:=(· = true)) (al hlaw 2 rfl) no1
 refine hP0 ?_
 have hlive : ∀ x ∈ [sysModules,0],∃ o,s.heap.get? x = some o ∧ Nrm o:=fun x hx=>by
  rcases memc hx with rfl | hx
  ·exact hsys
  ·rcases memc hx with rfl | hx
   ·exact h0
   ·exact nM hx
 have hno : sa ∉ [sysModules,0]:=fun q=>by
  rcases memc q with q | q
  ·exact hsa.1 q
  ·rcases memc q with q | q
   ·exact hsa.2 q
   ·exact nM q
 have hbs : Bs ⟨prog,w,s.heap,0,clsA K⟩ [] [sysModules,0] 0 s.heap :=
  ⟨fun Z Z e=>e,trivial,fun q=>absurd rfl q,List.mem_cons_self,List.mem_cons_of_mem _ List.mem_cons_self,fun a ha=>(by exact nM ha),fun q=>(by exact nM q),hlive,h0⟩
 have hrep : Reps w s.heap [sysModules,0] 0 [.ref sa] [.lst (is.map .int)] :=
  ⟨⟨by rw [List.length_map];unfold SZ;lia,sa,us,rfl,hno,hL,reps_of_ints hlen hI⟩,trivial⟩
 refine codeAny_mono (call_genC (c:=⟨prog,w,s.heap,0,clsA K⟩) wo ho hd b1 b2 b3 hbd (al hlaw 1 rfl) (Γ:=lay 50) (ok:=fun Z=>True) (p:=0) (r:=.ok (.bool true) 0) (Q:=fun v s'=>v = .bool true ∧ Ex2 fun h' tk'=>s' = { s with heap:=h',toks:=tk' } ∧ s.heap.StaysIn h') (E:=fun Z Z=>False)
  hfr hh (by lia) (by lia) trivial (fun env f x hx X' ok' s' p' vs' ds' Q' E' hok' hb' hr' h'=>?_) hbs hrep rfl ?_ fun F fo f1 f2 f3 f4 f5 f6 X1 s1 Q' E' hs1 inv hPB=>?_) ?_
 ·by_cases hf50 : f < 50
  ·refine cons_top (prog:=prog) (w:=w) X hK hg hb hbt hlim 0 (fun q=>absurd rfl q) f hf50 (A.deeper env) (env :: []) X' ok' s' p' vs' ds' Q' E' ?_ hh ?_ ?_ hok' hb' hr' h'
   ·show A.frames.map (env :: ·) = _;rw [hfr];rfl
   ·show A.depth + 1 + f + 4 ≤ _;lia
   ·show A.units + 3 + 8 * f + 100 < _;lia
  ·change PE _ _ _ (lay 50 f ds' p') _ _ at h'
   rw [lay_ge 50 f ds' p' (by lia)] at h'
   exact h'.elim
 ·intro v h' tk' kk bb ov
  exact ⟨ov,h',tk',rfl,bb.stays⟩
 ·refine gG fun P0 hP0=>?_
  obtain ⟨hA,⟨hp1,tk1,rfl⟩,hQ⟩:=hs1
  refine hP0 ?_
  refine law_snd (n:=fuel) (lawT:=c_law_turn) (by rw [f2,f3,f4];exact lawBb_inv t3) (fun D hD=>?_) (by rw [f1]) (forms:=forms) (by rw [f5];exact pf1 _) pf2 pf3 (fun k row e q=>?_) inv fun D X' vs' p' h' tk' i=>?_
  ·have hcD : D ≠ 0 → s.heap.get? D = none:=fun hD0=>by
    rcases hD with q | q
    ·exact absurd q hD0
    ·have:=q.1;rw [f1] at this;exact this
   have hstD : ∀ b ∈ stor F.env,b ≠ D:=fun b hb' q=>by
    subst q
    rcases hD with q | q
    ·subst q
     refine gG fun P0 hP0=>?_
     obtain ⟨o0,e0,_⟩:=h0
     refine hP0 ?_
     have:=(fo.stb _ hb').1
     rw [f1] at this
     rw [show s.heap.get? 0 = none from this] at e0
     exact nS e0
    ·exact q.2 hb'
   have hcn:=cons_top (prog:=prog) (w:=w) X hK hg hb hbt hlim D hcD
   refine gG fun P0 hP0=>?_
   obtain ⟨woD,_⟩:=top_world (prog:=prog) (w:=w) X hK hg hb hbt hlim D hcD
   refine hP0 ?_
   have hc : (F.at D).c = ⟨prog,w,s.heap,D,clsA K⟩:=by show ({ F.c with pa:=D } : Cx) = _;rw [f1]
   refine ⟨fo.cls,fo.inter,fun q=>by rw [hc];exact hcD (by rw [hc] at q;exact q),fo.frame,fo.hfr,fun X'=>?_,fo.inj,fo.locc,fun b hb'=>⟨(fo.stb b hb').1,hstD b hb'⟩,fo.nmd⟩
   have ev:=fo.ev X'
   refine ⟨ktOk,ev.kind,ev.names,ev.cells,ev.hh,ev.hu,?_,ev.bl⟩
   refine gG fun P0 hP0=>?_
   obtain ⟨mg',w1,w2,w3,w4,w5⟩:=woD.gl
   refine hP0 ?_
   refine ⟨mg',?_,w2,w3,w4,fun f x hx=>?_⟩
   ·show F.c.base.Ns F.env.globals mg';rw [f1,f6];exact w1
   ·obtain ⟨w6,oo,fd',w7,w8⟩:=w5 f x (by rw [← f4];exact hx)
    refine ⟨faK K f,oo,fd',w6,by show F.c.base.get? _ = _;rw [f1];exact w7,w8,fun s p vs ds Q E bb rr hh'=>?_⟩
    change Bs (F.at D).c _ _ _ _ at bb
    change Reps (F.at D).c.w _ _ (F.at D).c.pa _ _ at rr
    change PE ⟨(F.at D).c,F.fs,X',F.ok,KpF (F.at D).c F.fs⟩ s (fun h v d=>Out (F.at D).c h X' v d) (F.Γ f ds p) Q E at hh'
    show wpAny (model (F.at D).c.prog (F.at D).c.w) F.A _ _ _ _
    rw [hc] at bb rr hh' ⊢
    rw [f5] at hh'
    by_cases hf50 : f < 50
    ·refine hcn f hf50 F.A F.fs X' F.ok s p vs ds Q E fo.hfr ev.hh ?_ ?_ (.inl rfl) bb rr hh'
     ·rw [hA];show A.depth + 1 + f + 4 ≤ _;lia
     ·rw [hA];show A.units + 3 + 8 * f + 100 < _;lia
    ·rw [lay_ge 50 f ds p (by lia)] at hh'
     exact hh'.elim
  ·rw [f5]
   exact pf4 (is.take 63) k row e q
  ·refine hQ _ _ ⟨rfl,h',tk',rfl,?_⟩
   have:=i.bs.stays
   exact fun a o e=>this a o (by show F.c.base.get? a = _;rw [f1];exact e)
 ·intro r s' hr
  split at hr
  ·refine gG fun P0 hP0=>?_
   obtain ⟨rfl,h',tk',rfl,st⟩:=hr
   refine hP0 ?_
   exact hR h' tk' st
  ·exact hr.elim
  ·exact hr.elim
end
end
section
open PySem PySem.W PyProof.Rows
theorem ns_nrm {h : Heap} {a : Addr} {m : Str → Option Value} (n : h.Ns a m) : ∃ o,h.get? a = some o ∧ Nrm o:=(by obtain ⟨o,_,_,e,hd,_⟩:=n;exact ⟨o,e,.inl fun Z q=>by exact PySem.Data.noConfusion ((hd).symm.trans q)⟩)
theorem list_ns_ne {h : Heap} {a b : Addr} {m : Str → Option Value} {vs : Array Value} (x : h.IsList b vs) (n : h.Ns a m) : b ≠ a:=fun q=>by
 subst q
 obtain ⟨o,es,ep,e,hd,_⟩:=n
 obtain ⟨o',e',_,_,hd'⟩:=x
 obtain rfl:=sI ((e).symm.trans e')
 exact PySem.Data.noConfusion ((hd).symm.trans hd')
theorem ints_get : ∀ {us : List Value} {is : List Int},IntsAre us is → ∀ (i : Nat) (v : Value) (n : Int),us[i]? = some v → is[i]? = some n → ∃ t,v = .int n t
 | _,_,.nil,i,_,_,e,_=>by simp at e
 | _,_,.cons k t r,0,_,_,e1,e2=>by obtain rfl:=sI e1;obtain rfl:=sI e2;exact ⟨_,rfl⟩
 | _,_,.cons k t r,i + 1,v,n,e1,e2=>ints_get r i v n (by simpa using e1) (by simpa using e2)
theorem law_close (PL : PlainLaw) {prog : Program} {w : World} {K : Frag} {mg mb : Str → Option Value} {s : Shared} (X : K.In s.heap) (hK : topB K = true) (hg : s.heap.Ns mainGlobals mg) (hb : s.heap.Ns builtinsNs mb) (hbt : ∀ x : Str, x ≠ "__name__" → mb x = bootBuiltins x) (hlim : s.heap.NoLimit) (hseer : s.heap.NoSeer)
  {fa : Addr} (hmg : mg ("law" : Str) = some (.ref fa)) (hgens : s.gens = #[]) {sa : Addr} {us : List Value} {is : List Int} (hL : s.heap.IsList sa us.toArray) (hI : IntsAre us is) (h63 : ¬ (63 : Int) < is.length)
  {c : ClaimW} {cl : Str → Option Addr} {mean : ExcName → Option Value} {args : List WData} (hr : ∀ cls,c.raises args cls = false) (hp : c.post args (.bool true) args = true) :
  codeAny (model prog w) callerA (.call (.ref fa) ⟨[.ref sa],[]⟩) (GoodW c cl mean args s) s:=by
 have hfa : fa = faK K 50:=by
  refine gG fun P0 hP0=>?_
  obtain ⟨wo,_⟩:=top_world (prog:=prog) (w:=w) X hK hg hb hbt hlim 0 (fun q=>absurd rfl q)
  obtain ⟨mg',n1,_,_,_,n2⟩:=wo.gl
  have e1 := (n2 50 ("law" : Str) rfl).1
  obtain ⟨o,es,ep,e,hd,_,hf⟩:=hg
  obtain ⟨o',es',ep',e',hd',_,hf'⟩:=n1
  refine hP0 ?_
  change s.heap.get? _ = _ at e'
  obtain rfl:=sI ((e).symm.trans e')
  obtain ⟨rfl,rfl⟩:=Data.dict.inj ((hd).symm.trans hd')
  rw [← hf] at hmg
  rw [← hf'] at e1;replace e1:=(hmg).symm.trans e1
  obtain rfl:=Value.ref.inj (sI e1);rfl
 subst hfa
 refine gG fun P0 hP0=>?_
 obtain ⟨mm,hm,_⟩:=hseer.mods
 refine hP0 ?_
 refine law_call PL X hK hg hb hbt hlim (ns_nrm hm) (ns_nrm hb) rfl rfl ?_ ?_ hL ⟨list_ns_ne hL hm,list_ns_ne hL hb⟩ hI.length (by lia) (ints_get hI) fun h' tk' st=>?_
 ·decide +kernel
 ·decide +kernel
 ·exact ⟨.inl ⟨_,_,[],rfl,hr,.bool true,hp,fun Z=>⟨List.nodup_nil,fun Z q=>by exact nM q⟩⟩,fun b o e=>st b o e,rfl,hgens⟩
end
section
section
variable {L : Nat} {p : Int} {f r : Tx} {n c : Nat}
theorem getI_cast {α : Type} (l : List α) (n : Nat) : getI l (n : Int) = l[n]?:=by
 unfold getI;rw [if_pos (Int.natCast_nonneg n)];rfl
theorem drop_get (h : f.drop n = c :: r) : f[n]? = some c:=by
 have:=congrArg (fun l=>l[0]?) h
 simpa using this
theorem drop_lt (h : f.drop n = c :: r) : n < f.length:=by
 have:=congrArg List.length h
 simp at this
 omega
theorem drop_ge (h : f.drop n = []) : f.length ≤ n:=by simpa using h
theorem drop_succ (h : f.drop n = c :: r) : f.drop (n + 1) = r:=by
 have:=congrArg (List.drop 1) h
 simpa [List.drop_drop] using this
theorem drop_add {a : Tx} (h : f.drop n = a ++ r) : f.drop (n + a.length) = r:=by
 have:=congrArg (List.drop a.length) h
 simpa [List.drop_drop] using this
theorem item_at (h : f.drop n = c :: r) : itemV (.str f) (.int n) p = some (.str [c]):=by
 show (getI f n).map _ = _
 rw [getI_cast,drop_get h];rfl
theorem lt_t (h : f.drop n = c :: r) : decide ((n : Int) < (f.length : Int)) = true:=decide_eq_true (by have:=drop_lt h;lia)
theorem lt_f (h : f.drop n = []) : decide ((n : Int) < (f.length : Int)) = false:=decide_eq_false (by have:=drop_ge h;lia)
noncomputable def digI (c : Nat) : Int:=if 48 ≤ c ∧ c ≤ 57 then c - 48 else if 97 ≤ c ∧ c ≤ 122 then c - 87 else if 65 ≤ c ∧ c ≤ 90 then c - 55 else -1
theorem digit_L (h : 2 < L) (c : Nat) : lay L 2 [.str [c]] p = .ok (.int (digI c)) p:=by
 unfold digI
 by_cases h1 : 48 ≤ c ∧ c ≤ 57
 ·rw [if_pos h1]
  exact def_ret h ⟨by decide,rfl⟩ rfl (q_iff rfl rfl rfl (q_asg rfl (q_itr (b_cmp2 rfl rfl rfl rfl rfl) (by simp;lia) (q_ret rfl) fun Z=>rfl)))
 ·rw [if_neg h1]
  by_cases h2 : 97 ≤ c ∧ c ≤ 122
  ·rw [if_pos h2]
   exact def_ret h ⟨by decide,rfl⟩ rfl (q_iff rfl rfl rfl (q_asg rfl (q_iff (b_cmp2 rfl rfl rfl rfl rfl) (by simp;lia) rfl (q_itr (b_cmp2 rfl rfl rfl rfl rfl) (by simp;lia) (q_ret rfl) fun Z=>rfl))))
  ·rw [if_neg h2]
   by_cases h3 : 65 ≤ c ∧ c ≤ 90
   ·rw [if_pos h3]
    exact def_ret h ⟨by decide,rfl⟩ rfl (q_iff rfl rfl rfl (q_asg rfl (q_iff (b_cmp2 rfl rfl rfl rfl rfl) (by simp;lia) rfl (q_iff (b_cmp2 rfl rfl rfl rfl rfl) (by simp;lia) rfl (q_itr (b_cmp2 rfl rfl rfl rfl rfl) (by simp;lia) (q_ret rfl) fun Z=>rfl)))))
   ·rw [if_neg h3]
    exact def_ret h ⟨by decide,rfl⟩ rfl (q_iff rfl rfl rfl (q_asg rfl (q_iff (b_cmp2 rfl rfl rfl rfl rfl) (by simp;lia) rfl (q_iff (b_cmp2 rfl rfl rfl rfl rfl) (by simp;lia) rfl (q_iff (b_cmp2 rfl rfl rfl rfl rfl) (by simp;lia) rfl (q_ret rfl))))))
theorem sign_at_L (h : 11 < L) (hd : f.drop n = r) : lay L 11 [.str f,.int n] p = .ok (.str (r.take 1)) p:=by
 refine def_ret h ⟨by decide,rfl⟩ rfl (q_ret (e_ite (b_cmp rfl rfl rfl) ?_))
 cases r with
 | nil=>rw [lt_f hd];rfl
 | cons c r=>rw [lt_t hd];exact e_item rfl rfl (item_at hd)
theorem place_loop {s : Nat} : ∀ (r : Tx) (n m : Nat), f.drop n = r → r.length < m → wloop (cevB (lay 12) (.and (.cmp (.var 2) .lt (.bi .len (.cons (.var 0) .nil))) (.cmp (.item (.var 0) (.var 2)) .ne (.var 1)))) (csx (lay 12) fuel (.aug 2 .add (.lit (.int 1)) .done)) m [.val (.str f), .val (.str [s]), .val (.int n)] p =
      .ok .next [.val (.str f), .val (.str [s]), .val (.int (n + (r.takeWhile (· != s)).length : Nat))] p
  | r, n, 0, _, hm => absurd hm (Nat.not_lt_zero _)
  | [], n, m + 1, hd, _ => w_f (b_and (u := false) (b_cmp rfl rfl rfl) fun q => (by rw [lt_f hd] at q; exact fT q)) (by rw [Bool.and_false])
  | c :: r, n, m + 1, hd, hm => by
    have hb := b_and (b_cmp (Γ := lay 12) (p := p) (vs := [.val (.str f), .val (.str [s]), .val (.int n)]) (a := .var 2) (b := .bi .len (.cons (.var 0) .nil)) (cp := .lt) rfl rfl rfl) (fun Z => b_cmp (cp := .ne) (b := .var 1) (e_item (a := .var 0) (b := .var 2) rfl rfl (item_at hd)) rfl rfl)
    rw [lt_t hd, Bool.true_and] at hb
    rw [List.takeWhile_cons]
    by_cases hs : c = s
    · subst hs
      have : (c != c) = false := by lia
      rw [this]
      exact w_f hb (by lia)
    · have : (c != s) = true := by simpa using hs
      rw [this]
      refine w_t hb (by simpa using hs) (q_aug rfl rfl rfl rfl) ?_
      refine (place_loop r (n + 1) m (drop_succ hd) (by simp at hm; assumption)).trans ?_
      rw [if_pos rfl, List.length_cons, show n + 1 + (r.takeWhile (· != s)).length = n + ((r.takeWhile (· != s)).length + 1) by lia]
theorem place_of_L (h : 12 < L) {s : Nat} (hd : f.drop n = r) (hl : r.length < 1000) : lay L 12 [.str f,.str [s],.int n] p = .ok (.int (n + (r.takeWhile (· != s)).length : Nat)) p :=
 def_ret h ⟨by decide,rfl⟩ rfl (q_whl (place_loop r n 1000 hd hl) (q_ret rfl))
noncomputable def isDig (c : Nat) : Bool:=decide (48 ≤ c) && decide (c ≤ 57)
theorem digI_dig (h : isDig c = true) : digI c = c - 48:=by
 unfold isDig at h;rw [Bool.and_eq_true,decide_eq_true_eq,decide_eq_true_eq] at h
 unfold digI;rw [if_pos h]
theorem dig_cond (c : Nat) : (decide (0 ≤ digI c) && decide (digI c < 10)) = isDig c:=by
 unfold isDig digI
 rw [Bool.eq_iff_iff]
 simp only [Bool.and_eq_true,decide_eq_true_eq]
 split
 ·lia
 ·split
  ·lia
  ·split <;> lia
theorem digits_loop : ∀ (r : Tx) (n m : Nat), f.drop n = r → r.length < m → wloop (cevB (lay 13) (.and (.cmp (.var 1) .lt (.var 2)) (.cmp2 (.lit (.int 0)) .le (.call 2 (.cons (.item (.var 0) (.var 1)) .nil)) .lt (.var 3)))) (csx (lay 13) fuel (.aug 1 .add (.lit (.int 1)) .done)) m [.val (.str f), .val (.int n), .val (.int f.length), .val (.int 10)] p =
      .ok .next [.val (.str f), .val (.int (n + (r.takeWhile isDig).length : Nat)), .val (.int f.length), .val (.int 10)] p
  | r, n, 0, _, hm => absurd hm (Nat.not_lt_zero _)
  | [], n, m + 1, hd, _ => w_f (b_and (u := false) (b_cmp rfl rfl rfl) fun q => (by rw [lt_f hd] at q; exact fT q)) (by rw [Bool.and_false])
  | c :: r, n, m + 1, hd, hm => by
    have hb := b_and (b_cmp (Γ := lay 13) (p := p) (vs := [.val (.str f), .val (.int n), .val (.int f.length), .val (.int 10)]) (a := .var 1) (b := .var 2) (cp := .lt) rfl rfl rfl)
      (fun Z => b_cmp2 (cp := .le) (cp' := .lt) (a := .lit (.int 0)) (d := .var 3) rfl (e_call (f := 2) (a := .cons (.item (.var 0) (.var 1)) .nil) (e_cons (e_item rfl rfl (item_at hd)) rfl) (digit_L (by decide) c) rfl) rfl rfl rfl)
    rw [lt_t hd, Bool.true_and, dig_cond] at hb
    rw [List.takeWhile_cons]
    cases hs : isDig c with
    | false => exact w_f hb hs
    | true =>
      refine w_t hb hs (q_aug rfl rfl rfl rfl) ?_
      refine (digits_loop r (n + 1) m (drop_succ hd) (by simp at hm; assumption)).trans ?_
      rw [if_pos rfl, List.length_cons, show n + 1 + (r.takeWhile isDig).length = n + ((r.takeWhile isDig).length + 1) by lia]
theorem digits_behind_L (h : 13 < L) (hd : f.drop n = r) (hl : r.length < 1000) : lay L 13 [.str f,.int n,.int f.length,.int 10] p = .ok (.int (n + (r.takeWhile isDig).length : Nat)) p :=
 def_ret h ⟨by decide,rfl⟩ rfl (q_whl (digits_loop r n 1000 hd hl) (q_ret rfl))
end
end
section
section
variable {Γ : Gam} {n i j : Nat} {vs vs1 vs2 : List Sl} {p p1 p2 p3 : Int} {R : RS} {e : CE} {x y : V} {l : List V} {b k : CS}
theorem q_for1 (h : cev Γ e vs p = .ok x p1) (hx : itemsV x = some l) (hl : floop (fun y vs p=>csx Γ n b (vs.set i (.val y)) p) l vs p1 = .ok .next vs1 p2) (hk : csx Γ n k vs1 p2 = R) : csx Γ n (.for1 i e b k) vs p = R:=bS h (dOe hx (nX hl hk))
theorem q_for1r (h : cev Γ e vs p = .ok x p1) (hx : itemsV x = some l) (hl : floop (fun y vs p=>csx Γ n b (vs.set i (.val y)) p) l vs p1 = R) (hr : ∀ f,R.next f = R) : csx Γ n (.for1 i e b k) vs p = R:=bS h (dOe hx (nR hl hr))
theorem q_for2 (h : cev Γ e vs p = .ok (.lst l) p1) (hl : floop2 (fun m y vs p=>csx Γ n b ((vs.set i (.val (.int m))).set j (.val y)) p) 0 l vs p1 = .ok .next vs1 p2) (hk : csx Γ n k vs1 p2 = R) : csx Γ n (.for2 i j e b k) vs p = R:=bS h (nX hl hk)
theorem q_for2r (h : cev Γ e vs p = .ok (.lst l) p1) (hl : floop2 (fun m y vs p=>csx Γ n b ((vs.set i (.val (.int m))).set j (.val y)) p) 0 l vs p1 = R) (hr : ∀ f,R.next f = R) : csx Γ n (.for2 i j e b k) vs p = R:=bS h (nR hl hr)
theorem q_newL (h : vs.all (fun s=>!s.isOwn) = true) (hk : csx Γ n k (vs.set i (.own [])) p = R) : csx Γ n (.newL i k) vs p = R:=iP h hk
theorem f_cons {B : V → List Sl → Int → RS} (h : B x vs p = .ok .next vs1 p1) (hk : floop B l vs1 p1 = R) : floop B (x :: l) vs p = R:=by rw [floop,h];exact hk
theorem f_ret {B : V → List Sl → Int → RS} (h : B x vs p = .ok (.ret y) vs1 p1) : floop B (x :: l) vs p = .ok (.ret y) vs1 p1:=by rw [floop,h];rfl
theorem f2_cons {m : Int} {B : Int → V → List Sl → Int → RS} (h : B m x vs p = .ok .next vs1 p1) (hk : floop2 B (m + 1) l vs1 p1 = R) : floop2 B m (x :: l) vs p = R:=by rw [floop2,h];exact hk
theorem f2_ret {m : Int} {B : Int → V → List Sl → Int → RS} (h : B m x vs p = .ok (.ret y) vs1 p1) : floop2 B m (x :: l) vs p = .ok (.ret y) vs1 p1:=by rw [floop2,h];rfl
end
section
variable {L : Nat} {p : Int} {f r : Tx} {n c : Nat}
noncomputable def dv (b : Int) (t : Tx) (v : Int) : Int:=t.foldl (fun v c=>v * b + digI c) v
theorem dv_loop {b : Int} (hb : b.natAbs < 2 ^ 63) {x : Sl} : ∀ (t : Tx) (v : Int) (s3 s4 : Sl),(∀ c ∈ t,0 ≤ digI c ∧ digI c < b) → ∃ s3' s4',
  floop (fun y vs p=>csx (lay 3) fuel (.asg 4 (.call 2 (.cons (.var 3) .nil)) (.ifs (.or (.cmp (.var 4) .lt (.lit (.int 0))) (.cmp (.var 4) .ge (.var 1))) (.ret (.lit .none)) .done (.asg 2 (.bin .add (.bin .mul (.var 2) (.var 1)) (.var 4)) .done))) (vs.set 3 (.val y)) p)
   (t.map fun c=>.str [c]) [x,.val (.int b),.val (.int v),s3,s4] p = .ok .next [x,.val (.int b),.val (.int (dv b t v)),s3',s4'] p
 | [],v,s3,s4,_=>⟨s3,s4,rfl⟩
 | c :: t,v,s3,s4,hg=>by
  obtain ⟨h1,h2⟩:=hg c List.mem_cons_self
  obtain ⟨s3',s4',ih⟩:=dv_loop hb t (v * b + digI c) (.val (.str [c])) (.val (.int (digI c))) fun d hd=>hg d (List.mem_cons_of_mem _ hd)
  refine ⟨s3',s4',f_cons (q_asg (e_call rfl (digit_L (by decide) c) rfl) (q_iff (b_or (u:=false) (b_cmp rfl rfl rfl) fun Z=>b_cmp rfl rfl (congrArg some (decide_eq_false (by lia)))) ?_ rfl (q_asg (e_bin (z:=.int (v * b + digI c)) (e_bin (z:=.int (v * b)) rfl rfl ?_) rfl rfl) rfl))) ih⟩
  ·rw [Bool.or_false];exact decide_eq_false (by lia)
  ·show (if _ then _ else _) = _;rw [if_pos (.inr hb)]
theorem digits_value_L (h : 3 < L) {b : Int} (hb : b.natAbs < 2 ^ 63) {t : Tx} (ht : t ≠ []) (hg : ∀ c ∈ t,0 ≤ digI c ∧ digI c < b) : lay L 3 [.str t,.int b] p = .ok (.int (dv b t 0)) p:=by
 obtain ⟨s3,s4,e⟩:=dv_loop (p:=p) hb (x:=.val (.str t)) t 0 .un .un hg
 refine def_ret h ⟨by decide,rfl⟩ rfl (q_iff rfl ?_ rfl (q_asg rfl (q_for1 rfl rfl e (q_ret rfl))))
 show (t == []) = false
 cases t with
 | nil=>exact absurd rfl ht
 | cons _ _=>rfl
theorem slice_at {α : Type} {l : List α} {n m : Nat} : sliceL l (some (n : Int)) (some (m : Int)) = some ((l.drop n).take (m - n)):=by
 unfold sliceL
 dsimp only
 refine (if_pos ⟨Int.natCast_nonneg n,Int.natCast_nonneg m⟩).trans ?_
 rfl
theorem bndV_int (i : Int) : bndV (.int i) = bndI i:=rfl
theorem bnd_nat {n : Nat} (h : n < 100000) : bndV (.int n) = some (some (n : Int)):=by
 have h2 : (n : Int) < 2 ^ 62:=Int.lt_trans (b:=100000) (by lia) (by decide)
 rw [bndV_int]
 unfold bndI
 exact if_pos h2
theorem slice_of {lo hi : V} {l h : Option Int} (h1 : bndV lo = some l) (h2 : bndV hi = some h) (f : Tx) : sliceV (.str f) lo hi = (sliceL f l h).map .str:=by
 unfold sliceV;refine (h1).symm ▸ ?_;refine (h2).symm ▸ ?_;rfl
theorem slice_ofL {lo hi : V} {l h : Option Int} (h1 : bndV lo = some l) (h2 : bndV hi = some h) (f : List V) : sliceV (.lst f) lo hi = (sliceL f l h).map .lst:=by
 unfold sliceV;refine (h1).symm ▸ ?_;refine (h2).symm ▸ ?_;rfl
theorem slice_str {n m : Nat} (hn : n < 100000) (hm : m < 100000) : sliceV (.str f) (.int n) (.int m) = some (.str ((f.drop n).take (m - n))) :=
 (slice_of (bnd_nat hn) (bnd_nat hm) f).trans (by rw [slice_at];rfl)
theorem take_tw (P : Nat → Bool) (r : Tx) : r.take (r.takeWhile P).length = r.takeWhile P:=by
 induction r with
 | nil=>rfl
 | cons a r ih =>
  rw [List.takeWhile_cons];split
  ·rw [List.length_cons,List.take_succ_cons,ih]
  ·rfl
theorem drop_tw (P : Nat → Bool) (r : Tx) : r.drop (r.takeWhile P).length = r.dropWhile P:=by
 induction r with
 | nil=>rfl
 | cons a r ih =>
  rw [List.takeWhile_cons,List.dropWhile_cons];split
  ·rw [List.length_cons,List.drop_succ_cons,ih]
  ·rfl
theorem tw_all {P : Nat → Bool} {r : Tx} : ∀ c ∈ r.takeWhile P,P c = true:=fun c hc=>by
 induction r with
 | nil=>cases hc
 | cons a r ih =>
  replace hc:=(List.takeWhile_cons) ▸ hc
  split at hc
  ·rcases memc hc with rfl | hc
   ·assumption
   ·exact ih hc
  ·exact nM hc
theorem len_of (hf : f.length < 1000) (hd : f.drop n = r) : r.length < 1000:=by refine (hd).symm.symm ▸ ?_;refine (List.length_drop).symm ▸ ?_;omega
theorem n_of (hf : f.length < 1000) (hd : f.drop n = c :: r) : n < 1000:=by have:=drop_lt hd;exact Nat.lt_trans (by assumption) (by assumption)
theorem tw_le (P : Nat → Bool) (r : Tx) : (r.takeWhile P).length ≤ r.length:=by
 have:=congrArg List.length (take_tw P r)
 replace this:=(List.length_take).symm.trans this
 lia
theorem dig_range {t : Tx} (h : ∀ c ∈ t,isDig c = true) : ∀ c ∈ t,0 ≤ digI c ∧ digI c < 10:=fun c hc=>by
 have:=h c hc
 rw [← dig_cond,Bool.and_eq_true,decide_eq_true_eq,decide_eq_true_eq] at this
 exact this
theorem read_digits_no (h : 14 < L) (hf : f.length < 1000) (hd : f.drop n = r) (hr : r.takeWhile isDig = []) : lay L 14 [.str f,.int n] p = .ok (.tup [.int (-1),.int n]) p:=by
 refine def_ret h ⟨by decide,rfl⟩ rfl (q_asg (e_call rfl (digits_behind_L (by decide) hd (len_of hf hd)) rfl) (q_itr rfl ?_ (q_ret rfl) fun Z=>rfl))
 exact (hr).symm ▸ beq_self_eq_true (n : Int)
theorem read_digits_yes (h : 14 < L) (hf : f.length < 1000) (hn : n < 1000) (hd : f.drop n = r) (hr : r.takeWhile isDig ≠ []) : lay L 14 [.str f,.int n] p = .ok (.tup [.int (dv 10 (r.takeWhile isDig) 0),.int (n + (r.takeWhile isDig).length : Nat)]) p:=by
 have hl:=len_of hf hd
 have hw:=tw_le isDig r
 have hs : sliceV (.str f) (.int n) (.int (n + (r.takeWhile isDig).length : Nat)) = some (.str (r.takeWhile isDig)):=by
  refine (slice_str (by lia) (by lia)).trans ?_;refine (hd).symm ▸ ?_;refine (show n + (r.takeWhile isDig).length - n = (r.takeWhile isDig).length by lia).symm ▸ ?_;rw [take_tw]
 refine def_ret h ⟨by decide,rfl⟩ rfl (q_asg (e_call rfl (digits_behind_L (by decide) hd hl) rfl) (q_iff rfl ?_ rfl (q_ret (e_tup (e_cons (e_call (e_cons (e_slc rfl rfl rfl hs) rfl) (digits_value_L (by decide) (by decide) hr (dig_range tw_all)) rfl) rfl) (by simp)))))
 have : (r.takeWhile isDig).length ≠ 0:=fun q=>hr (len0 q)
 exact beq_eq_false_iff_ne.mpr (by lia)
theorem read_place_no (h : 15 < L) (hf : f.length < 1000) (hn : n < 1000) (hd : f.drop n = r) (hr : r.takeWhile isDig = [] ∨ (r.dropWhile isDig).take 1 ≠ [36]) : lay L 15 [.str f,.int n] p = .ok (.tup [.int (-1),.int n]) p:=by
 by_cases h0 : r.takeWhile isDig = []
 ·exact def_ret h ⟨by decide,rfl⟩ rfl (q_asgT (e_call rfl (read_digits_no (by decide) hf hd h0) rfl) rfl (q_iff (b_and (u:=false) rfl fun q=>(by exact fT q)) (by rfl) rfl (q_ret rfl)))
 ·have hr' : ((r.dropWhile isDig).take 1 == [36]) = false:=beq_eq_false_iff_ne.mpr (hr.resolve_left h0)
  have hd' : f.drop (n + (r.takeWhile isDig).length) = r.dropWhile isDig:=by refine (List.drop_drop).symm.trans ?_;refine (hd).symm ▸ ?_;rw [drop_tw]
  exact def_ret h ⟨by decide,rfl⟩ rfl (q_asgT (e_call rfl (read_digits_yes (by decide) hf hn hd h0) rfl) rfl (q_iff (b_and (u:=false) rfl fun Z=>b_cmp (e_call rfl (sign_at_L (by decide) hd') rfl) rfl (congrArg some hr')) (by rw [Bool.and_false]) rfl (q_ret rfl)))
theorem read_place_yes (h : 15 < L) (hf : f.length < 1000) (hn : n < 1000) (hd : f.drop n = r) {t : Tx} (h0 : r.takeWhile isDig ≠ []) (hr : r.dropWhile isDig = 36 :: t) (hv : 0 ≤ dv 10 (r.takeWhile isDig) 0) : lay L 15 [.str f,.int n] p = .ok (.tup [.int (dv 10 (r.takeWhile isDig) 0),.int (n + (r.takeWhile isDig).length + 1 : Nat)]) p:=by
 have hd' : f.drop (n + (r.takeWhile isDig).length) = 36 :: t:=by rw [← List.drop_drop,hd,drop_tw,hr]
 exact def_ret h ⟨by decide,rfl⟩ rfl (q_asgT (e_call rfl (read_digits_yes (by decide) hf hn hd h0) rfl) rfl (q_itr (b_and (u:=true) rfl fun Z=>b_cmp (e_call rfl (sign_at_L (by decide) hd') rfl) rfl rfl) (by rw [Bool.and_true];exact decide_eq_true hv) (q_ret rfl) fun Z=>rfl))
end
end
section
abbrev EE:=Tx × List Tx
noncomputable def ofX {α : Type} (f : α → V) : Except EE α → Int → RE V
 | .ok a,p=>.ok (f a) p
 | .error e,p=>.exc e.1 e.2 p
noncomputable def eNW (pl : Bool) : EE:=if pl then ([34,37,110,36,34,32,97,114,103,117,109,101,110,116,32,105,110,100,101,120,32,111,117,116,32,111,102,32,114,97,110,103,101],[[84,67,76],[70,79,82,77,65,84],[73,78,68,69,88,82,65,78,71,69]]) else ([110,111,116,32,101,110,111,117,103,104,32,97,114,103,117,109,101,110,116,115,32,102,111,114,32,97,108,108,32,102,111,114,109,97,116,32,115,112,101,99,105,102,105,101,114,115],[[84,67,76],[70,79,82,77,65,84],[70,73,69,76,68,86,65,82,77,73,83,77,65,84,67,72]])
noncomputable def eRoom : EE:=([109,97,120,32,115,105,122,101,32,102,111,114,32,97,32,84,99,108,32,118,97,108,117,101,32,101,120,99,101,101,100,101,100],[[84,67,76],[70,79,82,77,65,84],[79,86,69,82,70,76,79,87]])
section
variable {L : Nat} {p : Int} {f r : Tx} {n c : Nat}
theorem error_L (h : 0 < L) {t : Tx} {cs : List V} {l : List Tx} (hs : strsOf cs = some l) : lay L 0 [.str t,.tup cs] p = .ok (.exc t l) p:=by
 exact (lay_at h).symm ▸ dOe hs rfl
theorem bad_field_L (h : 8 < L) (t k : Tx) : lay L 8 [.str t,.str k] p = .ok (.exc t [[84,67,76],[70,79,82,77,65,84],k]) p :=
 def_ret h ⟨by decide,rfl⟩ rfl (q_ret (e_callX rfl (error_L (by decide) rfl)))
theorem beyond_L (h : 10 < L) : lay L 10 [] p = .ok (.exc (eNW true).1 (eNW true).2) p :=
 def_ret h ⟨by decide,rfl⟩ rfl (q_ret (e_callX rfl (bad_field_L (by decide) _ _)))
theorem need_word_ok (h : 20 < L) {i m : Nat} (hi : i < m) (pl : Bool) : lay L 20 [.int i,.int m,.bool pl] p = .ok .none p :=
 def_ret h ⟨by decide,rfl⟩ rfl (q_itr (b_cmp2 rfl rfl rfl rfl rfl) (by simp;exact hi) (q_ret rfl) fun Z=>rfl)
theorem need_word_x (h : 20 < L) {i m : Nat} (hi : m ≤ i) (pl : Bool) : lay L 20 [.int i,.int m,.bool pl] p = .exc (eNW pl).1 (eNW pl).2 p:=by
 cases pl with
 | true=>exact def_exc h ⟨by decide,rfl⟩ rfl (q_iff (b_cmp2 rfl rfl rfl rfl rfl) (by simp;exact hi) rfl (q_itr rfl rfl (q_rai (e_callX rfl (beyond_L (by decide)))) fun Z=>rfl))
 | false=>exact def_exc h ⟨by decide,rfl⟩ rfl (q_iff (b_cmp2 rfl rfl rfl rfl rfl) (by simp;exact hi) rfl (q_iff rfl rfl rfl (q_rai (e_callX rfl (bad_field_L (by decide) _ _)))))
theorem two31 : binV .shl (.int 1) (.int 31) = some (.int 2147483648):=rfl
theorem need_room_ok (h : 19 < L) {m : Int} (hm : m < 2147483648) : lay L 19 [.int m] p = .ok .none p :=
 def_nxt h ⟨by decide,rfl⟩ rfl (q_iff (b_cmp rfl (e_bin rfl rfl two31) rfl) (decide_eq_false (by lia)) rfl rfl)
theorem need_room_x (h : 19 < L) {m : Int} (hm : 2147483648 ≤ m) : lay L 19 [.int m] p = .exc eRoom.1 eRoom.2 p :=
 def_exc h ⟨by decide,rfl⟩ rfl (q_itr (b_cmp rfl (e_bin rfl rfl two31) rfl) (decide_eq_true hm) (q_rai (e_callX rfl (bad_field_L (by decide) _ _))) fun Z=>rfl)
noncomputable def szR (t1 t2 : Tx) : Tx × Nat:=if (t1 == [108] && t2 == [108]) then ([98,105,103],2) else if t1 == [76] then ([98,105,103],1) else if [[108],[106],[113],[122],[116]].contains t1 then ([108],1) else if t1 == [104] then ([104],1) else ([],0)
theorem read_size_L (h : 16 < L) (hd : f.drop n = r) : lay L 16 [.str f,.int n] p = .ok (.tup [.str (szR (r.take 1) ((r.drop 1).take 1)).1,.int (n + (szR (r.take 1) ((r.drop 1).take 1)).2 : Nat)]) p:=by
 have hd2 : f.drop (n + 1) = r.drop 1:=by exact (List.drop_drop).symm.trans (congrArg _ (hd))
 have s1:=fun L' (hL : 11 < L')=>sign_at_L (p:=p) hL hd
 have s2:=fun L' (hL : 11 < L')=>sign_at_L (p:=p) hL hd2
 generalize r.take 1 = t1 at s1 ⊢
 generalize (r.drop 1).take 1 = t2 at s2 ⊢
 have hA : ∀ {vs : List Sl},vs = [.val (.str f),.val (.int n),.val (.str t1)] → cevB (lay 16) (.and (.cmp (.var 2) .eq (.lit (.str [108]))) (.cmp (.call 11 (.cons (.var 0) (.cons (.bin .add (.var 1) (.lit (.int 1))) .nil))) .eq (.lit (.str [108])))) vs p = .ok (t1 == [108] && t2 == [108]) p:=by
  intro vs e;subst e
  exact b_and (b_cmp rfl rfl rfl) fun Z=>b_cmp (e_call rfl (s2 16 (by decide)) rfl) rfl rfl
 unfold szR
 cases h1 : (t1 == [108] && t2 == [108]) with
 | true =>
  exact (if_pos rfl).symm ▸ def_ret h ⟨by decide,rfl⟩ rfl (q_asg (e_call rfl (s1 16 (by decide)) rfl) (q_itr (hA rfl) h1 (q_ret rfl) fun Z=>rfl))
 | false =>
  refine (if_neg Bool.false_ne_true).symm ▸ ?_
  cases h2 : (t1 == [76]) with
  | true =>
   exact (if_pos rfl).symm ▸ def_ret h ⟨by decide,rfl⟩ rfl (q_asg (e_call rfl (s1 16 (by decide)) rfl) (q_iff (hA rfl) h1 rfl (q_itr (b_cmp rfl rfl rfl) h2 (q_ret rfl) fun Z=>rfl)))
  | false =>
   refine (if_neg Bool.false_ne_true).symm ▸ ?_
   cases h3 : [[108],[106],[113],[122],[116]].contains t1 with
   | true =>
    exact (if_pos rfl).symm ▸ def_ret h ⟨by decide,rfl⟩ rfl (q_asg (e_call rfl (s1 16 (by decide)) rfl) (q_iff (hA rfl) h1 rfl (q_iff (b_cmp rfl rfl rfl) h2 rfl (q_itr (b_cmp rfl rfl rfl) h3 (q_ret rfl) fun Z=>rfl))))
   | false =>
    refine (if_neg Bool.false_ne_true).symm ▸ ?_
    cases h4 : (t1 == [104]) with
    | true =>
     exact (if_pos rfl).symm ▸ def_ret h ⟨by decide,rfl⟩ rfl (q_asg (e_call rfl (s1 16 (by decide)) rfl) (q_iff (hA rfl) h1 rfl (q_iff (b_cmp rfl rfl rfl) h2 rfl (q_iff (b_cmp rfl rfl rfl) h3 rfl (q_itr (b_cmp rfl rfl rfl) h4 (q_ret rfl) fun Z=>rfl)))))
    | false =>
     exact (if_neg Bool.false_ne_true).symm ▸ def_ret h ⟨by decide,rfl⟩ rfl (q_asg (e_call rfl (s1 16 (by decide)) rfl) (q_iff (hA rfl) h1 rfl (q_iff (b_cmp rfl rfl rfl) h2 rfl (q_iff (b_cmp rfl rfl rfl) h3 rfl (q_iff (b_cmp rfl rfl rfl) h4 rfl (q_ret rfl))))))
noncomputable def isFl (c : Nat) : Bool:=[[45],[43],[32],[48],[35]].contains [c]
theorem flags_loop {a : V} : ∀ (r : Tx) (n m : Nat), f.drop n = r → r.length < m → wloop (cevB (lay 28) (.cmp (.call 11 (.cons (.var 0) (.cons (.var 2) .nil))) .inn (.tup (.cons (.lit (.str [45])) (.cons (.lit (.str [43])) (.cons (.lit (.str [32])) (.cons (.lit (.str [48])) (.cons (.lit (.str [35])) .nil)))))))) (csx (lay 28) fuel (.aug 2 .add (.lit (.int 1)) .done)) m [.val (.str f), .val a, .val (.int n)] p =
      .ok .next [.val (.str f), .val a, .val (.int (n + (r.takeWhile isFl).length : Nat))] p
  | r, n, 0, _, hm => absurd hm (Nat.not_lt_zero _)
  | [], n, m + 1, hd, _ => w_f (c := false) (b_cmp (e_call rfl (sign_at_L (by decide) hd) rfl) rfl rfl) rfl
  | c :: r, n, m + 1, hd, hm => by
    have hb : cevB (lay 28) (.cmp (.call 11 (.cons (.var 0) (.cons (.var 2) .nil))) .inn (.tup (.cons (.lit (.str [45])) (.cons (.lit (.str [43])) (.cons (.lit (.str [32])) (.cons (.lit (.str [48])) (.cons (.lit (.str [35])) .nil))))))) [.val (.str f), .val a, .val (.int n)] p = .ok (isFl c) p := b_cmp (e_call rfl (sign_at_L (by decide) hd) rfl) rfl rfl
    rw [List.takeWhile_cons]
    cases hs : isFl c with
    | false => exact w_f hb hs
    | true =>
      refine w_t hb hs (q_aug rfl rfl rfl rfl) ?_
      refine (flags_loop r (n + 1) m (drop_succ hd) (by simp at hm; assumption)).trans ?_
      rw [if_pos rfl, List.length_cons, show n + 1 + (r.takeWhile isFl).length = n + ((r.takeWhile isFl).length + 1) by lia]
theorem read_flags_L (h : 28 < L) (hf : f.length < 1000) (hn : n < 1000) (hd : f.drop n = r) : lay L 28 [.str f,.int n] p = .ok (.tup [.str (r.takeWhile isFl),.int (n + (r.takeWhile isFl).length : Nat)]) p:=by
 have hl:=len_of hf hd
 have hw:=tw_le isFl r
 have hs : sliceV (.str f) (.int n) (.int (n + (r.takeWhile isFl).length : Nat)) = some (.str (r.takeWhile isFl)):=by
  refine (slice_str (by lia) (by lia)).trans ?_;refine (hd).symm ▸ ?_;refine (show n + (r.takeWhile isFl).length - n = (r.takeWhile isFl).length by lia).symm ▸ ?_;rw [take_tw]
 exact def_ret h ⟨by decide,rfl⟩ rfl (q_asg rfl (q_whl (flags_loop r n 1000 hd hl) (q_ret (e_tup (e_cons (e_slc rfl rfl rfl hs) rfl) (by simp)))))
end
end
section
set_option genCtorIdx true in
inductive Ms | no | star | dig (ds : Tx)
noncomputable def mtx : Ms → Tx | .no=>[] | .star=>[42] | .dig ds=>ds
noncomputable def measK : Ms → Nat | .star=>1 | _=>0
noncomputable def ni (t : Tx) : Except EE Int:=match lay 50 18 [.str t] 0 with | .ok (.int i) _=>.ok i | .exc t c _=>.error (t,c) | _=>.error ([],[])
noncomputable def NIok (t : Tx) : Prop:=∀ L p,18 < L → lay L 18 [.str t] p = ofX .int (ni t) p
noncomputable def measR (m : Ms) (ws : List Tx) (pl : Bool) : Except EE (Option Int):=match m with
 | .no=>.ok none
 | .dig ds=>.ok (some (dv 10 ds 0))
 | .star=>match ws with
  | w :: _ :: _=>(match ni w with | .ok i=>.ok (some i) | .error e=>.error e)
  | _=>.error (eNW pl)
noncomputable def MsOk (m : Ms) (r : Tx) : Prop:=match m with
 | .no=>Ex2 fun c t=>A3 (r = c :: t) (c ≠ 42) (isDig c = false)
 | .star=>True
 | .dig ds=>ds ≠ [] ∧ (∀ c ∈ ds,isDig c = true) ∧ Ex2 fun c t=>r = c :: t ∧ isDig c = false
noncomputable def optV : Option Int → V | none=>.none | some i=>.int i
section
variable {L : Nat} {p : Int} {f r : Tx} {n c i : Nat} {A ws : List Tx} {pl : Bool} {m : Ms}
theorem le3 (a b c : V) : [a,b,c].length ≤ 1000:=by simp
theorem tw_app {P : Nat → Bool} {a b : Tx} (ha : ∀ c ∈ a,P c = true) (hb : ∀ c t,b = c :: t → P c = false) : (a ++ b).takeWhile P = a ∧ (a ++ b).dropWhile P = b:=by
 induction a with
 | nil=>cases b with
  | nil=>exact ⟨rfl,rfl⟩
  | cons c t=>rw [List.nil_append,List.takeWhile_cons,List.dropWhile_cons,hb c t rfl];exact ⟨rfl,rfl⟩
 | cons x a ih =>
  have:=ih fun c hc=>ha c (List.mem_cons_of_mem _ hc)
  rw [List.cons_append,List.takeWhile_cons,List.dropWhile_cons,ha x List.mem_cons_self,if_pos rfl,if_pos rfl,this.1,this.2]
  exact ⟨rfl,rfl⟩
theorem args_at {w : Tx} {ws : List Tx} (hA : A.drop i = w :: ws) : itemV (.lst (A.map .str)) (.int i) p = some (.str w):=by
 show getI (A.map V.str) (i : Int) = some (V.str w)
 rw [getI_cast,List.getElem?_map]
 have:=congrArg (fun l=>l[0]?) hA
 have e : A[i]? = some w:=by simpa using this
 rw [e];rfl
theorem args_lt {w : Tx} {ws : List Tx} (hA : A.drop i = w :: ws) : i < A.length:=by
 have:=congrArg List.length hA
 simp at this
 omega
theorem args_len (hA : A.drop i = ws) (hi : i ≤ A.length) : A.length = i + ws.length:=by
 have:=congrArg List.length hA
 rw [List.length_drop] at this
 lia
theorem e_lenA {Γ : Gam} {vs : List Sl} {j : Nat} (h : vs[j]? = some (.val (.lst (A.map .str)))) : cev Γ (.bi .len (.cons (.var j) .nil)) vs p = .ok (.int A.length) p:=by
 have e : cev Γ (.var j) vs p = .ok (.lst (A.map .str)) p:=e_var h
 refine e_bi (e_cons e rfl) ?_
 show some (V.int ((A.map V.str).length : Nat)) = _
 rw [List.length_map]
theorem measure_L (h : 29 < L) (hf : f.length < 1000) (hn : n < 1000) (hd : f.drop n = mtx m ++ r) (hm : MsOk m r) (hA : A.drop i = ws) (hi : i ≤ A.length) (hne : ws ≠ []) (hni : m = .star → ∀ w ∈ ws.head?,NIok w) :
  lay L 29 [.str f,.int n,.lst (A.map .str),.int i,.bool pl] p = ofX (fun v=>.tup [optV v,.int (i + measK m : Nat),.int (n + (mtx m).length : Nat)]) (measR m ws pl) p:=by
 cases m with
 | no =>
  obtain ⟨c,t,rfl,h1,h2⟩:=hm
  have htw : (c :: t).takeWhile isDig = []:=by rw [List.takeWhile_cons,h2];rfl
  refine def_ret h ⟨by decide,rfl⟩ rfl (q_iff (b_cmp (e_call rfl (sign_at_L (by decide) hd) rfl) rfl rfl) ?_ rfl (q_asgT (e_call rfl (read_digits_no (by decide) hf hd htw) rfl) rfl (q_ret (e_tup (e_cons (e_ite rfl rfl) rfl) (le3 _ _ _)))))
  show ([c] == [42]) = false
  exact beq_eq_false_iff_ne.mpr fun q=>h1 (by injection q)
 | dig ds =>
  obtain ⟨h1,h2,c,t,rfl,h3⟩:=hm
  obtain ⟨e1,_⟩:=tw_app (P:=isDig) h2 (b:=c :: t) (fun c' t' q=>by obtain ⟨rfl,rfl⟩:=cI q;exact h3)
  have hnn : 0 ≤ dv 10 ds 0:=by
   have : ∀ (ds : Tx) (v : Int),0 ≤ v → (∀ c ∈ ds,isDig c = true) → 0 ≤ dv 10 ds v:=fun ds=>by
    induction ds with
    | nil=>exact fun v hv Z=>hv
    | cons d ds ih=>exact fun v hv hg=>ih _ (by have:=(dig_range (t:=d :: ds) hg d List.mem_cons_self).1;show 0 ≤ v * 10 + digI d;lia) fun c hc=>hg c (List.mem_cons_of_mem _ hc)
   exact this ds 0 (Int.le_refl _) h2
  have hd' : f.drop n = ds ++ c :: t:=hd
  have hrd:=read_digits_yes (p:=p) (L:=29) (by decide) hf hn hd' (by rw [e1];exact h1)
  rw [e1] at hrd
  refine def_ret h ⟨by decide,rfl⟩ rfl (q_iff (b_cmp (e_call rfl (sign_at_L (by decide) hd') rfl) rfl rfl) ?_ rfl (q_asgT (e_call rfl hrd rfl) rfl (q_ret (e_tup (e_cons (e_ite (z:=.int (dv 10 ds 0)) (b_cmp rfl rfl rfl) ?_) rfl) (le3 _ _ _)))))
  ·cases ds with
   | nil=>exact absurd rfl h1
   | cons d ds =>
    show ([d] == [42]) = false
    refine beq_eq_false_iff_ne.mpr fun q=>?_
    have:=h2 d List.mem_cons_self
    injection q with q;subst q
    exact fT this
  ·rw [decide_eq_false (by lia),if_neg Bool.false_ne_true];rfl
 | star =>
  have hd' : f.drop n = 42 :: r:=hd
  cases ws with
  | nil=>exact absurd rfl hne
  | cons w ws =>
   have hlen:=args_len hA hi
   rw [List.length_cons] at hlen
   cases ws with
   | nil =>
    have hnw:=need_word_x (p:=p) (L:=29) (by decide) (i:=i + 1) (m:=A.length) (by simp at hlen;lia) pl
    exact def_exc h ⟨by decide,rfl⟩ rfl (q_itr (b_cmp (e_call rfl (sign_at_L (by decide) hd') rfl) rfl rfl) rfl (q_expx (e_callx (e_cons rfl (e_cons (e_lenA rfl) rfl)) hnw)) fun Z=>rfl)
   | cons w2 ws =>
    have hnw:=need_word_ok (p:=p) (L:=29) (by decide) (i:=i + 1) (m:=A.length) (by simp at hlen;lia) pl
    have hw:=hni rfl w rfl 29 p (by decide)
    show _ = ofX _ (match ni w with | .ok i=>Except.ok (some i) | .error e=>Except.error e) p
    cases hx : ni w with
    | ok x =>
     rw [hx] at hw
     exact def_ret h ⟨by decide,rfl⟩ rfl (q_itr (b_cmp (e_call rfl (sign_at_L (by decide) hd') rfl) rfl rfl) rfl (q_exp (e_call (e_cons rfl (e_cons (e_lenA rfl) rfl)) hnw rfl) (q_ret (e_tup (e_cons (e_call (e_cons (e_item rfl rfl (args_at hA)) rfl) hw rfl) rfl) (le3 _ _ _)))) fun Z=>rfl)
    | error e =>
     rw [hx] at hw
     exact def_exc h ⟨by decide,rfl⟩ rfl (q_itr (b_cmp (e_call rfl (sign_at_L (by decide) hd') rfl) rfl rfl) rfl (q_exp (e_call (e_cons rfl (e_cons (e_lenA rfl) rfl)) hnw rfl) (q_retx (e_tupx (e_consx (e_callx (e_cons (e_item rfl rfl (args_at hA)) rfl) hw))))) fun Z=>rfl)
end
end
section
noncomputable def fld (so word fl : Tx) (W P : Int) (sz : Tx) : Except EE Tx:=match lay 50 27 [.str so,.str word,.str fl,.int W,.int P,.str sz] 0 with | .ok (.str s) _=>.ok s | .exc t c _=>.error (t,c) | _=>.error ([],[])
noncomputable def FOk (so word fl : Tx) (W P : Int) (sz : Tx) : Prop:=∀ L p,27 < L → lay L 27 [.str so,.str word,.str fl,.int W,.int P,.str sz] p = ofX .str (fld so word fl W P sz) p
noncomputable def szN (r : Tx) : Tx × Nat:=szR (r.take 1) ((r.drop 1).take 1)
noncomputable def prTx : Option Ms → Tx | none=>[] | some m=>46 :: mtx m
noncomputable def prK : Option Ms → Nat | none=>0 | some m=>measK m
noncomputable def prV : Option Int → Int | none=>0 | some n=>if n < 0 then 0 else n
noncomputable def prR (pr : Option Ms) (ws : List Tx) (pl : Bool) : Except EE Int:=match pr with
 | none=>.ok (-1)
 | some m=>match measR m ws pl with | .ok o=>.ok (prV o) | .error e=>.error e
noncomputable def wV : Option Int → Int | none=>0 | some n=>n
noncomputable def wA (o : Option Int) : Int:=if wV o < 0 then -wV o else wV o
noncomputable def wF (o : Option Int) (fl : Tx) : Tx:=if wV o < 0 then fl ++ [45] else fl
structure Fs where
 fl : Tx
 w : Ms
 pr : Option Ms
 sz : Tx
 so : Nat
noncomputable def Fs.k (F : Fs) : Nat:=measK F.w + prK F.pr
noncomputable def Fs.sn (F : Fs) : Tx:=(szN (F.sz ++ [F.so])).1
noncomputable def putR (F : Fs) (ws : List Tx) (pl : Bool) : Except EE Tx:=match ws with
 | []=>.error (eNW pl)
 | _ :: _=>match measR F.w ws pl with
  | .error e=>.error e
  | .ok o=>if 2147483648 ≤ wA o then .error eRoom else match prR F.pr (ws.drop (measK F.w)) pl with
   | .error e=>.error e
   | .ok P=>fld [F.so] ((ws.drop F.k).headD []) (wF o F.fl) (wA o) P F.sn
noncomputable def Fs.tx (F : Fs) : Tx:=F.fl ++ (mtx F.w ++ (prTx F.pr ++ (F.sz ++ [F.so])))
structure FsOk (F : Fs) : Prop where
 fl : ∀ c ∈ F.fl,isFl c = true
 nf : ∀ c t,mtx F.w ++ (prTx F.pr ++ (F.sz ++ [F.so])) = c :: t → isFl c = false
 w : ∀ r,MsOk F.w (prTx F.pr ++ (F.sz ++ F.so :: r))
 pr : ∀ m,F.pr = some m → ∀ r,MsOk m (F.sz ++ F.so :: r)
 npr : F.pr = none → ∀ r,MsOk .no (F.sz ++ F.so :: r)
 ndot : F.pr = none → ∀ c t,F.sz ++ [F.so] = c :: t → c ≠ 46
 sz : ∀ r,szN (F.sz ++ F.so :: r) = ((szN (F.sz ++ [F.so])).1,F.sz.length)
section
variable {L : Nat} {p : Int} {f r : Tx} {n c i : Nat} {A ws : List Tx} {pl : Bool} {m : Ms}
theorem measR_len {o : Option Int} (h : measR m ws pl = .ok o) (hne : ws ≠ []) : measK m < ws.length:=by
 cases m with
 | no=>exact lenP hne
 | dig ds=>exact lenP hne
 | star =>
  match ws,h with
  | _ :: _ :: _,_=>simp [measK]
  | [_],h=>cases h
  | [],h=>cases h
theorem pf_none {K : CS} {o : Option Int} {a0 a1 a2 a3 a4 a5 a7 a8 a9 a10 : Sl} : csx (lay 30) fuel (.ifs (.cmp (.var 6) .is (.lit .none)) (.asg 6 (.lit (.int 0)) .done) .done K) [a0,a1,a2,a3,a4,a5,.val (optV o),a7,a8,a9,a10] p = csx (lay 30) fuel K [a0,a1,a2,a3,a4,a5,.val (.int (wV o)),a7,a8,a9,a10] p:=by
 cases o with
 | none=>exact q_ift rfl rfl rfl rfl
 | some n=>exact q_iff rfl rfl rfl rfl
theorem pf_neg {K : CS} {o : Option Int} {fl : Tx} (hfl : fl.length < 1000) {a0 a1 a2 a3 a4 a7 a8 a9 a10 : Sl} : csx (lay 30) fuel (.ifs (.cmp (.var 6) .lt (.lit (.int 0))) (.asg 5 (.bin .add (.var 5) (.lit (.str [45]))) (.asg 6 (.neg (.var 6)) .done)) .done K) [a0,a1,a2,a3,a4,.val (.str fl),.val (.int (wV o)),a7,a8,a9,a10] p = csx (lay 30) fuel K [a0,a1,a2,a3,a4,.val (.str (wF o fl)),.val (.int (wA o)),a7,a8,a9,a10] p:=by
 unfold wF wA
 by_cases h : wV o < 0
 ·rw [if_pos h,if_pos h]
  refine q_ift rfl (decide_eq_true h) (q_asg (e_bin (z:=.str (fl ++ [45])) rfl rfl ?_) (q_asg rfl rfl)) rfl
  show (if fl.length + 1 ≤ SZ then _ else _) = _
  rw [if_pos (by unfold SZ;lia)]
 ·rw [if_neg h,if_neg h]
  exact q_iff rfl (decide_eq_false h) rfl rfl
theorem n_lt (hf : f.length < 1000) {l : Tx} (h : f.drop n = l) (hl : l ≠ []) : n < 1000:=by
 cases l with
 | nil=>exact absurd rfl hl
 | cons c l=>exact n_of hf h
theorem pf_tail (hf : f.length < 1000) {sz fl : Tx} {so : Nat} {W P : Int} {x : Tx} {ws : List Tx} (hsz : ∀ r,szN (sz ++ so :: r) = ((szN (sz ++ [so])).1,sz.length)) (hd : f.drop n = sz ++ so :: r) (hA : A.drop i = x :: ws)
  (hF : FOk [so] x fl W P (szN (sz ++ [so])).1) {a4 a7 a8 a10 : Sl} : ∃ vs',csx (lay 30) fuel (.asgT [10,1] (.call 16 (.cons (.var 0) (.cons (.var 1) .nil))) (.ret (.tup (.cons (.call 27 (.cons (.call 11 (.cons (.var 0) (.cons (.var 1) .nil))) (.cons (.item (.var 2) (.var 3)) (.cons (.var 5) (.cons (.var 6) (.cons (.var 9) (.cons (.var 10) .nil))))))) (.cons (.var 3) (.cons (.bin .add (.var 1) (.lit (.int 1))) .nil))))))
   [.val (.str f),.val (.int n),.val (.lst (A.map .str)),.val (.int i),a4,.val (.str fl),.val (.int W),a7,a8,.val (.int P),a10] p =
  (match fld [so] x fl W P (szN (sz ++ [so])).1 with | .ok t=>.ok (.ret (.tup [.str t,.int i,.int (n + (sz.length + 1) : Nat)])) vs' p | .error e=>.exc e.1 e.2 p):=by
 have h1:=read_size_L (p:=p) (L:=30) (by decide) hd
 have h2:=hsz r
 unfold szN at h2
 rw [h2] at h1
 have hd2 : f.drop (n + sz.length) = so :: r:=drop_add hd
 have h3:=hF 30 p (by decide)
 refine ⟨[.val (.str f),.val (.int (n + sz.length : Nat)),.val (.lst (A.map .str)),.val (.int i),a4,.val (.str fl),.val (.int W),a7,a8,.val (.int P),.val (.str (szN (sz ++ [so])).1)],?_⟩
 refine q_asgT (e_call rfl h1 rfl) rfl ?_
 have hargs : cevs (lay 30) (.cons (.call 11 (.cons (.var 0) (.cons (.var 1) .nil))) (.cons (.item (.var 2) (.var 3)) (.cons (.var 5) (.cons (.var 6) (.cons (.var 9) (.cons (.var 10) .nil))))))
   [.val (.str f),.val (.int (n + sz.length : Nat)),.val (.lst (A.map .str)),.val (.int i),a4,.val (.str fl),.val (.int W),a7,a8,.val (.int P),.val (.str (szN (sz ++ [so])).1)] p = .ok [.str [so],.str x,.str fl,.int W,.int P,.str (szN (sz ++ [so])).1] p :=
  e_cons (e_call rfl (sign_at_L (by decide) hd2) rfl) (e_cons (e_item rfl rfl (args_at hA)) rfl)
 cases hx : fld [so] x fl W P (szN (sz ++ [so])).1 with
 | ok t =>
  rw [hx] at h3
  exact q_ret (e_tup (e_cons (e_call hargs h3 rfl) rfl) (le3 _ _ _))
 | error e =>
  rw [hx] at h3
  exact q_retx (e_tupx (e_consx (e_callx hargs h3)))
theorem pf_end (h : 30 < L) {args : List V} (hl : args.length = 5:=by rfl) {x : Except EE Tx} {vs' : List Sl} {j : V} {l : V}
  (key : csx (lay 30) fuel c_put_field (args.map .val ++ List.replicate (11 - 5) .un) p = (match x with | .ok t=>.ok (.ret (.tup [.str t,j,l])) vs' p | .error e=>.exc e.1 e.2 p)) : lay L 30 args p = ofX (fun t=>.tup [.str t,j,l]) x p:=by
 cases x with
 | ok t=>exact def_ret h ⟨by decide,rfl⟩ hl key
 | error e=>exact def_exc h ⟨by decide,rfl⟩ hl key
theorem put_field_L (h : 30 < L) {F : Fs} (ok : FsOk F) (hf : f.length < 1000) (hn : n < 1000) (hd : f.drop n = F.tx ++ r) (hA : A.drop i = ws) (hi : i ≤ A.length)
  (hni : F.w = .star → ∀ w ∈ ws.head?,NIok w) (hnp : F.pr = some .star → ∀ w ∈ (ws.drop (measK F.w)).head?,NIok w)
  (hF : ∀ o P x,measR F.w ws pl = .ok o → ¬ 2147483648 ≤ wA o → prR F.pr (ws.drop (measK F.w)) pl = .ok P → (ws.drop F.k).head? = some x → FOk [F.so] x (wF o F.fl) (wA o) P F.sn) :
  lay L 30 [.str f,.int n,.lst (A.map .str),.int i,.bool pl] p = ofX (fun t=>.tup [.str t,.int (i + F.k : Nat),.int (n + F.tx.length : Nat)]) (putR F ws pl) p:=by
 obtain ⟨fl,w,pr,sz,so⟩:=F
 obtain ⟨hfl,hnf,hw,hpr,hnpr,hndot,hsz⟩:=ok
 dsimp only at hfl hnf hw hpr hnpr hndot hsz hni hnp hF
 cases ws with
 | nil =>
  have hnw:=need_word_x (p:=p) (L:=30) (by decide) (i:=i) (m:=A.length) (by have:=args_len hA hi;simp at this;lia) pl
  exact def_exc h ⟨by decide,rfl⟩ rfl (q_expx (e_callx (e_cons rfl (e_cons (e_lenA rfl) rfl)) hnw))
 | cons w0 ws =>
  generalize hws : w0 :: ws = wz at *
  have hne : wz ≠ []:=by rw [← hws];simp
  have hput : putR ⟨fl,w,pr,sz,so⟩ wz pl = match measR w wz pl with
   | .error e=>.error e
   | .ok o=>if 2147483648 ≤ wA o then .error eRoom else match prR pr (wz.drop (measK w)) pl with
    | .error e=>.error e
    | .ok P=>fld [so] ((wz.drop (Fs.k ⟨fl,w,pr,sz,so⟩)).headD []) (wF o fl) (wA o) P (Fs.sn ⟨fl,w,pr,sz,so⟩):=by rw [← hws];rfl
  rw [hput]
  have hnw:=need_word_ok (p:=p) (L:=30) (by decide) (i:=i) (m:=A.length) (by rw [← hws] at hA;exact args_lt hA) pl
  have hd0 : f.drop n = fl ++ (mtx w ++ (prTx pr ++ (sz ++ so :: r))):=by rw [hd];simp [Fs.tx]
  have hlen:=len_of hf hd0
  have hfll : fl.length < 1000:=by rw [List.length_append] at hlen;lia
  have hnf' : ∀ c t,mtx w ++ (prTx pr ++ (sz ++ so :: r)) = c :: t → isFl c = false:=fun c t e=>by
   have e' : (mtx w ++ (prTx pr ++ (sz ++ [so]))) ++ r = c :: t:=by rw [← e];simp
   cases hh : mtx w ++ (prTx pr ++ (sz ++ [so])) with
   | nil=>simp at hh
   | cons c' t'=>rw [hh] at e';obtain ⟨rfl,rfl⟩:=cI e';exact hnf _ _ hh
  have hfg:=read_flags_L (p:=p) (L:=30) (by decide) hf hn hd0
  rw [(tw_app hfl hnf').1] at hfg
  have hd1:=drop_add hd0
  have hn1 : n + fl.length < 1000:=n_lt hf hd1 (by simp)
  have hme:=measure_L (p:=p) (pl:=pl) (L:=30) (by decide) hf hn1 hd1 (hw r) hA hi hne hni
  cases hm : measR w wz pl with
  | error e =>
   rw [hm] at hme
   exact def_exc h ⟨by decide,rfl⟩ rfl (q_exp (e_call (e_cons rfl (e_cons (e_lenA rfl) rfl)) hnw rfl) (q_asgT (e_call rfl hfg rfl) rfl (q_asgTx (e_callx rfl hme))))
  | ok o =>
   rw [hm] at hme
   dsimp only
   by_cases hW : 2147483648 ≤ wA o
   ·rw [if_pos hW]
    exact def_exc h ⟨by decide,rfl⟩ rfl (q_exp (e_call (e_cons rfl (e_cons (e_lenA rfl) rfl)) hnw rfl) (q_asgT (e_call rfl hfg rfl) rfl (q_asgT (e_call rfl hme rfl) rfl (pf_none.trans ((pf_neg hfll).trans (q_expx (e_callx rfl (need_room_x (by decide) hW))))))))
   ·rw [if_neg hW]
    have hd2 : f.drop (n + fl.length + (mtx w).length) = prTx pr ++ (sz ++ so :: r):=drop_add hd1
    have hn2 : n + fl.length + (mtx w).length < 1000:=n_lt hf hd2 (by simp)
    have hmk:=measR_len hm hne
    have hil : A.length = i + wz.length:=args_len hA hi
    have hA2 : A.drop (i + measK w) = wz.drop (measK w):=by rw [← List.drop_drop,hA]
    have hne2 : wz.drop (measK w) ≠ []:=fun q=>by rw [List.drop_eq_nil_iff] at q;lia
    cases pr with
    | none =>
     have hme2:=measure_L (p:=p) (pl:=pl) (L:=30) (m:=.no) (by decide) hf hn2 hd2 (hnpr rfl r) hA2 (by lia) hne2 (fun q=>by exact Ms.noConfusion q)
     obtain ⟨x,wr,hx⟩ : Ex2 fun x wr=>wz.drop (measK w) = x :: wr:=by
      cases hq : wz.drop (measK w) with
      | nil=>exact absurd hq hne2
      | cons x wr=>exact ⟨x,wr,rfl⟩
     have hP : prR none (wz.drop (measK w)) pl = .ok (-1):=rfl
     have hfo:=hF o (-1) x hm hW hP (by show (wz.drop (measK w + 0)).head? = _;rw [Nat.add_zero,hx];rfl)
     obtain ⟨vs',ht⟩:=pf_tail (p:=p) (a4:=.val (.bool pl)) (a7:=.val (.bool false)) (a8:=.val (optV none)) (a10:=.un) hf hsz hd2 (hA2.trans hx) hfo
     have hsg : cev (lay 30) (.cmp (.call 11 (.cons (.var 0) (.cons (.var 1) .nil))) .eq (.lit (.str [46]))) [.val (.str f),.val (.int (n + fl.length + (mtx w).length : Nat)),.val (.lst (A.map .str)),.val (.int (i + measK w : Nat)),.val (.bool pl),.val (.str (wF o fl)),.val (.int (wA o)),.un,.un,.un,.un] p = .ok (.bool false) p:=by
      refine e_cmp (e_call rfl (sign_at_L (by decide) hd2) rfl) rfl (congrArg some ?_)
      refine beq_eq_false_iff_ne.mpr fun q=>?_
      cases hh : sz ++ [so] with
      | nil=>simp at hh
      | cons c t =>
       have:=hndot rfl c t hh
       have e2 : (prTx none ++ (sz ++ so :: r)).take 1 = [c]:=by
        have : prTx none ++ (sz ++ so :: r) = (sz ++ [so]) ++ r:=by simp [prTx]
        rw [this,hh];rfl
       rw [e2] at q
       injection q with q
       exact this q
     have hk : Fs.k ⟨fl,w,none,sz,so⟩ = measK w:=rfl
     have key : csx (lay 30) fuel c_put_field [.val (.str f),.val (.int n),.val (.lst (A.map .str)),.val (.int i),.val (.bool pl),.un,.un,.un,.un,.un,.un] p = _:=q_exp (e_call (e_cons rfl (e_cons (e_lenA rfl) rfl)) hnw rfl) (q_asgT (e_call rfl hfg rfl) rfl (q_asgT (e_call rfl hme rfl) rfl (pf_none.trans ((pf_neg hfll).trans (q_exp (e_call rfl (need_room_ok (by decide) (by lia)) rfl) (q_asg hsg (q_iff rfl rfl rfl (q_asgT (e_call rfl hme2 rfl) rfl (q_asg rfl (q_iff rfl rfl rfl ht))))))))))
     rw [hP]
     dsimp only
     rw [hk,hx]
     have hl : n + fl.length + (mtx w).length + (sz.length + 1) = n + (Fs.tx ⟨fl,w,none,sz,so⟩).length:=by simp [Fs.tx,prTx];lia
     rw [hl] at key
     exact pf_end h rfl key
    | some m =>
     have hd3 : f.drop (n + fl.length + (mtx w).length + 1) = mtx m ++ (sz ++ so :: r):=drop_succ hd2
     have hn3 : n + fl.length + (mtx w).length + 1 < 1000:=n_lt hf hd3 (by simp)
     have hme2:=measure_L (p:=p) (pl:=pl) (L:=30) (by decide) hf hn3 hd3 (hpr m rfl r) hA2 (by lia) hne2 (fun q=>hnp (by rw [q]))
     have hsg : cev (lay 30) (.cmp (.call 11 (.cons (.var 0) (.cons (.var 1) .nil))) .eq (.lit (.str [46]))) [.val (.str f),.val (.int (n + fl.length + (mtx w).length : Nat)),.val (.lst (A.map .str)),.val (.int (i + measK w : Nat)),.val (.bool pl),.val (.str (wF o fl)),.val (.int (wA o)),.un,.un,.un,.un] p = .ok (.bool true) p :=
      e_cmp (e_call rfl (sign_at_L (by decide) hd2) rfl) rfl rfl
     cases hm2 : measR m (wz.drop (measK w)) pl with
     | error e =>
      rw [hm2] at hme2
      have hP : prR (some m) (wz.drop (measK w)) pl = .error e:=by unfold prR;dsimp only;rw [hm2]
      rw [hP]
      exact def_exc h ⟨by decide,rfl⟩ rfl (q_exp (e_call (e_cons rfl (e_cons (e_lenA rfl) rfl)) hnw rfl) (q_asgT (e_call rfl hfg rfl) rfl (q_asgT (e_call rfl hme rfl) rfl (pf_none.trans ((pf_neg hfll).trans (q_exp (e_call rfl (need_room_ok (by decide) (by lia)) rfl) (q_asg hsg (q_ift rfl rfl (q_aug rfl rfl rfl rfl) (q_asgTx (e_callx rfl hme2))))))))))
     | ok P0 =>
      rw [hm2] at hme2
      have hP : prR (some m) (wz.drop (measK w)) pl = .ok (prV P0):=by unfold prR;dsimp only;rw [hm2]
      have hmk2:=measR_len hm2 hne2
      rw [List.length_drop] at hmk2
      have hd4 : f.drop (n + fl.length + (mtx w).length + 1 + (mtx m).length) = sz ++ so :: r:=drop_add hd3
      have hk : Fs.k ⟨fl,w,some m,sz,so⟩ = measK w + measK m:=rfl
      have hA3 : A.drop (i + measK w + measK m) = wz.drop (measK w + measK m):=by rw [Nat.add_assoc,← List.drop_drop,hA]
      obtain ⟨x,wr,hx⟩ : Ex2 fun x wr=>wz.drop (measK w + measK m) = x :: wr:=by
       cases hq : wz.drop (measK w + measK m) with
       | nil=>rw [List.drop_eq_nil_iff] at hq;lia
       | cons x wr=>exact ⟨x,wr,rfl⟩
      have hfo:=hF o (prV P0) x hm hW hP (by rw [hk,hx];rfl)
      obtain ⟨vs',ht⟩:=pf_tail (p:=p) (a4:=.val (.bool pl)) (a7:=.val (.bool true)) (a8:=.val (optV P0)) (a10:=.un) hf hsz hd4 (hA3.trans hx) hfo
      have hpv : cev (lay 30) (.ite (.cmp (.var 8) .is (.lit .none)) (.lit (.int 0)) (.bi .max (.cons (.var 8) (.cons (.lit (.int 0)) .nil)))) [.val (.str f),.val (.int (n + fl.length + (mtx w).length + 1 + (mtx m).length : Nat)),.val (.lst (A.map .str)),.val (.int (i + measK w + measK m : Nat)),.val (.bool pl),.val (.str (wF o fl)),.val (.int (wA o)),.val (.bool true),.val (optV P0),.val (.int (-1)),.un] p = .ok (.int (prV P0)) p:=by
       cases P0 with
       | none=>exact e_ite rfl rfl
       | some P=>exact e_ite rfl rfl
      have key : csx (lay 30) fuel c_put_field [.val (.str f),.val (.int n),.val (.lst (A.map .str)),.val (.int i),.val (.bool pl),.un,.un,.un,.un,.un,.un] p = _:=q_exp (e_call (e_cons rfl (e_cons (e_lenA rfl) rfl)) hnw rfl) (q_asgT (e_call rfl hfg rfl) rfl (q_asgT (e_call rfl hme rfl) rfl (pf_none.trans ((pf_neg hfll).trans (q_exp (e_call rfl (need_room_ok (by decide) (by lia)) rfl) (q_asg hsg (q_ift rfl rfl (q_aug rfl rfl rfl rfl) (q_asgT (e_call rfl hme2 rfl) rfl (q_asg rfl (q_ift rfl rfl (q_asg hpv rfl) ht))))))))))
      rw [hP]
      dsimp only
      rw [hk,hx]
      have hl : n + fl.length + (mtx w).length + 1 + (mtx m).length + (sz.length + 1) = n + (Fs.tx ⟨fl,w,some m,sz,so⟩).length:=by simp [Fs.tx,prTx];lia
      rw [hl,Nat.add_assoc i] at key
      exact pf_end h rfl key
end
end
section
noncomputable def fmtT : CE:=.cmp (.var 3) .lt (.bi .len (.cons (.var 0) .nil))
noncomputable def fmtP : CS:=.asgT [9,4,3] (.call 30 (.cons (.var 0) (.cons (.var 3) (.cons (.var 1) (.cons (.var 4) (.cons (.cmp (.var 7) .ge (.lit (.int 0))) .nil)))))) (.app 2 (.var 9) (.ifs (.cmp (.var 7) .lt (.lit (.int 0))) (.aug 4 .add (.lit (.int 1)) .done) .done .done))
noncomputable def fmtF : CS:=.asgT [7,3] (.call 15 (.cons (.var 0) (.cons (.bin .add (.var 6) (.lit (.int 1))) .nil))) (.asg 8 (.ite (.cmp (.var 7) .lt (.lit (.int 0))) (.lit (.str [37])) (.lit (.str [36]))) (.ifs (.cmp (.var 5) .nin (.tup (.cons (.lit (.str [])) (.cons (.var 8) .nil)))) (.rai (.call 9 .nil)) .done (.asg 5 (.var 8) (.ifs (.cmp (.var 7) .ge (.lit (.int 0))) (.asg 4 (.bin .sub (.var 7) (.lit (.int 1))) .done) .done fmtP))))
noncomputable def fmtB : CS:=.asg 6 (.call 12 (.cons (.var 0) (.cons (.lit (.str [37])) (.cons (.var 3) .nil)))) (.app 2 (.slc (.var 0) (.var 3) (.var 6)) (.ifs (.cmp (.var 6) .ge (.bi .len (.cons (.var 0) .nil))) .brk .done (.ifs (.cmp (.call 11 (.cons (.var 0) (.cons (.bin .add (.var 6) (.lit (.int 1))) .nil))) .eq (.lit (.str [37]))) (.app 2 (.lit (.str [37])) (.asg 3 (.bin .add (.var 6) (.lit (.int 2))) .cont)) .done fmtF)))
noncomputable def fst (f : Tx) (A : List Tx) (M : List Tx) (n idx : Nat) (so : Tx) (a6 a7 a8 a9 : Sl) : List Sl:=[.val (.str f),.val (.lst (A.map .str)),.own (M.map .str),.val (.int n),.val (.int idx),.val (.str so),a6,a7,a8,a9]
noncomputable def fres (R : Except EE Tx) (x : RS) (p : Int) : Prop:=match R with
 | .ok t=>Ex2 fun (vs : List Sl) (M : List Tx)=>A3 (x = .ok .next vs p) (vs[2]? = some (.own (M.map .str))) (M.flatten = t)
 | .error e=>x = .exc e.1 e.2 p
noncomputable def Lp (f : Tx) (A : List Tx) (M : List Tx) (n idx : Nat) (so : Tx) (R : Except EE Tx) : Prop:=∀ (p : Int) (m : Nat) (a6 a7 a8 a9 : Sl),f.length - n < m → M.length ≤ n → fres R (wloop (cevB (lay 31) fmtT) (csx (lay 31) fuel fmtB) m (fst f A M n idx so a6 a7 a8 a9) p) p
section
variable {L : Nat} {p : Int} {f r lit so : Tx} {n c idx : Nat} {A M : List Tx} {R : Except EE Tx}
theorem fres_step {m : Nat} {vs vs1 : List Sl} (h : cevB (lay 31) fmtT vs p = .ok true p) (hb : csx (lay 31) fuel fmtB vs p = .ok .next vs1 p ∨ csx (lay 31) fuel fmtB vs p = .ok .cont vs1 p) (hk : fres R (wloop (cevB (lay 31) fmtT) (csx (lay 31) fuel fmtB) m vs1 p) p) : fres R (wloop (cevB (lay 31) fmtT) (csx (lay 31) fuel fmtB) (m + 1) vs p) p:=by
 rcases hb with hb | hb
 ·exact (w_t h rfl hb rfl).symm ▸ hk
 ·exact (w_tc h rfl hb rfl).symm ▸ hk
theorem map_snoc (M : List Tx) (a : Tx) : M.map V.str ++ [.str a] = (M ++ [a]).map .str:=by refine Eq.trans ?_ (List.map_append).symm;rfl
theorem no37 (h : ∀ c ∈ lit,c ≠ 37) (r : Tx) : (lit ++ 37 :: r).takeWhile (· != 37) = lit:=(tw_app (P:=(· != 37)) (fun c hc=>by simpa using h c hc) (b:=37 :: r) fun c t e=>by obtain ⟨rfl,rfl⟩:=cI e;rfl).1
theorem no37e (h : ∀ c ∈ lit,c ≠ 37) : lit.takeWhile (· != 37) = lit:=by
 have:=(tw_app (P:=(· != 37)) (a:=lit) (b:=[]) (fun c hc=>by simpa using h c hc) fun c t e=>by exact nC e).1
 rwa [List.append_nil] at this
theorem fmt_head (hf : f.length < 1000) (hM : M.length ≤ n) (hd : f.drop n = lit ++ r) (hl : lit ++ r ≠ []) (htw : (lit ++ r).takeWhile (· != 37) = lit) {K : CS} {a6 a7 a8 a9 : Sl} : csx (lay 31) fuel (.asg 6 (.call 12 (.cons (.var 0) (.cons (.lit (.str [37])) (.cons (.var 3) .nil)))) (.app 2 (.slc (.var 0) (.var 3) (.var 6)) K)) (fst f A M n idx so a6 a7 a8 a9) p = csx (lay 31) fuel K (fst f A (M ++ [lit]) n idx so (.val (.int (n + lit.length : Nat))) a7 a8 a9) p:=by
 have hn:=n_lt hf hd hl
 have hlen:=len_of hf hd
 have h1:=place_of_L (p:=p) (L:=31) (by decide) (s:=37) hd hlen
 rw [htw] at h1
 have hs : sliceV (.str f) (.int n) (.int (n + lit.length : Nat)) = some (.str lit):=by
  rw [List.length_append] at hlen
  rw [slice_str (by lia) (by lia),hd,show n + lit.length - n = lit.length by lia,List.take_left']
  rfl
 refine q_asg (e_call rfl h1 rfl) (q_app rfl (e_slc rfl rfl rfl hs) (by rw [List.length_map];unfold SZ;lia) ?_)
 rw [map_snoc]
 rfl
theorem fmtT_t (h : n < f.length) {a6 a7 a8 a9 : Sl} : cevB (lay 31) fmtT (fst f A M n idx so a6 a7 a8 a9) p = .ok true p:=b_cmp rfl rfl (congrArg some (decide_eq_true (by lia)))
theorem Lp_lit (hf : f.length < 1000) (hd : f.drop n = lit ++ 37 :: 37 :: r) (hlit : ∀ c ∈ lit,c ≠ 37) (hk : Lp f A (M ++ [lit] ++ [[37]]) (n + lit.length + 2) idx so R) : Lp f A M n idx so R:=by
 intro p m a6 a7 a8 a9 hm hM
 cases m with
 | zero=>lia
 | succ m =>
  have hd1 : f.drop (n + lit.length) = 37 :: 37 :: r:=drop_add hd
  have hd2:=drop_succ hd1
  have hlt:=drop_lt hd2
  refine fres_step (fmtT_t (by lia)) (.inr ?_) (hk p m (.val (.int (n + lit.length : Nat))) a7 a8 a9 (by lia) (by simp;lia))
  refine (fmt_head hf hM hd (by simp) (no37 hlit _)).trans ?_
  refine q_iff rfl (decide_eq_false (by lia)) rfl (q_itr (b_cmp (e_call rfl (sign_at_L (by decide) hd2) rfl) rfl rfl) rfl (q_app rfl rfl (by rw [List.length_map];simp;unfold SZ;lia) ?_) fun Z=>rfl)
  rw [map_snoc]
  exact q_asg rfl rfl
theorem Lp_end (hf : f.length < 1000) (hd : f.drop n = lit) (hl : lit ≠ []) (hlit : ∀ c ∈ lit,c ≠ 37) : Lp f A M n idx so (.ok (M ++ [lit]).flatten):=by
 intro p m a6 a7 a8 a9 hm hM
 cases m with
 | zero=>lia
 | succ m =>
  have hn:=n_lt hf hd hl
  have hle : n + lit.length = f.length:=by
   have:=congrArg List.length hd
   have h0 : 0 < lit.length:=lenP hl
   replace this:=(List.length_drop).symm.trans this;lia
  have h0 : 0 < lit.length:=lenP hl
  refine ⟨_,_,w_tb (fmtT_t (by lia)) rfl ((fmt_head (r:=[]) hf hM (by rw [List.append_nil];exact hd) (by simpa using hl) (by rw [List.append_nil];exact no37e hlit)).trans (q_itr rfl (decide_eq_true (by lia)) rfl fun Z=>rfl)),rfl,rfl⟩
theorem Lp_nil (hd : f.drop n = []) : Lp f A M n idx so (.ok M.flatten):=by
 intro p m a6 a7 a8 a9 hm hM
 cases m with
 | zero=>omega
 | succ m=>exact ⟨_,_,w_f (b_cmp rfl rfl rfl) (lt_f hd),rfl,rfl⟩
structure PfOk (F : Fs) (ws : List Tx) (pl : Bool) : Prop where
 ok : FsOk F
 ni : F.w = .star → ∀ w ∈ ws.head?,NIok w
 np : F.pr = some .star → ∀ w ∈ (ws.drop (measK F.w)).head?,NIok w
 fo : ∀ o P x,measR F.w ws pl = .ok o → ¬ 2147483648 ≤ wA o → prR F.pr (ws.drop (measK F.w)) pl = .ok P → (ws.drop F.k).head? = some x → FOk [F.so] x (wF o F.fl) (wA o) P F.sn
 ch : ∀ c ∈ F.tx,c ≠ 36 ∧ c ≠ 37
 sod : isDig F.so = false
theorem tx_cons (F : Fs) (r : Tx) : Ex2 fun c t=>F.tx ++ r = c :: t ∧ c ∈ F.tx:=by
 cases h : F.tx with
 | nil=>simp [Fs.tx] at h
 | cons c t=>exact ⟨c,t ++ r,rfl,List.mem_cons_self⟩
theorem dw_head {a r : Tx} {s : Nat} (hs : s ∈ a) (hd : isDig s = false) : Ex2 fun c t=>(a ++ r).dropWhile isDig = c :: t ∧ c ∈ a:=by
 induction a with
 | nil=>cases hs
 | cons x a ih =>
  refine (List.cons_append).symm ▸ ?_;refine (List.dropWhile_cons).symm ▸ ?_
  cases hx : isDig x with
  | false=>exact ⟨x,a ++ r,rfl,List.mem_cons_self⟩
  | true =>
   rcases memc hs with rfl | hs
   ·exact tF ((hx).symm.trans hd)
   ·refine gG fun P0 hP0=>?_
    obtain ⟨c,t,h1,h2⟩:=ih hs
    refine hP0 ?_
    exact ⟨c,t,h1,List.mem_cons_of_mem _ h2⟩
theorem so_mem (F : Fs) : F.so ∈ F.tx:=by simp [Fs.tx]
theorem Lp_fld (hf : f.length < 1000) {F : Fs} {ws : List Tx} (hd : f.drop n = lit ++ 37 :: (F.tx ++ r)) (hlit : ∀ c ∈ lit,c ≠ 37) (hso : [[],[37]].contains so = true) (hA : A.drop idx = ws) (hi : idx ≤ A.length) (ok : PfOk F ws false)
  (hk : match putR F ws false with | .ok t=>Lp f A (M ++ [lit] ++ [t]) (n + lit.length + 1 + F.tx.length) (idx + F.k + 1) [37] R | .error e=>R = .error e) : Lp f A M n idx so R:=by
 intro p m a6 a7 a8 a9 hm hM
 cases m with
 | zero=>lia
 | succ m =>
  have hd1 : f.drop (n + lit.length) = 37 :: (F.tx ++ r):=drop_add hd
  have hd2:=drop_succ hd1
  refine gG fun P0 hP0=>?_
  obtain ⟨c,t,hct,hcm⟩:=tx_cons F r
  have hlt:=drop_lt (hct ▸ hd2)
  have hn1 : n + lit.length + 1 < 1000:=by exact Nat.lt_trans (by assumption) (by assumption)
  obtain ⟨c',t',hc',hm'⟩:=dw_head (r:=r) (so_mem F) ok.sod
  refine hP0 ?_
  have hrp:=read_place_no (p:=p) (L:=31) (by decide) hf hn1 hd2 (.inr (by exact (hc').symm ▸ fun q=>(ok.ch c' hm').1 (by injection q)))
  have hput:=put_field_L (p:=p) (L:=31) (pl:=false) (by decide) ok.ok hf hn1 hd2 hA hi ok.ni ok.np ok.fo
  have hne : (c == 37) = false:=beq_eq_false_iff_ne.mpr (ok.ch c hcm).2
  have hhead : csx (lay 31) fuel fmtB (fst f A M n idx so a6 a7 a8 a9) p = csx (lay 31) fuel fmtP (fst f A (M ++ [lit]) (n + lit.length + 1) idx [37] (.val (.int (n + lit.length : Nat))) (.val (.int (-1))) (.val (.str [37])) a9) p:=by
   refine (fmt_head hf hM hd (by simp) (no37 hlit _)).trans ?_
   refine q_iff rfl (decide_eq_false (by lia)) rfl (q_iff (b_cmp (e_call rfl (sign_at_L (by decide) hd2) rfl) rfl rfl) ?_ rfl (q_asgT (e_call rfl hrp rfl) rfl (q_asg (e_ite rfl rfl) (q_iff (b_cmp rfl rfl rfl) (by show (!([[],[37]].contains so)) = false;refine (hso).symm ▸ ?_;rfl) rfl (q_asg rfl (q_iff rfl rfl rfl rfl))))))
   refine (hct).symm ▸ ?_
   show ([c] == [37]) = false
   exact beq_eq_false_iff_ne.mpr fun q=>(ok.ch c hcm).2 (by injection q)
  have hargs : cevs (lay 31) (.cons (.var 0) (.cons (.var 3) (.cons (.var 1) (.cons (.var 4) (.cons (.cmp (.var 7) .ge (.lit (.int 0))) .nil))))) (fst f A (M ++ [lit]) (n + lit.length + 1) idx [37] (.val (.int (n + lit.length : Nat))) (.val (.int (-1))) (.val (.str [37])) a9) p = .ok [.str f,.int (n + lit.length + 1 : Nat),.lst (A.map .str),.int idx,.bool false] p:=rfl
  cases hx : putR F ws false with
  | error e =>
   rw [hx] at hk hput
   subst hk
   exact w_tx (fmtT_t (by lia)) rfl (hhead.trans (q_asgTx (e_callx hargs hput)))
  | ok x =>
   rw [hx] at hk hput
   have hl : 0 < F.tx.length:=lenP (List.ne_nil_of_mem (so_mem F))
   refine fres_step (fmtT_t (by lia)) (.inl (hhead.trans ?_)) (hk p m (.val (.int (n + lit.length : Nat))) (.val (.int (-1))) (.val (.str [37])) (.val (.str x)) (by lia) (by simp;lia))
   refine q_asgT (e_call hargs hput rfl) rfl (q_app rfl rfl (by rw [List.length_map];simp;unfold SZ;lia) (q_ift rfl rfl (q_aug rfl rfl rfl rfl) ?_))
   rw [map_snoc]
   rfl
theorem Lp_plc (hf : f.length < 1000) {F : Fs} {ds : Tx} {ws : List Tx} {k : Nat} (hd : f.drop n = lit ++ 37 :: (ds ++ 36 :: (F.tx ++ r))) (hlit : ∀ c ∈ lit,c ≠ 37) (hso : [[],[36]].contains so = true) (hds : ds ≠ [] ∧ ∀ c ∈ ds,isDig c = true) (hv : dv 10 ds 0 = (k + 1 : Nat)) (hA : A.drop k = ws) (hi : k ≤ A.length) (ok : PfOk F ws true)
  (hk : match putR F ws true with | .ok t=>Lp f A (M ++ [lit] ++ [t]) (n + lit.length + 1 + ds.length + 1 + F.tx.length) (k + F.k) [36] R | .error e=>R = .error e) : Lp f A M n idx so R:=by
 intro p m a6 a7 a8 a9 hm hM
 cases m with
 | zero=>lia
 | succ m =>
  have hd1 : f.drop (n + lit.length) = 37 :: (ds ++ 36 :: (F.tx ++ r)):=drop_add hd
  have hd2:=drop_succ hd1
  have hd3 : f.drop (n + lit.length + 1 + ds.length) = 36 :: (F.tx ++ r):=drop_add hd2
  have hd4:=drop_succ hd3
  refine gG fun P0 hP0=>?_
  obtain ⟨c,t,hct,hcm⟩:=tx_cons F r
  refine hP0 ?_
  have hlt:=drop_lt (hct ▸ hd4)
  obtain ⟨t1,t2⟩:=tw_app (P:=isDig) hds.2 (b:=36 :: (F.tx ++ r)) fun c t e=>by obtain ⟨rfl,rfl⟩:=cI e;rfl
  have hrp:=read_place_yes (p:=p) (L:=31) (by decide) hf (by lia) hd2 (by exact (t1).symm ▸ hds.1) t2 (by refine (t1).symm ▸ ?_;refine (hv).symm ▸ ?_;lia)
  replace hrp:=(t1) ▸ hrp;replace hrp:=(hv) ▸ hrp
  have hput:=put_field_L (p:=p) (L:=31) (pl:=true) (by decide) ok.ok hf (by exact Nat.lt_trans (by assumption) (by assumption)) hd4 hA hi ok.ni ok.np ok.fo
  have hhead : csx (lay 31) fuel fmtB (fst f A M n idx so a6 a7 a8 a9) p = csx (lay 31) fuel fmtP (fst f A (M ++ [lit]) (n + lit.length + 1 + ds.length + 1) k [36] (.val (.int (n + lit.length : Nat))) (.val (.int (k + 1 : Nat))) (.val (.str [36])) a9) p:=by
   refine (fmt_head hf hM hd (by simp) (no37 hlit _)).trans ?_
   refine q_iff rfl (decide_eq_false (by lia)) rfl (q_iff (b_cmp (e_call rfl (sign_at_L (by decide) hd2) rfl) rfl rfl) ?_ rfl (q_asgT (e_call rfl hrp rfl) rfl (q_asg (e_ite rfl rfl) (q_iff (b_cmp rfl rfl rfl) (by show (!([[],[36]].contains so)) = false;refine (hso).symm ▸ ?_;rfl) rfl (q_asg rfl (q_ift rfl rfl (q_asg (e_bin (z:=.int k) rfl rfl ?_) rfl) rfl))))))
   ·cases ds with
    | nil=>exact absurd rfl hds.1
    | cons d ds =>
     show ([d] == [37]) = false
     refine beq_eq_false_iff_ne.mpr fun q=>?_
     have:=hds.2 d List.mem_cons_self
     injection q with q;subst q
     exact fT this
   ·show some (V.int ((k + 1 : Nat) - 1)) = _
    congr 2;lia
  have hargs : cevs (lay 31) (.cons (.var 0) (.cons (.var 3) (.cons (.var 1) (.cons (.var 4) (.cons (.cmp (.var 7) .ge (.lit (.int 0))) .nil))))) (fst f A (M ++ [lit]) (n + lit.length + 1 + ds.length + 1) k [36] (.val (.int (n + lit.length : Nat))) (.val (.int (k + 1 : Nat))) (.val (.str [36])) a9) p = .ok [.str f,.int (n + lit.length + 1 + ds.length + 1 : Nat),.lst (A.map .str),.int k,.bool true] p:=rfl
  cases hx : putR F ws true with
  | error e =>
   rw [hx] at hk hput
   subst hk
   exact w_tx (fmtT_t (by lia)) rfl (hhead.trans (q_asgTx (e_callx hargs hput)))
  | ok x =>
   rw [hx] at hk hput
   have hl : 0 < F.tx.length:=lenP (List.ne_nil_of_mem (so_mem F))
   refine fres_step (fmtT_t (by lia)) (.inl (hhead.trans ?_)) (hk p m (.val (.int (n + lit.length : Nat))) (.val (.int (k + 1 : Nat))) (.val (.str [36])) (.val (.str x)) (by lia) (by simp;lia))
   refine q_asgT (e_call hargs hput rfl) rfl (q_app rfl rfl (by rw [List.length_map];simp;unfold SZ;lia) (q_iff rfl rfl rfl ?_))
   rw [map_snoc]
   rfl
theorem strs_map (M : List Tx) : strsOf (M.map .str) = some M:=by
 induction M with
 | nil=>rfl
 | cons a M ih=>rw [List.map_cons,strsOf,ih];rfl
noncomputable def LpS (f : Tx) (A : List Tx) (s : Tx) (n idx : Nat) (so : Tx) (R : Except EE Tx) : Prop:=∀ M : List Tx,M.flatten = s → Lp f A M n idx so R
theorem S_nil {s : Tx} (hd : f.drop n = []) : LpS f A s n idx so (.ok s):=fun M hM=>hM ▸ Lp_nil hd
theorem flat_snoc (M : List Tx) (a : Tx) : (M ++ [a]).flatten = M.flatten ++ a:=by simp
theorem S_end {s : Tx} (hf : f.length < 1000) (hd : f.drop n = lit) (hl : lit ≠ []) (hlit : ∀ c ∈ lit,c ≠ 37) : LpS f A s n idx so (.ok (s ++ lit)):=fun M hM=>by
 have:=Lp_end (A:=A) (idx:=idx) (so:=so) (M:=M) hf hd hl hlit
 rwa [flat_snoc,hM] at this
theorem S_lit {s : Tx} (hf : f.length < 1000) (hd : f.drop n = lit ++ 37 :: 37 :: r) (hlit : ∀ c ∈ lit,c ≠ 37) (hk : LpS f A (s ++ lit ++ [37]) (n + lit.length + 2) idx so R) : LpS f A s n idx so R:=fun M hM =>
 Lp_lit hf hd hlit (hk _ (by rw [flat_snoc,flat_snoc,hM]))
theorem S_fld {s : Tx} (hf : f.length < 1000) {F : Fs} {ws : List Tx} (hd : f.drop n = lit ++ 37 :: (F.tx ++ r)) (hlit : ∀ c ∈ lit,c ≠ 37) (hso : [[],[37]].contains so = true) (hA : A.drop idx = ws) (hi : idx ≤ A.length) (ok : PfOk F ws false)
  (hk : match putR F ws false with | .ok t=>LpS f A (s ++ lit ++ t) (n + lit.length + 1 + F.tx.length) (idx + F.k + 1) [37] R | .error e=>R = .error e) : LpS f A s n idx so R:=fun M hM=>Lp_fld hf hd hlit hso hA hi ok (by
 cases h : putR F ws false with
 | ok t=>rw [h] at hk;exact hk _ (by rw [flat_snoc,flat_snoc,hM])
 | error e=>rw [h] at hk;exact hk)
theorem S_plc {s : Tx} (hf : f.length < 1000) {F : Fs} {ds : Tx} {ws : List Tx} {k : Nat} (hd : f.drop n = lit ++ 37 :: (ds ++ 36 :: (F.tx ++ r))) (hlit : ∀ c ∈ lit,c ≠ 37) (hso : [[],[36]].contains so = true) (hds : ds ≠ [] ∧ ∀ c ∈ ds,isDig c = true) (hv : dv 10 ds 0 = (k + 1 : Nat)) (hA : A.drop k = ws) (hi : k ≤ A.length) (ok : PfOk F ws true)
  (hk : match putR F ws true with | .ok t=>LpS f A (s ++ lit ++ t) (n + lit.length + 1 + ds.length + 1 + F.tx.length) (k + F.k) [36] R | .error e=>R = .error e) : LpS f A s n idx so R:=fun M hM=>Lp_plc hf hd hlit hso hds hv hA hi ok (by
 cases h : putR F ws true with
 | ok t=>rw [h] at hk;exact hk _ (by rw [flat_snoc,flat_snoc,hM])
 | error e=>rw [h] at hk;exact hk)
theorem format_L (h : 31 < L) (hf : f.length < 1000) (hlp : LpS f A [] 0 0 [] R) (hsz : ∀ t,R = .ok t → t.length ≤ SZ) : lay L 31 [.str f,.lst (A.map .str)] p = ofX .str R p:=by
 have h1:=hlp [] rfl p 1000 .un .un .un .un (by assumption) (Nat.le_refl _)
 cases R with
 | error e=>exact def_exc h ⟨by decide,rfl⟩ rfl (show csx (lay 31) fuel c_format_text _ p = _ from q_newL rfl (q_asg rfl (q_asg rfl (q_asg rfl (q_whlr h1 fun Z=>rfl)))))
 | ok t =>
  obtain ⟨vs,M,e1,e2,e3⟩:=h1
  refine def_ret h ⟨by decide,rfl⟩ rfl (show csx (lay 31) fuel c_format_text _ p = _ from q_newL rfl (q_asg rfl (q_asg rfl (q_asg rfl (q_whl e1 (q_ret ?_))))))
  refine sOe e2 ?_
  show RE.ofO ((strsOf (M.map V.str)).bind fun l=>if l.flatten.length ≤ SZ then some (V.str l.flatten) else .none) p = _
  rw [strs_map]
  show RE.ofO (if M.flatten.length ≤ SZ then _ else _) p = _
  refine (e3).symm ▸ ?_;refine (if_pos (hsz t rfl)).symm ▸ ?_;rfl
end
end
section
noncomputable def STARS : List Tx:=[[48],[49],[55],[49,50],[45,53],[32,57],[45,50],[48,120,56],[45,49,49],[45,50,49,52,55,52,56,51,54,52,56],[52,50,57,52,57,54,55,50,57,53],[52,50,57,52,57,54,55,50,57,54],[113]]
noncomputable def SIZES : List Tx:=[[],[104],[108],[108,108],[76],[106],[113],[122],[116]]
noncomputable def SORTS : List Nat:=[100,105,117,111,120,88,98,99,115,121,101,73,44]
noncomputable def TAILC : List Nat:=[104,108,76,106,113,122,116,100,105,117,111,120,88,98,99,115,121,101,73,44]
noncomputable def plainC (c : Nat) : Bool:=!isDig c && (!isFl c && (c != 42 && (c != 46 && (c != 36 && (c != 37 && (c != 43 && (c != 45 && c != 32)))))))
theorem tailC : ∀ c ∈ TAILC,plainC c = true:=by decide
theorem plainC_get {c : Nat} (h : plainC c = true) : isDig c = false ∧ isFl c = false ∧ c ≠ 42 ∧ c ≠ 46 ∧ c ≠ 36 ∧ c ≠ 37:=by
 unfold plainC at h
 simp only [Bool.and_eq_true,Bool.not_eq_true',bne_iff_ne] at h
 exact ⟨h.1,h.2.1,h.2.2.1,h.2.2.2.1,h.2.2.2.2.1,h.2.2.2.2.2.1⟩
theorem sizes_tail : ∀ s ∈ SIZES,∀ c ∈ s,c ∈ TAILC:=by decide
theorem sorts_tail : ∀ c ∈ SORTS,c ∈ TAILC:=by decide
theorem sorts_new : ∀ c ∈ SORTS,([c] == [108]) = false ∧ ([c] == [76]) = false ∧ [[108],[106],[113],[122],[116]].contains [c] = false ∧ ([c] == [104]) = false:=by decide
theorem sz_len : ∀ s ∈ SIZES,∀ c ∈ SORTS,(szN (s ++ [c])).2 = s.length:=by decide
noncomputable def WOk : Ms → Prop | .dig ds=>ds ≠ [] ∧ (∀ c ∈ ds,isDig c = true) ∧ ∀ c t,ds = c :: t → c ≠ 48 | _=>True
noncomputable def POk : Option Ms → Prop | some (.dig ds)=>ds ≠ [] ∧ ∀ c ∈ ds,isDig c = true | _=>True
theorem tail_head {sz : Tx} {so : Nat} (hsz : sz ∈ SIZES) (hso : so ∈ SORTS) (r : Tx) : Ex2 fun c t=>sz ++ so :: r = c :: t ∧ c ∈ TAILC:=by
 cases sz with
 | nil=>exact ⟨so,r,rfl,sorts_tail _ hso⟩
 | cons c t=>exact ⟨c,t ++ so :: r,rfl,sizes_tail _ hsz c List.mem_cons_self⟩
theorem szN_app {sz : Tx} {so : Nat} (hsz : sz ∈ SIZES) (hso : so ∈ SORTS) (r : Tx) : szN (sz ++ so :: r) = szN (sz ++ [so]):=by
 obtain ⟨h1,h2,h3,h4⟩:=sorts_new so hso
 have key : ∀ t2,szR [so] t2 = ([],0):=fun t2=>by unfold szR;refine (h1).symm ▸ ?_;refine (h2).symm ▸ ?_;refine (h3).symm ▸ ?_;refine (h4).symm ▸ ?_;rfl
 match sz with
 | []=>exact (key _).trans (key _).symm
 | [c]=>rfl
 | [c,d]=>rfl
 | c :: d :: e :: t=>rfl
theorem isDig_notFl {c : Nat} (h : isDig c = true) (h0 : c ≠ 48) : isFl c = false:=by
 unfold isDig at h
 simp only [Bool.and_eq_true,decide_eq_true_eq] at h
 cases hc : isFl c with
 | false=>rfl
 | true =>
  unfold isFl at hc
  simp at hc
  lia
theorem isFl_ne {c : Nat} (h : isFl c = true) : c ≠ 36 ∧ c ≠ 37:=by
 unfold isFl at h
 simp at h
 lia
theorem isDig_ne {c : Nat} (h : isDig c = true) : c ≠ 36 ∧ c ≠ 37:=by
 unfold isDig at h
 simp only [Bool.and_eq_true,decide_eq_true_eq] at h
 lia
theorem fsOk {F : Fs} (hfl : ∀ c ∈ F.fl, isFl c = true) (hw : WOk F.w) (hp : POk F.pr) (hsz : F.sz ∈ SIZES) (hso : F.so ∈ SORTS) : FsOk F ∧ (∀ c ∈ F.tx, c ≠ 36 ∧ c ≠ 37) ∧ isDig F.so = false := by
  obtain ⟨fl, w, pr, sz, so⟩ := F
  dsimp only at hfl hw hp hsz hso
  have hth := fun r => tail_head hsz hso r
  have hpc := fun c hc => plainC_get (tailC c hc)
  have hph : ∀ r, Ex2 fun c t => A4 (prTx pr ++ (sz ++ so :: r) = c :: t) (isDig c = false) (isFl c = false) (c ≠ 42) := fun r => by
    cases pr with
    | none => obtain ⟨c, t, e, hc⟩ := hth r; exact ⟨c, t, e, (hpc c hc).1, (hpc c hc).2.1, (hpc c hc).2.2.1⟩
    | some m => exact ⟨46, mtx m ++ (sz ++ so :: r), rfl, rfl, rfl, by decide⟩
  refine ⟨⟨hfl, fun c t e => ?_, fun r => ?_, fun m hm r => ?_, fun hn r => ?_, fun hn c t e => ?_, fun r => ?_⟩, fun c hc => ?_, (hpc so (sorts_tail _ hso)).1⟩
  · cases w with
    | no => obtain ⟨c', t', e', h1, h2, h3⟩ := hph []; rw [show mtx .no ++ (prTx pr ++ (sz ++ [so])) = prTx pr ++ (sz ++ [so]) from rfl, e'] at e; obtain ⟨rfl, rfl⟩ := cI e; exact h2
    | star => obtain ⟨rfl, rfl⟩ := cI e; rfl
    | dig ds =>
      cases ds with
      | nil => exact absurd rfl hw.1
      | cons d ds =>
        have q : d = c := by injection e
        subst q; exact isDig_notFl (hw.2.1 d List.mem_cons_self) (hw.2.2 d ds rfl)
  · obtain ⟨c', t', e', h1, h2, h3⟩ := hph r
    cases w with
    | no => exact ⟨c', t', e', h3, h1⟩
    | star => trivial
    | dig ds => exact ⟨hw.1, hw.2.1, c', t', e', h1⟩
  · subst hm
    obtain ⟨c, t, e, hc⟩ := hth r
    cases m with
    | no => exact ⟨c, t, e, (hpc c hc).2.2.1, (hpc c hc).1⟩
    | star => trivial
    | dig ds => exact ⟨hp.1, hp.2, c, t, e, (hpc c hc).1⟩
  · obtain ⟨c, t, e, hc⟩ := hth r
    exact ⟨c, t, e, (hpc c hc).2.2.1, (hpc c hc).1⟩
  · obtain ⟨c', t', e', hc⟩ := hth []
    rw [e'] at e; cases e
    exact (hpc c hc).2.2.2.1
  · dsimp only
    rw [szN_app hsz hso r, ← sz_len sz hsz so hso]
  · have hmt : ∀ m, (∀ ds, m = .dig ds → ∀ c ∈ ds, isDig c = true) → ∀ c ∈ mtx m, c ≠ 36 ∧ c ≠ 37 := fun m hm c hc => by
      cases m with
      | no => cases hc
      | star => rcases memc hc with rfl | hc; · decide
                cases hc
      | dig ds => exact isDig_ne (hm ds rfl c hc)
    change c ∈ fl ++ (mtx w ++ (prTx pr ++ (sz ++ [so]))) at hc
    rw [List.mem_append, List.mem_append, List.mem_append, List.mem_append] at hc
    rcases hc with hc | hc | hc | hc | hc
    · exact isFl_ne (hfl c hc)
    · exact hmt w (fun ds e => by subst e; exact hw.2.1) c hc
    · cases pr with
      | none => cases hc
      | some m =>
        rcases memc hc with rfl | hc
        · decide
        · exact hmt m (fun ds e => by subst e; exact hp.2) c hc
    · have := hpc c (sizes_tail sz hsz c hc); exact ⟨this.2.2.2.2.1, this.2.2.2.2.2⟩
    · rcases memc hc with rfl | hc
      · have := hpc c (sorts_tail c hso); exact ⟨this.2.2.2.2.1, this.2.2.2.2.2⟩
      · exact nM hc
noncomputable def optX : Except EE Int → V | .ok n=>.int n | .error _=>.none
structure StarOk (w : Tx) : Prop where
 ni : NIok w
 num : ∀ L p,43 < L → lay L 43 [.str w] p = .ok (optX (Mine.ni w)) p
 bd : ∀ n,Mine.ni w = .ok n → n.natAbs ≤ 20 ∨ (2147483648 ≤ n.natAbs ∧ n.natAbs ≤ 4294967295)
theorem star_ok {w : Tx} (v : Except EE Int) (hv : Mine.ni w = v) (h1 : ∀ p,stepG (lay 18) 18 [.str w] p = ofX .int v p) (h2 : ∀ p,stepG (lay 43) 43 [.str w] p = .ok (optX v) p) (h3 : ∀ n,v = .ok n → n.natAbs ≤ 20 ∨ (2147483648 ≤ n.natAbs ∧ n.natAbs ≤ 4294967295)) : StarOk w :=
 ⟨fun L p h=>by refine (lay_at h).symm ▸ ?_;refine (hv).symm ▸ ?_;exact h1 p,fun L p h=>by refine (lay_at h).symm ▸ ?_;refine (hv).symm ▸ ?_;exact h2 p,fun n e=>h3 n (hv ▸ e)⟩
theorem star0 : StarOk [48]:=star_ok (.ok (0)) (by kernel_rfl) (fun p=>by kernel_rfl) (fun p=>by kernel_rfl) (fun n e=>by obtain rfl:=Except.ok.inj e;decide)
theorem star1 : StarOk [49]:=star_ok (.ok (1)) (by kernel_rfl) (fun p=>by kernel_rfl) (fun p=>by kernel_rfl) (fun n e=>by obtain rfl:=Except.ok.inj e;decide)
theorem star2 : StarOk [55]:=star_ok (.ok (7)) (by kernel_rfl) (fun p=>by kernel_rfl) (fun p=>by kernel_rfl) (fun n e=>by obtain rfl:=Except.ok.inj e;decide)
theorem star3 : StarOk [49,50]:=star_ok (.ok (12)) (by kernel_rfl) (fun p=>by kernel_rfl) (fun p=>by kernel_rfl) (fun n e=>by obtain rfl:=Except.ok.inj e;decide)
theorem star4 : StarOk [45,53]:=star_ok (.ok (-5)) (by kernel_rfl) (fun p=>by kernel_rfl) (fun p=>by kernel_rfl) (fun n e=>by obtain rfl:=Except.ok.inj e;decide)
theorem star5 : StarOk [32,57]:=star_ok (.ok (9)) (by kernel_rfl) (fun p=>by kernel_rfl) (fun p=>by kernel_rfl) (fun n e=>by obtain rfl:=Except.ok.inj e;decide)
theorem star6 : StarOk [45,50]:=star_ok (.ok (-2)) (by kernel_rfl) (fun p=>by kernel_rfl) (fun p=>by kernel_rfl) (fun n e=>by obtain rfl:=Except.ok.inj e;decide)
theorem star7 : StarOk [48,120,56]:=star_ok (.ok (8)) (by kernel_rfl) (fun p=>by kernel_rfl) (fun p=>by kernel_rfl) (fun n e=>by obtain rfl:=Except.ok.inj e;decide)
theorem star8 : StarOk [45,49,49]:=star_ok (.ok (-11)) (by kernel_rfl) (fun p=>by kernel_rfl) (fun p=>by kernel_rfl) (fun n e=>by obtain rfl:=Except.ok.inj e;decide)
theorem star9 : StarOk [45,50,49,52,55,52,56,51,54,52,56]:=star_ok (.ok (-2147483648)) (by kernel_rfl) (fun p=>by kernel_rfl) (fun p=>by kernel_rfl) (fun n e=>by obtain rfl:=Except.ok.inj e;decide)
theorem star10 : StarOk [52,50,57,52,57,54,55,50,57,53]:=star_ok (.ok (4294967295)) (by kernel_rfl) (fun p=>by kernel_rfl) (fun p=>by kernel_rfl) (fun n e=>by obtain rfl:=Except.ok.inj e;decide)
theorem star11 : StarOk [52,50,57,52,57,54,55,50,57,54]:=star_ok _ rfl (fun p=>by kernel_rfl) (fun p=>by kernel_rfl) (fun n e=>by exact absurd e (fun q=>by have h : (match ni [52,50,57,52,57,54,55,50,57,54] with | .ok _=>true | .error _=>false) = false:=(by kernel_rfl);cases (q) ▸ h))
theorem star12 : StarOk [113]:=star_ok _ rfl (fun p=>by kernel_rfl) (fun p=>by kernel_rfl) (fun n e=>by exact absurd e (fun q=>by have h : (match ni [113] with | .ok _=>true | .error _=>false) = false:=(by kernel_rfl);cases (q) ▸ h))
theorem stars {w : Tx} (h : w ∈ STARS) : StarOk w:=by
 unfold STARS at h
 simp only [List.mem_cons,List.not_mem_nil,or_false] at h
 rcases h with rfl | rfl | rfl | rfl | rfl | rfl | rfl | rfl | rfl | rfl | rfl | rfl | rfl
 ·exact star0
 ·exact star1
 ·exact star2
 ·exact star3
 ·exact star4
 ·exact star5
 ·exact star6
 ·exact star7
 ·exact star8
 ·exact star9
 ·exact star10
 ·exact star11
 ·exact star12
end
section
noncomputable def sg (up : Bool) (d : Nat) : Nat:=if d < 10 then 48 + d else if up then 55 + d else 87 + d
noncomputable def rv (b : Nat) (up : Bool) : Nat → Nat → Tx
 | 0,_=>[]
 | k + 1,n=>if n = 0 then [] else sg up (n % b) :: rv b up k (n / b)
noncomputable def dgN (b : Nat) (up : Bool) (n : Nat) : Tx:=if n = 0 then [48] else (rv b up 200 n).reverse
theorem digI_sg {up : Bool} {d : Nat} (h : d < 16) : digI (sg up d) = d:=by
 unfold digI sg
 cases up <;> split <;> (try split) <;> (try split) <;> (try split) <;> (try split) <;> simp at * <;> lia
theorem sg_ne {up : Bool} {d : Nat} (h0 : d ≠ 0) : sg up d ≠ 48:=by
 unfold sg
 split
 ·lia
 ·cases up <;> simp <;> lia
theorem sg_case {d : Nat} (up : Bool) (h : d < 16) : (if up then upc (sg up d) = sg up d else loc (sg up d) = sg up d) ∧ sg up d < 128:=by
 unfold sg upc loc
 cases up <;> (by_cases h1 : d < 10) <;> simp [h1] <;> lia
theorem dv_snoc (b : Int) (t : Tx) (c : Nat) (v : Int) : dv b (t ++ [c]) v = dv b t v * b + digI c:=by unfold dv;refine (List.foldl_append).trans ?_;rfl
theorem rv_lt {b k n : Nat} (hb : 2 ≤ b) (h : n < 2 ^ (k + 1)) : n / b < 2 ^ k:=by
 have : n / b ≤ n / 2:=Nat.div_le_div_left hb (by decide)
 have h2 : n / 2 < 2 ^ k:=by rw [Nat.div_lt_iff_lt_mul (by decide)];rw [Nat.pow_succ] at h;exact h
 omega
section
variable {b : Nat} {up : Bool}
theorem rv_val (hb : 2 ≤ b) (hb16 : b ≤ 16) : ∀ (k n : Nat), n < 2 ^ k → dv b (rv b up k n).reverse 0 = n
  | 0, n, h => by have : n = 0 := by simpa using h
                  subst this; rfl
  | k + 1, n, h => by
    unfold rv
    split
    · rename_i h0; subst h0; rfl
    · rw [List.reverse_cons, dv_snoc, rv_val hb hb16 k (n / b) (rv_lt hb h), digI_sg (by have := Nat.mod_lt n (show 0 < b by exact Nat.le_of_lt (by assumption)); exact Nat.lt_of_lt_of_le (by assumption) (by assumption))]
      have := Nat.div_add_mod n b
      rw [Nat.mul_comm] at this
      exact_mod_cast this
theorem rv_dig (hb : 2 ≤ b) (hb16 : b ≤ 16) : ∀ (k n : Nat),∀ c ∈ rv b up k n,∃ d,d < b ∧ c = sg up d
 | 0,n,c,hc=>by cases hc
 | k + 1,n,c,hc=>by
  unfold rv at hc
  split at hc
  ·exact nM hc
  ·rcases memc hc with rfl | hc
   ·exact ⟨n % b,Nat.mod_lt n (by exact Nat.le_of_lt (by assumption)),rfl⟩
   ·exact rv_dig hb hb16 k _ c hc
theorem rv_len : ∀ (k n : Nat),(rv b up k n).length ≤ k
 | 0,_=>Nat.le_refl _
 | k + 1,n=>by
  unfold rv
  split
  ·exact Nat.zero_le _
  ·rw [List.length_cons];have:=rv_len k (n / b);lia
theorem rv_head (hb : 2 ≤ b) (hb16 : b ≤ 16) : ∀ (k n : Nat),n < 2 ^ k → n ≠ 0 → ∃ c t,(rv b up k n).reverse = c :: t ∧ c ≠ 48
 | 0,n,h,h0=>absurd (by simpa using h) h0
 | k + 1,n,h,h0=>by
  unfold rv
  refine (if_neg h0).symm ▸ ?_;refine (List.reverse_cons).symm ▸ ?_
  by_cases hz : n / b = 0
  ·refine (hz).symm ▸ ?_
   have e : rv b up k 0 = []:=by cases k <;> rfl
   refine (e).symm ▸ ?_
   have : n % b = n:=Nat.mod_eq_of_lt ((Nat.div_eq_zero_iff_lt (by lia)).mp hz)
   exact ⟨_,[],rfl,by exact (this).symm ▸ sg_ne h0⟩
  ·obtain ⟨c,t,e,hc⟩:=rv_head hb hb16 k (n / b) (rv_lt hb h) hz
   exact ⟨c,t ++ [sg up (n % b)],by refine (e).symm ▸ ?_;rfl,hc⟩
theorem dgN_val (hb : 2 ≤ b) (hb16 : b ≤ 16) {n : Nat} (h : n < 2 ^ 200) : dv b (dgN b up n) 0 = n:=by
 unfold dgN
 split
 ·rename_i h0;subst h0
  show (0 : Int) * b + digI 48 = 0
  rw [Int.zero_mul];rfl
 ·exact rv_val hb hb16 200 n h
theorem dgN_dig (hb : 2 ≤ b) (hb16 : b ≤ 16) (n : Nat) : ∀ c ∈ dgN b up n,∃ d,d < b ∧ c = sg up d:=by
 unfold dgN
 split
 ·intro c hc
  rcases memc hc with rfl | hc
  ·exact ⟨0,by lia,rfl⟩
  ·exact nM hc
 ·exact fun c hc=>rv_dig hb hb16 200 n c (by simpa using hc)
theorem dgN_len (n : Nat) : (dgN b up n).length ≤ 200:=by
 unfold dgN
 split
 ·simp
 ·rw [List.length_reverse];exact rv_len 200 n
theorem dgN_head (hb : 2 ≤ b) (hb16 : b ≤ 16) {n : Nat} (h : n < 2 ^ 200) : Ex2 fun c t=>dgN b up n = c :: t ∧ (n ≠ 0 → c ≠ 48):=by
 by_cases h0 : n = 0
 ·unfold dgN;exact (if_pos h0).symm ▸ ⟨48,[],rfl,fun q=>absurd h0 q⟩
 ·refine gG fun P0 hP0=>?_
  obtain ⟨c,t,e,hc⟩:=rv_head (up:=up) hb hb16 200 n h h0
  refine hP0 ?_
  unfold dgN;exact (if_neg h0).symm ▸ ⟨c,t,e,fun Z=>hc⟩
theorem sg_range {d : Nat} (hb16 : b ≤ 16) (h : d < b) : 0 ≤ digI (sg up d) ∧ digI (sg up d) < (b : Int):=by rw [digI_sg (by exact Nat.lt_of_lt_of_le (by assumption) (by assumption))];lia
end
theorem digitChar_sg {d : Nat} (h : d < 10) : (Nat.digitChar d).toNat = sg false d:=by
 match d,h with
 | 0,_=>rfl | 1,_=>rfl | 2,_=>rfl | 3,_=>rfl | 4,_=>rfl | 5,_=>rfl | 6,_=>rfl | 7,_=>rfl | 8,_=>rfl | 9,_=>rfl
 | d + 10,h=>lia
theorem toDigits_rv : ∀ (k n : Nat),n < 2 ^ k → n ≠ 0 → (Nat.toDigits 10 n).map Char.toNat = (rv 10 false k n).reverse
 | 0,n,h,h0=>absurd (by lia) h0
 | k + 1,n,h,h0=>by
  unfold rv
  rw [if_neg h0,List.reverse_cons,Nat.toDigits_eq_if (by decide)]
  by_cases hn : n < 10
  ·rw [if_pos hn,Nat.div_eq_of_lt hn,Nat.mod_eq_of_lt hn]
   have e : rv 10 false k 0 = []:=by cases k <;> rfl
   rw [e]
   show [(Nat.digitChar n).toNat] = _
   rw [digitChar_sg hn];rfl
  ·rw [if_neg hn,List.map_append,toDigits_rv k (n / 10) (rv_lt (by decide) h) (by lia)]
   show _ ++ [(Nat.digitChar (n % 10)).toNat] = _
   rw [digitChar_sg (Nat.mod_lt n (by decide))]
theorem itx_nat {n : Nat} (h : n < 2 ^ 200) : itx n = dgN 10 false n:=by
 show (Nat.repr n).toList.map Char.toNat = _
 refine (Nat.toList_repr).symm ▸ ?_
 unfold dgN
 split
 ·rename_i h0;subst h0;rfl
 ·rename_i h0;exact toDigits_rv 200 n h h0
theorem itx_neg {n : Nat} (h : n + 1 < 2 ^ 200) : itx (Int.negSucc n) = 45 :: dgN 10 false (n + 1):=by
 show ("-" ++ Nat.repr (n + 1)).toList.map Char.toNat = _
 refine (String.toList_append).symm ▸ ?_;refine (List.map_append).trans ?_
 have:=itx_nat h
 change (Nat.repr (n + 1)).toList.map Char.toNat = _ at this
 refine (this).symm ▸ ?_;rfl
theorem itx_eq {i : Int} (h : i.natAbs < 2 ^ 200) : itx i = (if i < 0 then [45] else []) ++ dgN 10 false i.natAbs:=by
 cases i with
 | ofNat n=>rw [if_neg (by simp)];exact itx_nat h
 | negSucc n=>exact (if_pos (Int.negSucc_lt_zero n)).symm ▸ itx_neg h
theorem dg10_dig (n : Nat) : ∀ c ∈ dgN 10 false n,isDig c = true:=fun c hc=>by
 obtain ⟨d,hd,rfl⟩:=dgN_dig (by decide) (by decide) n c hc
 unfold isDig sg
 refine (if_pos hd).symm ▸ ?_
 simp;lia
theorem dg_ne {b : Nat} {up : Bool} (n : Nat) : dgN b up n ≠ [] ∨ 2 ^ 200 ≤ n ∨ b < 2 ∨ 16 < b:=by
 by_cases h : n < 2 ^ 200
 ·by_cases hb : 2 ≤ b
  ·by_cases h16 : b ≤ 16
   ·refine gG fun P0 hP0=>?_
    obtain ⟨c,t,e,_⟩:=dgN_head (up:=up) hb h16 h
    refine hP0 ?_
    exact .inl (by refine (e).symm ▸ ?_;simp)
   ·exact .inr (.inr (.inr (by lia)))
  ·exact .inr (.inr (.inl (by lia)))
 ·exact .inr (.inl (by lia))
end
section
structure Fd where
 lit : Tx
 shown : Tx
 fl : Tx
 wt : Tx
 ww : Tx
 pt : Tx
 pw : Tx
 sz : Tx
 so : Nat
 val : V
 word : Tx
noncomputable def tupF (d : Fd) : V:=.tup [.str d.lit,.str d.shown,.str d.fl,.str d.wt,.str d.ww,.str d.pt,.str d.pw,.str d.sz,.str [d.so],d.val,.str d.word]
noncomputable def LitOk (lit shown : Tx) : Prop:=((∀ c ∈ lit,c ≠ 37) ∧ shown = lit) ∨ Ex2 fun pre post=>A4 (lit = pre ++ 37 :: 37 :: post) (shown = pre ++ 37 :: post) (∀ c ∈ pre,c ≠ 37) (∀ c ∈ post,c ≠ 37)
noncomputable def WTS : List Tx:=[[],[49],[57],[49,52],[42]]
noncomputable def PTS : List Tx:=[[],[46],[46,48],[46,51],[46,49,55],[46,42]]
structure FdOk (d : Fd) : Prop where
 lit : LitOk d.lit d.shown ∧ d.lit.length ≤ 10 ∧ d.shown.length ≤ 10
 fl : ∀ c ∈ d.fl,isFl c = true
 fln : d.fl.length ≤ 6
 wt : d.wt ∈ WTS
 pt : d.pt ∈ PTS
 sz : d.sz ∈ SIZES
 so : d.so ∈ SORTS
 ww : StarOk d.ww
 pw : StarOk d.pw
 word : d.word.length ≤ 300
noncomputable def msW (t : Tx) : Ms:=if t = [] then .no else if t = [42] then .star else .dig t
noncomputable def msP (t : Tx) : Option Ms:=match t with | []=>none | _ :: t=>some (msW t)
noncomputable def Fd.fs (d : Fd) : Fs:=⟨d.fl,msW d.wt,msP d.pt,d.sz,d.so⟩
noncomputable def Fd.words (d : Fd) : List Tx:=(if d.wt == [42] then [d.ww] else []) ++ ((if d.pt == [46,42] then [d.pw] else []) ++ [d.word])
theorem wts_tx : ∀ t ∈ WTS,mtx (msW t) = t:=by
 intro t h;unfold WTS at h
 simp only [List.mem_cons,List.not_mem_nil,or_false] at h
 rcases h with rfl | rfl | rfl | rfl | rfl <;> rfl
theorem pts_tx : ∀ t ∈ PTS,prTx (msP t) = t:=by
 intro t h;unfold PTS at h
 simp only [List.mem_cons,List.not_mem_nil,or_false] at h
 rcases h with rfl | rfl | rfl | rfl | rfl | rfl <;> rfl
theorem wts_len : ∀ t ∈ WTS,t.length ≤ 2:=by decide
theorem pts_len : ∀ t ∈ PTS,t.length ≤ 3:=by decide
theorem szs_len : ∀ t ∈ SIZES,t.length ≤ 2:=by decide
theorem wts_ok : ∀ t ∈ WTS,WOk (msW t):=by
 intro t h;unfold WTS at h
 simp only [List.mem_cons,List.not_mem_nil,or_false] at h
 rcases h with rfl | rfl | rfl | rfl | rfl
 ·trivial
 ·exact ⟨by decide,by decide,fun c t e=>by obtain ⟨rfl,rfl⟩:=cI e;decide⟩
 ·exact ⟨by decide,by decide,fun c t e=>by obtain ⟨rfl,rfl⟩:=cI e;decide⟩
 ·exact ⟨by decide,by decide,fun c t e=>by obtain ⟨rfl,rfl⟩:=cI e;decide⟩
 ·trivial
theorem pts_ok : ∀ t ∈ PTS,POk (msP t):=by
 intro t h;unfold PTS at h
 simp only [List.mem_cons,List.not_mem_nil,or_false] at h
 rcases h with rfl | rfl | rfl | rfl | rfl | rfl
 ·trivial
 ·trivial
 ·exact ⟨by decide,by decide⟩
 ·exact ⟨by decide,by decide⟩
 ·exact ⟨by decide,by decide⟩
 ·trivial
theorem FdOk.fsOk {d : Fd} (h : FdOk d) : FsOk d.fs ∧ (∀ c ∈ d.fs.tx,c ≠ 36 ∧ c ≠ 37) ∧ isDig d.fs.so = false:=Mine.fsOk h.fl (wts_ok _ h.wt) (pts_ok _ h.pt) h.sz h.so
theorem FdOk.tx {d : Fd} (h : FdOk d) : d.fs.tx = d.fl ++ (d.wt ++ (d.pt ++ (d.sz ++ [d.so]))):=by
 show d.fl ++ (mtx (msW d.wt) ++ (prTx (msP d.pt) ++ (d.sz ++ [d.so]))) = _
 rw [wts_tx _ h.wt,pts_tx _ h.pt]
theorem FdOk.txlen {d : Fd} (h : FdOk d) : d.fs.tx.length ≤ 20:=by
 rw [h.tx]
 have h1:=h.fln;have h2:=wts_len _ h.wt;have h3:=pts_len _ h.pt;have h4:=szs_len _ h.sz
 simp;lia
theorem lt_SZ {l : List V} (h : l.length ≤ 100) : l.length < SZ:=by unfold SZ;lia
theorem biV_str (i : Int) : biV .str [.int i] = strI i:=by kernel_rfl
theorem str_int {i : Int} (h : i.natAbs < 2 ^ 100) : biV .str [.int i] = some (.str (itx i)):=by
 rw [biV_str]
 unfold strI
 exact if_pos (Nat.lt_trans h (Nat.pow_lt_pow_right (by decide) (by decide)))
theorem add_str {a b : Tx} (ha : a.length ≤ 8000000) (hb : b.length ≤ 8000000) : binV .add (.str a) (.str b) = some (.str (a ++ b)):=if_pos (by unfold SZ;lia)
theorem add_lst {a b : List V} (ha : a.length ≤ 8000000) (hb : b.length ≤ 8000000) : binV .add (.lst a) (.lst b) = some (.lst (a ++ b)):=if_pos (by unfold SZ;lia)
section
variable {L : Nat} {p : Int} {d : Fd}
theorem words_L (h : 37 < L) (d : Fd) : lay L 37 [tupF d] p = .ok (.lst (d.words.map .str)) p:=by
 unfold Fd.words
 cases h1 : (d.wt == [42]) <;> cases h2 : (d.pt == [46,42])
 ·exact def_ret h ⟨by decide,rfl⟩ rfl (q_newL rfl (q_iff (b_cmp rfl rfl rfl) h1 rfl (q_iff (b_cmp rfl rfl rfl) h2 rfl (q_app rfl rfl (lt_SZ (by exact Nat.zero_le _)) rfl))))
 ·exact def_ret h ⟨by decide,rfl⟩ rfl (q_newL rfl (q_iff (b_cmp rfl rfl rfl) h1 rfl (q_ift (b_cmp rfl rfl rfl) h2 (q_app rfl rfl (lt_SZ (by exact Nat.zero_le _)) rfl) (q_app rfl rfl (lt_SZ (by exact Nat.succ_pos _)) rfl))))
 ·exact def_ret h ⟨by decide,rfl⟩ rfl (q_newL rfl (q_ift (b_cmp rfl rfl rfl) h1 (q_app rfl rfl (lt_SZ (by exact Nat.zero_le _)) rfl) (q_iff (b_cmp rfl rfl rfl) h2 rfl (q_app rfl rfl (lt_SZ (by exact Nat.succ_pos _)) rfl))))
 ·exact def_ret h ⟨by decide,rfl⟩ rfl (q_newL rfl (q_ift (b_cmp rfl rfl rfl) h1 (q_app rfl rfl (lt_SZ (by exact Nat.zero_le _)) rfl) (q_ift (b_cmp rfl rfl rfl) h2 (q_app rfl rfl (lt_SZ (by exact Nat.succ_pos _)) rfl) (q_app rfl rfl (lt_SZ (by simp)) rfl))))
theorem spec_L (h : 38 < L) (ok : FdOk d) : lay L 38 [tupF d] p = .ok (.str d.fs.tx) p:=by
 have h1:=ok.fln;have h2:=wts_len _ ok.wt;have h3:=pts_len _ ok.pt;have h4:=szs_len _ ok.sz
 rw [ok.tx]
 have e : d.fl ++ (d.wt ++ (d.pt ++ (d.sz ++ [d.so]))) = d.fl ++ d.wt ++ d.pt ++ d.sz ++ [d.so]:=by simp
 rw [e]
 exact def_ret h ⟨by decide,rfl⟩ rfl (q_ret (e_bin (e_bin (e_bin (e_bin rfl rfl (add_str (by lia) (by lia))) rfl (add_str (by simp;lia) (by lia))) rfl (add_str (by simp;lia) (by lia))) rfl (add_str (by simp;lia) (by exact Nat.succ_pos _))))
noncomputable def toldV : Except EE Tx → V | .ok t=>.tup [.int 0,.str t,.tup []] | .error e=>.tup [.int 1,.str e.1,.tup (e.2.map .str)]
theorem told_L (h : 39 < L) {t : Tx} {A : List Tx} {R : Except EE Tx} (hf : ∀ p,lay 39 31 [.str t,.lst (A.map .str)] p = ofX .str R p) : lay L 39 [.str t,.lst (A.map .str)] p = .ok (toldV R) p:=by
 rw [lay_at h]
 show told1 (lay 39 31 [.str t,.lst (A.map .str)] p) = _
 rw [hf]
 cases R <;> rfl
theorem toldOf_told (R : Except EE Tx) : ∃ a,toldOf (toldV R) = some a:=by
 cases R with
 | ok t=>exact ⟨_,rfl⟩
 | error e=>exact ⟨(1,e.1,e.2),by show (strsOf (e.2.map .str)).map _ = _;rw [strs_map];rfl⟩
theorem eq_told (R : Except EE Tx) : eqV (toldV R) (toldV R) = some true:=by
 obtain ⟨a,ha⟩:=toldOf_told R
 have : eqV (toldV R) (toldV R) = (toldOf (toldV R)).bind fun a=>(toldOf (toldV R)).bind fun b=>some (a.1 == b.1 && (a.2.1 == b.2.1 && a.2.2 == b.2.2)):=by cases R <;> rfl
 rw [this,ha]
 show some _ = _
 simp
noncomputable def cW (W : Int) : Ms:=if 0 < W then .dig (itx W) else .no
noncomputable def cP (P : Int) : Option Ms:=if 0 ≤ P then some (.dig (itx P)) else none
theorem form_L (h : 45 < L) {fl : Tx} {W P : Int} (hfl : fl.length ≤ 10) (hsz : d.sz ∈ SIZES) (hW : W.natAbs < 2 ^ 100) (hP : P.natAbs < 2 ^ 100) : lay L 45 [.str fl,.int W,.int P,tupF d] p = .ok (.str (37 :: (Fs.tx ⟨fl,cW W,cP P,d.sz,d.so⟩))) p:=by
 have h200 : (2 : Nat) ^ 100 < 2 ^ 200:=by decide
 have lW : (itx W).length ≤ 300:=by rw [itx_eq (by exact Nat.lt_trans (by assumption) (by assumption))];have:=@dgN_len 10 false W.natAbs;split <;> simp <;> lia
 have lP : (itx P).length ≤ 300:=by rw [itx_eq (by exact Nat.lt_trans (by assumption) (by assumption))];have:=@dgN_len 10 false P.natAbs;split <;> simp <;> lia
 have sW : biV .str [.int W] = some (.str (itx W)):=str_int hW
 have sP : biV .str [.int P] = some (.str (itx P)):=str_int hP
 have h4:=szs_len _ hsz
 have e1 : ∀ {vs : List Sl},vs[1]? = some (.val (.int W)) → cev (lay 45) (.ite (.cmp (.var 1) .gt (.lit (.int 0))) (.bi .str (.cons (.var 1) .nil)) (.lit (.str []))) vs p = .ok (.str (mtx (cW W))) p:=fun {vs} hv=>by
  have hv' : cev (lay 45) (.var 1) vs p = .ok (.int W) p:=e_var hv
  refine e_ite (b_cmp hv' rfl rfl) ?_
  unfold cW
  by_cases hh : 0 < W
  ·rw [decide_eq_true hh,if_pos rfl,if_pos hh];exact e_bi (e_cons hv' rfl) sW
  ·rw [decide_eq_false hh,if_neg Bool.false_ne_true,if_neg hh];rfl
 have e2 : ∀ {vs : List Sl},vs[2]? = some (.val (.int P)) → cev (lay 45) (.ite (.cmp (.var 2) .ge (.lit (.int 0))) (.bin .add (.lit (.str [46])) (.bi .str (.cons (.var 2) .nil))) (.lit (.str []))) vs p = .ok (.str (prTx (cP P))) p:=fun {vs} hv=>by
  have hv' : cev (lay 45) (.var 2) vs p = .ok (.int P) p:=e_var hv
  refine e_ite (b_cmp hv' rfl rfl) ?_
  unfold cP
  by_cases hh : 0 ≤ P
  ·rw [decide_eq_true hh,if_pos rfl,if_pos hh];exact e_bin rfl (e_bi (e_cons hv' rfl) sP) (add_str (by exact Nat.succ_pos _) (by lia))
  ·rw [decide_eq_false hh,if_neg Bool.false_ne_true,if_neg hh];rfl
 have lm : (mtx (cW W)).length ≤ 300:=by unfold cW;split <;> simp [mtx];exact lW
 have lp : (prTx (cP P)).length ≤ 301:=by unfold cP;split <;> simp [prTx,mtx];exact lP
 have e : 37 :: (Fs.tx ⟨fl,cW W,cP P,d.sz,d.so⟩) = [37] ++ (fl ++ mtx (cW W) ++ prTx (cP P)) ++ d.sz ++ [d.so]:=by simp [Fs.tx]
 rw [e]
 exact def_ret h ⟨by decide,rfl⟩ rfl (q_asg (e_bin (e_bin rfl (e1 rfl) (add_str (by lia) (by lia))) (e2 rfl) (add_str (by simp;lia) (by lia))) (q_ret (e_bin (e_bin (e_bin rfl rfl (add_str (by exact Nat.succ_pos _) (by simp;lia))) rfl (add_str (by simp;lia) (by lia))) rfl (add_str (by simp;lia) (by exact Nat.succ_pos _)))))
noncomputable def wX (d : Fd) : Except EE Int:=if d.wt == [42] then ni d.ww else .ok (dv 10 d.wt 0)
noncomputable def pX (d : Fd) : Except EE Int:=if d.pt == [46,42] then ni d.pw else .ok (if d.pt == [] then -1 else dv 10 (d.pt.drop 1) 0)
noncomputable def measV (d : Fd) : V:=match wX d,pX d with
 | .ok W,.ok P=>.tup [.str (if W < 0 then d.fl ++ [45] else d.fl),.int (if W < 0 then -W else W),.int (if d.pt == [] then -1 else if P < 0 then 0 else P)]
 | _,_=>.none
theorem measures_L (h : 44 < L) (ok : FdOk d) : lay L 44 [tupF d] p = .ok (measV d) p:=by
 have hfl:=ok.fln
 have stepW : ∀ {K : CS} {a1 a2 a3 : Sl},csx (lay 44) fuel (.asg 2 (.item (.dct [[],[49],[57],[49,52],[42]] [(.int 0),(.int 1),(.int 9),(.int 14),(.int 0)]) (.item (.var 0) (.lit (.int 3)))) (.ifs (.cmp (.item (.var 0) (.lit (.int 3))) .eq (.lit (.str [42]))) (.asg 2 (.call 43 (.cons (.item (.var 0) (.lit (.int 4))) .nil)) .done) .done K)) [.val (tupF d),a1,a2,a3] p = csx (lay 44) fuel K [.val (tupF d),a1,.val (optX (wX d)),a3] p:=by
  intro K a1 a2 a3
  have hw:=ok.wt
  unfold WTS at hw
  simp only [List.mem_cons,List.not_mem_nil,or_false] at hw
  have key : ∀ v : Int,itemV (.dct [[],[49],[57],[49,52],[42]] [(.int 0),(.int 1),(.int 9),(.int 14),(.int 0)]) (.str d.wt) p = some (.int v) → (d.wt == [42]) = false → v = dv 10 d.wt 0 → csx (lay 44) fuel (.asg 2 (.item (.dct [[],[49],[57],[49,52],[42]] [(.int 0),(.int 1),(.int 9),(.int 14),(.int 0)]) (.item (.var 0) (.lit (.int 3)))) (.ifs (.cmp (.item (.var 0) (.lit (.int 3))) .eq (.lit (.str [42]))) (.asg 2 (.call 43 (.cons (.item (.var 0) (.lit (.int 4))) .nil)) .done) .done K)) [.val (tupF d),a1,a2,a3] p = csx (lay 44) fuel K [.val (tupF d),a1,.val (optX (wX d)),a3] p:=fun v h1 h2 h3=>by
   have hx : wX d = .ok v:=by unfold wX;rw [h2,h3];rfl
   rw [hx]
   exact q_asg (e_item rfl rfl h1) (q_iff (b_cmp rfl rfl rfl) h2 rfl rfl)
  rcases hw with e | e | e | e | e
  ·exact key 0 (by rw [e];rfl) (by rw [e];rfl) (by rw [e];rfl)
  ·exact key 1 (by rw [e];rfl) (by rw [e];rfl) (by rw [e];rfl)
  ·exact key 9 (by rw [e];rfl) (by rw [e];rfl) (by rw [e];rfl)
  ·exact key 14 (by rw [e];rfl) (by rw [e];rfl) (by rw [e];rfl)
  ·have h2 : (d.wt == [42]) = true:=by rw [e];rfl
   have hx : wX d = ni d.ww:=by unfold wX;rw [h2];rfl
   rw [hx]
   exact q_asg (e_item (z:=.int 0) rfl rfl (by rw [e];rfl)) (q_ift (b_cmp rfl rfl rfl) h2 (q_asg (e_call rfl (ok.ww.num 44 p (by decide)) (by cases ni d.ww <;> rfl)) rfl) rfl)
 have stepP : ∀ {K : CS} {a1 a2 a3 : Sl},csx (lay 44) fuel (.asg 3 (.item (.dct [[],[46],[46,48],[46,51],[46,49,55],[46,42]] [(.int (-1)),(.int 0),(.int 0),(.int 3),(.int 17),(.int 0)]) (.item (.var 0) (.lit (.int 5)))) (.ifs (.cmp (.item (.var 0) (.lit (.int 5))) .eq (.lit (.str [46,42]))) (.asg 3 (.call 43 (.cons (.item (.var 0) (.lit (.int 6))) .nil)) .done) .done K)) [.val (tupF d),a1,a2,a3] p = csx (lay 44) fuel K [.val (tupF d),a1,a2,.val (optX (pX d))] p:=by
  intro K a1 a2 a3
  have hw:=ok.pt
  unfold PTS at hw
  simp only [List.mem_cons,List.not_mem_nil,or_false] at hw
  have key : ∀ v : Int,itemV (.dct [[],[46],[46,48],[46,51],[46,49,55],[46,42]] [(.int (-1)),(.int 0),(.int 0),(.int 3),(.int 17),(.int 0)]) (.str d.pt) p = some (.int v) → (d.pt == [46,42]) = false → pX d = .ok v → csx (lay 44) fuel (.asg 3 (.item (.dct [[],[46],[46,48],[46,51],[46,49,55],[46,42]] [(.int (-1)),(.int 0),(.int 0),(.int 3),(.int 17),(.int 0)]) (.item (.var 0) (.lit (.int 5)))) (.ifs (.cmp (.item (.var 0) (.lit (.int 5))) .eq (.lit (.str [46,42]))) (.asg 3 (.call 43 (.cons (.item (.var 0) (.lit (.int 6))) .nil)) .done) .done K)) [.val (tupF d),a1,a2,a3] p = csx (lay 44) fuel K [.val (tupF d),a1,a2,.val (optX (pX d))] p:=fun v h1 h2 h3=>by
   rw [h3]
   exact q_asg (e_item rfl rfl h1) (q_iff (b_cmp rfl rfl rfl) h2 rfl rfl)
  rcases hw with e | e | e | e | e | e
  ·exact key (-1) (by rw [e];rfl) (by rw [e];rfl) (by unfold pX;rw [e];rfl)
  ·exact key 0 (by rw [e];rfl) (by rw [e];rfl) (by unfold pX;rw [e];rfl)
  ·exact key 0 (by rw [e];rfl) (by rw [e];rfl) (by unfold pX;rw [e];rfl)
  ·exact key 3 (by rw [e];rfl) (by rw [e];rfl) (by unfold pX;rw [e];rfl)
  ·exact key 17 (by rw [e];rfl) (by rw [e];rfl) (by unfold pX;rw [e];rfl)
  ·have h2 : (d.pt == [46,42]) = true:=by rw [e];rfl
   have hx : pX d = ni d.pw:=by unfold pX;rw [h2];rfl
   rw [hx]
   exact q_asg (e_item (z:=.int 0) rfl rfl (by rw [e];rfl)) (q_ift (b_cmp rfl rfl rfl) h2 (q_asg (e_call rfl (ok.pw.num 44 p (by decide)) (by cases ni d.pw <;> rfl)) rfl) rfl)
 have hend : ∃ vs',csx (lay 44) fuel c_law_measures [.val (tupF d),.un,.un,.un] p = .ok (.ret (measV d)) vs' p:=by
  unfold measV
  cases hw : wX d with
  | error e=>exact ⟨_,q_asg rfl (stepW.trans (stepP.trans (q_itr (b_or (u:=false) (b_cmp rfl rfl (show isV (optX (wX d)) .none = some true by rw [hw];rfl)) fun q=>(by exact tF q)) rfl (q_ret rfl) fun Z=>rfl)))⟩
  | ok W =>
   have i1 : isV (optX (wX d)) .none = some false:=by rw [hw];rfl
   cases hp : pX d with
   | error e=>exact ⟨_,q_asg rfl (stepW.trans (stepP.trans (q_itr (b_or (u:=true) (b_cmp rfl rfl i1) fun Z=>b_cmp rfl rfl (show isV (optX (pX d)) .none = some true by rw [hp];rfl)) rfl (q_ret rfl) fun Z=>rfl)))⟩
   | ok P =>
    have i2 : isV (optX (pX d)) .none = some false:=by rw [hp];rfl
    rw [hw] at stepW i1
    rw [hp] at stepP i2
    have e3 : ∀ {b1 b2 : Sl},cev (lay 44) (.ite (.cmp (.item (.var 0) (.lit (.int 5))) .ne (.lit (.str []))) (.bi .max (.cons (.var 3) (.cons (.lit (.int 0)) .nil))) (.neg (.lit (.int 1)))) [.val (tupF d),b1,b2,.val (.int P)] p = .ok (.int (if d.pt == [] then -1 else if P < 0 then 0 else P)) p:=by
     intro b1 b2
     refine e_ite (b_cmp (y:=.str []) rfl rfl rfl) ?_
     cases h5 : (d.pt == []) <;> rfl
    dsimp only
    by_cases hW : W < 0
    ·rw [if_pos hW,if_pos hW]
     exact ⟨_,q_asg rfl (stepW.trans (stepP.trans (q_iff (b_or (u:=false) (b_cmp rfl rfl i1) fun Z=>b_cmp rfl rfl i2) rfl rfl (q_ift (b_cmp rfl rfl rfl) (decide_eq_true hW) (q_asgT (e_tup (e_cons (e_bin rfl rfl (add_str (by lia) (by exact Nat.succ_pos _))) rfl) (by simp)) rfl rfl) (q_ret (e_tup (e_cons rfl (e_cons rfl (e_cons e3 rfl))) (by simp)))))))⟩
    ·rw [if_neg hW,if_neg hW]
     exact ⟨_,q_asg rfl (stepW.trans (stepP.trans (q_iff (b_or (u:=false) (b_cmp rfl rfl i1) fun Z=>b_cmp rfl rfl i2) rfl rfl (q_iff (b_cmp rfl rfl rfl) (decide_eq_false hW) rfl (q_ret (e_tup (e_cons rfl (e_cons rfl (e_cons e3 rfl))) (by simp)))))))⟩
 obtain ⟨vs',e⟩:=hend
 exact def_ret h ⟨by decide,rfl⟩ rfl e
end
end
section
noncomputable def PBd (P : Int) : Prop:=-1 ≤ P ∧ (P ≤ 20 ∨ (2147483648 ≤ P ∧ P ≤ 4294967295))
noncomputable def FldOk (so word fl : Tx) (W P : Int) (sz : Tx) : Prop:=FOk so word fl W P sz ∧ ∀ t,fld so word fl W P sz = .ok t → t.length ≤ 1000
noncomputable def FdFld (d : Fd) : Prop:=∀ fl' W P,(fl' = d.fl ∨ fl' = d.fl ++ [45]) → 0 ≤ W → W ≤ 20 → PBd P → FldOk [d.so] d.word fl' W P d.fs.sn
noncomputable def Ext (d : Fd) (ws : List Tx) : Prop:=∀ i x,i < d.words.length → ws[i]? = some x → d.words[i]? = some x
section
variable {d : Fd} {ws : List Tx} {pl : Bool}
theorem ext_app (d : Fd) (m : List Tx) : Ext d (d.words ++ m):=fun i x h e=>by rwa [List.getElem?_append_left h] at e
theorem ext_take (d : Fd) (j : Nat) : Ext d (d.words.take j):=fun i x h e=>by
 rw [List.getElem?_take] at e
 split at e
 ·exact e
 ·exact nS e
theorem msW_star {t : Tx} : msW t = .star ↔ t = [42]:=by
 unfold msW
 by_cases h1 : t = []
 ·rw [if_pos h1];exact ⟨fun q=>(by exact Ms.noConfusion q),fun q=>(by rw [h1] at q;exact nC q)⟩
 ·rw [if_neg h1]
  by_cases h2 : t = [42]
  ·rw [if_pos h2];exact ⟨fun Z=>h2,fun Z=>rfl⟩
  ·rw [if_neg h2];exact ⟨fun q=>(by exact Ms.noConfusion q),fun q=>absurd q h2⟩
theorem msP_star {t : Tx} (h : t ∈ PTS) : msP t = some .star ↔ t = [46,42]:=by
 unfold PTS at h
 simp only [List.mem_cons,List.not_mem_nil,or_false] at h
 rcases h with rfl | rfl | rfl | rfl | rfl | rfl <;> first | exact ⟨fun Z=>rfl,fun Z=>rfl⟩ | exact ⟨fun q=>(by cases q),fun q=>(by cases q)⟩
theorem measK_w (d : Fd) : measK d.fs.w = if d.wt == [42] then 1 else 0:=by
 show measK (msW d.wt) = _
 cases h : (d.wt == [42]) with
 | true=>rw [(msW_star).mpr (eq_of_beq h)];rfl
 | false =>
  have : d.wt ≠ [42]:=fun q=>by rw [q] at h;exact tF h
  unfold msW
  rw [if_neg this]
  split <;> rfl
theorem prK_p (ok : FdOk d) : prK d.fs.pr = if d.pt == [46,42] then 1 else 0:=by
 show prK (msP d.pt) = _
 have h:=ok.pt
 unfold PTS at h
 simp only [List.mem_cons,List.not_mem_nil,or_false] at h
 rcases h with h | h | h | h | h | h <;> rw [h] <;> rfl
theorem words_len (ok : FdOk d) : d.words.length = d.fs.k + 1:=by
 unfold Fs.k
 rw [measK_w,prK_p ok]
 unfold Fd.words
 cases h1 : (d.wt == [42]) <;> cases h2 : (d.pt == [46,42]) <;> rfl
theorem words_word (ok : FdOk d) : d.words[d.fs.k]? = some d.word:=by
 unfold Fs.k
 rw [measK_w,prK_p ok]
 unfold Fd.words
 cases h1 : (d.wt == [42]) <;> cases h2 : (d.pt == [46,42]) <;> rfl
theorem head_drop (l : List Tx) (n : Nat) : (l.drop n).head? = l[n]?:=by rw [List.head?_drop]
theorem dig_small : ∀ t ∈ WTS,t ≠ [42] → 0 ≤ dv 10 t 0 ∧ dv 10 t 0 ≤ 20:=by decide
theorem digP_small : ∀ t ∈ PTS,t ≠ [46,42] → 0 ≤ dv 10 (t.drop 1) 0 ∧ dv 10 (t.drop 1) 0 ≤ 20:=by decide
theorem measW_ok (ok : FdOk d) (he : Ext d ws) {o : Option Int} (h : measR d.fs.w ws pl = .ok o) : wX d = .ok (wV o):=by
 unfold wX
 change measR (msW d.wt) ws pl = .ok o at h
 cases hs : (d.wt == [42]) with
 | true =>
  rw [if_pos rfl]
  rw [msW_star.mpr (eq_of_beq hs)] at h
  match ws,he,h with
  | w :: w2 :: r,he,h =>
   have:=he 0 w (by rw [words_len ok];exact Nat.succ_pos _) rfl
   have e : d.words[0]? = some d.ww:=by unfold Fd.words;rw [hs];rfl
   rw [e] at this;obtain rfl:=sI this
   change (match ni d.ww with | .ok i=>Except.ok (some i) | .error e=>Except.error e) = _ at h
   cases hn : ni d.ww with
   | ok i=>rw [hn] at h;obtain rfl:=Except.ok.inj h;rfl
   | error e=>rw [hn] at h;cases h
  | [_],_,h=>cases h
  | [],_,h=>cases h
 | false =>
  rw [if_neg Bool.false_ne_true]
  have hne : d.wt ≠ [42]:=fun q=>by rw [q] at hs;exact tF hs
  unfold msW at h
  rw [if_neg hne] at h
  split at h
  ·rename_i h0;obtain rfl:=Except.ok.inj h;rw [h0];rfl
  ·obtain rfl:=Except.ok.inj h;rfl
theorem wX_bd (ok : FdOk d) {W : Int} (h : wX d = .ok W) : W.natAbs ≤ 20 ∨ (2147483648 ≤ W.natAbs ∧ W.natAbs ≤ 4294967295):=by
 unfold wX at h
 cases hs : (d.wt == [42]) with
 | true=>rw [hs,if_pos rfl] at h;exact ok.ww.bd _ h
 | false =>
  rw [hs,if_neg Bool.false_ne_true] at h
  obtain rfl:=Except.ok.inj h
  have:=dig_small d.wt ok.wt (fun q=>by rw [q] at hs;exact tF hs)
  lia
noncomputable def prI (d : Fd) (P : Int) : Int:=if d.pt == [] then -1 else if P < 0 then 0 else P
theorem measP_ok (ok : FdOk d) (he : Ext d ws) {P : Int} (h : prR d.fs.pr (ws.drop (measK d.fs.w)) pl = .ok P) : ∃ P0,pX d = .ok P0 ∧ P = prI d P0:=by
 change prR (msP d.pt) _ pl = .ok P at h
 unfold pX prI
 have hpt:=ok.pt
 cases hs : (d.pt == [46,42]) with
 | true =>
  rw [if_pos rfl]
  have e1:=eq_of_beq hs
  rw [(msP_star hpt).mpr e1] at h
  have hk:=words_len ok
  unfold Fs.k at hk
  rw [prK_p ok,hs,if_pos rfl] at hk
  have e0 : (d.pt == []) = false:=by rw [e1];rfl
  rw [e0]
  match hw : ws.drop (measK d.fs.w),h with
  | w :: w2 :: r,h =>
   have g : ws[measK d.fs.w]? = some w:=by rw [← head_drop,hw];rfl
   have:=he _ w (by rw [hk];lia) g
   have e : d.words[measK d.fs.w]? = some d.pw:=by
    rw [measK_w];unfold Fd.words;rw [hs]
    cases (d.wt == [42]) <;> rfl
   rw [e] at this;obtain rfl:=sI this
   change (match (match ni d.pw with | .ok i=>Except.ok (some i) | .error e=>Except.error e) with | .ok o=>Except.ok (prV o) | .error e=>.error e) = _ at h
   cases hn : ni d.pw with
   | ok i=>rw [hn] at h;obtain rfl:=Except.ok.inj h;exact ⟨i,rfl,rfl⟩
   | error e=>rw [hn] at h;cases h
  | [_],h=>cases h
  | [],h=>cases h
 | false =>
  rw [if_neg Bool.false_ne_true]
  refine ⟨_,rfl,?_⟩
  unfold PTS at hpt
  simp only [List.mem_cons,List.not_mem_nil,or_false] at hpt
  rcases hpt with e | e | e | e | e | e <;> rw [e] at h hs ⊢ <;> first | (cases hs;done) | (obtain rfl:=Except.ok.inj h;rfl)
theorem prI_pb (ok : FdOk d) {P0 : Int} (h : pX d = .ok P0) : PBd (prI d P0):=by
 unfold prI PBd
 unfold pX at h
 cases h0 : (d.pt == []) with
 | true=>rw [if_pos rfl];decide
 | false =>
  rw [if_neg Bool.false_ne_true]
  cases hs : (d.pt == [46,42]) with
  | true =>
   rw [hs,if_pos rfl] at h
   have:=ok.pw.bd _ h
   split <;> lia
  | false =>
   rw [hs,h0,if_neg Bool.false_ne_true,if_neg Bool.false_ne_true] at h
   obtain rfl:=Except.ok.inj h
   have:=digP_small d.pt ok.pt (fun q=>by rw [q] at hs;exact tF hs)
   split <;> lia
theorem wF_eq (o : Option Int) (fl : Tx) : wF o fl = fl ∨ wF o fl = fl ++ [45]:=by unfold wF;split <;> simp
theorem wA_nn (o : Option Int) : 0 ≤ wA o:=by unfold wA;split <;> lia
theorem wA_small (ok : FdOk d) (he : Ext d ws) {o : Option Int} (h : measR d.fs.w ws pl = .ok o) (h2 : ¬ 2147483648 ≤ wA o) : wA o ≤ 20:=by
 have:=wX_bd ok (measW_ok ok he h)
 unfold wA at h2 ⊢
 split at h2 <;> split <;> lia
theorem pfOk (ok : FdOk d) (hf : FdFld d) (he : Ext d ws) : PfOk d.fs ws pl:=by
 obtain ⟨h1,h2,h3⟩:=ok.fsOk
 refine ⟨h1,fun hs w hw=>?_,fun hs w hw=>?_,fun o P x hm hW hP hx=>?_,h2,h3⟩
 ·have e1 : d.wt = [42]:=msW_star.mp hs
  rw [List.head?_eq_getElem?] at hw
  have:=he 0 w (by rw [words_len ok];exact Nat.succ_pos _) hw
  have e : d.words[0]? = some d.ww:=by unfold Fd.words;rw [e1];rfl
  rw [e] at this;obtain rfl:=sI this
  exact ok.ww.ni
 ·have e1 : d.pt = [46,42]:=(msP_star ok.pt).mp hs
  rw [head_drop] at hw
  have hk:=words_len ok
  unfold Fs.k at hk
  rw [prK_p ok,e1] at hk
  have:=he _ w (by rw [hk];show _ < measK d.fs.w + 1 + 1;lia) hw
  have e : d.words[measK d.fs.w]? = some d.pw:=by
   rw [measK_w];unfold Fd.words;rw [e1]
   cases (d.wt == [42]) <;> rfl
  rw [e] at this;obtain rfl:=sI this
  exact ok.pw.ni
 ·rw [head_drop] at hx
  have:=he _ x (by rw [words_len ok];exact Nat.le_refl _) hx
  rw [words_word ok] at this;obtain rfl:=sI this
  obtain ⟨P0,e1,rfl⟩:=measP_ok ok he hP
  exact (hf _ _ _ (wF_eq o _) (wA_nn o) (wA_small ok he hm hW) (prI_pb ok e1)).1
theorem putR_ok {F : Fs} {t : Tx} (h : putR F ws pl = .ok t) : Ex3 fun o P x=>A5 (measR F.w ws pl = .ok o) (¬ 2147483648 ≤ wA o) (prR F.pr (ws.drop (measK F.w)) pl = .ok P) (ws[F.k]? = some x) (fld [F.so] x (wF o F.fl) (wA o) P F.sn = .ok t):=by
 cases ws with
 | nil=>cases h
 | cons w0 wr =>
  generalize hws : w0 :: wr = wz at h
  have hput : putR F wz pl = match measR F.w wz pl with
   | .error e=>.error e
   | .ok o=>if 2147483648 ≤ wA o then .error eRoom else match prR F.pr (wz.drop (measK F.w)) pl with
    | .error e=>.error e
    | .ok P=>fld [F.so] ((wz.drop F.k).headD []) (wF o F.fl) (wA o) P F.sn:=by rw [← hws];rfl
  have hne : wz ≠ []:=by rw [← hws];simp
  rw [hput] at h
  cases hm : measR F.w wz pl with
  | error e=>rw [hm] at h;cases h
  | ok o =>
   rw [hm] at h
   dsimp only at h
   split at h
   ·cases h
   ·rename_i hW
    cases hp : prR F.pr (wz.drop (measK F.w)) pl with
    | error e=>rw [hp] at h;cases h
    | ok P =>
     rw [hp] at h
     have hk : F.k < wz.length:=by
      have h1:=measR_len hm hne
      unfold Fs.k
      cases hpr : F.pr with
      | none=>exact h1
      | some m =>
       rw [hpr] at hp
       unfold prR at hp
       dsimp only at hp
       cases hq : measR m (wz.drop (measK F.w)) pl with
       | error e=>rw [hq] at hp;cases hp
       | ok o2 =>
        have h2:=measR_len hq (fun q=>by rw [List.drop_eq_nil_iff] at q;omega)
        rw [List.length_drop] at h2
        show measK F.w + measK m < _
        omega
     refine ⟨o,P,wz[F.k],rfl,hW,rfl,List.getElem?_eq_getElem hk,?_⟩
     have : (wz.drop F.k).headD [] = wz[F.k]:=by
      rw [List.headD_eq_head?_getD,head_drop,List.getElem?_eq_getElem hk];rfl
     rw [← this];exact h
theorem putR_klt {F : Fs} {t : Tx} (h : putR F ws pl = .ok t) : F.k < ws.length:=by
 obtain ⟨o,P,x,_,_,_,hx,_⟩:=putR_ok h
 exact (List.getElem?_eq_some_iff.mp hx).1
theorem putR_len (ok : FdOk d) (hf : FdFld d) (he : Ext d ws) {t : Tx} (h : putR d.fs ws pl = .ok t) : t.length ≤ 1000:=by
 obtain ⟨o,P,x,hm,hW,hP,hx,ht⟩:=putR_ok h
 have:=he _ x (by rw [words_len ok];exact Nat.le_refl _) hx
 rw [words_word ok] at this;obtain rfl:=sI this
 obtain ⟨P0,e1,rfl⟩:=measP_ok ok he hP
 exact (hf _ _ _ (wF_eq o _) (wA_nn o) (wA_small ok he hm hW) (prI_pb ok e1)).2 t ht
noncomputable def fieldX (d : Fd) : Except EE Tx:=match wX d with
 | .error e=>.error e
 | .ok W=>if 2147483648 ≤ (if W < 0 then -W else W) then .error eRoom else match pX d with
  | .error e=>.error e
  | .ok P=>fld [d.so] d.word (if W < 0 then d.fl ++ [45] else d.fl) (if W < 0 then -W else W) (prI d P) d.fs.sn
theorem measW_all (ok : FdOk d) (m : List Tx) : measR d.fs.w (d.words ++ m) pl = match wX d with | .ok _=>measR d.fs.w (d.words ++ m) pl | .error e=>.error e:=by
 cases hw : wX d with
 | ok W=>rfl
 | error e =>
  show measR (msW d.wt) _ pl = _
  unfold wX at hw
  cases hs : (d.wt == [42]) with
  | false=>rw [hs] at hw;cases hw
  | true =>
   rw [hs,if_pos rfl] at hw
   rw [msW_star.mpr (eq_of_beq hs)]
   have : ∃ r,d.words ++ m = d.ww :: r ∧ r ≠ []:=by
    unfold Fd.words;rw [hs]
    cases (d.pt == [46,42]) <;> exact ⟨_,rfl,by simp⟩
   obtain ⟨r,e1,hr⟩:=this
   rw [e1]
   cases r with
   | nil=>exact absurd rfl hr
   | cons w2 r =>
    show (match ni d.ww with | .ok i=>Except.ok (some i) | .error e=>Except.error e) = _
    rw [hw]
theorem putR_all (ok : FdOk d) (m : List Tx) : putR d.fs (d.words ++ m) pl = fieldX d:=by
 have he:=ext_app d m
 have hlen:=words_len ok
 generalize hwz : d.words ++ m = wz at *
 have hne : wz ≠ []:=fun q=>by rw [q] at hwz;rw [List.append_eq_nil_iff] at hwz;rw [hwz.1] at hlen;simp at hlen
 have hwl : d.fs.k < wz.length:=by rw [← hwz,List.length_append];omega
 have hput : putR d.fs wz pl = match measR d.fs.w wz pl with
  | .error e=>.error e
  | .ok o=>if 2147483648 ≤ wA o then .error eRoom else match prR d.fs.pr (wz.drop (measK d.fs.w)) pl with
   | .error e=>.error e
   | .ok P=>fld [d.so] ((wz.drop d.fs.k).headD []) (wF o d.fl) (wA o) P d.fs.sn:=by
  cases wz with
  | nil=>exact absurd rfl hne
  | cons _ _=>rfl
 rw [hput]
 unfold fieldX
 have hword : (wz.drop d.fs.k).headD [] = d.word:=by
  have h1:=he _ wz[d.fs.k] (by rw [hlen];exact Nat.le_refl _) (List.getElem?_eq_getElem hwl)
  rw [words_word ok] at h1
  rw [List.headD_eq_head?_getD,head_drop,List.getElem?_eq_getElem hwl,← h1];rfl
 rw [hword]
 have hall:=measW_all (pl:=pl) ok m
 rw [hwz] at hall
 cases hm : measR d.fs.w wz pl with
 | error e =>
  cases hw : wX d with
  | error e'=>rw [hw,hm] at hall;cases hall;rfl
  | ok W =>
   exfalso
   change measR (msW d.wt) wz pl = .error e at hm
   unfold wX at hw
   cases hs : (d.wt == [42]) with
   | false =>
    have hne : d.wt ≠ [42]:=fun q=>by rw [q] at hs;exact tF hs
    unfold msW at hm
    rw [if_neg hne] at hm
    split at hm <;> cases hm
   | true =>
    rw [hs,if_pos rfl] at hw
    rw [msW_star.mpr (eq_of_beq hs)] at hm
    have : ∃ r,wz = d.ww :: r ∧ r ≠ []:=by
     rw [← hwz];unfold Fd.words;rw [hs]
     cases (d.pt == [46,42]) <;> exact ⟨_,rfl,by exact fun h=>nomatch h⟩
    obtain ⟨r,e1,hr⟩:=this
    rw [e1] at hm
    cases r with
    | nil=>exact absurd rfl hr
    | cons w2 r =>
     change (match ni d.ww with | .ok i=>Except.ok (some i) | .error e=>Except.error e) = _ at hm
     rw [hw] at hm;cases hm
 | ok o =>
  have hw:=measW_ok ok he hm
  rw [hw]
  dsimp only
  have eA : (if wV o < 0 then -wV o else wV o) = wA o:=rfl
  have eF : (if wV o < 0 then d.fl ++ [45] else d.fl) = wF o d.fl:=rfl
  rw [eA,eF]
  split
  ·rfl
  ·cases hp : prR d.fs.pr (wz.drop (measK d.fs.w)) pl with
   | ok P =>
    obtain ⟨P0,e1,rfl⟩:=measP_ok ok he hp
    rw [e1]
   | error e =>
    dsimp only
    change prR (msP d.pt) _ pl = _ at hp
    have hpt:=ok.pt
    unfold pX
    cases hs : (d.pt == [46,42]) with
    | false =>
     exfalso
     unfold PTS at hpt
     simp only [List.mem_cons,List.not_mem_nil,or_false] at hpt
     rcases hpt with e | e | e | e | e | e <;> rw [e] at hp hs <;> first | (cases hs;done) | (cases hp;done)
    | true =>
     rw [if_pos rfl]
     rw [(msP_star hpt).mpr (eq_of_beq hs)] at hp
     have : ∃ r,wz.drop (measK d.fs.w) = d.pw :: r ∧ r ≠ []:=by
      rw [← hwz,measK_w];unfold Fd.words;rw [hs]
      cases (d.wt == [42]) <;> exact ⟨_,rfl,by exact fun h=>nomatch h⟩
     obtain ⟨r,e1,hr⟩:=this
     rw [e1] at hp
     cases r with
     | nil=>exact absurd rfl hr
     | cons w2 r =>
      change (match (match ni d.pw with | .ok i=>Except.ok (some i) | .error e=>Except.error e) with | .ok o=>Except.ok (prV o) | .error e=>.error e) = _ at hp
      cases hn : ni d.pw with
      | ok i=>rw [hn] at hp;cases hp
      | error e'=>rw [hn] at hp;cases hp;rfl
end
end
section
noncomputable def chain0 (s : Tx) : List (Fd × List Tx) → Except EE Tx
 | []=>.ok s
 | (d,ws) :: r=>match putR d.fs ws false with
  | .ok t=>chain0 (s ++ d.shown ++ t) r
  | .error e=>.error e
noncomputable def endX : Except EE Tx → Except EE Tx | .ok t=>.ok (t ++ [37,46]) | .error e=>.error e
noncomputable def chain (s : Tx) (l : List (Fd × List Tx)) : Except EE Tx:=endX (chain0 s l)
noncomputable def formP : List (Fd × List Tx) → Tx
 | []=>[37,37,46]
 | (d,_) :: r=>d.lit ++ 37 :: (d.fs.tx ++ formP r)
noncomputable def wordsP : List (Fd × List Tx) → List Tx
 | []=>[]
 | (_,ws) :: r=>ws ++ wordsP r
noncomputable def cutL (lac : Nat) : List Fd → List (Fd × List Tx)
 | []=>[]
 | [d]=>[(d,d.words.take (d.words.length - lac))]
 | d :: e :: r=>(d,d.words) :: cutL lac (e :: r)
noncomputable def Cut : List (Fd × List Tx) → Prop
 | []=>True
 | (d,ws) :: r=>Cut r ∧ (ws = d.words ∨ (r = [] ∧ ∃ j,ws = d.words.take j))
noncomputable def AllOk (l : List (Fd × List Tx)) : Prop:=∀ x ∈ l,FdOk x.1 ∧ FdFld x.1
theorem cut_cutL (lac : Nat) : ∀ l,Cut (cutL lac l)
 | []=>trivial
 | [_]=>⟨trivial,.inr ⟨rfl,_,rfl⟩⟩
 | _ :: e :: r=>⟨cut_cutL lac (e :: r),.inl rfl⟩
theorem cutL_fst (lac : Nat) : ∀ l,(cutL lac l).map (·.1) = l
 | []=>rfl
 | [_]=>rfl
 | d :: e :: r=>by show d :: (cutL lac (e :: r)).map (·.1) = _;rw [cutL_fst lac (e :: r)]
section
variable {L : Nat} {p : Int} {f rest so s : Tx} {n idx : Nat} {A : List Tx} {R : Except EE Tx}
theorem S_litd {lit shown : Tx} (hl : LitOk lit shown) (hf : f.length < 1000) (hd : f.drop n = lit ++ 37 :: rest)
  (hk : ∀ s' n' post,(∀ c ∈ post,c ≠ 37) → f.drop n' = post ++ 37 :: rest → s' ++ post = s ++ shown → LpS f A s' n' idx so R) : LpS f A s n idx so R:=by
 refine gG fun P0 hP0=>?_
 rcases hl with ⟨h1,rfl⟩ | ⟨pre,post,rfl,rfl,h1,h2⟩
 ·refine hP0 ?_
  exact hk s n _ h1 hd rfl
 ·refine hP0 ?_
  have hd' : f.drop n = pre ++ 37 :: 37 :: (post ++ 37 :: rest):=by rw [hd];simp
  have e1 : f.drop (n + pre.length) = 37 :: 37 :: (post ++ 37 :: rest):=drop_add hd'
  exact S_lit hf hd' h1 (hk _ _ post h2 (drop_succ (drop_succ e1)) (by simp))
theorem ext_cut {d : Fd} {ws : List Tx} {r : List (Fd × List Tx)} (h : ws = d.words ∨ (r = [] ∧ ∃ j,ws = d.words.take j)) : Ext d ws:=by
 rcases h with rfl | ⟨_,j,rfl⟩
 ·have:=ext_app d [];rwa [List.append_nil] at this
 ·exact ext_take d j
theorem plain_S (hf : f.length < 1000) : ∀ (l : List (Fd × List Tx)) (s : Tx) (n idx : Nat) (so : Tx),AllOk l → Cut l → f.drop n = formP l → A.drop idx = wordsP l → idx ≤ A.length → [[],[37]].contains so = true → LpS f A s n idx so (chain s l)
 | [],s,n,idx,so,_,_,hd,_,_,_=>by
  have e1 : f.drop (n + 2) = [46]:=drop_succ (drop_succ hd)
  have:=S_end (A:=A) (s:=s ++ [] ++ [37]) (idx:=idx) (so:=so) hf e1 (by decide) (by decide)
  rw [show s ++ [] ++ [37] ++ [46] = s ++ [37,46] by simp] at this
  exact S_lit (lit:=[]) (r:=[46]) hf hd (fun c hc=>by exact nM hc) this
 | (d,ws) :: r,s,n,idx,so,hok,hcut,hd,hA,hi,hso=>by
  obtain ⟨ok,hfd⟩:=hok (d,ws) List.mem_cons_self
  dsimp only at ok hfd
  refine S_litd ok.lit.1 hf hd fun s' n' post hp hd' hs=>?_
  have hpl : idx + ws.length ≤ A.length:=by
   have:=args_len hA hi
   change A.length = idx + (ws ++ wordsP r).length at this
   rw [List.length_append] at this;lia
  have hext : Ext d (ws ++ wordsP r):=by
   rcases hcut.2 with e | ⟨e,j,e2⟩
   ·rw [e];exact ext_app d _
   ·rw [e,e2];show Ext d (_ ++ []);rw [List.append_nil];exact ext_take d j
  have hput : putR d.fs (ws ++ wordsP r) false = putR d.fs ws false:=by
   rcases hcut.2 with e | ⟨e,j,e2⟩
   ·rw [e,putR_all ok,← putR_all (pl:=false) ok [],List.append_nil]
   ·rw [e];show putR d.fs (ws ++ []) false = _;rw [List.append_nil]
  refine S_fld hf hd' hp hso hA hi (pfOk ok hfd hext) ?_
  change match putR d.fs (ws ++ wordsP r) false with | .ok t=>_ | .error e=>_
  rw [hput]
  unfold chain chain0
  cases hx : putR d.fs ws false with
  | error e=>rfl
  | ok t =>
   have hk:=putR_klt hx
   have hwl : ws.length = d.fs.k + 1:=by
    have:=words_len ok
    rcases hcut.2 with e | ⟨_,j,e2⟩
    ·rw [e];exact this
    ·rw [e2,List.length_take] at hk ⊢;lia
   have hd2 : f.drop (n' + post.length + 1 + d.fs.tx.length) = formP r:=drop_add (drop_succ (drop_add hd'))
   have hA2 : A.drop (idx + d.fs.k + 1) = wordsP r:=by
    rw [show idx + d.fs.k + 1 = idx + ws.length by lia,← List.drop_drop,hA]
    show (ws ++ wordsP r).drop ws.length = _
    simp
   have:=plain_S hf r (s' ++ post ++ t) _ (idx + d.fs.k + 1) [37] (fun x hx=>hok x (List.mem_cons_of_mem _ hx)) hcut.1 hd2 hA2 (by lia) rfl
   rw [hs] at this ⊢
   exact this
theorem single_L (h : 31 < L) {F : Fs} {ws : List Tx} (ok : PfOk F ws false) (hl : F.tx.length ≤ 900) (hsz : ∀ t,putR F ws false = .ok t → t.length ≤ SZ) : lay L 31 [.str (37 :: F.tx),.lst (ws.map .str)] p = ofX .str (putR F ws false) p:=by
 have hf : (37 :: F.tx).length < 1000:=by simp;lia
 refine format_L h hf (S_fld (n:=0) (idx:=0) (lit:=[]) (r:=[]) (F:=F) (ws:=ws) hf (by simp) (fun c hc=>by exact nM hc) rfl rfl (Nat.zero_le _) ok ?_) hsz
 cases hx : putR F ws false with
 | error e=>rfl
 | ok t=>exact S_nil (s:=[] ++ [] ++ t) (by simp;lia)
noncomputable def oneB : CS:=.asg 5 (.call 37 (.cons (.var 4) .nil)) (.ifs (.cmp (.var 3) .eq (.bin .sub (.bi .len (.cons (.var 0) .nil)) (.lit (.int 1)))) (.asg 5 (.slc (.var 5) (.lit .none) (.bin .sub (.bi .len (.cons (.var 5) .nil)) (.var 1))) .done) .done (.asg 6 (.call 39 (.cons (.bin .add (.lit (.str [37])) (.call 38 (.cons (.var 4) .nil))) (.cons (.var 5) .nil))) (.ifs (.cmp (.item (.var 6) (.lit (.int 0))) .ne (.lit (.int 0))) (.ret (.var 6)) .done (.asg 2 (.bin .add (.bin .add (.var 2) (.item (.var 4) (.lit (.int 1)))) (.item (.var 6) (.lit (.int 1)))) .done))))
theorem sliceL_take (l : List V) {n : Nat} (hn : n < 100000) : sliceV (.lst l) .none (.int n) = some (.lst (l.take n)):=by
 refine (slice_ofL (l:=none) rfl (bnd_nat hn) l).trans ?_
 unfold sliceL
 dsimp only
 rw [if_pos (Int.natCast_nonneg n)];rfl
theorem cut_tail {lac : Nat} {d : Fd} {l : List Fd} : cutL lac (d :: l) = (d,if l = [] then d.words.take (d.words.length - lac) else d.words) :: cutL lac l:=by
 cases l with
 | nil=>rfl
 | cons e r=>rw [if_neg (by simp)];rfl
theorem one_loop {FL : List V} {lac : Nat} : ∀ (l : List Fd) (k : Nat) (s : Tx) (a3 a4 a5 a6 : Sl),FL.length = k + l.length → (∀ d ∈ l,FdOk d ∧ FdFld d) → (∀ d,l.getLast? = some d → lac ≤ d.words.length) → s.length + 2000 * l.length ≤ 1000000 →
  match chain0 s (cutL lac l) with
  | .ok t=>Ex4 fun b3 b4 b5 b6=>floop2 (fun m y vs p=>csx (lay 40) fuel oneB ((vs.set 3 (.val (.int m))).set 4 (.val y)) p) k (l.map tupF) [.val (.lst FL),.val (.int lac),.val (.str s),a3,a4,a5,a6] p = .ok .next [.val (.lst FL),.val (.int lac),.val (.str t),b3,b4,b5,b6] p ∧ t.length ≤ 1000000
  | .error e=>∃ vs',floop2 (fun m y vs p=>csx (lay 40) fuel oneB ((vs.set 3 (.val (.int m))).set 4 (.val y)) p) k (l.map tupF) [.val (.lst FL),.val (.int lac),.val (.str s),a3,a4,a5,a6] p = .ok (.ret (toldV (.error e))) vs' p
 | [],k,s,a3,a4,a5,a6,_,_,_,hs=>⟨a3,a4,a5,a6,rfl,by simpa using hs⟩
 | d :: l,k,s,a3,a4,a5,a6,hFL,hok,hlast,hs=>by
  obtain ⟨ok,hfd⟩:=hok d List.mem_cons_self
  have hwl : d.words.length ≤ 3:=by
   unfold Fd.words
   cases (d.wt == [42]) <;> cases (d.pt == [46,42]) <;> simp
  have htl:=ok.txlen
  rw [cut_tail]
  unfold chain0
  generalize hws : (if l = [] then d.words.take (d.words.length - lac) else d.words) = ws
  have hext : Ext d ws:=by
   rw [← hws];split
   ·exact ext_take d _
   ·have:=ext_app d [];rwa [List.append_nil] at this
  have hpf : PfOk d.fs ws false:=pfOk ok hfd hext
  have htold:=told_L (p:=p) (L:=40) (by decide) (t:=37 :: d.fs.tx) (A:=ws) (R:=putR d.fs ws false) fun p=>single_L (by decide) hpf (by lia) fun t ht=>by have:=putR_len ok hfd hext ht;unfold SZ;lia
  have hcut : ∀ {K : CS} {b6 : Sl},csx (lay 40) fuel (.ifs (.cmp (.var 3) .eq (.bin .sub (.bi .len (.cons (.var 0) .nil)) (.lit (.int 1)))) (.asg 5 (.slc (.var 5) (.lit .none) (.bin .sub (.bi .len (.cons (.var 5) .nil)) (.var 1))) .done) .done K) [.val (.lst FL),.val (.int lac),.val (.str s),.val (.int k),.val (tupF d),.val (.lst (d.words.map .str)),b6] p = csx (lay 40) fuel K [.val (.lst FL),.val (.int lac),.val (.str s),.val (.int k),.val (tupF d),.val (.lst (ws.map .str)),b6] p:=by
   intro K b6
   by_cases hl : l = []
   ·rw [if_pos hl] at hws
    have hlac:=hlast d (by rw [hl];rfl)
    rw [hl] at hFL
    refine q_ift (b_cmp rfl (e_bin (z:=.int (FL.length - 1)) rfl rfl rfl) rfl) ?_ (q_asg (e_slc (w:=.lst (ws.map .str)) rfl rfl (e_bin (z:=.int (d.words.length - lac : Nat)) (e_lenA rfl) rfl ?_) ?_) rfl) rfl
    ·show ((k : Int) == (FL.length : Int) - 1) = true
     rw [beq_iff_eq,hFL];simp
    ·show some (V.int ((d.words.length : Int) - lac)) = _
     rw [Int.ofNat_sub hlac]
    ·rw [sliceL_take _ (by lia),← hws,List.map_take]
   ·rw [if_neg hl] at hws
    rw [← hws]
    refine q_iff (b_cmp rfl (e_bin (z:=.int (FL.length - 1)) rfl rfl rfl) rfl) ?_ rfl rfl
    have : 0 < l.length:=lenP hl
    show ((k : Int) == (FL.length : Int) - 1) = false
    rw [beq_eq_false_iff_ne,hFL,List.length_cons];lia
  have hargs : ∀ {b6 : Sl},cevs (lay 40) (.cons (.bin .add (.lit (.str [37])) (.call 38 (.cons (.var 4) .nil))) (.cons (.var 5) .nil)) [.val (.lst FL),.val (.int lac),.val (.str s),.val (.int k),.val (tupF d),.val (.lst (ws.map .str)),b6] p = .ok [.str (37 :: d.fs.tx),.lst (ws.map .str)] p :=
   fun {b6}=>e_cons (e_bin rfl (e_call rfl (spec_L (by decide) ok) rfl) (add_str (by simp) (by lia))) rfl
  cases hx : putR d.fs ws false with
  | error e =>
   rw [hx] at htold
   exact ⟨_,f2_ret (q_asg (e_call rfl (words_L (by decide) d) rfl) (hcut.trans (q_asg (e_call hargs htold rfl) (q_itr (b_cmp rfl rfl rfl) rfl (q_ret rfl) fun Z=>rfl))))⟩
  | ok t =>
   rw [hx] at htold
   have htlen:=putR_len ok hfd hext hx
   have hsh:=ok.lit.2.2
   rw [List.length_cons] at hs hFL
   have ih:=one_loop (FL:=FL) (lac:=lac) l (k + 1) (s ++ d.shown ++ t) (.val (.int k)) (.val (tupF d)) (.val (.lst (ws.map .str))) (.val (toldV (.ok t))) (by lia) (fun d' hd'=>hok d' (List.mem_cons_of_mem _ hd')) (fun d' hd'=>hlast d' (by cases l with | nil=>cases hd' | cons e r=>rw [List.getLast?_cons_cons];exact hd')) (by simp;lia)
   have hbody : csx (lay 40) fuel oneB [.val (.lst FL),.val (.int lac),.val (.str s),.val (.int k),.val (tupF d),a5,a6] p = .ok .next [.val (.lst FL),.val (.int lac),.val (.str (s ++ d.shown ++ t)),.val (.int k),.val (tupF d),.val (.lst (ws.map .str)),.val (toldV (.ok t))] p :=
    q_asg (e_call rfl (words_L (by decide) d) rfl) (hcut.trans (q_asg (e_call hargs htold rfl) (q_iff (b_cmp rfl rfl rfl) rfl rfl (q_asg (e_bin (e_bin rfl rfl (add_str (by lia) (by lia))) rfl (add_str (by simp;lia) (by lia))) rfl))))
   dsimp only
   cases hc : chain0 (s ++ d.shown ++ t) (cutL lac l) with
   | ok t' =>
    rw [hc] at ih
    obtain ⟨b3,b4,b5,b6,e1,e2⟩:=ih
    exact ⟨b3,b4,b5,b6,f2_cons hbody e1,e2⟩
   | error e =>
    rw [hc] at ih
    obtain ⟨vs',e1⟩:=ih
    exact ⟨vs',f2_cons hbody e1⟩
theorem one_L (h : 40 < L) {l : List Fd} {lac : Nat} (hok : ∀ d ∈ l,FdOk d ∧ FdFld d) (hlast : ∀ d,l.getLast? = some d → lac ≤ d.words.length) (hl : l.length ≤ 100) : lay L 40 [.lst (l.map tupF),.int lac] p = .ok (toldV (chain [] (cutL lac l))) p:=by
 have:=one_loop (p:=p) (FL:=l.map tupF) (lac:=lac) l 0 [] .un .un .un .un (by simp) hok hlast (by simp;lia)
 unfold chain
 cases hc : chain0 [] (cutL lac l) with
 | ok t =>
  rw [hc] at this
  obtain ⟨b3,b4,b5,b6,e1,e2⟩:=this
  exact def_ret h ⟨by decide,rfl⟩ rfl (show csx (lay 40) fuel c_law_one_by_one _ p = _ from q_asg rfl (q_for2 rfl e1 (q_ret (e_tup (e_cons rfl (e_cons (e_bin rfl rfl (add_str (by lia) (by decide))) rfl)) (by simp)))))
 | error e =>
  rw [hc] at this
  obtain ⟨vs',e1⟩:=this
  exact def_ret h ⟨by decide,rfl⟩ rfl (show csx (lay 40) fuel c_law_one_by_one _ p = _ from q_asg rfl (q_for2r rfl e1 fun Z=>rfl))
end
end
section
noncomputable def formQ : List Fd → Tx
 | []=>[]
 | d :: r=>d.lit ++ 37 :: (d.fs.tx ++ formQ r)
noncomputable def allW : List Fd → List Tx
 | []=>[]
 | d :: r=>d.words ++ allW r
theorem formP_cut (lac : Nat) : ∀ l,formP (cutL lac l) = formQ l ++ [37,37,46]
 | []=>rfl
 | d :: l=>by
  rw [cut_tail]
  show d.lit ++ 37 :: (d.fs.tx ++ formP (cutL lac l)) = d.lit ++ 37 :: (d.fs.tx ++ formQ l) ++ [37,37,46]
  rw [formP_cut lac l];simp
theorem wordsP_cut (lac : Nat) : ∀ l,l ≠ [] → (∀ d,l.getLast? = some d → lac ≤ d.words.length) → wordsP (cutL lac l) = (allW l).take ((allW l).length - lac) ∧ lac ≤ (allW l).length
 | [],h,_=>absurd rfl h
 | [d],_,h=>by
  have:=h d rfl
  show d.words.take (d.words.length - lac) ++ [] = (d.words ++ []).take ((d.words ++ []).length - lac) ∧ lac ≤ (d.words ++ []).length
  simp only [List.append_nil];exact ⟨trivial,this⟩
 | d :: e :: r,_,h=>by
  obtain ⟨h1,h2⟩:=wordsP_cut lac (e :: r) (by simp) fun d' hd'=>h d' (by rw [List.getLast?_cons_cons];exact hd')
  show d.words ++ wordsP (cutL lac (e :: r)) = (d.words ++ allW (e :: r)).take ((d.words ++ allW (e :: r)).length - lac) ∧ lac ≤ (d.words ++ allW (e :: r)).length
  rw [h1,List.length_append,List.take_append,List.take_of_length_le (i:=d.words.length + (allW (e :: r)).length - lac) (by lia),show d.words.length + (allW (e :: r)).length - lac - d.words.length = (allW (e :: r)).length - lac by lia]
  exact ⟨rfl,by lia⟩
theorem words_le (d : Fd) : d.words.length ≤ 3:=by
 unfold Fd.words
 cases (d.wt == [42]) <;> cases (d.pt == [46,42]) <;> simp
theorem allW_le : ∀ l : List Fd,(allW l).length ≤ 3 * l.length
 | []=>Nat.le_refl _
 | d :: l=>by
  have:=allW_le l;have:=words_le d
  show (d.words ++ allW l).length ≤ _
  rw [List.length_append,List.length_cons];lia
theorem formQ_le : ∀ l : List Fd,(∀ d ∈ l,FdOk d) → (formQ l).length ≤ 31 * l.length
 | [],_=>Nat.le_refl _
 | d :: l,h=>by
  have h1:=formQ_le l fun d' hd'=>h d' (List.mem_cons_of_mem _ hd')
  have h2:=(h d List.mem_cons_self).txlen
  have h3:=(h d List.mem_cons_self).lit.2.1
  show (d.lit ++ 37 :: (d.fs.tx ++ formQ l)).length ≤ _
  simp;lia
section
variable {L : Nat} {p : Int} {f rest so s : Tx} {n idx : Nat} {A : List Tx} {R : Except EE Tx}
noncomputable def plB : CS:=.asg 2 (.bin .add (.bin .add (.bin .add (.var 2) (.item (.var 4) (.lit (.int 0)))) (.lit (.str [37]))) (.call 38 (.cons (.var 4) .nil))) (.asg 3 (.bin .add (.var 3) (.call 37 (.cons (.var 4) .nil))) .done)
theorem map_app (a b : List Tx) : a.map V.str ++ b.map V.str = (a ++ b).map V.str:=(List.map_append).symm
theorem plain_loop {a0 a1 : Sl} : ∀ (l : List Fd) (s : Tx) (W : List Tx) (a4 : Sl),(∀ d ∈ l,FdOk d) → s.length + 40 * l.length ≤ 100000 → W.length + 3 * l.length ≤ 100000 →
  ∃ b4,floop (fun y vs p=>csx (lay 41) fuel plB (vs.set 4 (.val y)) p) (l.map tupF) [a0,a1,.val (.str s),.val (.lst (W.map .str)),a4] p = .ok .next [a0,a1,.val (.str (s ++ formQ l)),.val (.lst ((W ++ allW l).map .str)),b4] p
 | [],s,W,a4,_,_,_=>⟨a4,by rw [formQ,allW,List.append_nil,List.append_nil];rfl⟩
 | d :: l,s,W,a4,hok,hs,hW=>by
  have ok:=hok d List.mem_cons_self
  have h1:=ok.lit.2.1
  have h2:=ok.txlen
  have h3:=words_le d
  rw [List.length_cons] at hs hW
  obtain ⟨b4,ih⟩:=plain_loop (a0:=a0) (a1:=a1) l (s ++ d.lit ++ [37] ++ d.fs.tx) (W ++ d.words) (.val (tupF d)) (fun d' hd'=>hok d' (List.mem_cons_of_mem _ hd')) (by simp;lia) (by rw [List.length_append];lia)
  refine ⟨b4,f_cons (q_asg (e_bin (e_bin (e_bin rfl rfl (add_str (by lia) (by lia))) rfl (add_str (by simp;lia) (by exact Nat.succ_pos _))) (e_call rfl (spec_L (by decide) ok) rfl) (add_str (by simp;lia) (by lia))) (q_asg (e_bin rfl (e_call rfl (words_L (by decide) d) rfl) (add_lst (by rw [List.length_map];lia) (by rw [List.length_map];lia))) rfl)) ?_⟩
  rw [map_app]
  refine Eq.trans ih ?_
  rw [formQ,allW,List.append_assoc W]
  congr 5
  simp
theorem plain_L (h : 41 < L) {l : List Fd} {lac : Nat} (hok : ∀ d ∈ l,FdOk d) (hne : l ≠ []) (hlast : ∀ d,l.getLast? = some d → lac ≤ d.words.length) (hl : l.length ≤ 20) : lay L 41 [.lst (l.map tupF),.int lac] p = .ok (.tup [.str (formP (cutL lac l)),.lst ((wordsP (cutL lac l)).map .str)]) p:=by
 obtain ⟨b4,e1⟩:=plain_loop (p:=p) (a0:=.val (.lst (l.map tupF))) (a1:=.val (.int lac)) l [] [] .un hok (by simp;lia) (by simp;lia)
 obtain ⟨w1,w2⟩:=wordsP_cut lac l hne hlast
 rw [formP_cut,w1]
 have hq:=formQ_le l hok
 have ha:=allW_le l
 refine def_ret h ⟨by decide,rfl⟩ rfl (show csx (lay 41) fuel c_law_plain_form _ p = _ from q_asg rfl (q_asg rfl (q_for1 rfl rfl e1 (q_ret (e_tup (e_cons (e_bin rfl rfl (add_str (by rw [List.nil_append];lia) (by decide))) (e_cons (e_slc (w:=.lst (((allW l).take ((allW l).length - lac)).map .str)) rfl rfl (e_bin (z:=.int ((allW l).length - lac : Nat)) (e_lenA (A:=allW l) rfl) rfl ?_) ?_) rfl)) (by simp))))))
 ·show some (V.int (((allW l).length : Int) - lac)) = _
  rw [Int.ofNat_sub w2]
 ·refine (sliceL_take _ (by lia)).trans ?_
  rw [List.map_take];rfl
noncomputable def formPl : List (Fd × Nat) → Tx
 | []=>[37,37,46]
 | (d,k) :: r=>d.lit ++ 37 :: (itx (1 + k) ++ 36 :: (d.fs.tx ++ formPl r))
noncomputable def full (l : List (Fd × Nat)) : List (Fd × List Tx):=l.map fun x=>(x.1,x.1.words)
theorem itx_pos {i : Int} (h0 : 0 ≤ i) (h : i < 1000000) : itx i ≠ [] ∧ (∀ c ∈ itx i,isDig c = true) ∧ dv 10 (itx i) 0 = i ∧ (0 < i → ∀ c t,itx i = c :: t → c ≠ 48):=by
 have hb : i.natAbs < 2 ^ 200:=Nat.lt_trans (m:=1000000) (by lia) (by decide)
 have e : itx i = dgN 10 false i.natAbs:=by rw [itx_eq hb,if_neg (by lia)];rfl
 rw [e]
 refine gG fun P0 hP0=>?_
 obtain ⟨c,t,e2,hc⟩:=dgN_head (up:=false) (b:=10) (by decide) (by decide) hb
 refine hP0 ?_
 refine ⟨by rw [e2];simp,dg10_dig _,?_,fun hi c' t' e3=>?_⟩
 ·have:=dgN_val (up:=false) (b:=10) (by decide) (by decide) hb
  exact this.trans (by lia)
 ·rw [e2] at e3;obtain ⟨rfl,rfl⟩:=cI e3;exact hc (by lia)
theorem placed_S (hf : f.length < 1000) : ∀ (l : List (Fd × Nat)) (s : Tx) (n idx : Nat) (so : Tx),(∀ x ∈ l,(FdOk x.1 ∧ FdFld x.1) ∧ x.2 ≤ A.length ∧ A.length < 1000 ∧ ∃ m,A.drop x.2 = x.1.words ++ m) → f.drop n = formPl l → [[],[36]].contains so = true → LpS f A s n idx so (chain s (full l))
 | [],s,n,idx,so,_,hd,_=>by
  have e1 : f.drop (n + 2) = [46]:=drop_succ (drop_succ hd)
  have:=S_end (A:=A) (s:=s ++ [] ++ [37]) (idx:=idx) (so:=so) hf e1 (by decide) (by decide)
  rw [show s ++ [] ++ [37] ++ [46] = s ++ [37,46] by simp] at this
  exact S_lit (lit:=[]) (r:=[46]) hf hd (fun c hc=>by exact nM hc) this
 | (d,k) :: r,s,n,idx,so,hok,hd,hso=>by
  refine gG fun P0 hP0=>?_
  obtain ⟨⟨ok,hfd⟩,hk,hAl,m,hm⟩:=hok (d,k) List.mem_cons_self
  refine hP0 ?_
  dsimp only at ok hfd hk hm
  refine S_litd ok.lit.1 hf hd fun s' n' post hp hd' hs=>?_
  refine gG fun P0 hP0=>?_
  obtain ⟨i1,i2,i3,_⟩:=itx_pos (i:=1 + (k : Int)) (by lia) (by lia)
  refine hP0 ?_
  refine S_plc hf hd' hp hso ⟨i1,i2⟩ (k:=k) (by rw [i3];lia) hm hk (pfOk ok hfd (ext_app d m)) ?_
  rw [putR_all ok]
  have h0 : putR d.fs d.words false = fieldX d:=by have:=putR_all (pl:=false) ok [];rwa [List.append_nil] at this
  show match fieldX d with | .ok t=>LpS f A _ _ _ _ (endX (match putR d.fs d.words false with | .ok t=>chain0 (s ++ d.shown ++ t) (full r) | .error e=>.error e)) | .error e=>endX (match putR d.fs d.words false with | .ok t=>chain0 (s ++ d.shown ++ t) (full r) | .error e=>.error e) = .error e
  rw [h0]
  cases hx : fieldX d with
  | error e=>rfl
  | ok t =>
   have hd2 : f.drop (n' + post.length + 1 + (itx (1 + k)).length + 1 + d.fs.tx.length) = formPl r:=drop_add (drop_succ (drop_add (drop_succ (drop_add hd'))))
   have:=placed_S hf r (s' ++ post ++ t) _ (k + d.fs.k) [36] (fun x hx=>hok x (List.mem_cons_of_mem _ hx)) hd2 rfl
   rw [hs] at this ⊢
   exact this
end
end
section
section
variable {Γ : Gam} {n i : Nat} {vs : List Sl} {p p1 p2 : Int} {R : RS} {k : CS} {ke ve : CE} {y : V}
theorem q_newD (h : vs.all (fun s=>!s.isOwn) = true) (hk : csx Γ n k (vs.set i (.ownD [])) p = R) : csx Γ n (.newD i k) vs p = R:=iP h hk
theorem q_setD {kv : List (Int × V)} {m : Int} (hx : vs[i]? = some (.ownD kv)) (hv : cev Γ ve vs p = .ok y p1) (hkk : cev Γ ke vs p1 = .ok (.int m) p2) (hl : kv.length < 1000) (hk : csx Γ n k (vs.set i (.ownD (putD m y kv))) p2 = R) : csx Γ n (.setD i ke ve k) vs p = R:=sDe hx (bS hv (bS hkk (iP hl hk)))
end
noncomputable def pcB1 : CS:=.setD 3 (.var 4) (.bin .add (.lit (.int 1)) (.bi .len (.cons (.var 2) .nil))) (.asg 2 (.bin .add (.var 2) (.call 37 (.cons (.item (.var 0) (.var 4)) .nil))) .done)
noncomputable def pcB2 : CS:=.asg 5 (.bin .add (.bin .add (.bin .add (.bin .add (.bin .add (.var 5) (.item (.var 6) (.lit (.int 0)))) (.lit (.str [37]))) (.bi .str (.cons (.itemD 3 (.var 4)) .nil))) (.lit (.str [36]))) (.call 38 (.cons (.var 6) .nil))) .done
noncomputable def pcE (e : CE) : CS:=.for1 4 e pcB1 (.asg 5 (.lit (.str [])) (.for2 4 6 (.var 0) pcB2 (.ret (.tup (.cons (.bin .add (.var 5) (.lit (.str [37,37,46]))) (.cons (.var 2) .nil))))))
noncomputable def pcC : CE:=.cmpr 7 (.bi .len (.cons (.var 0) .nil)) (.bin .mod (.bin .add (.var 1) (.var 7)) (.bi .len (.cons (.var 0) .nil))) (.lit (.bool true))
section
variable {L : Nat} {p : Int}
theorem pc1 {FL : List V} {d : Fd} {W : List Tx} {kv : List (Int × V)} {m : Int} {a1 a5 a6 a7 : Sl} (hW : W.length ≤ 1000) (hkv : kv.length < 1000) (hd : itemV (.lst FL) (.int m) p = some (tupF d)) :
  csx (lay 42) fuel pcB1 [.val (.lst FL),a1,.val (.lst (W.map .str)),.ownD kv,.val (.int m),a5,a6,a7] p = .ok .next [.val (.lst FL),a1,.val (.lst ((W ++ d.words).map .str)),.ownD (putD m (.int (1 + W.length)) kv),.val (.int m),a5,a6,a7] p:=by
 refine q_setD rfl (e_bin rfl (e_lenA rfl) rfl) rfl hkv (q_asg (e_bin rfl (e_call (e_cons (e_item rfl rfl hd) rfl) (words_L (by decide) d) rfl) (add_lst (by rw [List.length_map];lia) (by rw [List.length_map];have:=words_le d;lia))) ?_)
 rw [map_app];rfl
theorem pc2 {a0 a1 a2 a7 : Sl} {d : Fd} {s : Tx} {kv : List (Int × V)} {m : Int} {k : Nat} (ok : FdOk d) (hk : k < 1000) (hs : s.length ≤ 100000) (hl : kv.lookup m = some (.int (1 + k))) :
  csx (lay 42) fuel pcB2 [a0,a1,a2,.ownD kv,.val (.int m),.val (.str s),.val (tupF d),a7] p = .ok .next [a0,a1,a2,.ownD kv,.val (.int m),.val (.str (s ++ (d.lit ++ 37 :: (itx (1 + k) ++ 36 :: d.fs.tx)))),.val (tupF d),a7] p:=by
 have h1:=ok.lit.2.1
 have h2:=ok.txlen
 have hb : (1 + (k : Int)).natAbs < 2 ^ 100:=Nat.lt_trans (m:=1002) (by lia) (by decide)
 have hi : (itx (1 + (k : Int))).length ≤ 300:=by
  rw [itx_eq (Nat.lt_trans hb (by decide))];have:=@dgN_len 10 false (1 + (k : Int)).natAbs;split <;> simp <;> lia
 have hlk : cev (lay 42) (.itemD 3 (.var 4)) [a0,a1,a2,.ownD kv,.val (.int m),.val (.str s),.val (tupF d),a7] p = .ok (.int (1 + k)) p:=by
  show RE.ofO (kv.lookup m) p = _
  rw [hl];rfl
 have e : s ++ (d.lit ++ 37 :: (itx (1 + k) ++ 36 :: d.fs.tx)) = s ++ d.lit ++ [37] ++ itx (1 + k) ++ [36] ++ d.fs.tx:=by simp
 rw [e]
 exact q_asg (e_bin (e_bin (e_bin (e_bin (e_bin rfl rfl (add_str (by lia) (by lia))) rfl (add_str (by simp;lia) (by simp))) (e_bi (e_cons hlk rfl) (str_int hb)) (add_str (by simp;lia) (by lia))) rfl (add_str (by simp;lia) (by simp))) (e_call rfl (spec_L (by decide) ok) rfl) (add_str (by simp;lia) (by lia))) rfl
theorem placed_core (h : 42 < L) {d0 d1 d2 da db dc : Fd} {t a b c : Int} {k0 k1 k2 : Nat} {A : List Tx} {kv : List (Int × V)} (ok0 : FdOk d0) (ok1 : FdOk d1) (ok2 : FdOk d2)
  (hc : ∀ vs,vs = [.val (.lst [tupF d0,tupF d1,tupF d2]),.val (.int t),.val (.lst []),.ownD [],.un,.un,.un,.un] → cev (lay 42) pcC vs p = .ok (.lst [.int a,.int b,.int c]) p)
  (ha : itemV (.lst [tupF d0,tupF d1,tupF d2]) (.int a) p = some (tupF da)) (hb : itemV (.lst [tupF d0,tupF d1,tupF d2]) (.int b) p = some (tupF db)) (hcc : itemV (.lst [tupF d0,tupF d1,tupF d2]) (.int c) p = some (tupF dc))
  (hA : A = [] ++ da.words ++ db.words ++ dc.words)
  (hkv : kv = putD c (.int (1 + ([] ++ da.words ++ db.words).length)) (putD b (.int (1 + ([] ++ da.words).length)) [(a,.int (1 + (0 : Nat)))]))
  (h0 : kv.lookup 0 = some (.int (1 + k0))) (h1 : kv.lookup 1 = some (.int (1 + k1))) (h2 : kv.lookup 2 = some (.int (1 + k2))) (b0 : k0 < 1000) (b1 : k1 < 1000) (b2 : k2 < 1000) :
  lay L 42 [.lst [tupF d0,tupF d1,tupF d2],.int t] p = .ok (.tup [.str (formPl [(d0,k0),(d1,k1),(d2,k2)]),.lst (A.map .str)]) p:=by
 have w1:=words_le da
 have w2:=words_le db
 have w3:=words_le dc
 have t0:=ok0.txlen;have t1:=ok1.txlen;have t2:=ok2.txlen
 have l0:=ok0.lit.2.1;have l1:=ok1.lit.2.1;have l2:=ok2.lit.2.1
 have il : ∀ k : Nat,k < 1000 → (itx (1 + (k : Int))).length ≤ 300:=fun k hk=>by
  rw [itx_eq (Nat.lt_trans (m:=1002) (by lia) (by decide))];have:=@dgN_len 10 false (1 + (k : Int)).natAbs;split <;> simp <;> lia
 have i0:=il k0 b0;have i1:=il k1 b1;have i2:=il k2 b2
 have hl2 : (putD b (.int (1 + ([] ++ da.words).length)) [(a,.int (1 + (0 : Nat)))]).length < 1000:=by
  show (if a = b then _ else _ : List (Int × V)).length < 1000
  split <;> simp [putD]
 have e1 : floop (fun y vs p=>csx (lay 42) fuel pcB1 (vs.set 4 (.val y)) p) [.int a,.int b,.int c] [.val (.lst [tupF d0,tupF d1,tupF d2]),.val (.int t),.val (.lst (([] : List Tx).map .str)),.ownD [],.un,.un,.un,.un] p = .ok .next [.val (.lst [tupF d0,tupF d1,tupF d2]),.val (.int t),.val (.lst (A.map .str)),.ownD kv,.val (.int c),.un,.un,.un] p:=by
  rw [hA,hkv]
  exact f_cons (pc1 (by simp) (by simp) ha) (f_cons (pc1 (by simp;lia) (by simp [putD]) hb) (f_cons (pc1 (by simp;lia) hl2 hcc) rfl))
 have e2 : floop2 (fun m y vs p=>csx (lay 42) fuel pcB2 ((vs.set 4 (.val (.int m))).set 6 (.val y)) p) 0 [tupF d0,tupF d1,tupF d2] [.val (.lst [tupF d0,tupF d1,tupF d2]),.val (.int t),.val (.lst (A.map .str)),.ownD kv,.val (.int c),.val (.str []),.un,.un] p = _ :=
  f2_cons (pc2 ok0 b0 (by simp) h0) (f2_cons (pc2 ok1 b1 (by simp;lia) h1) (f2_cons (pc2 ok2 b2 (by simp;lia) h2) rfl))
 have eF : formPl [(d0,k0),(d1,k1),(d2,k2)] = [] ++ (d0.lit ++ 37 :: (itx (1 + k0) ++ 36 :: d0.fs.tx)) ++ (d1.lit ++ 37 :: (itx (1 + k1) ++ 36 :: d1.fs.tx)) ++ (d2.lit ++ 37 :: (itx (1 + k2) ++ 36 :: d2.fs.tx)) ++ [37,37,46]:=by simp [formPl]
 rw [eF]
 exact def_ret h ⟨by decide,rfl⟩ rfl (show csx (lay 42) fuel (.asg 2 (.lst .nil) (.newD 3 (pcE pcC))) _ p = _ from q_asg rfl (q_newD rfl (q_for1 (hc _ rfl) rfl e1 (q_asg rfl (q_for2 rfl e2 (q_ret (e_tup (e_cons (e_bin rfl rfl (add_str (by simp;lia) (by simp))) rfl) (by simp))))))))
theorem placed_L (h : 42 < L) {d0 d1 d2 : Fd} {t : Int} (ok0 : FdOk d0) (ok1 : FdOk d1) (ok2 : FdOk d2) (ht : t = 0 ∨ t = 1 ∨ t = 2) :
  Ex4 fun (k0 : Nat) (k1 : Nat) (k2 : Nat) (A : List Tx)=>A5 (lay L 42 [.lst [tupF d0,tupF d1,tupF d2],.int t] p = .ok (.tup [.str (formPl [(d0,k0),(d1,k1),(d2,k2)]),.lst (A.map .str)]) p) (A.length ≤ 9) (k0 ≤ A.length ∧ ∃ m,A.drop k0 = d0.words ++ m) (k1 ≤ A.length ∧ ∃ m,A.drop k1 = d1.words ++ m) (k2 ≤ A.length ∧ ∃ m,A.drop k2 = d2.words ++ m):=by
 have w0:=words_le d0
 have w1:=words_le d1
 have w2:=words_le d2
 have x1 : ∀ a b c : List Tx,∃ m,([] ++ a ++ b ++ c).drop 0 = a ++ m:=fun a b c=>⟨b ++ c,by simp⟩
 have x2 : ∀ a b c : List Tx,∃ m,([] ++ a ++ b ++ c).drop a.length = b ++ m:=fun a b c=>⟨c,by simp⟩
 have x3 : ∀ a b c : List Tx,∃ m,([] ++ a ++ b ++ c).drop (a.length + b.length) = c ++ m:=fun a b c=>⟨[],by simp [List.drop_append]⟩
 rcases ht with rfl | rfl | rfl
 ·exact ⟨0,d0.words.length,d0.words.length + d1.words.length,_,placed_core h ok0 ok1 ok2 (a:=0) (b:=1) (c:=2) (by intro vs e;subst e;kernel_rfl) rfl rfl rfl rfl rfl rfl rfl (by simp [putD,List.lookup]) (by lia) (by lia) (by lia),by simp <;> lia,⟨by simp,x1 _ _ _⟩,⟨by simp <;> lia,x2 _ _ _⟩,⟨by simp <;> lia,x3 _ _ _⟩⟩
 ·exact ⟨d1.words.length + d2.words.length,0,d1.words.length,_,placed_core h ok0 ok1 ok2 (a:=1) (b:=2) (c:=0) (by intro vs e;subst e;kernel_rfl) rfl rfl rfl rfl rfl (by simp [putD,List.lookup]) rfl rfl (by lia) (by lia) (by lia),by simp <;> lia,⟨by simp <;> lia,x3 _ _ _⟩,⟨by simp,x1 _ _ _⟩,⟨by simp <;> lia,x2 _ _ _⟩⟩
 ·exact ⟨d2.words.length,d2.words.length + d0.words.length,0,_,placed_core h ok0 ok1 ok2 (a:=2) (b:=0) (c:=1) (by intro vs e;subst e;kernel_rfl) rfl rfl rfl rfl rfl rfl (by simp [putD,List.lookup]) rfl (by lia) (by lia) (by lia),by simp <;> lia,⟨by simp <;> lia,x2 _ _ _⟩,⟨by simp <;> lia,x3 _ _ _⟩,⟨by simp,x1 _ _ _⟩⟩
end
end
section
noncomputable def isBl (c : Nat) : Bool:=[[32],[9],[10],[11],[12],[13]].contains [c]
noncomputable def baseOf (c : Nat) : Int:=if [[120],[88]].contains [c] then 16 else if [[111],[79]].contains [c] then 8 else if [[98],[66]].contains [c] then 2 else if [[100],[68]].contains [c] then 10 else 0
noncomputable def whT1 : CE:=.and (.cmp (.var 1) .lt (.var 2)) (.call 1 (.cons (.item (.var 0) (.var 1)) .nil))
noncomputable def whB1 : CS:=.aug 1 .add (.lit (.int 1)) .done
noncomputable def whT2 : CE:=.and (.cmp (.var 1) .lt (.var 2)) (.call 1 (.cons (.item (.var 0) (.bin .sub (.var 2) (.lit (.int 1)))) .nil))
noncomputable def whB2 : CS:=.aug 2 .sub (.lit (.int 1)) .done
noncomputable def whV : CS:=.ifs (.cmp (.var 5) .is (.lit .none)) (.ret (.lit .none)) .done (.ret (.ite (.var 3) (.neg (.var 5)) (.var 5)))
noncomputable def whM : CS:=.asg 4 (.lit (.int 0)) (.ifs (.and (.cmp (.bin .sub (.var 2) (.var 1)) .gt (.lit (.int 2))) (.cmp (.item (.var 0) (.var 1)) .eq (.lit (.str [48])))) (.asg 4 (.call 4 (.cons (.item (.var 0) (.bin .add (.var 1) (.lit (.int 1)))) .nil)) .done) .done (.ifs (.cmp (.var 4) .gt (.lit (.int 0))) (.asg 5 (.call 3 (.cons (.slc (.var 0) (.bin .add (.var 1) (.lit (.int 2))) (.var 2)) (.cons (.var 4) .nil))) .done) (.asg 5 (.call 3 (.cons (.slc (.var 0) (.var 1) (.var 2)) (.cons (.lit (.int 10)) .nil))) .done) whV))
noncomputable def whS : CS:=.asg 3 (.lit (.bool false)) (.ifs (.and (.cmp (.var 1) .lt (.var 2)) (.cmp (.item (.var 0) (.var 1)) .inn (.tup (.cons (.lit (.str [43])) (.cons (.lit (.str [45])) .nil))))) (.asg 3 (.cmp (.item (.var 0) (.var 1)) .eq (.lit (.str [45]))) (.aug 1 .add (.lit (.int 1)) .done)) .done whM)
section
variable {L : Nat} {p : Int} {f r : Tx} {n c e : Nat}
theorem is_blank_L (h : 1 < L) (c : Nat) : lay L 1 [.str [c]] p = .ok (.bool (isBl c)) p :=
 def_ret h ⟨by decide,rfl⟩ rfl (q_ret (cevX_of (e_cmp rfl rfl rfl) rfl))
theorem base_of_L (h : 4 < L) (c : Nat) : lay L 4 [.str [c]] p = .ok (.int (baseOf c)) p:=by
 unfold baseOf
 cases h1 : [[120],[88]].contains [c] with
 | true=>exact def_ret h ⟨by decide,rfl⟩ rfl (q_itr (b_cmp rfl rfl rfl) h1 (q_ret rfl) fun Z=>rfl)
 | false =>
  cases h2 : [[111],[79]].contains [c] with
  | true=>exact def_ret h ⟨by decide,rfl⟩ rfl (q_iff (b_cmp rfl rfl rfl) h1 rfl (q_itr (b_cmp rfl rfl rfl) h2 (q_ret rfl) fun Z=>rfl))
  | false =>
   cases h3 : [[98],[66]].contains [c] with
   | true=>exact def_ret h ⟨by decide,rfl⟩ rfl (q_iff (b_cmp rfl rfl rfl) h1 rfl (q_iff (b_cmp rfl rfl rfl) h2 rfl (q_itr (b_cmp rfl rfl rfl) h3 (q_ret rfl) fun Z=>rfl)))
   | false =>
    cases h4 : [[100],[68]].contains [c] with
    | true=>exact def_ret h ⟨by decide,rfl⟩ rfl (q_iff (b_cmp rfl rfl rfl) h1 rfl (q_iff (b_cmp rfl rfl rfl) h2 rfl (q_iff (b_cmp rfl rfl rfl) h3 rfl (q_itr (b_cmp rfl rfl rfl) h4 (q_ret rfl) fun Z=>rfl))))
    | false=>exact def_ret h ⟨by decide,rfl⟩ rfl (q_iff (b_cmp rfl rfl rfl) h1 rfl (q_iff (b_cmp rfl rfl rfl) h2 rfl (q_iff (b_cmp rfl rfl rfl) h3 rfl (q_iff (b_cmp rfl rfl rfl) h4 rfl (q_ret rfl)))))
theorem wh1 {s3 s4 s5 : Sl} : ∀ (pre : Tx) (n m : Nat),f.drop n = pre ++ c :: r → (∀ x ∈ pre,isBl x = true) → isBl c = false → n + pre.length < e → pre.length < m → wloop (cevB (lay 5) whT1) (csx (lay 5) fuel whB1) m [.val (.str f),.val (.int n),.val (.int e),s3,s4,s5] p = .ok .next [.val (.str f),.val (.int (n + pre.length : Nat)),.val (.int e),s3,s4,s5] p
 | _,n,0,_,_,_,_,hm=>absurd hm (Nat.not_lt_zero _)
 | [],n,m + 1,hd,_,hc,he,_=>w_f (c:=decide ((n : Int) < e) && isBl c) (b_and (b_cmp rfl rfl rfl) fun Z=>e_callB (e_cons (e_item rfl rfl (item_at hd)) rfl) (is_blank_L (by decide) c)) (by rw [hc,Bool.and_false])
 | x :: pre,n,m + 1,hd,hp,hc,he,hm=>by
  rw [List.length_cons] at he hm
  refine w_t (c:=decide ((n : Int) < e) && isBl x) (b_and (b_cmp rfl rfl rfl) fun Z=>e_callB (e_cons (e_item rfl rfl (item_at hd)) rfl) (is_blank_L (by decide) x)) (by rw [hp x List.mem_cons_self,Bool.and_true];exact decide_eq_true (by lia)) (q_aug rfl rfl rfl rfl) ?_
  refine (wh1 pre (n + 1) m (drop_succ hd) (fun y hy=>hp y (List.mem_cons_of_mem _ hy)) hc (by lia) (by exact Nat.le_of_lt_succ (by assumption))).trans ?_
  rw [List.length_cons,show n + 1 + pre.length = n + (pre.length + 1) by lia]
theorem item_mid {x : Tx} {c : Nat} {y : Tx} : itemV (.str (x ++ c :: y)) (.int ((x.length + 1 : Nat) - 1 : Int)) p = some (.str [c]):=by
 rw [show ((x.length + 1 : Nat) - 1 : Int) = (x.length : Int) by lia]
 show (getI _ _).map _ = _
 rw [getI_cast,List.getElem?_append_right (Nat.le_refl _),Nat.sub_self];rfl
theorem wh2_end {s3 s4 s5 : Sl} {x y : Tx} {m : Nat} (hn : n ≤ x.length) (hc : isBl c = false) : wloop (cevB (lay 5) whT2) (csx (lay 5) fuel whB2) (m + 1) [.val (.str (x ++ c :: y)),.val (.int n),.val (.int (x.length + 1 : Nat)),s3,s4,s5] p = .ok .next [.val (.str (x ++ c :: y)),.val (.int n),.val (.int (x.length + 1 : Nat)),s3,s4,s5] p :=
 w_f (c:=decide ((n : Int) < (x.length + 1 : Nat)) && isBl c) (b_and (b_cmp rfl rfl rfl) fun Z=>e_callB (e_cons (e_item rfl (e_bin rfl rfl rfl) item_mid) rfl) (is_blank_L (by decide) c)) (by rw [hc,Bool.and_false])
theorem wh2 {s3 s4 s5 : Sl} {x post : Tx} {m : Nat} (hn : n ≤ x.length) (hc : isBl c = false) (hp : post = [] ∨ ∃ b,post = [b] ∧ isBl b = true) : wloop (cevB (lay 5) whT2) (csx (lay 5) fuel whB2) (m + 2) [.val (.str (x ++ c :: post)),.val (.int n),.val (.int (x ++ c :: post).length),s3,s4,s5] p = .ok .next [.val (.str (x ++ c :: post)),.val (.int n),.val (.int (x.length + 1 : Nat)),s3,s4,s5] p:=by
 rcases hp with rfl | ⟨b,rfl,hb⟩
 ·have : (x ++ [c]).length = x.length + 1:=by simp
  rw [this]
  exact wh2_end hn hc
 ·have e1 : (x ++ [c,b]).length = (x ++ [c]).length + 1:=by simp
  have e2 : x ++ [c,b] = (x ++ [c]) ++ b :: []:=by simp
  have e3 : ((x ++ [c]).length : Int) = (x.length + 1 : Nat):=by simp
  rw [e1]
  refine w_t (c:=decide ((n : Int) < ((x ++ [c]).length + 1 : Nat)) && isBl b) (b_and (b_cmp rfl rfl rfl) fun Z=>e_callB (e_cons (e_item rfl (e_bin rfl rfl rfl) (by rw [e2];exact item_mid)) rfl) (is_blank_L (by decide) b)) ?_ (vs1:=[.val (.str (x ++ [c,b])),.val (.int n),.val (.int (x.length + 1 : Nat)),s3,s4,s5]) (p2:=p) ?_ (wh2_end hn hc)
  ·rw [hb,Bool.and_true];exact decide_eq_true (by rw [List.length_append];simp;lia)
  ·refine q_aug rfl rfl (z:=.int (x.length + 1 : Nat)) ?_ rfl
   show some (V.int (((x ++ [c]).length + 1 : Nat) - 1)) = _
   congr 2
   simp
structure WhT (t : Tx) (v : Int) : Prop where
 ex : Ex6 fun pre sgn mk dg post b=>A9 (t = pre ++ (sgn ++ (mk ++ (dg ++ post)))) (v = (if sgn = [45] then -(dv b dg 0) else dv b dg 0)) (∀ x ∈ pre,isBl x = true) (post = [] ∨ ∃ b,post = [b] ∧ isBl b = true) (sgn = [] ∨ sgn = [43] ∨ sgn = [45]) (dg ≠ []) (∀ c ∈ dg,0 ≤ digI c ∧ digI c < b) (t.length < 900) ((mk = [] ∧ b = 10 ∧ (dg.length ≤ 2 ∨ ∀ c t,dg = c :: t → c ≠ 48)) ∨ ∃ mc,A3 (mk = [48,mc]) (b = baseOf mc) (0 < b))
theorem dig_bl {c : Nat} (h : 0 ≤ digI c) : isBl c = false:=by
 cases hb : isBl c with
 | false=>rfl
 | true =>
  unfold isBl at hb
  simp at hb
  rcases hb with rfl | rfl | rfl | rfl | rfl | rfl <;> exact absurd h (by decide)
theorem dig_sgn {c : Nat} (h : 0 ≤ digI c) : [[43],[45]].contains [c] = false:=by
 cases hb : [[43],[45]].contains [c] with
 | false=>rfl
 | true =>
  simp at hb
  rcases hb with rfl | rfl <;> exact absurd h (by decide)
theorem snoc_of {l : Tx} (h : l ≠ []) : Ex2 fun x c=>l = x ++ [c]:=⟨l.dropLast,l.getLast h,(List.dropLast_concat_getLast h).symm⟩
theorem wh_end {f : Tx} {a0 e' : V} {sg : Bool} {v : Int} {s4 : Sl} : csx (lay 5) fuel whV [.val (.str f),.val a0,.val e',.val (.bool sg),s4,.val (.int v)] p = .ok (.ret (.int (if sg then -v else v))) [.val (.str f),.val a0,.val e',.val (.bool sg),s4,.val (.int v)] p:=by
 cases sg <;> exact q_iff rfl rfl rfl (q_ret rfl)
theorem baseOf_bd (c : Nat) : (baseOf c).natAbs < 2 ^ 63:=by
 unfold baseOf
 repeat' split
 all_goals decide
theorem whM_L {a e : Nat} {sg : Bool} {mk dg post : Tx} {b : Int} {s4 : Sl} (hd : f.drop a = mk ++ (dg ++ post)) (he : e = a + mk.length + dg.length) (hdg : dg ≠ []) (hg : ∀ c ∈ dg,0 ≤ digI c ∧ digI c < b) (hl : e < 900)
  (hm : (mk = [] ∧ b = 10 ∧ (dg.length ≤ 2 ∨ ∀ c t,dg = c :: t → c ≠ 48)) ∨ ∃ mc,A3 (mk = [48,mc]) (b = baseOf mc) (0 < b)) :
  ∃ vs',csx (lay 5) fuel whM [.val (.str f),.val (.int a),.val (.int e),.val (.bool sg),s4,.un] p = .ok (.ret (.int (if sg then -(dv b dg 0) else dv b dg 0))) vs' p:=by
 rcases hm with ⟨rfl,rfl,h2⟩ | ⟨mc,rfl,hb,hb0⟩
 ·rw [List.nil_append] at hd
  rw [List.length_nil] at he
  obtain ⟨c0,t0,e0⟩ : Ex2 fun c t=>dg = c :: t:=by
   cases dg with
   | nil=>exact absurd rfl hdg
   | cons c t=>exact ⟨c,t,rfl⟩
  have hs : sliceV (.str f) (.int a) (.int e) = some (.str dg):=by
   rw [slice_str (by lia) (by lia),hd,show e - a = dg.length by lia,List.take_left']
   rfl
  have hd':=hd
  rw [e0,List.cons_append] at hd'
  exact ⟨_,q_asg rfl (q_iff (b_and (b_cmp (e_bin rfl rfl rfl) rfl rfl) fun Z=>b_cmp (e_item rfl rfl (item_at hd')) rfl rfl) (by
   rw [Bool.and_eq_false_iff]
   rcases h2 with h2 | h2
   ·exact .inl (decide_eq_false (by lia))
   ·exact .inr (beq_eq_false_iff_ne.mpr fun q=>h2 c0 t0 e0 (by injection q))) rfl (q_iff rfl rfl (q_asg (e_call (e_cons (e_slc rfl rfl rfl hs) rfl) (digits_value_L (by decide) (by decide) hdg hg) rfl) rfl) wh_end))⟩
 ·subst hb
  have hd2 : f.drop (a + 1) = mc :: (dg ++ post):=drop_succ hd
  have hd3 : f.drop (a + 2) = dg ++ post:=drop_succ hd2
  have he' : e = a + 2 + dg.length:=by rw [he];rfl
  have hlen : 0 < dg.length:=lenP hdg
  have hs : sliceV (.str f) (.int (a + 2 : Nat)) (.int e) = some (.str dg):=by
   rw [slice_str (by lia) (by lia),hd3,show e - (a + 2) = dg.length by lia,List.take_left']
   rfl
  refine ⟨_,q_asg rfl (q_ift (b_and (b_cmp (e_bin rfl rfl rfl) rfl rfl) fun Z=>b_cmp (e_item rfl rfl (item_at hd)) rfl rfl) ?_ (q_asg (e_call (e_cons (e_item rfl (e_bin (z:=.int (a + 1 : Nat)) rfl rfl rfl) (item_at hd2)) rfl) (base_of_L (by decide) mc) rfl) rfl) (q_ift (b_cmp rfl rfl rfl) (decide_eq_true hb0) (q_asg (e_call (e_cons (e_slc rfl (e_bin (z:=.int (a + 2 : Nat)) rfl rfl rfl) rfl hs) rfl) (digits_value_L (by decide) (baseOf_bd mc) hdg hg) rfl) rfl) wh_end))⟩
  rw [Bool.and_eq_true];exact ⟨decide_eq_true (by lia),rfl⟩
theorem whole_of_L (h : 5 < L) {t : Tx} {v : Int} (ht : WhT t v) : lay L 5 [.str t] p = .ok (.int v) p:=by
 obtain ⟨pre,sgn,mk,dg,post,b,e1,hv,hpre,hpost,hsgn,hdg,hg,hlen,hm⟩:=ht
 obtain ⟨x0,cl,ex0⟩:=snoc_of hdg
 have hcl:=dig_bl (hg cl (by rw [ex0];simp)).1
 have et : t = (pre ++ (sgn ++ (mk ++ x0))) ++ cl :: post:=by rw [e1,ex0];simp
 have elen : (pre ++ (sgn ++ (mk ++ x0))).length + 1 = pre.length + sgn.length + mk.length + dg.length:=by rw [ex0];simp;lia
 have htl : t.length = pre.length + sgn.length + mk.length + dg.length + post.length:=by rw [e1];simp;lia
 have hdl : 0 < dg.length:=lenP hdg
 have hd0 : t.drop (0 + pre.length) = sgn ++ (mk ++ (dg ++ post)):=drop_add (show t.drop 0 = pre ++ _ from e1)
 have hd1 : t.drop (0 + pre.length + sgn.length) = mk ++ (dg ++ post):=drop_add hd0
 obtain ⟨c1,t1,ec1,hc1⟩ : Ex2 fun c t=>mk ++ (dg ++ post) = c :: t ∧ 0 ≤ digI c:=by
  rcases hm with ⟨rfl,_⟩ | ⟨mc,rfl,_⟩
  ·cases dg with
   | nil=>exact absurd rfl hdg
   | cons c t=>exact ⟨c,t ++ post,rfl,(hg c List.mem_cons_self).1⟩
  ·exact ⟨48,mc :: (dg ++ post),rfl,by decide⟩
 obtain ⟨c2,t2,ec2,hc2⟩ : Ex2 fun c t=>sgn ++ (mk ++ (dg ++ post)) = c :: t ∧ isBl c = false:=by
  rcases hsgn with rfl | rfl | rfl
  ·exact ⟨c1,t1,ec1,dig_bl hc1⟩
  ·exact ⟨43,_,rfl,rfl⟩
  ·exact ⟨45,_,rfl,rfl⟩
 have l1:=wh1 (p:=p) (f:=t) (c:=c2) (r:=t2) (e:=t.length) (s3:=.un) (s4:=.un) (s5:=.un) pre 0 1000 (by rw [← ec2];exact e1) hpre hc2 (by lia) (by lia)
 have l2:=wh2 (p:=p) (n:=0 + pre.length) (m:=998) (s3:=.un) (s4:=.un) (s5:=.un) (x:=pre ++ (sgn ++ (mk ++ x0))) (c:=cl) (post:=post) (by simp) hcl hpost
 rw [← et,elen] at l2
 have l3:=fun sg=>whM_L (p:=p) (f:=t) (sg:=sg) (s4:=.un) hd1 (e:=pre.length + sgn.length + mk.length + dg.length) (by lia) hdg hg (by lia) hm
 have hend : ∃ vs',csx (lay 5) fuel whS [.val (.str t),.val (.int (0 + pre.length : Nat)),.val (.int (pre.length + sgn.length + mk.length + dg.length : Nat)),.un,.un,.un] p = .ok (.ret (.int v)) vs' p:=by
  rcases hsgn with rfl | rfl | rfl
  ·obtain ⟨vs',l3⟩:=l3 false
   rw [hv,if_neg (by simp)]
   refine ⟨vs',q_asg rfl (q_iff (b_and (b_cmp rfl rfl rfl) fun Z=>b_cmp (e_item rfl rfl (item_at (by rw [hd0,List.nil_append,ec1]))) rfl rfl) ?_ rfl l3)⟩
   rw [Bool.and_eq_false_iff];exact .inr (dig_sgn hc1)
  ·obtain ⟨vs',l3⟩:=l3 false
   rw [hv,if_neg (by simp)]
   refine ⟨vs',q_asg rfl (q_ift (b_and (b_cmp rfl rfl rfl) fun Z=>b_cmp (e_item rfl rfl (item_at hd0)) rfl rfl) ?_ (q_asg (e_cmp (e_item rfl rfl (item_at hd0)) rfl rfl) (q_aug rfl rfl rfl rfl)) l3)⟩
   rw [Bool.and_eq_true];exact ⟨decide_eq_true (by simp;lia),rfl⟩
  ·obtain ⟨vs',l3⟩:=l3 true
   rw [hv,if_pos rfl]
   refine ⟨vs',q_asg rfl (q_ift (b_and (b_cmp rfl rfl rfl) fun Z=>b_cmp (e_item rfl rfl (item_at hd0)) rfl rfl) ?_ (q_asg (e_cmp (e_item rfl rfl (item_at hd0)) rfl rfl) (q_aug rfl rfl rfl rfl)) l3)⟩
   rw [Bool.and_eq_true];exact ⟨decide_eq_true (by simp;lia),rfl⟩
 obtain ⟨vs',hend⟩:=hend
 exact def_ret h ⟨by decide,rfl⟩ rfl (show csx (lay 5) fuel c_whole_of _ p = _ from q_asgT rfl rfl (q_whl l1 (q_whl l2 hend)))
theorem need_whole_L (h : 6 < L) {t : Tx} {v : Int} (ht : WhT t v) : lay L 6 [.str t] p = .ok (.int v) p :=
 def_ret h ⟨by decide,rfl⟩ rfl (q_asg (e_call rfl (whole_of_L (by decide) ht) rfl) (q_iff rfl rfl rfl (q_ret rfl)))
end
end
section
noncomputable def BIG : Tx:=[98,105,103]
noncomputable def cutN (v : Int) (sz : Tx) : Int:=if sz == BIG then v else if sz == [104] then (if 32768 ≤ v % 65536 then v % 65536 - 65536 else v % 65536) else if v % 18446744073709551616 / 9223372036854775808 == 1 then v % 18446744073709551616 - 18446744073709551616 else v % 18446744073709551616
noncomputable def wsN (v : Int) (sz : Tx) : Int:=if sz == [104] then v % 65536 else v % 18446744073709551616
noncomputable def bsN (so : Nat) : Nat:=if [[120],[88]].contains [so] then 16 else if [so] == [111] then 8 else if [so] == [98] then 2 else 10
noncomputable def mkN (so : Nat) : Tx:=if [[120],[88]].contains [so] then [48,120] else if [so] == [117] then [] else [48,so]
noncomputable def filN (c : Nat) (n : Int) : Tx:=mulT [c] (if n < 0 then 0 else n)
section
variable {L : Nat} {p : Int}
theorem fil_len (c : Nat) (n : Int) : (filN c n).length = n.toNat:=by
 have : ∀ k : Nat,((List.replicate k [c]).flatten).length = k:=fun k=>by
  induction k with
  | zero=>rfl
  | succ k ih=>rw [List.replicate_succ,List.flatten_cons,List.length_append,ih];simp;lia
 unfold filN mulT
 rw [this];split <;> lia
theorem mul_str {c : Nat} {n : Int} (h1 : -1000000 ≤ n) (h2 : n ≤ 1000000) : binV .mul (.str [c]) (.int n) = some (.str (mulT [c] n)):=by
 have e : binV .mul (.str [c]) (.int n) = if [c].length = 1 ∧ -1000000000000 ≤ n ∧ n ≤ 1000000 then some (.str (mulT [c] n)) else .none:=rfl
 rw [e,if_pos ⟨rfl,Int.le_trans (by decide) h1,h2⟩]
theorem mulT_fil (c : Nat) (n : Int) : mulT [c] n = filN c n:=by
 unfold filN mulT
 split
 ·rename_i h;rw [Int.toNat_of_nonpos (by lia)];rfl
 ·rfl
theorem filled_L (h : 22 < L) {c : Nat} {n : Int} (hn : n ≤ 1000000) : lay L 22 [.str [c],.int n] p = .ok (.str (filN c n)) p :=
 def_ret h ⟨by decide,rfl⟩ rfl (q_ret (cevX_of (e_bin (x:=.str [c]) (y:=.int (if n < 0 then 0 else n)) rfl (e_bi rfl rfl) (mul_str (by split <;> lia) (by split <;> lia))) rfl))
theorem wide_L (h : 7 < L) {v : Int} : lay L 7 [.int v] p = .ok (.int (if v % 18446744073709551616 / 9223372036854775808 == 1 then v % 18446744073709551616 - 18446744073709551616 else v % 18446744073709551616)) p:=by
 have e1 : ∀ {vs : List Sl},vs = [.val (.int v),.un] → cev (lay 7) (.bin .band (.var 0) (.bin .sub (.bin .shl (.lit (.int 1)) (.lit (.int 64))) (.lit (.int 1)))) vs p = .ok (.int (v % 18446744073709551616)) p:=fun e=>by subst e;exact e_bin rfl (e_bin (e_bin rfl rfl rfl) rfl rfl) rfl
 generalize v % 18446744073709551616 = l at *
 have e2 : ∀ {vs : List Sl},vs = [.val (.int v),.val (.int l)] → cevB (lay 7) (.cmp (.bin .shr (.var 1) (.lit (.int 63))) .eq (.lit (.int 1))) vs p = .ok (l / 9223372036854775808 == 1) p:=fun e=>by subst e;exact b_cmp (e_bin (z:=.int (l / 9223372036854775808)) rfl rfl rfl) rfl rfl
 cases hc : (l / 9223372036854775808 == 1) with
 | true=>exact def_ret h ⟨by decide,rfl⟩ rfl (q_asg (e1 rfl) (q_itr (e2 rfl) hc (q_ret (cevX_of (e_bin rfl (e_bin rfl rfl rfl) rfl) rfl)) fun Z=>rfl))
 | false=>exact def_ret h ⟨by decide,rfl⟩ rfl (q_asg (e1 rfl) (q_iff (e2 rfl) hc rfl (q_ret rfl)))
theorem cut_L (h : 23 < L) {v : Int} {sz : Tx} : lay L 23 [.int v,.str sz] p = .ok (.int (cutN v sz)) p:=by
 unfold cutN
 cases h1 : (sz == BIG) with
 | true=>exact def_ret h ⟨by decide,rfl⟩ rfl (q_itr (b_cmp rfl rfl rfl) h1 (q_ret rfl) fun Z=>rfl)
 | false =>
  cases h2 : (sz == [104]) with
  | true =>
   refine def_ret h ⟨by decide,rfl⟩ rfl (q_iff (b_cmp rfl rfl rfl) h1 rfl (q_itr (b_cmp rfl rfl rfl) h2 (q_asg (e_bin (z:=.int (v % 65536)) rfl rfl rfl) (q_ret (e_ite (b_cmp rfl rfl rfl) ?_))) fun Z=>rfl))
   by_cases hl : 32768 ≤ v % 65536
   ·rw [decide_eq_true hl];exact (e_bin rfl rfl rfl : cev _ (.bin .sub (.var 2) (.lit (.int 65536))) _ _ = _).trans (by rw [if_pos rfl,if_pos hl,if_neg Bool.false_ne_true])
   ·rw [decide_eq_false hl];exact (rfl : _ = RE.ok (V.int (v % 65536)) p).trans (by rw [if_pos rfl,if_neg hl,if_neg Bool.false_ne_true])
  | false =>
   exact def_ret h ⟨by decide,rfl⟩ rfl (q_iff (b_cmp rfl rfl rfl) h1 rfl (q_iff (b_cmp rfl rfl rfl) h2 rfl (q_ret (e_callX rfl (wide_L (by decide))))))
theorem ws_L (h : 24 < L) {v : Int} {sz : Tx} : lay L 24 [.int v,.str sz] p = .ok (.int (wsN v sz)) p:=by
 unfold wsN
 cases h2 : (sz == [104]) with
 | true=>exact def_ret h ⟨by decide,rfl⟩ rfl (q_itr (b_cmp rfl rfl rfl) h2 (q_ret (cevX_of (e_bin rfl rfl rfl) rfl)) fun Z=>rfl)
 | false=>exact def_ret h ⟨by decide,rfl⟩ rfl (q_iff (b_cmp rfl rfl rfl) h2 rfl (q_ret (cevX_of (e_bin rfl (e_bin (e_bin rfl rfl rfl) rfl rfl) rfl) rfl)))
theorem bs_L (h : 17 < L) {so : Nat} : lay L 17 [.str [so]] p = .ok (.int (bsN so)) p:=by
 unfold bsN
 cases h1 : [[120],[88]].contains [so] with
 | true=>exact def_ret h ⟨by decide,rfl⟩ rfl (q_itr (b_cmp rfl rfl rfl) h1 (q_ret rfl) fun Z=>rfl)
 | false =>
  cases h2 : ([so] == [111]) with
  | true=>exact def_ret h ⟨by decide,rfl⟩ rfl (q_iff (b_cmp rfl rfl rfl) h1 rfl (q_itr (b_cmp rfl rfl rfl) h2 (q_ret rfl) fun Z=>rfl))
  | false =>
   cases h3 : ([so] == [98]) with
   | true=>exact def_ret h ⟨by decide,rfl⟩ rfl (q_iff (b_cmp rfl rfl rfl) h1 rfl (q_iff (b_cmp rfl rfl rfl) h2 rfl (q_itr (b_cmp rfl rfl rfl) h3 (q_ret rfl) fun Z=>rfl)))
   | false=>exact def_ret h ⟨by decide,rfl⟩ rfl (q_iff (b_cmp rfl rfl rfl) h1 rfl (q_iff (b_cmp rfl rfl rfl) h2 rfl (q_iff (b_cmp rfl rfl rfl) h3 rfl (q_ret rfl))))
theorem mk_L (h : 25 < L) {so : Nat} : lay L 25 [.str [so]] p = .ok (.str (mkN so)) p:=by
 unfold mkN
 cases h1 : [[120],[88]].contains [so] with
 | true=>exact def_ret h ⟨by decide,rfl⟩ rfl (q_itr (b_cmp rfl rfl rfl) h1 (q_ret rfl) fun Z=>rfl)
 | false =>
  cases h2 : ([so] == [117]) with
  | true=>exact def_ret h ⟨by decide,rfl⟩ rfl (q_iff (b_cmp rfl rfl rfl) h1 rfl (q_itr (b_cmp rfl rfl rfl) h2 (q_ret rfl) fun Z=>rfl))
  | false=>exact def_ret h ⟨by decide,rfl⟩ rfl (q_iff (b_cmp rfl rfl rfl) h1 rfl (q_iff (b_cmp rfl rfl rfl) h2 rfl (q_ret (cevX_of (e_bin rfl rfl (add_str (a:=[48]) (by exact Nat.succ_pos _) (by exact Nat.succ_pos _))) rfl))))
noncomputable def SGL : Tx:=[48,49,50,51,52,53,54,55,56,57,97,98,99,100,101,102]
noncomputable def SGU : Tx:=[48,49,50,51,52,53,54,55,56,57,65,66,67,68,69,70]
theorem sg_get : ∀ d < 16,SGL[d]? = some (sg false d) ∧ SGU[d]? = some (sg true d):=by decide
theorem item_sg {up : Bool} {d : Nat} (h : d < 16) : itemV (.str (if up then SGU else SGL)) (.int d) p = some (.str [sg up d]):=by
 show (getI _ _).map _ = _
 rw [getI_cast]
 cases up
 ·rw [if_neg Bool.false_ne_true,(sg_get d h).1];rfl
 ·rw [if_pos rfl,(sg_get d h).2];rfl
noncomputable def sgs (t : Tx) : List V:=t.map fun c=>.str [c]
theorem dg_loop {b : Nat} {up : Bool} (hb : 2 ≤ b) (hb16 : b ≤ 16) : ∀ (k n m : Nat) (M : Tx), n < 2 ^ k → k < m → M.length + k ≤ 1000 → wloop (cevB (lay 21) (.cmp (.var 0) .gt (.lit (.int 0)))) (csx (lay 21) fuel (.app 4 (.item (.var 3) (.bin .mod (.var 0) (.var 1))) (.asg 0 (.bin .fdiv (.var 0) (.var 1)) .done))) m [.val (.int n), .val (.int b), .val (.bool up), .val (.str (if up then SGU else SGL)), .own (sgs M)] p =
      .ok .next [.val (.int 0), .val (.int b), .val (.bool up), .val (.str (if up then SGU else SGL)), .own (sgs (M ++ rv b up k n))] p
  | _, n, 0, _, _, hm, _ => absurd hm (Nat.not_lt_zero _)
  | 0, n, m + 1, M, hn, _, _ => by
    have : n = 0 := by simpa using hn
    subst this
    rw [rv, List.append_nil]
    exact w_f (b_cmp rfl rfl rfl) rfl
  | k + 1, n, m + 1, M, hn, hm, hM => by
    unfold rv
    by_cases h0 : n = 0
    · subst h0
      rw [if_pos rfl, List.append_nil]
      exact w_f (b_cmp rfl rfl rfl) rfl
    · rw [if_neg h0]
      have hbI : 0 < (b : Int) ∧ (b : Int) < 2 ^ 200 := ⟨by lia, Int.lt_trans (b := 17) (by lia) (by decide)⟩
      have e1 : binV .mod (.int n) (.int b) = some (.int (n % b : Nat)) := if_pos hbI
      have e2 : binV .fdiv (.int n) (.int b) = some (.int (n / b : Nat)) := if_pos hbI
      have e3 : sgs M ++ [.str [sg up (n % b)]] = sgs (M ++ [sg up (n % b)]) := by unfold sgs; rw [List.map_append]; rfl
      have ih := dg_loop (up := up) hb hb16 k (n / b) m (M ++ [sg up (n % b)]) (rv_lt hb hn) (by exact Nat.le_of_lt_succ (by assumption)) (by rw [List.length_append, List.length_singleton]; lia)
      rw [List.append_assoc] at ih
      refine w_t (b_cmp rfl rfl rfl) (decide_eq_true (by lia)) (q_app rfl (e_item rfl (e_bin rfl rfl e1) (item_sg (by have := Nat.mod_lt n (show 0 < b by exact Nat.le_of_lt (by assumption)); exact Nat.lt_of_lt_of_le (by assumption) (by assumption)))) (by unfold sgs SZ; rw [List.length_map]; lia) (q_asg (e_bin rfl rfl e2) rfl)) ?_
      rw [e3]
      exact ih
theorem strs_sgs : ∀ t,strsOf (sgs t) = some (t.map fun c=>[c])
 | []=>rfl
 | c :: t=>by show (strsOf (sgs t)).map _ = _;rw [strs_sgs t];rfl
theorem flat_one : ∀ t : Tx,(t.map fun c=>[c]).flatten = t
 | []=>rfl
 | c :: t=>by show [c] ++ (t.map fun c=>[c]).flatten = _;rw [flat_one t];rfl
theorem digits_L (h : 21 < L) {b : Nat} {up : Bool} (hb : 2 ≤ b) (hb16 : b ≤ 16) (h10 : b = 10 → up = false) {n : Nat} (hn : n < 2 ^ 100) : lay L 21 [.int n,.int b,.bool up] p = .ok (.str (dgN b up n)) p:=by
 have h200 : n < 2 ^ 200:=Nat.lt_trans hn (by decide)
 cases hc : ((b : Int) == 10 || (n : Int) == 0) with
 | true =>
  have e : dgN b up n = itx n:=by
   rw [itx_nat h200]
   rw [Bool.or_eq_true,beq_iff_eq,beq_iff_eq] at hc
   rcases hc with hc | hc
   ·have : b = 10:=by lia
    rw [this,h10 this]
   ·have : n = 0:=by lia
    subst this;rfl
  rw [e]
  exact def_ret h ⟨by decide,rfl⟩ rfl (q_itr (b_or (b_cmp rfl rfl rfl) fun Z=>b_cmp rfl rfl rfl) hc (q_ret (cevX_of (e_bi rfl (str_int hn)) rfl)) fun Z=>rfl)
 | false =>
  have h0 : n ≠ 0:=by
   rw [Bool.or_eq_false_iff,beq_eq_false_iff_ne,beq_eq_false_iff_ne] at hc
   lia
  have hl:=dg_loop (p:=p) (up:=up) hb hb16 200 n 1000 [] h200 (by decide) (by decide)
  have e : dgN b up n = (rv b up 200 n).reverse:=by unfold dgN;rw [if_neg h0]
  rw [List.nil_append] at hl
  rw [e]
  have hr : (sgs (rv b up 200 n)).reverse = sgs (rv b up 200 n).reverse:=by unfold sgs;rw [List.map_reverse]
  have hj : ∀ {a0 a1 a2 a3 : Sl},csx (lay 21) fuel (.rev 4 (.ret (.joinv 4))) [a0,a1,a2,a3,.own (sgs (rv b up 200 n))] p = .ok (.ret (.str (rv b up 200 n).reverse)) [a0,a1,a2,a3,.own (sgs (rv b up 200 n).reverse)] p:=by
   intro a0 a1 a2 a3
   show csx (lay 21) fuel (.ret (.joinv 4)) [a0,a1,a2,a3,.own (sgs (rv b up 200 n)).reverse] p = _
   rw [hr]
   refine q_ret ?_
   show RE.ofO ((strsOf (sgs (rv b up 200 n).reverse)).bind fun l=>if l.flatten.length ≤ SZ then some (V.str l.flatten) else .none) p = _
   rw [strs_sgs]
   show RE.ofO (if ((rv b up 200 n).reverse.map fun c=>[c]).flatten.length ≤ SZ then some (V.str ((rv b up 200 n).reverse.map fun c=>[c]).flatten) else .none) p = _
   rw [flat_one,if_pos (by have:=@rv_len b up 200 n;rw [List.length_reverse];unfold SZ;lia)]
   rfl
  have h3 : ∀ {vs : List Sl},vs[2]? = some (.val (.bool up)) → cev (lay 21) (.ite (.var 2) (.lit (.str [48,49,50,51,52,53,54,55,56,57,65,66,67,68,69,70])) (.lit (.str [48,49,50,51,52,53,54,55,56,57,97,98,99,100,101,102]))) vs p = .ok (.str (if up then SGU else SGL)) p:=fun {vs} hv=>by
   refine e_ite (c:=up) (p1:=p) ?_ ?_
   ·exact b_var hv
   ·cases up <;> rfl
  exact def_ret h ⟨by decide,rfl⟩ rfl (q_iff (b_or (b_cmp rfl rfl rfl) fun Z=>b_cmp rfl rfl rfl) hc rfl (q_asg (h3 rfl) (q_newL rfl (q_whl hl hj))))
end
end
section
noncomputable def eUns : EE:=([117,110,115,105,103,110,101,100,32,98,105,103,110,117,109,32,102,111,114,109,97,116,32,105,115,32,105,110,118,97,108,105,100],[[84,67,76],[70,79,82,77,65,84],[66,65,68,85,78,83,73,71,78,69,68]])
noncomputable def wfB1 : CS:=.asg 8 (.call 21 (.cons (.bi .abs (.cons (.var 6) .nil)) (.cons (.call 17 (.cons (.var 0) .nil)) (.cons (.cmp (.var 0) .eq (.lit (.str [88]))) .nil)))) (.ifs (.cmp (.var 6) .lt (.lit (.int 0))) (.asg 7 (.lit (.str [45])) .done) (.ifs (.cmp (.lit (.str [43])) .inn (.var 2)) (.asg 7 (.lit (.str [43])) .done) (.ifs (.cmp (.lit (.str [32])) .inn (.var 2)) (.asg 7 (.lit (.str [32])) .done) .done .done) .done) .done)
noncomputable def wfB2 : CS:=.asg 8 (.call 21 (.cons (.call 24 (.cons (.var 6) (.cons (.var 5) .nil))) (.cons (.call 17 (.cons (.var 0) .nil)) (.cons (.cmp (.var 0) .eq (.lit (.str [88]))) .nil)))) .done
noncomputable def wfC : CS:=.ifs (.cmp (.var 4) .ge (.lit (.int 0))) (.exp (.call 19 (.cons (.var 4) .nil)) (.ret (.bin .add (.bin .add (.var 7) (.call 22 (.cons (.lit (.str [48])) (.cons (.bin .sub (.var 4) (.bi .len (.cons (.var 8) .nil))) .nil)))) (.var 8)))) .done (.ifs (.cmp (.lit (.str [48])) .inn (.var 2)) (.ret (.bin .add (.bin .add (.var 7) (.call 22 (.cons (.lit (.str [48])) (.cons (.bin .sub (.bin .sub (.var 3) (.bi .len (.cons (.var 7) .nil))) (.bi .len (.cons (.var 8) .nil))) .nil)))) (.var 8))) .done (.ret (.bin .add (.var 7) (.var 8))))
noncomputable def wfA : CS:=.asg 7 (.lit (.str [])) (.ifs (.or (.cmp (.var 0) .eq (.lit (.str [100]))) (.cmp (.var 5) .eq (.lit (.str [98,105,103])))) wfB1 wfB2 (.ifs (.and (.cmp (.lit (.str [35])) .inn (.var 2)) (.cmp (.var 6) .ne (.lit (.int 0)))) (.asg 7 (.bin .add (.var 7) (.call 25 (.cons (.var 0) .nil))) .done) .done wfC))
noncomputable def sgX (fl : Tx) (n : Int) : Tx:=if n < 0 then [45] else if fl.contains 43 then [43] else if fl.contains 32 then [32] else []
noncomputable def sgd (so : Nat) (sz : Tx) : Bool:=[so] == [100] || sz == BIG
noncomputable def dgX (so : Nat) (sz : Tx) (n : Int) : Tx:=dgN (bsN so) ([so] == [88]) (if sgd so sz then n.natAbs else (wsN n sz).toNat)
noncomputable def hdX (so : Nat) (sz fl : Tx) (n : Int) : Tx:=(if sgd so sz then sgX fl n else []) ++ (if fl.contains 35 && n != 0 then mkN so else [])
noncomputable def wfR (hd dg fl : Tx) (W P : Int) : Except EE Tx:=if 0 ≤ P then (if 2147483648 ≤ P then .error eRoom else .ok (hd ++ filN 48 (P - dg.length) ++ dg)) else if fl.contains 48 then .ok (hd ++ filN 48 (W - hd.length - dg.length) ++ dg) else .ok (hd ++ dg)
noncomputable def soD (so : Nat) (sz : Tx) : Nat:=if [so] == [117] && sz == BIG then 100 else so
noncomputable def whR (so : Nat) (sz fl : Tx) (v W P : Int) : Except EE Tx:=if [so] == [117] && sz == BIG && decide (v < 0) then .error eUns else wfR (hdX (soD so sz) sz fl (cutN v sz)) (dgX (soD so sz) sz (cutN v sz)) fl W P
noncomputable def outR (x : Except EE Tx) (vs : List Sl) (p : Int) : RS:=match x with | .ok t=>.ok (.ret (.str t)) vs p | .error e=>.exc e.1 e.2 p
section
variable {L : Nat} {p : Int}
theorem def_out {f : Nat} {cs : CS} {ar nv : Nat} {args : List V} {x : Except EE Tx} {vs' : List Sl} (h : f < L) (h0 : (f ≠ 0 ∧ f ≠ 39) ∧ lookC f codes = some (cs,ar,nv)) (hl : args.length = ar) (hc : csx (lay f) fuel cs (args.map .val ++ List.replicate (nv - ar) .un) p = outR x vs' p) : lay L f args p = ofX .str x p:=by
 cases x with
 | ok t=>exact def_ret h h0 hl hc
 | error e=>exact def_exc h h0 hl hc
theorem bsN_bd (so : Nat) : 2 ≤ bsN so ∧ bsN so ≤ 16 ∧ (bsN so = 10 → ([so] == [88]) = false):=by
 unfold bsN
 cases h1 : [[120],[88]].contains [so] with
 | true=>rw [if_pos rfl];exact ⟨by decide,by decide,fun q=>by cases q⟩
 | false =>
  have : ([so] == [88]) = false:=by
   rw [beq_eq_false_iff_ne];intro q;rw [q] at h1;exact tF h1
  rw [if_neg Bool.false_ne_true]
  refine ⟨?_,?_,fun Z=>this⟩ <;> (repeat' split) <;> decide
theorem mkN_len (so : Nat) : (mkN so).length ≤ 2:=by unfold mkN;(repeat' split) <;> simp
theorem sgX_len (fl : Tx) (n : Int) : (sgX fl n).length ≤ 1:=by unfold sgX;(repeat' split) <;> decide
theorem dgX_len (so : Nat) (sz : Tx) (n : Int) : (dgX so sz n).length ≤ 200:=dgN_len _
theorem hdX_len (so : Nat) (sz fl : Tx) (n : Int) : (hdX so sz fl n).length ≤ 3:=by
 unfold hdX
 have:=sgX_len fl n
 have:=mkN_len so
 rw [List.length_append]
 split <;> split <;> simp <;> lia
theorem in_fl {c : Nat} {fl : Tx} : inV (.str [c]) (.str fl) = some (fl.contains c):=rfl
theorem wf_C {a0 a1 a5 a6 : Sl} {fl hd dg : Tx} {W P : Int} (hh : hd.length ≤ 3) (hg : dg.length ≤ 200) (hW : W ≤ 20) (hP : PBd P) : ∃ vs',csx (lay 26) fuel wfC [a0,a1,.val (.str fl),.val (.int W),.val (.int P),a5,a6,.val (.str hd),.val (.str dg)] p = outR (wfR hd dg fl W P) vs' p:=by
 unfold wfR
 obtain ⟨hP1,hP2⟩:=hP
 by_cases h0 : 0 ≤ P
 ·rw [if_pos h0]
  by_cases h31 : 2147483648 ≤ P
  ·rw [if_pos h31]
   exact ⟨[],q_itr (b_cmp rfl rfl rfl) (decide_eq_true h0) (q_expx (e_callx rfl (need_room_x (by decide) h31))) fun Z=>rfl⟩
  ·rw [if_neg h31]
   have hl:=fil_len 48 (P - dg.length)
   exact ⟨_,q_itr (b_cmp rfl rfl rfl) (decide_eq_true h0) (q_exp (e_call rfl (need_room_ok (by decide) (by lia)) rfl) (q_ret (cevX_of (e_bin (e_bin rfl (e_call (e_cons rfl (e_cons (e_bin rfl rfl rfl) rfl)) (filled_L (n:=P - dg.length) (by decide) (by lia)) rfl) (add_str (by lia) (by lia))) rfl (add_str (by rw [List.length_append];lia) (by lia))) rfl))) fun Z=>rfl⟩
 ·rw [if_neg h0]
  cases hz : fl.contains 48 with
  | true =>
   rw [if_pos rfl]
   have hl:=fil_len 48 (W - hd.length - dg.length)
   exact ⟨_,q_iff (b_cmp rfl rfl rfl) (decide_eq_false h0) rfl (q_itr (b_cmp rfl rfl in_fl) hz (q_ret (cevX_of (e_bin (e_bin rfl (e_call (e_cons rfl (e_cons (e_bin (e_bin rfl rfl rfl) rfl rfl) rfl)) (filled_L (n:=W - hd.length - dg.length) (by decide) (by lia)) rfl) (add_str (by lia) (by lia))) rfl (add_str (by rw [List.length_append];lia) (by lia))) rfl)) fun Z=>rfl)⟩
  | false =>
   rw [if_neg Bool.false_ne_true]
   exact ⟨_,q_iff (b_cmp rfl rfl rfl) (decide_eq_false h0) rfl (q_iff (b_cmp rfl rfl in_fl) hz rfl (q_ret (cevX_of (e_bin rfl rfl (add_str (by lia) (by lia))) rfl)))⟩
theorem ws_nn (n : Int) (sz : Tx) : 0 ≤ wsN n sz ∧ wsN n sz < 18446744073709551616:=by unfold wsN;split <;> lia
theorem wf_A {a1 a8 a7 : Sl} {fl sz : Tx} {so : Nat} {n W P : Int} (hn : n.natAbs < 2 ^ 100) (hW : W ≤ 20) (hP : PBd P) : ∃ vs',csx (lay 26) fuel wfA [.val (.str [so]),a1,.val (.str fl),.val (.int W),.val (.int P),.val (.str sz),.val (.int n),a7,a8] p = outR (wfR (hdX so sz fl n) (dgX so sz n) fl W P) vs' p:=by
 obtain ⟨b1,b2,b3⟩:=bsN_bd so
 have hB : csx (lay 26) fuel (.ifs (.or (.cmp (.var 0) .eq (.lit (.str [100]))) (.cmp (.var 5) .eq (.lit (.str [98,105,103])))) wfB1 wfB2 .done) [.val (.str [so]),a1,.val (.str fl),.val (.int W),.val (.int P),.val (.str sz),.val (.int n),.val (.str []),a8] p = .ok .next [.val (.str [so]),a1,.val (.str fl),.val (.int W),.val (.int P),.val (.str sz),.val (.int n),.val (.str (if sgd so sz then sgX fl n else [])),.val (.str (dgX so sz n))] p:=by
  cases hs : sgd so sz with
  | true =>
   rw [if_pos rfl]
   have hd : dgX so sz n = dgN (bsN so) ([so] == [88]) n.natAbs:=by unfold dgX;rw [hs,if_pos rfl]
   rw [hd]
   refine q_ift (b_or (b_cmp rfl rfl rfl) fun Z=>b_cmp rfl rfl rfl) hs (q_asg (e_call (e_cons (e_bi rfl rfl) (e_cons (e_call rfl (bs_L (by decide)) rfl) (e_cons (e_cmp rfl rfl rfl) rfl))) (digits_L (by decide) b1 b2 b3 hn) rfl) ?_) rfl
   unfold sgX
   by_cases h0 : n < 0
   ·rw [if_pos h0];exact q_ift (b_cmp rfl rfl rfl) (decide_eq_true h0) rfl rfl
   ·rw [if_neg h0]
    refine q_iff (b_cmp rfl rfl rfl) (decide_eq_false h0) ?_ rfl
    cases h1 : fl.contains 43 with
    | true=>exact q_ift (b_cmp rfl rfl in_fl) h1 rfl rfl
    | false =>
     refine q_iff (b_cmp rfl rfl in_fl) h1 ?_ rfl
     cases h2 : fl.contains 32 with
     | true=>exact q_ift (b_cmp rfl rfl in_fl) h2 rfl rfl
     | false=>exact q_iff (b_cmp rfl rfl in_fl) h2 rfl rfl
  | false =>
   rw [if_neg Bool.false_ne_true]
   obtain ⟨w1,w2⟩:=ws_nn n sz
   have hd : dgX so sz n = dgN (bsN so) ([so] == [88]) (wsN n sz).toNat:=by unfold dgX;rw [hs,if_neg Bool.false_ne_true]
   have hw : wsN n sz = ((wsN n sz).toNat : Int):=(Int.toNat_of_nonneg w1).symm
   have h24:=ws_L (p:=p) (L:=26) (v:=n) (sz:=sz) (by decide)
   rw [hw] at h24
   rw [hd]
   exact q_iff (b_or (b_cmp rfl rfl rfl) fun Z=>b_cmp rfl rfl rfl) hs (q_asg (e_call (e_cons (e_call rfl h24 rfl) (e_cons (e_call rfl (bs_L (by decide)) rfl) (e_cons (e_cmp rfl rfl rfl) rfl))) (digits_L (by decide) b1 b2 b3 (Nat.lt_trans (m:=18446744073709551616) (by lia) (by decide))) rfl) rfl) rfl
 have hsl : (if sgd so sz then sgX fl n else []).length ≤ 1:=by split;exact sgX_len fl n;decide
 have hA : ∀ {K : CS},csx (lay 26) fuel (.ifs (.and (.cmp (.lit (.str [35])) .inn (.var 2)) (.cmp (.var 6) .ne (.lit (.int 0)))) (.asg 7 (.bin .add (.var 7) (.call 25 (.cons (.var 0) .nil))) .done) .done K) [.val (.str [so]),a1,.val (.str fl),.val (.int W),.val (.int P),.val (.str sz),.val (.int n),.val (.str (if sgd so sz then sgX fl n else [])),.val (.str (dgX so sz n))] p = csx (lay 26) fuel K [.val (.str [so]),a1,.val (.str fl),.val (.int W),.val (.int P),.val (.str sz),.val (.int n),.val (.str (hdX so sz fl n)),.val (.str (dgX so sz n))] p:=by
  intro K
  have hb : ∀ {vs : List Sl},vs[2]? = some (.val (.str fl)) → vs[6]? = some (.val (.int n)) → cevB (lay 26) (.and (.cmp (.lit (.str [35])) .inn (.var 2)) (.cmp (.var 6) .ne (.lit (.int 0)))) vs p = .ok (fl.contains 35 && n != 0) p:=fun {vs} h2 h6=>by
   have v2 : cev (lay 26) (.var 2) vs p = .ok (.str fl) p:=e_var h2
   have v6 : cev (lay 26) (.var 6) vs p = .ok (.int n) p:=e_var h6
   exact b_and (b_cmp rfl v2 in_fl) fun Z=>b_cmp v6 rfl rfl
  unfold hdX
  generalize (if sgd so sz then sgX fl n else []) = sg at *
  cases h35 : (fl.contains 35 && n != 0) with
  | true=>rw [if_pos rfl];exact q_ift (hb rfl rfl) h35 (q_asg (e_bin rfl (e_call rfl (mk_L (by decide)) rfl) (add_str (by lia) (by have:=mkN_len so;lia))) rfl) rfl
  | false=>rw [if_neg Bool.false_ne_true,List.append_nil];exact q_iff (hb rfl rfl) h35 rfl rfl
 obtain ⟨vs',hC⟩:=wf_C (p:=p) (a0:=.val (.str [so])) (a1:=a1) (a5:=.val (.str sz)) (a6:=.val (.int n)) (fl:=fl) (hdX_len so sz fl n) (dgX_len so sz n) hW hP
 refine ⟨vs',q_asg rfl ?_⟩
 have hsplit : ∀ {vs vs1 : List Sl} {K : CS},csx (lay 26) fuel (.ifs (.or (.cmp (.var 0) .eq (.lit (.str [100]))) (.cmp (.var 5) .eq (.lit (.str [98,105,103])))) wfB1 wfB2 .done) vs p = .ok .next vs1 p → csx (lay 26) fuel (.ifs (.or (.cmp (.var 0) .eq (.lit (.str [100]))) (.cmp (.var 5) .eq (.lit (.str [98,105,103])))) wfB1 wfB2 K) vs p = csx (lay 26) fuel K vs1 p:=fun {vs vs1 K} hh=>by
  change RE.bindS (cevB (lay 26) _ vs p) (fun c p=>(if c then csx (lay 26) fuel wfB1 vs p else csx (lay 26) fuel wfB2 vs p).next (csx (lay 26) fuel .done)) = _ at hh
  show RE.bindS (cevB (lay 26) _ vs p) (fun c p=>(if c then csx (lay 26) fuel wfB1 vs p else csx (lay 26) fuel wfB2 vs p).next (csx (lay 26) fuel K)) = _
  generalize cevB (lay 26) _ vs p = X at hh ⊢
  cases X with
  | ok c q =>
   change (if c then csx (lay 26) fuel wfB1 vs q else csx (lay 26) fuel wfB2 vs q).next (csx (lay 26) fuel .done) = _ at hh
   show (if c then csx (lay 26) fuel wfB1 vs q else csx (lay 26) fuel wfB2 vs q).next (csx (lay 26) fuel K) = _
   generalize (if c then csx (lay 26) fuel wfB1 vs q else csx (lay 26) fuel wfB2 vs q) = Y at hh ⊢
   cases Y with
   | ok g vs2 q2 =>
    cases g with
    | next=>change RS.ok .next vs2 q2 = _ at hh;cases hh;rfl
    | brk=>cases hh
    | cont=>cases hh
    | ret _=>cases hh
   | exc _ _ _=>cases hh
   | fail=>cases hh
  | exc _ _ _=>cases hh
  | fail=>exact RS.noConfusion hh
 exact (hsplit hB).trans (hA.trans hC)
theorem cut_bd {v : Int} (hv : v.natAbs < 2 ^ 100) (sz : Tx) : (cutN v sz).natAbs < 2 ^ 100:=by
 have : (18446744073709551616 : Nat) * 2 < 2 ^ 100:=by decide
 generalize (2 : Nat) ^ 100 = B at *
 unfold cutN
 (repeat' split) <;> lia
theorem whole_L (h : 26 < L) {fl sz word : Tx} {so : Nat} {v W P : Int} (ht : WhT word v) (hv : v.natAbs < 2 ^ 100) (hW : W ≤ 20) (hP : PBd P) : lay L 26 [.str [so],.str word,.str fl,.int W,.int P,.str sz] p = ofX .str (whR so sz fl v W P) p:=by
 unfold whR soD
 have hn:=cut_bd hv sz
 have h6 : ∀ {vs : List Sl},vs[1]? = some (.val (.str word)) → vs[5]? = some (.val (.str sz)) → cev (lay 26) (.call 23 (.cons (.call 6 (.cons (.var 1) .nil)) (.cons (.var 5) .nil))) vs p = .ok (.int (cutN v sz)) p:=fun {vs} h1 h5=>by
  have v1 : cev (lay 26) (.var 1) vs p = .ok (.str word) p:=e_var h1
  have v5 : cev (lay 26) (.var 5) vs p = .ok (.str sz) p:=e_var h5
  exact e_call (e_cons (e_call (e_cons v1 rfl) (need_whole_L (by decide) ht) rfl) (e_cons v5 rfl)) (cut_L (by decide)) rfl
 cases hu : ([so] == [117] && sz == BIG) with
 | true =>
  have hbig : sz = BIG:=by rw [Bool.and_eq_true] at hu;exact eq_of_beq hu.2
  have hc : cutN v sz = v:=by unfold cutN;rw [hbig];rfl
  have hb : ∀ {a2 a3 a4 a6 a7 a8 : Sl},cevB (lay 26) (.and (.cmp (.var 0) .eq (.lit (.str [117]))) (.cmp (.var 5) .eq (.lit (.str [98,105,103])))) [.val (.str [so]),.val (.str word),a2,a3,a4,.val (.str sz),a6,a7,a8] p = .ok ([so] == [117] && sz == BIG) p:=b_and (b_cmp rfl rfl rfl) fun Z=>b_cmp rfl rfl rfl
  rw [Bool.true_and]
  by_cases h0 : v < 0
  ·rw [decide_eq_true h0,if_pos rfl]
   exact def_out (vs':=[]) h ⟨by decide,rfl⟩ rfl (q_asg (h6 rfl rfl) (q_itr hb hu (q_itr (b_cmp rfl rfl rfl) (decide_eq_true (by rw [hc];exact h0)) (q_rai (e_callX rfl (bad_field_L (by decide) _ _))) fun Z=>rfl) fun Z=>rfl))
  ·rw [decide_eq_false h0,if_neg Bool.false_ne_true,if_pos rfl]
   obtain ⟨vs',hA⟩:=wf_A (p:=p) (a1:=.val (.str word)) (a7:=.un) (a8:=.un) (fl:=fl) (sz:=sz) (so:=100) hn hW hP
   exact def_out h ⟨by decide,rfl⟩ rfl (q_asg (h6 rfl rfl) (q_ift hb hu (q_iff (b_cmp rfl rfl rfl) (decide_eq_false (by rw [hc];exact h0)) rfl rfl) hA))
 | false =>
  have hb : ∀ {a2 a3 a4 a6 a7 a8 : Sl},cevB (lay 26) (.and (.cmp (.var 0) .eq (.lit (.str [117]))) (.cmp (.var 5) .eq (.lit (.str [98,105,103])))) [.val (.str [so]),.val (.str word),a2,a3,a4,.val (.str sz),a6,a7,a8] p = .ok ([so] == [117] && sz == BIG) p:=b_and (b_cmp rfl rfl rfl) fun Z=>b_cmp rfl rfl rfl
  rw [Bool.false_and,if_neg Bool.false_ne_true,if_neg Bool.false_ne_true]
  obtain ⟨vs',hA⟩:=wf_A (p:=p) (a1:=.val (.str word)) (a7:=.un) (a8:=.un) (fl:=fl) (sz:=sz) (so:=so) hn hW hP
  exact def_out h ⟨by decide,rfl⟩ rfl (q_asg (h6 rfl rfl) (q_iff hb hu rfl hA))
end
end
section
noncomputable def padX (fl made : Tx) (W : Int) (fill : Nat) : Tx:=if fl.contains 45 then made ++ filN fill (W - made.length) else filN fill (W - made.length) ++ made
noncomputable def zf (fl : Tx) : Nat:=if fl.contains 48 then 48 else 32
noncomputable def chX (v : Int) : Nat:=if 0 ≤ v ∧ v ≤ 1114111 then v.toNat else 65533
noncomputable def fldS (word fl : Tx) (W P : Int) : Except EE Tx:=.ok (padX fl (if P < 0 then word else word.take P.toNat) W (zf fl))
noncomputable def fldC (word fl : Tx) (W : Int) : Except EE Tx:=match ni word with | .ok v=>.ok (padX fl [chX v] W (zf fl)) | .error e=>.error e
noncomputable def soI (so : Nat) : Nat:=if [so] == [105] then 100 else so
noncomputable def fldW (so : Nat) (sz fl : Tx) (v W P : Int) : Except EE Tx:=match whR (soI so) sz fl v W P with | .ok m=>.ok (padX fl m W (if 0 ≤ P then 32 else zf fl)) | .error e=>.error e
noncomputable def eBad (so : Nat) : EE:=([98,97,100,32,102,105,101,108,100,32,115,112,101,99,105,102,105,101,114,32,34] ++ [so] ++ [34],[[84,67,76],[70,79,82,77,65,84],[66,65,68,84,89,80,69]])
noncomputable def foK : CS:=.asg 9 (.call 22 (.cons (.var 6) (.cons (.bin .sub (.var 3) (.bi .len (.cons (.var 7) .nil))) .nil))) (.ret (.ite (.cmp (.lit (.str [45])) .inn (.var 2)) (.bin .add (.var 7) (.var 9)) (.bin .add (.var 9) (.var 7))))
noncomputable def foW : CS:=.ifs (.cmp (.var 0) .inn (.tup (.cons (.lit (.str [100])) (.cons (.lit (.str [105])) (.cons (.lit (.str [117])) (.cons (.lit (.str [111])) (.cons (.lit (.str [120])) (.cons (.lit (.str [88])) (.cons (.lit (.str [98])) .nil))))))))) (.asg 7 (.call 26 (.cons (.ite (.cmp (.var 0) .eq (.lit (.str [105]))) (.lit (.str [100])) (.var 0)) (.cons (.var 1) (.cons (.var 2) (.cons (.var 3) (.cons (.var 4) (.cons (.var 5) .nil))))))) (.ifs (.cmp (.var 4) .ge (.lit (.int 0))) (.asg 6 (.lit (.str [32])) .done) .done .done)) (.rai (.call 8 (.cons (.bin .add (.bin .add (.lit (.str [98,97,100,32,102,105,101,108,100,32,115,112,101,99,105,102,105,101,114,32,34])) (.var 0)) (.lit (.str [34]))) (.cons (.lit (.str [66,65,68,84,89,80,69])) .nil)))) .done
noncomputable def WSORTS : List Nat:=[100,105,117,111,120,88,98]
noncomputable def BSORTS : List Nat:=[121,101,73,44]
noncomputable def BadW (w : Tx) : Prop:=∃ e : EE,∀ L p,6 < L → lay L 6 [.str w] p = .exc e.1 e.2 p
section
variable {L : Nat} {p : Int} {so : Nat} {word fl sz : Tx} {W P : Int}
theorem fld_of {R : Except EE Tx} (h : ∀ L p,27 < L → lay L 27 [.str [so],.str word,.str fl,.int W,.int P,.str sz] p = ofX .str R p) : fld [so] word fl W P sz = R ∧ FOk [so] word fl W P sz:=by
 have e : fld [so] word fl W P sz = R:=by
  unfold fld
  rw [h 50 0 (by decide)]
  cases R <;> rfl
 refine ⟨e,fun L p hL=>?_⟩
 rw [e];exact h L p hL
theorem pad_len (made : Tx) (c : Nat) (hW : W ≤ 20) (hm : made.length ≤ 300) : (padX fl made W c).length ≤ 320:=by
 unfold padX
 have:=fil_len c (W - made.length)
 split <;> rw [List.length_append] <;> lia
theorem fo_K {a0 a1 a4 a5 a8 : Sl} {made : Tx} {c : Nat} (hW : W ≤ 20) (hm : made.length ≤ 300) : ∃ vs',csx (lay 27) fuel foK [a0,a1,.val (.str fl),.val (.int W),a4,a5,.val (.str [c]),.val (.str made),a8,.un] p = .ok (.ret (.str (padX fl made W c))) vs' p:=by
 have hl:=fil_len c (W - made.length)
 unfold padX
 refine ⟨_,q_asg (e_call (e_cons rfl (e_cons (e_bin rfl rfl rfl) rfl)) (filled_L (c:=c) (n:=W - made.length) (by decide) (by lia)) rfl) (q_ret (e_ite (b_cmp rfl rfl in_fl) ?_))⟩
 cases fl.contains 45 with
 | true=>rw [if_pos rfl,if_pos rfl];exact e_bin rfl rfl (add_str (by lia) (by lia))
 | false=>rw [if_neg Bool.false_ne_true,if_neg Bool.false_ne_true];exact e_bin rfl rfl (add_str (by lia) (by lia))
theorem fo_z {a0 a1 a3 a4 a5 a7 a8 a9 a6 : Sl} : cev (lay 27) (.ite (.cmp (.lit (.str [48])) .inn (.var 2)) (.lit (.str [48])) (.lit (.str [32]))) [a0,a1,.val (.str fl),a3,a4,a5,a6,a7,a8,a9] p = .ok (.str [zf fl]) p:=by
 unfold zf
 refine e_ite (b_cmp rfl rfl in_fl) ?_
 cases fl.contains 48 <;> rfl
theorem take_bnd (hP : PBd P) (h0 : ¬ P < 0) : sliceV (.str word) .none (.int P) = some (.str (word.take P.toNat)):=by
 have hb : bndV (.int P) = some (some P):=by
  have h2 : P < 2 ^ 62:=Int.lt_trans (b:=4294967296) (by have:=hP.2;lia) (by decide)
  rw [bndV_int]
  unfold bndI
  exact if_pos h2
 refine (slice_of (l:=none) rfl hb word).trans ?_
 unfold sliceL
 dsimp only
 rw [if_pos (by lia)];rfl
theorem s_L (h : 27 < L) (hw : word.length ≤ 300) (hW : W ≤ 20) (hP : PBd P) : lay L 27 [.str [115],.str word,.str fl,.int W,.int P,.str sz] p = ofX .str (fldS word fl W P) p:=by
 by_cases h0 : P < 0
 ·obtain ⟨vs',hk⟩:=fo_K (p:=p) (a0:=.val (.str [115])) (a1:=.val (.str word)) (a4:=.val (.int P)) (a5:=.val (.str sz)) (a8:=.un) (fl:=fl) (made:=word) (c:=zf fl) hW hw
  have e : fldS word fl W P = .ok (padX fl word W (zf fl)):=by unfold fldS;rw [if_pos h0]
  rw [e]
  refine def_ret h ⟨by decide,rfl⟩ rfl (q_asg fo_z (q_iff rfl rfl rfl (q_ift rfl rfl (q_asg (e_ite (z:=.str word) (b_cmp rfl rfl rfl) ?_) rfl) hk)))
  rw [decide_eq_true h0];rfl
 ·obtain ⟨vs',hk⟩:=fo_K (p:=p) (a0:=.val (.str [115])) (a1:=.val (.str word)) (a4:=.val (.int P)) (a5:=.val (.str sz)) (a8:=.un) (fl:=fl) (made:=word.take P.toNat) (c:=zf fl) hW (by rw [List.length_take];omega)
  have e : fldS word fl W P = .ok (padX fl (word.take P.toNat) W (zf fl)):=by unfold fldS;rw [if_neg h0]
  rw [e]
  refine def_ret h ⟨by decide,rfl⟩ rfl (q_asg fo_z (q_iff rfl rfl rfl (q_ift rfl rfl (q_asg (e_ite (z:=.str (word.take P.toNat)) (b_cmp rfl rfl rfl) ?_) rfl) hk)))
  rw [decide_eq_false h0]
  exact e_slc rfl rfl rfl (take_bnd hP h0)
theorem c_L (h : 27 < L) (hn : NIok word) (hW : W ≤ 20) : lay L 27 [.str [99],.str word,.str fl,.int W,.int P,.str sz] p = ofX .str (fldC word fl W) p:=by
 have h18:=hn 27 p (by decide)
 unfold fldC
 cases hv : ni word with
 | error e =>
  rw [hv] at h18
  exact def_exc h ⟨by decide,rfl⟩ rfl (q_asg fo_z (q_iff rfl rfl rfl (q_ifr rfl rfl (q_itr rfl rfl (q_asgx (e_callx rfl h18)) fun Z=>rfl) fun Z=>rfl)))
 | ok v =>
  rw [hv] at h18
  obtain ⟨vs',hk⟩:=fo_K (p:=p) (a0:=.val (.str [99])) (a1:=.val (.str word)) (a4:=.val (.int P)) (a5:=.val (.str sz)) (a8:=.val (.int v)) (fl:=fl) (made:=[chX v]) (c:=zf fl) hW (by exact Nat.succ_pos _)
  refine def_ret h ⟨by decide,rfl⟩ rfl (q_asg fo_z (q_iff rfl rfl rfl (q_iff rfl rfl (q_ift rfl rfl (q_asg (e_call rfl h18 rfl) (q_asg (e_ite (z:=.str [chX v]) (b_cmp2 rfl rfl rfl rfl rfl) ?_) rfl)) rfl) hk)))
  unfold chX
  by_cases hr : 0 ≤ v ∧ v ≤ 1114111
  ·rw [if_pos hr,decide_eq_true hr.1,decide_eq_true hr.2]
   refine e_bi rfl ?_
   show (if 0 ≤ v ∧ v ≤ 1114111 then some (V.str [v.toNat]) else none) = _
   exact if_pos hr
  ·rw [if_neg hr]
   have : (decide (0 ≤ v) && decide (v ≤ 1114111)) = false:=by
    rw [Bool.and_eq_false_iff,decide_eq_false_iff_not,decide_eq_false_iff_not];lia
   rw [this];rfl
theorem ws_in : ∀ so ∈ WSORTS,[[],[0]].contains [so] = false ∧ ([so] == [115]) = false ∧ ([so] == [99]) = false ∧ [[100],[105],[117],[111],[120],[88],[98]].contains [so] = true:=by decide
theorem bs_in : ∀ so ∈ BSORTS,[[],[0]].contains [so] = false ∧ ([so] == [115]) = false ∧ ([so] == [99]) = false ∧ [[100],[105],[117],[111],[120],[88],[98]].contains [so] = false:=by decide
theorem fo_i {vs : List Sl} (h : vs[0]? = some (.val (.str [so]))) : cev (lay 27) (.ite (.cmp (.var 0) .eq (.lit (.str [105]))) (.lit (.str [100])) (.var 0)) vs p = .ok (.str [soI so]) p:=by
 have v0 : cev (lay 27) (.var 0) vs p = .ok (.str [so]) p:=e_var h
 unfold soI
 refine e_ite (b_cmp v0 rfl rfl) ?_
 cases ([so] == [105])
 ·exact v0
 ·rfl
theorem b_L (h : 27 < L) (hs : so ∈ BSORTS) : lay L 27 [.str [so],.str word,.str fl,.int W,.int P,.str sz] p = ofX .str (.error (eBad so)) p:=by
 refine gG fun P0 hP0=>?_
 obtain ⟨h1,h2,h3,h4⟩:=bs_in so hs
 refine hP0 ?_
 exact def_exc h ⟨by decide,rfl⟩ rfl (q_asg fo_z (q_iff (b_cmp rfl rfl rfl) h1 rfl (q_ifr (b_cmp rfl rfl rfl) h2 (q_ifr (b_cmp rfl rfl rfl) h3 (q_ifr (b_cmp rfl rfl rfl) h4 (q_rai (e_callX (e_cons (e_bin (e_bin rfl rfl (add_str (by decide) (by exact Nat.succ_pos _))) rfl (add_str (by simp) (by exact Nat.succ_pos _))) rfl) (bad_field_L (by decide) _ _))) fun Z=>rfl) fun Z=>rfl) fun Z=>rfl)))
theorem wfR_len {hd dg t : Tx} (h : wfR hd dg fl W P = .ok t) (hh : hd.length ≤ 3) (hg : dg.length ≤ 200) (hW : W ≤ 20) (hP : PBd P) : t.length ≤ 300:=by
 have f1:=fil_len 48 (P - dg.length)
 have f2:=fil_len 48 (W - hd.length - dg.length)
 have h2:=hP.2
 unfold wfR at h
 split at h
 ·split at h
  ·cases h
  ·obtain rfl:=Except.ok.inj h;simp only [List.length_append];lia
 ·split at h
  ·obtain rfl:=Except.ok.inj h;simp only [List.length_append];lia
  ·obtain rfl:=Except.ok.inj h;simp only [List.length_append];lia
theorem whR_len {v : Int} {so : Nat} {t : Tx} (h : whR so sz fl v W P = .ok t) (hW : W ≤ 20) (hP : PBd P) : t.length ≤ 300:=by
 unfold whR at h
 split at h
 ·cases h
 ·exact wfR_len h (hdX_len _ _ _ _) (dgX_len _ _ _) hW hP
theorem w_L (h : 27 < L) (hs : so ∈ WSORTS) {v : Int} (ht : WhT word v) (hv : v.natAbs < 2 ^ 100) (hW : W ≤ 20) (hP : PBd P) : lay L 27 [.str [so],.str word,.str fl,.int W,.int P,.str sz] p = ofX .str (fldW so sz fl v W P) p:=by
 obtain ⟨h1,h2,h3,h4⟩:=ws_in so hs
 have hwh:=whole_L (p:=p) (L:=27) (fl:=fl) (sz:=sz) (so:=soI so) (by decide) ht hv hW hP
 unfold fldW
 cases hr : whR (soI so) sz fl v W P with
 | error e =>
  rw [hr] at hwh
  exact def_exc h ⟨by decide,rfl⟩ rfl (q_asg fo_z (q_iff (b_cmp rfl rfl rfl) h1 rfl (q_ifr (b_cmp rfl rfl rfl) h2 (q_ifr (b_cmp rfl rfl rfl) h3 (q_itr (b_cmp rfl rfl rfl) h4 (q_asgx (e_callx (e_cons (fo_i rfl) rfl) hwh)) fun Z=>rfl) fun Z=>rfl) fun Z=>rfl)))
 | ok m =>
  rw [hr] at hwh
  have hm:=whR_len hr hW hP
  by_cases h0 : 0 ≤ P
  ·obtain ⟨vs',hk⟩:=fo_K (p:=p) (a0:=.val (.str [so])) (a1:=.val (.str word)) (a4:=.val (.int P)) (a5:=.val (.str sz)) (a8:=.un) (fl:=fl) (made:=m) (c:=32) hW hm
   rw [if_pos h0]
   exact def_ret h ⟨by decide,rfl⟩ rfl (q_asg fo_z (q_iff (b_cmp rfl rfl rfl) h1 rfl (q_iff (b_cmp rfl rfl rfl) h2 (q_iff (b_cmp rfl rfl rfl) h3 (q_ift (b_cmp rfl rfl rfl) h4 (q_asg (e_call (e_cons (fo_i rfl) rfl) hwh rfl) (q_ift (b_cmp rfl rfl rfl) (decide_eq_true h0) rfl rfl)) rfl) rfl) hk)))
  ·obtain ⟨vs',hk⟩:=fo_K (p:=p) (a0:=.val (.str [so])) (a1:=.val (.str word)) (a4:=.val (.int P)) (a5:=.val (.str sz)) (a8:=.un) (fl:=fl) (made:=m) (c:=zf fl) hW hm
   rw [if_neg h0]
   exact def_ret h ⟨by decide,rfl⟩ rfl (q_asg fo_z (q_iff (b_cmp rfl rfl rfl) h1 rfl (q_iff (b_cmp rfl rfl rfl) h2 (q_iff (b_cmp rfl rfl rfl) h3 (q_ift (b_cmp rfl rfl rfl) h4 (q_asg (e_call (e_cons (fo_i rfl) rfl) hwh rfl) (q_iff (b_cmp rfl rfl rfl) (decide_eq_false h0) rfl rfl)) rfl) rfl) hk)))
theorem wb_L (h : 27 < L) (hs : so ∈ WSORTS) {e : EE} (hb : ∀ L p,6 < L → lay L 6 [.str word] p = .exc e.1 e.2 p) : lay L 27 [.str [so],.str word,.str fl,.int W,.int P,.str sz] p = ofX .str (.error e) p:=by
 refine gG fun P0 hP0=>?_
 obtain ⟨h1,h2,h3,h4⟩:=ws_in so hs
 refine hP0 ?_
 have hwh : lay 27 26 [.str [soI so],.str word,.str fl,.int W,.int P,.str sz] p = .exc e.1 e.2 p:=def_exc (by decide) ⟨by decide,rfl⟩ rfl (q_asgx (e_callax (e_consx (e_callx rfl (hb 26 p (by decide))))))
 exact def_exc h ⟨by decide,rfl⟩ rfl (q_asg fo_z (q_iff (b_cmp rfl rfl rfl) h1 rfl (q_ifr (b_cmp rfl rfl rfl) h2 (q_ifr (b_cmp rfl rfl rfl) h3 (q_itr (b_cmp rfl rfl rfl) h4 (q_asgx (e_callx (e_cons (fo_i rfl) rfl) hwh)) fun Z=>rfl) fun Z=>rfl) fun Z=>rfl)))
end
noncomputable def COk (w : Tx) (v : Int) : Prop:=NIok w ∧ ((∃ e,ni w = .error e) ∨ ni w = .ok v)
noncomputable def ValOk (d : Fd) : Prop:=(d.so = 115 ∧ d.val = .str d.word) ∨ (d.so = 99 ∧ ∃ v,d.val = .int v ∧ COk d.word v) ∨ (d.so ∈ WSORTS ∧ ((∃ v,A3 (d.val = .int v) (v.natAbs < 2 ^ 100) (WhT d.word v)) ∨ BadW d.word)) ∨ d.so ∈ BSORTS
set_option tactic.hygienic true in
theorem val_fld {d : Fd} (hv : ValOk d) (hw : d.word.length ≤ 300) (fl : Tx) {W P : Int} (sz : Tx) (hW : W ≤ 20) (hP : PBd P) : FldOk [d.so] d.word fl W P sz:=by
 have key : ∀ {so : Nat} {R : Except EE Tx},d.so = so → (∀ L p,27 < L → lay L 27 [.str [so],.str d.word,.str fl,.int W,.int P,.str sz] p = ofX .str R p) → (∀ t,R = .ok t → t.length ≤ 320) → FldOk [d.so] d.word fl W P sz:=fun {so R} e h hl=>by
  subst e
  obtain ⟨h1,h2⟩:=fld_of h
  exact ⟨h2,fun t ht=>by have:=hl t (h1 ▸ ht);lia⟩
 rcases hv with ⟨e,_⟩ | ⟨e,v,_,hn,_⟩ | ⟨hs,h⟩ | hs
 ·refine key e (fun L p h=>s_L h hw hW hP) fun t ht=>?_
  obtain rfl:=Except.ok.inj ht
  exact pad_len _ _ hW (by split;exact hw;rw [List.length_take];lia)
 ·refine key e (fun L p h=>c_L h hn hW) fun t ht=>?_
  unfold fldC at ht
  split at ht
  ·obtain rfl:=Except.ok.inj ht;exact pad_len _ _ hW (by exact Nat.succ_pos _)
  ·cases ht
 ·rcases h with ⟨v,_,hv,ht⟩ | ⟨e,hb⟩
  ·refine key rfl (fun L p h=>w_L h hs ht hv hW hP) fun t hr=>?_
   unfold fldW at hr
   split at hr
   ·rename_i m hm
    obtain rfl:=Except.ok.inj hr;exact pad_len _ _ hW (whR_len hm hW hP)
   ·cases hr
  ·exact key rfl (fun L p h=>wb_L h hs hb) fun t ht=>by cases ht
 ·exact key rfl (fun L p h=>b_L h hs) fun t ht=>by cases ht
theorem val_fdFld {d : Fd} (hv : ValOk d) (hw : d.word.length ≤ 300) : FdFld d:=fun Z Z Z Z Z hW hP=>val_fld hv hw _ _ hW hP
end
section
noncomputable def fmtX (d : Fd) (fl : Tx) (W P : Int) : Except EE Tx:=if 2147483648 ≤ W then .error eRoom else fld [d.so] d.word fl W P d.fs.sn
noncomputable def WBd (W : Int) : Prop:=0 ≤ W ∧ (W ≤ 20 ∨ (2147483648 ≤ W ∧ W ≤ 4294967296))
section
variable {L : Nat} {p : Int} {d : Fd} {fl : Tx} {W P : Int}
theorem e_orf {Γ : Gam} {a b : CE} {vs : List Sl} {R : RE V} (h : cev Γ a vs p = .ok (.bool false) p) (h2 : cev Γ b vs p = R) : cev Γ (.or a b) vs p = R:=bE h h2
theorem e_ort {Γ : Gam} {a b : CE} {vs : List Sl} (h : cev Γ a vs p = .ok (.bool true) p) : cev Γ (.or a b) vs p = .ok (.bool true) p:=bE h rfl
theorem itx_all {i : Int} (h0 : 0 ≤ i) (h : i.natAbs < 2 ^ 100) : itx i ≠ [] ∧ (∀ c ∈ itx i,isDig c = true) ∧ dv 10 (itx i) 0 = i ∧ (0 < i → ∀ c t,itx i = c :: t → c ≠ 48) ∧ (itx i).length ≤ 200:=by
 have hb : i.natAbs < 2 ^ 200:=Nat.lt_trans h (by decide)
 have e : itx i = dgN 10 false i.natAbs:=by rw [itx_eq hb,if_neg (by lia)];rfl
 rw [e]
 refine gG fun P0 hP0=>?_
 obtain ⟨c,t,e2,hc⟩:=dgN_head (up:=false) (b:=10) (by decide) (by decide) hb
 refine hP0 ?_
 refine ⟨by rw [e2];simp,dg10_dig _,?_,fun hi c' t' e3=>?_,dgN_len _⟩
 ·have:=dgN_val (up:=false) (b:=10) (by decide) (by decide) hb
  exact this.trans (by lia)
 ·rw [e2] at e3;obtain ⟨rfl,rfl⟩:=cI e3;exact hc (by lia)
theorem small100 {i : Int} (h : i.natAbs ≤ 4294967296) : i.natAbs < 2 ^ 100:=Nat.lt_of_le_of_lt h (by decide)
theorem WBd.s {W : Int} (h : WBd W) : W.natAbs < 2 ^ 100:=small100 (by unfold WBd at h;omega)
theorem PBd.s {P : Int} (h : PBd P) : P.natAbs < 2 ^ 100:=small100 (by unfold PBd at h;omega)
theorem cW_ok (hW : WBd W) : WOk (cW W) ∧ cW W ≠ .star ∧ measK (cW W) = 0 ∧ (mtx (cW W)).length ≤ 200 ∧ ∀ ws pl,∃ o,measR (cW W) ws pl = .ok o ∧ wV o = W:=by
 unfold cW
 by_cases h : 0 < W
 ·rw [if_pos h]
  refine gG fun P0 hP0=>?_
  obtain ⟨h1,h2,h3,h4,h5⟩:=itx_all hW.1 hW.s
  refine hP0 ?_
  exact ⟨⟨h1,h2,h4 h⟩,fun q=>(by exact Ms.noConfusion q),rfl,h5,fun ws pl=>⟨some (dv 10 (itx W) 0),rfl,h3⟩⟩
 ·rw [if_neg h]
  exact ⟨trivial,fun q=>(by exact Ms.noConfusion q),rfl,Nat.zero_le _,fun ws pl=>⟨none,rfl,by show (0 : Int) = W;have:=hW.1;lia⟩⟩
theorem cP_ok (hP : PBd P) : POk (cP P) ∧ cP P ≠ some .star ∧ prK (cP P) = 0 ∧ (prTx (cP P)).length ≤ 201 ∧ ∀ ws pl,prR (cP P) ws pl = .ok P:=by
 unfold cP
 by_cases h : 0 ≤ P
 ·rw [if_pos h]
  refine gG fun P0 hP0=>?_
  obtain ⟨h1,h2,h3,h4,h5⟩:=itx_all h hP.s
  refine hP0 ?_
  refine ⟨⟨h1,h2⟩,fun q=>(by exact Ms.noConfusion (sI q)),rfl,by show (itx P).length + 1 ≤ 201;lia,fun ws pl=>?_⟩
  show Except.ok (if dv 10 (itx P) 0 < 0 then 0 else dv 10 (itx P) 0) = _
  rw [h3,if_neg (by lia)]
 ·rw [if_neg h]
  exact ⟨trivial,fun q=>(by exact nS q),rfl,Nat.zero_le _,fun ws pl=>by show Except.ok (-1) = _;rw [show P = -1 by have:=hP.1;lia]⟩
theorem sn_eq (fl' : Tx) (w : Ms) (pr : Option Ms) : Fs.sn ⟨fl',w,pr,d.sz,d.so⟩ = d.fs.sn:=rfl
theorem fmt_L (h : 31 < L) (ok : FdOk d) (hv : ValOk d) (hfl : ∀ c ∈ fl,isFl c = true) (hfn : fl.length ≤ 10) (hW : WBd W) (hP : PBd P) : lay L 31 [.str (37 :: Fs.tx ⟨fl,cW W,cP P,d.sz,d.so⟩),.lst [.str d.word]] p = ofX .str (fmtX d fl W P) p ∧ ∀ t,fmtX d fl W P = .ok t → t.length ≤ 1000:=by
 refine gG fun P0 hP0=>?_
 obtain ⟨w1,w2,w3,w4,w5⟩:=cW_ok hW
 obtain ⟨p1,p2,p3,p4,p5⟩:=cP_ok hP
 obtain ⟨o,w6,w7⟩:=w5 [d.word] false
 refine hP0 ?_
 have hA : wA o = W:=by unfold wA;rw [w7,if_neg (by have:=hW.1;lia)]
 have hF : wF o fl = fl:=by unfold wF;rw [w7,if_neg (by have:=hW.1;lia)]
 have hk : Fs.k ⟨fl,cW W,cP P,d.sz,d.so⟩ = 0:=by unfold Fs.k;dsimp only;rw [w3,p3]
 have e : putR ⟨fl,cW W,cP P,d.sz,d.so⟩ [d.word] false = fmtX d fl W P:=by
  show (match measR (cW W) [d.word] false with
   | .error e=>Except.error e
   | .ok o=>if 2147483648 ≤ wA o then Except.error eRoom else match prR (cP P) ([d.word].drop (measK (cW W))) false with
    | .error e=>Except.error e
    | .ok P'=>fld [d.so] (([d.word].drop (Fs.k ⟨fl,cW W,cP P,d.sz,d.so⟩)).headD []) (wF o fl) (wA o) P' (Fs.sn ⟨fl,cW W,cP P,d.sz,d.so⟩)) = _
  rw [w6]
  dsimp only
  rw [hA,hF,p5,hk]
  rfl
 have hfld:=fun hW20=>val_fld hv ok.word fl d.fs.sn (W:=W) (P:=P) hW20 hP
 have hlen : ∀ t,fmtX d fl W P = .ok t → t.length ≤ 1000:=fun t ht=>by
  unfold fmtX at ht
  split at ht
  ·cases ht
  ·exact (hfld (by have:=hW.2;lia)).2 t ht
 refine gG fun P0 hP0=>?_
 obtain ⟨f1,f2,f3⟩:=Mine.fsOk (F:=⟨fl,cW W,cP P,d.sz,d.so⟩) hfl w1 p1 ok.sz ok.so
 refine hP0 ?_
 have hpf : PfOk ⟨fl,cW W,cP P,d.sz,d.so⟩ [d.word] false:=by
  refine ⟨f1,fun q=>absurd q w2,fun q=>absurd q p2,fun o' P' x h1 h2 h3 h4=>?_,f2,f3⟩
  rw [hk] at h4
  obtain rfl:=sI h4
  change measR (cW W) [d.word] false = _ at h1
  rw [w6] at h1;obtain rfl:=Except.ok.inj h1
  change prR (cP P) _ false = _ at h3
  rw [p5] at h3;obtain rfl:=Except.ok.inj h3
  rw [hA] at h2 ⊢
  rw [hF]
  exact (hfld (by have:=hW.2;lia)).1
 have htl : (Fs.tx ⟨fl,cW W,cP P,d.sz,d.so⟩).length ≤ 900:=by
  have:=szs_len _ ok.sz
  unfold Fs.tx
  simp only [List.length_append,List.length_cons,List.length_nil]
  lia
 have:=single_L (L:=L) (p:=p) h hpf htl fun t ht=>by rw [e] at ht;have:=hlen t ht;unfold SZ;lia
 rw [e] at this
 exact ⟨this,hlen⟩
noncomputable def flI (d : Fd) (W : Int) : Tx:=if W < 0 then d.fl ++ [45] else d.fl
noncomputable def wI (W : Int) : Int:=if W < 0 then -W else W
theorem fl_ok (ok : FdOk d) (W : Int) : (∀ c ∈ flI d W,isFl c = true) ∧ (flI d W).length ≤ 7:=by
 have h1:=ok.fl
 have h2:=ok.fln
 unfold flI
 split
 ·refine ⟨fun c hc=>?_,by rw [List.length_append,List.length_singleton];lia⟩
  rcases memA hc with hc | hc
  ·exact h1 c hc
  ·rcases memc hc with rfl | hc
   ·rfl
   ·exact nM hc
 ·exact ⟨h1,by lia⟩
theorem wI_bd (ok : FdOk d) (h : wX d = .ok W) : WBd (wI W):=by
 have:=wX_bd ok h
 unfold WBd wI
 split <;> lia
theorem fieldX_ok {P0 : Int} (h1 : wX d = .ok W) (h2 : pX d = .ok P0) : fieldX d = fmtX d (flI d W) (wI W) (prI d P0):=by
 unfold fieldX fmtX
 rw [h1,h2]
 rfl
theorem fieldX_bad (ok : FdOk d) (h : ∀ W P,wX d = .ok W → pX d = .ok P → False) : ∃ e,fieldX d = .error e:=by
 unfold fieldX
 cases hw : wX d with
 | error e=>exact ⟨e,rfl⟩
 | ok W =>
  dsimp only
  by_cases hh : 2147483648 ≤ (if W < 0 then -W else W)
  ·rw [if_pos hh];exact ⟨_,rfl⟩
  ·rw [if_neg hh]
   cases hp : pX d with
   | error e=>exact ⟨e,rfl⟩
   | ok P=>exact absurd (h W P hw hp) id
theorem told_field (h : 39 < L) (ok : FdOk d) (hv : ValOk d) : lay L 39 [.str (37 :: d.fs.tx),.lst (d.words.map .str)] p = .ok (toldV (fieldX d)) p:=by
 have he:=ext_app d []
 rw [List.append_nil] at he
 have h0 : putR d.fs d.words false = fieldX d:=by have:=putR_all (pl:=false) ok [];rwa [List.append_nil] at this
 have hf:=val_fdFld hv ok.word
 have hl:=ok.txlen
 rw [← h0]
 exact told_L h fun p=>single_L (by decide) (pfOk ok hf he) (by lia) fun t ht=>by have:=putR_len ok hf he ht;unfold SZ;lia
theorem right_L (h : 49 < L) (ok : FdOk d) (hv : ValOk d) (hlay : ∀ W P0 t,wX d = .ok W → pX d = .ok P0 → fmtX d (flI d W) (wI W) (prI d P0) = .ok t → lay 49 48 [tupF d] p = .ok (.bool true) p) : lay L 49 [tupF d] p = .ok (.bool true) p:=by
 have h1:=told_field (p:=p) (L:=49) (by decide) ok hv
 have h2:=measures_L (p:=p) (L:=49) (by decide) ok
 have hl:=ok.txlen
 have a1 : ∀ {a1 a2 a3 a4 a5 : Sl},cev (lay 49) (.call 39 (.cons (.bin .add (.lit (.str [37])) (.call 38 (.cons (.var 0) .nil))) (.cons (.call 37 (.cons (.var 0) .nil)) .nil))) [.val (tupF d),a1,a2,a3,a4,a5] p = .ok (toldV (fieldX d)) p:=fun {a1 a2 a3 a4 a5} =>
  e_call (e_cons (e_bin rfl (e_call rfl (spec_L (by decide) ok) rfl) (add_str (a:=[37]) (by exact Nat.succ_pos _) (by lia))) (e_cons (e_call rfl (words_L (by decide) d) rfl) rfl)) h1 (by cases fieldX d <;> rfl)
 by_cases hm : Ex2 fun W P0=>wX d = .ok W ∧ pX d = .ok P0
 ·obtain ⟨W,P0,hw,hp⟩:=hm
  have em : measV d = .tup [.str (flI d W),.int (wI W),.int (prI d P0)]:=by unfold measV;rw [hw,hp];rfl
  obtain ⟨f1,f2⟩:=fl_ok ok W
  have hW:=wI_bd ok hw
  have hP:=prI_pb ok hp
  have hfm:=fun p=>(fmt_L (L:=39) (p:=p) (by decide) ok hv f1 (by lia) hW hP).1
  have htd:=told_L (p:=p) (L:=49) (by decide) (A:=[d.word]) hfm
  have ef:=fieldX_ok hw hp
  rw [em] at h2
  rw [ef] at a1
  generalize hx : fmtX d (flI d W) (wI W) (prI d P0) = X at *
  have a2 : ∀ {a1 a2 : Sl},cevB (lay 49) (.cmp (.var 1) .ne (.call 39 (.cons (.call 45 (.cons (.var 3) (.cons (.var 4) (.cons (.var 5) (.cons (.var 0) .nil))))) (.cons (.lst (.cons (.item (.var 0) (.lit (.int 10))) .nil)) .nil)))) [.val (tupF d),.val (toldV X),a2,.val (.str (flI d W)),.val (.int (wI W)),.val (.int (prI d P0))] p = .ok false p:=fun {a1 a2} =>
   b_cmp rfl (e_call (e_cons (e_call rfl (form_L (by decide) (by lia) ok.sz hW.s hP.s) rfl) rfl) htd (by cases X <;> rfl)) (by show (eqV _ _).map _ = _;rw [eq_told];rfl)
  refine def_ret h ⟨by decide,rfl⟩ rfl (q_asg a1 (q_asg (e_call rfl h2 rfl) (q_iff (c:=false) rfl rfl rfl (q_asgT rfl rfl (q_iff (a2 (a1:=.un)) rfl rfl (q_ret ?_))))))
  cases X with
  | error e=>rfl
  | ok t =>
   exact cevX_of (e_orf (e_cmp rfl rfl rfl) (e_call rfl (hlay W P0 t hw hp hx) rfl)) rfl
 ·obtain ⟨e,he⟩:=fieldX_bad ok fun W P h1 h2=>hm ⟨W,P,h1,h2⟩
  have em : measV d = .none:=by
   unfold measV
   cases hw : wX d with
   | error e=>rfl
   | ok W =>
    cases hp : pX d with
    | error e=>rfl
    | ok P=>exact absurd ⟨W,P,hw,hp⟩ hm
  rw [em] at h2
  rw [he] at a1
  exact def_ret h ⟨by decide,rfl⟩ rfl (q_asg a1 (q_asg (e_call rfl h2 rfl) (q_itr (c:=true) rfl rfl (q_ret rfl) fun Z=>rfl)))
end
end
section
noncomputable def evN (sz : Tx) : Int:=if sz == [104] then 65536 else 18446744073709551616
noncomputable def great (sz : Tx) : Bool:=[[108,108],[76]].contains sz
noncomputable def keptN (v : Int) (sz : Tx) (so : Nat) : Int:=if great sz then v else if [100,105].contains so && decide (evN sz ≤ 2 * (v % evN sz)) then v % evN sz - evN sz else v % evN sz
noncomputable def so1 (d : Fd) : Nat:=soD (soI d.so) d.fs.sn
noncomputable def kX (d : Fd) (v : Int) : Int:=keptN v d.sz d.so
noncomputable def sX (d : Fd) (fl : Tx) (v : Int) : Tx:=if sgd (so1 d) d.fs.sn then sgX fl (kX d v) else []
noncomputable def mX (d : Fd) (v : Int) : Tx:=if kX d v == 0 then [] else mkN (so1 d)
noncomputable def gX (d : Fd) (v : Int) : Tx:=dgN (bsN (so1 d)) ([so1 d] == [88]) (kX d v).natAbs
noncomputable def hX (d : Fd) (fl : Tx) (v : Int) : Tx:=sX d fl v ++ (if fl.contains 35 then mX d v else [])
noncomputable def okX (d : Fd) (v : Int) : Prop:=([soI d.so] == [117] && d.fs.sn == BIG && decide (v < 0)) = false
section
variable {L : Nat} {p : Int} {d : Fd} {fl : Tx} {v W P : Int}
theorem szs_sn : ∀ s ∈ SIZES,∀ c ∈ SORTS,((szN (s ++ [c])).1 == BIG) = great s ∧ ((szN (s ++ [c])).1 == [104]) = (s == [104]):=by decide
theorem sn_big (ok : FdOk d) : (d.fs.sn == BIG) = great d.sz:=(szs_sn _ ok.sz _ ok.so).1
theorem sn_h (ok : FdOk d) : (d.fs.sn == [104]) = (d.sz == [104]):=(szs_sn _ ok.sz _ ok.so).2
theorem ws_sgd : ∀ so ∈ WSORTS,∀ g : Bool,(([(if [soI so] == [117] && g then 100 else soI so)] == [100]) || g) = (g || [100,105].contains so):=by decide
theorem ws_mark : ∀ so ∈ WSORTS,∀ g : Bool,(if [105,117].contains so then (if g || [so] == [105] then [48,100] else []) else [48,loc so]) = mkN (if [soI so] == [117] && g then 100 else soI so):=by decide
theorem ws_up : ∀ so ∈ WSORTS,∀ g : Bool,([(if [soI so] == [117] && g then 100 else soI so)] == [88]) = ([so] == [88]):=by decide
theorem so1_eq : so1 d = if [soI d.so] == [117] && d.fs.sn == BIG then 100 else soI d.so:=rfl
theorem sgd_eq (ok : FdOk d) (hs : d.so ∈ WSORTS) : sgd (so1 d) d.fs.sn = (great d.sz || [100,105].contains d.so):=by
 have:=ws_sgd d.so hs (d.fs.sn == BIG)
 rw [← so1_eq] at this
 unfold sgd
 rw [this,sn_big ok]
theorem fil_neg {c : Nat} {n : Int} (h : n ≤ 0) : filN c n = []:=by
 have:=fil_len c n
 rw [Int.toNat_of_nonpos h] at this
 exact len0 this
theorem pad_zero {made : Tx} {c : Nat} (h : W ≤ made.length) : padX fl made W c = made:=by
 unfold padX
 rw [fil_neg (by lia)]
 split <;> simp
theorem kept_facts (ok : FdOk d) (hs : d.so ∈ WSORTS) (v : Int) : (sgd (so1 d) d.fs.sn = true → cutN v d.fs.sn = kX d v) ∧ (sgd (so1 d) d.fs.sn = false → wsN (cutN v d.fs.sn) d.fs.sn = kX d v ∧ 0 ≤ kX d v) ∧ (cutN v d.fs.sn = 0 ↔ kX d v = 0):=by
 rw [sgd_eq ok hs]
 unfold kX keptN cutN wsN evN
 rw [sn_big ok,sn_h ok]
 cases great d.sz with
 | true=>simp
 | false =>
  rw [Bool.false_or,if_neg Bool.false_ne_true,if_neg Bool.false_ne_true]
  cases d.sz == [104] with
  | true =>
   rw [if_pos rfl,if_pos rfl,if_pos rfl]
   cases [100,105].contains d.so with
   | true =>
    rw [Bool.true_and]
    by_cases hh : 65536 ≤ 2 * (v % 65536)
    ·rw [decide_eq_true hh,if_pos rfl,if_pos (by lia)];exact ⟨fun Z=>rfl,fun q=>(by exact tF q),Iff.rfl⟩
    ·rw [decide_eq_false hh,if_neg Bool.false_ne_true,if_neg (by lia)];exact ⟨fun Z=>rfl,fun q=>(by exact tF q),Iff.rfl⟩
   | false =>
    rw [Bool.false_and,if_neg Bool.false_ne_true]
    refine ⟨fun q=>(by exact fT q),fun Z=>?_,?_⟩ <;> split <;> lia
  | false =>
   rw [if_neg Bool.false_ne_true,if_neg Bool.false_ne_true,if_neg Bool.false_ne_true]
   have hb : (v % 18446744073709551616 / 9223372036854775808 == 1) = decide (18446744073709551616 ≤ 2 * (v % 18446744073709551616)):=by
    rw [Bool.eq_iff_iff,beq_iff_eq,decide_eq_true_eq];lia
   rw [hb]
   cases [100,105].contains d.so with
   | true=>rw [Bool.true_and];exact ⟨fun Z=>rfl,fun q=>(by exact tF q),Iff.rfl⟩
   | false =>
    rw [Bool.false_and,if_neg Bool.false_ne_true]
    by_cases hh : 18446744073709551616 ≤ 2 * (v % 18446744073709551616)
    ·rw [decide_eq_true hh,if_pos rfl];exact ⟨fun q=>(by exact fT q),fun Z=>⟨by lia,by lia⟩,by lia⟩
    ·rw [decide_eq_false hh,if_neg Bool.false_ne_true];exact ⟨fun q=>(by exact fT q),fun Z=>⟨by lia,by lia⟩,by lia⟩
theorem hd_eq (ok : FdOk d) (hs : d.so ∈ WSORTS) (v : Int) (fl : Tx) : hdX (so1 d) d.fs.sn fl (cutN v d.fs.sn) = hX d fl v ∧ dgX (so1 d) d.fs.sn (cutN v d.fs.sn) = gX d v:=by
 obtain ⟨h1,h2,h3⟩:=kept_facts ok hs v
 unfold hdX hX sX dgX gX mX
 constructor
 ·have e1 : (if sgd (so1 d) d.fs.sn then sgX fl (cutN v d.fs.sn) else []) = if sgd (so1 d) d.fs.sn then sgX fl (kX d v) else []:=by
   cases hS : sgd (so1 d) d.fs.sn with
   | true=>rw [h1 hS]
   | false=>rfl
  rw [e1]
  congr 1
  have e2 : (cutN v d.fs.sn != 0) = !(kX d v == 0):=by
   rw [Bool.eq_iff_iff,bne_iff_ne,Bool.not_eq_true',beq_eq_false_iff_ne]
   exact not_congr h3
  rw [e2]
  cases fl.contains 35 <;> cases (kX d v == 0) <;> rfl
 ·congr 1
  cases hS : sgd (so1 d) d.fs.sn with
  | true=>rw [if_pos rfl,h1 hS]
  | false =>
   rw [if_neg Bool.false_ne_true]
   have:=h2 hS
   rw [this.1]
   lia
noncomputable def mdX (d : Fd) (fl : Tx) (v W P : Int) : Tx:=if 0 ≤ P then hX d fl v ++ filN 48 (P - (gX d v).length) ++ gX d v else if fl.contains 48 then hX d fl v ++ filN 48 (W - (hX d fl v).length - (gX d v).length) ++ gX d v else hX d fl v ++ gX d v
theorem fmtW (ok : FdOk d) (hs : d.so ∈ WSORTS) (ht : WhT d.word v) (hv : v.natAbs < 2 ^ 100) (hx : okX d v) (hW : W ≤ 20) (hP : PBd P) (hP2 : P ≤ 20) : fmtX d fl W P = .ok (padX fl (mdX d fl v W P) W (if 0 ≤ P then 32 else zf fl)):=by
 have e1 : fmtX d fl W P = fldW d.so d.fs.sn fl v W P:=by
  unfold fmtX
  rw [if_neg (by lia)]
  exact (fld_of fun L p h=>w_L h hs ht hv hW hP).1
 have e2 : whR (soI d.so) d.fs.sn fl v W P = .ok (mdX d fl v W P):=by
  unfold whR
  rw [show ([soI d.so] == [117] && d.fs.sn == BIG && decide (v < 0)) = false from hx,if_neg Bool.false_ne_true]
  have:=hd_eq ok hs v fl
  change hdX (soD (soI d.so) d.fs.sn) _ _ _ = _ ∧ dgX (soD (soI d.so) d.fs.sn) _ _ = _ at this
  rw [this.1,this.2]
  unfold wfR mdX
  split
  ·rw [if_neg (by lia)]
  ·split <;> rfl
 rw [e1]
 unfold fldW
 rw [e2]
theorem fmt0 (ok : FdOk d) (hs : d.so ∈ WSORTS) (ht : WhT d.word v) (hv : v.natAbs < 2 ^ 100) (hx : okX d v) : fmtX d fl 0 (-1) = .ok (hX d fl v ++ gX d v):=by
 rw [fmtW ok hs ht hv hx (by decide) ⟨by decide,.inl (by decide)⟩ (by decide)]
 have e : mdX d fl v 0 (-1) = hX d fl v ++ gX d v:=by
  unfold mdX
  rw [if_neg (by decide),fil_neg (by lia),List.append_nil]
  split <;> rfl
 rw [e,pad_zero (by lia)]
theorem kept_L (h : 46 < L) {sz : Tx} {so : Nat} : lay L 46 [.int v,.str sz,.str [so]] p = .ok (.int (keptN v sz so)) p:=by
 unfold keptN
 cases hg : great sz with
 | true=>exact def_ret h ⟨by decide,rfl⟩ rfl (q_itr (b_cmp rfl rfl rfl) hg (q_ret rfl) fun Z=>rfl)
 | false =>
  have he : 0 < evN sz ∧ evN sz < 2 ^ 200:=by unfold evN;split <;> decide
  have e3 : ∀ {vs : List Sl},vs[1]? = some (.val (.str sz)) → cev (lay 46) (.ite (.cmp (.var 1) .eq (.lit (.str [104]))) (.bin .pow (.lit (.int 2)) (.lit (.int 16))) (.bin .pow (.lit (.int 2)) (.lit (.int 64)))) vs p = .ok (.int (evN sz)) p:=fun {vs} h1=>by
   have v1 : cev (lay 46) (.var 1) vs p = .ok (.str sz) p:=e_var h1
   refine e_ite (b_cmp v1 rfl rfl) ?_
   unfold evN
   cases (sz == [104]) <;> rfl
  have em : binV .mod (.int v) (.int (evN sz)) = some (.int (v % evN sz)):=if_pos he
  have ex : ∀ l : Int,binV .mul (.int 2) (.int l) = some (.int (2 * l)):=fun l=>by
   show (if (2 : Int).natAbs < 2 ^ 63 ∨ l.natAbs < 2 ^ 63 then some (V.int (2 * l)) else none) = _
   exact if_pos (.inl (by decide))
  rw [if_neg Bool.false_ne_true]
  refine def_ret h ⟨by decide,rfl⟩ rfl (q_iff (b_cmp rfl rfl rfl) hg rfl (q_asg (e3 rfl) (q_asg (e_bin rfl rfl em) (q_ret (e_ite (c:=[100,105].contains so && decide (evN sz ≤ 2 * (v % evN sz))) (b_and (b_cmp rfl rfl rfl) fun Z=>b_cmp (e_bin rfl rfl (ex _)) rfl rfl) ?_)))))
  cases ([100,105].contains so && decide (evN sz ≤ 2 * (v % evN sz))) <;> rfl
theorem e_fmt {K : Nat} (hK : 45 < K) (ok : FdOk d) (hv : ValOk d) (hfl : ∀ c ∈ fl,isFl c = true) (hfn : fl.length ≤ 10) (hW : WBd W) (hP : PBd P) {t : Tx} (ht : fmtX d fl W P = .ok t) {vs : List Sl} {a b c f w : CE} (ha : cev (lay K) a vs p = .ok (.str fl) p) (hb : cev (lay K) b vs p = .ok (.int W) p) (hc : cev (lay K) c vs p = .ok (.int P) p) (hf : cev (lay K) f vs p = .ok (tupF d) p) (hw : cev (lay K) w vs p = .ok (.str d.word) p) :
  cev (lay K) (.call 31 (.cons (.call 45 (.cons a (.cons b (.cons c (.cons f .nil))))) (.cons (.lst (.cons w .nil)) .nil))) vs p = .ok (.str t) p:=by
 have h:=(fmt_L (L:=K) (p:=p) (by lia) ok hv hfl hfn hW hP).1
 rw [ht] at h
 have hl : cev (lay K) (.lst (.cons w .nil)) vs p = .ok (.lst [.str d.word]) p:=bE (e_cons hw (e_nil (p:=p))) rfl
 exact e_call (e_cons (e_call (e_cons ha (e_cons hb (e_cons hc (e_cons hf rfl)))) (form_L hK hfn ok.sz hW.s hP.s) rfl) (e_cons hl rfl)) h rfl
theorem slc_hi {f : Tx} {n : Nat} (hn : n < 100000) : sliceV (.str f) (.int n) .none = some (.str (f.drop n)):=by
 refine (slice_of (h:=none) (bnd_nat hn) rfl f).trans ?_
 unfold sliceL
 dsimp only
 rw [if_pos (Int.natCast_nonneg n)];rfl
theorem slc_lo {f : Tx} {n : Nat} (hn : n < 100000) : sliceV (.str f) .none (.int n) = some (.str (f.take n)):=by
 refine (slice_of (l:=none) rfl (bnd_nat hn) f).trans ?_
 unfold sliceL
 dsimp only
 rw [if_pos (Int.natCast_nonneg n)];rfl
theorem dg_case {b : Nat} {up : Bool} (hb : 2 ≤ b) (hb16 : b ≤ 16) (n : Nat) : (dgN b up n).all (· < 128) = true ∧ (dgN b up n).map (if up then upc else loc) = dgN b up n:=by
 have h:=dgN_dig (up:=up) hb hb16 n
 generalize dgN b up n = l at h
 induction l with
 | nil=>exact ⟨rfl,rfl⟩
 | cons c l ih =>
  obtain ⟨i1,i2⟩:=ih fun c hc=>h c (List.mem_cons_of_mem _ hc)
  obtain ⟨e,he,rfl⟩:=h c List.mem_cons_self
  obtain ⟨g1,g2⟩:=sg_case up (show e < 16 by exact Nat.lt_of_lt_of_le (by assumption) (by assumption))
  refine ⟨by rw [List.all_cons,i1,Bool.and_true];exact decide_eq_true g2,?_⟩
  rw [List.map_cons,i2]
  cases up
  ·rw [if_neg Bool.false_ne_true] at g1 ⊢;rw [g1]
  ·rw [if_pos rfl] at g1 ⊢;rw [g1]
theorem k_bd (hv : v.natAbs < 2 ^ 100) : (kX d v).natAbs < 2 ^ 200:=by
 have h1 : (18446744073709551616 : Nat) * 2 < 2 ^ 200:=by decide
 have h2 : (2 : Nat) ^ 100 < 2 ^ 200:=by decide
 generalize (2 : Nat) ^ 200 = B at *
 generalize (2 : Nat) ^ 100 = B0 at *
 unfold kX keptN evN
 split
 ·exact Nat.lt_trans (by assumption) (by assumption)
 ·split <;> split <;> lia
end
end
section
noncomputable def wlF0 : CE:=.tup (.cons (.lit (.bool false)) (.cons (.lit (.int 0)) .nil))
noncomputable def wlLen : CE:=.bi .len (.cons (.bin .add (.var 6) (.var 7)) .nil)
noncomputable def wlFmt (a : CE) : CE:=.call 31 (.cons (.call 45 (.cons a (.cons (.lit (.int 0)) (.cons (.neg (.lit (.int 1))) (.cons (.var 1) .nil))))) (.cons (.lst (.cons (.item (.var 1) (.lit (.int 10))) .nil)) .nil))
noncomputable def wlH : CS:=.ifs (.cmp (.lit (.str [35])) .nin (.var 0)) (.asg 7 (.lit (.str [])) .done) .done (.asg 10 (wlFmt (.var 0)) (.ret (.tup (.cons (.cmp (.var 10) .eq (.bin .add (.bin .add (.var 6) (.var 7)) (.var 9))) (.cons wlLen .nil)))))
noncomputable def wlG : CS:=.ifs (.or (.cmp (.slc (.var 8) (.lit .none) wlLen) .ne (.bin .add (.var 6) (.var 7))) (.cmp (.call 5 (.cons (.var 8) .nil)) .ne (.var 4))) (.ret wlF0) .done (.ifs (.and (.cmp (.slc (.var 9) (.lit .none) (.lit (.int 1))) .eq (.lit (.str [48]))) (.cmp (.var 9) .ne (.lit (.str [48])))) (.ret wlF0) .done (.ifs (.cmp (.var 9) .ne (.ite (.cmp (.var 3) .eq (.lit (.str [88]))) (.meth .upper (.var 9) .nil) (.meth .lower (.var 9) .nil))) (.ret wlF0) .done wlH))
noncomputable def wlF : CS:=.asg 8 (wlFmt (.bin .add (.var 0) (.lit (.str [35])))) (.asg 9 (.slc (.var 8) wlLen (.lit .none)) wlG)
noncomputable def wlM : CS:=.asg 7 (.bin .add (.lit (.str [48])) (.meth .lower (.var 3) .nil)) (.ifs (.cmp (.var 3) .inn (.lit (.str [105,117]))) (.asg 7 (.ite (.or (.var 5) (.cmp (.var 3) .eq (.lit (.str [105])))) (.lit (.str [48,100])) (.lit (.str []))) .done) .done (.ifs (.cmp (.var 4) .eq (.lit (.int 0))) (.asg 7 (.lit (.str [])) .done) .done wlF))
noncomputable def wlS : CS:=.ifs (.or (.var 5) (.cmp (.var 3) .inn (.lit (.str [100,105])))) (.asg 6 (.ite (.cmp (.var 4) .lt (.lit (.int 0))) (.lit (.str [45])) (.ite (.cmp (.lit (.str [43])) .inn (.var 0)) (.lit (.str [43])) (.ite (.cmp (.lit (.str [32])) .inn (.var 0)) (.lit (.str [32])) (.lit (.str []))))) .done) .done wlM
section
variable {L : Nat} {p : Int} {d : Fd} {fl : Tx} {v W P : Int}
theorem e_meth {Γ : Gam} {vs : List Sl} {bb : Bi} {o a : CE} {t : Tx} {xs : List V} {z : V} (ho : cev Γ o vs p = .ok (.str t) p) (ha : cevs Γ a vs p = .ok xs p) (h : biV bb (.str t :: xs) = some z) : cev Γ (.meth bb o a) vs p = .ok z p:=bE ho (bE ha (oF h))
theorem lower_of {t : Tx} (h : t.all (· < 128) = true) : biV .lower [.str t] = some (.str (t.map loc)):=by
 show (if t.all (· < 128) = true then some (V.str (t.map loc)) else none) = _
 rw [if_pos h]
theorem upper_of {t : Tx} (h : t.all (· < 128) = true) : biV .upper [.str t] = some (.str (t.map upc)):=by
 show (if t.all (· < 128) = true then some (V.str (t.map upc)) else none) = _
 rw [if_pos h]
theorem ws_low : ∀ so ∈ WSORTS,([so] : Tx).all (· < 128) = true:=by decide
theorem ws_base : ∀ so ∈ WSORTS,∀ g : Bool,(mkN (if [soI so] == [117] && g then 100 else soI so) = [] ∧ bsN (if [soI so] == [117] && g then 100 else soI so) = 10) ∨ ∃ mc ∈ [100,111,120,98],mkN (if [soI so] == [117] && g then 100 else soI so) = [48,mc] ∧ baseOf mc = bsN (if [soI so] == [117] && g then 100 else soI so):=by decide
theorem con_snoc (fl : Tx) (c : Nat) (h : (c == 35) = false) : (fl ++ [35]).contains c = fl.contains c:=by
 rw [List.contains_append]
 have : ([35] : Tx).contains c = false:=by rw [List.contains_cons,h];rfl
 rw [this,Bool.or_false]
theorem hX_sharp (d : Fd) (fl : Tx) (v : Int) : hX d (fl ++ [35]) v = sX d fl v ++ mX d v:=by
 have e1 : (fl ++ [35]).contains 35 = true:=by rw [List.contains_append];simp
 have e2 : sX d (fl ++ [35]) v = sX d fl v:=by unfold sX sgX;rw [con_snoc fl 43 rfl,con_snoc fl 32 rfl]
 unfold hX
 rw [e1,if_pos rfl,e2]
theorem sX_cases (ok : FdOk d) (hs : d.so ∈ WSORTS) (fl : Tx) (v : Int) : (sX d fl v = [45] ∧ kX d v < 0) ∨ ((sX d fl v = [] ∨ sX d fl v = [43] ∨ sX d fl v = [32]) ∧ 0 ≤ kX d v):=by
 refine gG fun P0 hP0=>?_
 obtain ⟨h1,h2,h3⟩:=kept_facts ok hs v
 refine hP0 ?_
 unfold sX
 cases hS : sgd (so1 d) d.fs.sn with
 | false=>rw [if_neg Bool.false_ne_true];exact .inr ⟨.inl rfl,(h2 hS).2⟩
 | true =>
  rw [if_pos rfl]
  unfold sgX
  by_cases h0 : kX d v < 0
  ·rw [if_pos h0];exact .inl ⟨rfl,h0⟩
  ·rw [if_neg h0]
   refine .inr ⟨?_,by lia⟩
   split
   ·exact .inr (.inl rfl)
   ·split
    ·exact .inr (.inr rfl)
    ·exact .inl rfl
theorem gX_len (d : Fd) (v : Int) : (gX d v).length ≤ 200:=dgN_len _
theorem mX_len (d : Fd) (v : Int) : (mX d v).length ≤ 2:=by
 unfold mX
 have:=mkN_len (so1 d)
 split <;> simp <;> lia
theorem sX_len (d : Fd) (fl : Tx) (v : Int) : (sX d fl v).length ≤ 1:=by
 unfold sX
 have:=sgX_len fl (kX d v)
 split <;> simp <;> lia
theorem wh_mark (ok : FdOk d) (hs : d.so ∈ WSORTS) (hv : v.natAbs < 2 ^ 100) : WhT (sX d fl v ++ mX d v ++ gX d v) (kX d v):=by
 obtain ⟨b1,b2,b3⟩:=bsN_bd (so1 d)
 have kb:=k_bd (d:=d) hv
 obtain ⟨c0,t0,e0,hc0⟩:=dgN_head (up:=[so1 d] == [88]) b1 b2 kb
 have hval:=dgN_val (up:=[so1 d] == [88]) b1 b2 kb
 have hdig : ∀ c ∈ gX d v,0 ≤ digI c ∧ digI c < (bsN (so1 d) : Int):=fun c hc=>by
  obtain ⟨e,he,rfl⟩:=dgN_dig b1 b2 _ c hc
  exact sg_range b2 he
 have hlen : (sX d fl v ++ mX d v ++ gX d v).length < 900:=by
  have:=gX_len d v;have:=mX_len d v;have:=sX_len d fl v
  simp only [List.length_append];lia
 have hne : gX d v ≠ []:=by unfold gX;rw [e0];simp
 have hmk : ∃ b : Int,A3 (∀ c ∈ gX d v,0 ≤ digI c ∧ digI c < b) (dv b (gX d v) 0 = (kX d v).natAbs) ((mX d v = [] ∧ b = 10 ∧ ((gX d v).length ≤ 2 ∨ ∀ c t,gX d v = c :: t → c ≠ 48)) ∨ ∃ mc,A3 (mX d v = [48,mc]) (b = baseOf mc) (0 < b)):=by
  by_cases hk : kX d v = 0
  ·have hg : gX d v = [48]:=by unfold gX;rw [hk];rfl
   have hm : mX d v = []:=by unfold mX;rw [hk];rfl
   refine ⟨10,?_,?_,.inl ⟨hm,rfl,.inl (by rw [hg];decide)⟩⟩
   ·rw [hg];decide
   ·rw [hg,hk];rfl
  ·have hm : mX d v = mkN (so1 d):=by unfold mX;rw [if_neg (by rw [beq_iff_eq];exact hk)]
   refine ⟨bsN (so1 d),hdig,hval,?_⟩
   rw [hm]
   have:=ws_base d.so hs (d.fs.sn == BIG)
   rw [← so1_eq] at this
   rcases this with ⟨m1,m2⟩ | ⟨mc,_,m1,m2⟩
   ·refine .inl ⟨m1,by rw [m2];rfl,.inr fun c t e=>?_⟩
    unfold gX at e
    rw [e0] at e;obtain ⟨rfl,rfl⟩:=cI e
    exact hc0 (by lia)
   ·exact .inr ⟨mc,m1,m2.symm,by lia⟩
 obtain ⟨b,g1,g2,g3⟩:=hmk
 rcases sX_cases ok hs fl v with ⟨s1,s2⟩ | ⟨s1,s2⟩
 ·refine ⟨[],[45],mX d v,gX d v,[],b,by rw [s1];simp,?_,fun x hx=>(by exact nM hx),.inl rfl,.inr (.inr rfl),hne,g1,hlen,g3⟩
  rw [if_pos rfl,g2];clear g3;lia
 ·rcases s1 with s1 | s1 | s1
  ·refine ⟨[],[],mX d v,gX d v,[],b,by rw [s1];simp,?_,fun x hx=>(by exact nM hx),.inl rfl,.inl rfl,hne,g1,hlen,g3⟩
   rw [if_neg (by simp),g2];clear g3;lia
  ·refine ⟨[],[43],mX d v,gX d v,[],b,by rw [s1];simp,?_,fun x hx=>(by exact nM hx),.inl rfl,.inr (.inl rfl),hne,g1,hlen,g3⟩
   rw [if_neg (by simp),g2];clear g3;lia
  ·refine ⟨[32],[],mX d v,gX d v,[],b,by rw [s1];simp,?_,fun x hx=>(by rw [mems hx];rfl),.inl rfl,.inl rfl,hne,g1,hlen,g3⟩
   rw [if_neg (by simp),g2];clear g3;lia
noncomputable def wst (fl : Tx) (d : Fd) (v : Int) (sg : Tx) (s7 s8 s9 s10 : Sl) : List Sl:=[.val (.str fl),.val (tupF d),.val (.str d.sz),.val (.str [d.so]),.val (.int (kX d v)),.val (.bool (great d.sz)),.val (.str sg),s7,s8,s9,s10]
theorem wl_len {sg mk : Tx} {s8 s9 s10 : Sl} (h1 : sg.length ≤ 1) (h2 : mk.length ≤ 2) : cev (lay 47) wlLen (wst fl d v sg (.val (.str mk)) s8 s9 s10) p = .ok (.int (sg ++ mk).length) p :=
 e_bi (e_cons (e_bin rfl rfl (add_str (by lia) (by lia))) rfl) rfl
theorem wl_H (ok : FdOk d) (hval : ValOk d) (hs : d.so ∈ WSORTS) (ht : WhT d.word v) (hv : v.natAbs < 2 ^ 100) (hx : okX d v) (hfl : ∀ c ∈ fl,isFl c = true) (hfn : fl.length ≤ 9) {s8 s10 : Sl} : ∃ vs',csx (lay 47) fuel wlH (wst fl d v (sX d fl v) (.val (.str (mX d v))) s8 (.val (.str (gX d v))) s10) p = .ok (.ret (.tup [.bool true,.int (hX d fl v).length])) vs' p:=by
 have l1:=sX_len d fl v
 have l2:=mX_len d v
 have l3:=gX_len d v
 have hf:=fmt0 (fl:=fl) ok hs ht hv hx
 have key : ∀ mk : Tx,mk.length ≤ 2 → hX d fl v = sX d fl v ++ mk → ∃ vs',csx (lay 47) fuel (.asg 10 (wlFmt (.var 0)) (.ret (.tup (.cons (.cmp (.var 10) .eq (.bin .add (.bin .add (.var 6) (.var 7)) (.var 9))) (.cons wlLen .nil))))) (wst fl d v (sX d fl v) (.val (.str mk)) s8 (.val (.str (gX d v))) s10) p = .ok (.ret (.tup [.bool true,.int (hX d fl v).length])) vs' p:=fun mk hmk he=>by
  have ef:=e_fmt (K:=47) (p:=p) (vs:=wst fl d v (sX d fl v) (.val (.str mk)) s8 (.val (.str (gX d v))) s10) (a:=.var 0) (b:=.lit (.int 0)) (c:=.neg (.lit (.int 1))) (f:=.var 1) (w:=.item (.var 1) (.lit (.int 10))) (by decide) ok hval hfl (by lia) ⟨by decide,.inl (by decide)⟩ ⟨by decide,.inl (by decide)⟩ hf rfl rfl rfl rfl rfl
  rw [he] at ef ⊢
  refine ⟨_,q_asg ef (q_ret (e_tup (e_cons (e_cmp rfl (e_bin (e_bin rfl rfl (add_str (by lia) (by lia))) rfl (add_str (by rw [List.length_append];lia) (by lia))) ?_) (e_cons (wl_len (s10:=.val _) l1 hmk) rfl)) (by simp)))⟩
  show some (_ == _) = _
  rw [beq_self_eq_true]
 cases h35 : fl.contains 35 with
 | true =>
  obtain ⟨vs',hk⟩:=key (mX d v) l2 (by unfold hX;rw [h35,if_pos rfl])
  exact ⟨vs',q_iff (c:=false) (b_cmp rfl rfl (by show (some (fl.contains 35)).map (!·) = _;rw [h35];rfl)) rfl rfl hk⟩
 | false =>
  obtain ⟨vs',hk⟩:=key [] (by exact Nat.zero_le _) (by unfold hX;rw [h35,if_neg Bool.false_ne_true])
  exact ⟨vs',q_ift (c:=true) (b_cmp rfl rfl (by show (some (fl.contains 35)).map (!·) = _;rw [h35];rfl)) rfl rfl hk⟩
theorem ne_self (a : Tx) : cmpV .ne (.str a) (.str a) = some false:=by show (some (a == a)).map (!·) = _;rw [beq_self_eq_true];rfl
theorem ne_selfI (a : Int) : cmpV .ne (.int a) (.int a) = some false:=by show (some (a == a)).map (!·) = _;rw [beq_self_eq_true];rfl
theorem wl_F (ok : FdOk d) (hval : ValOk d) (hs : d.so ∈ WSORTS) (ht : WhT d.word v) (hv : v.natAbs < 2 ^ 100) (hx : okX d v) (hfl : ∀ c ∈ fl,isFl c = true) (hfn : fl.length ≤ 9) {s8 s9 s10 : Sl} : ∃ vs',csx (lay 47) fuel wlF (wst fl d v (sX d fl v) (.val (.str (mX d v))) s8 s9 s10) p = .ok (.ret (.tup [.bool true,.int (hX d fl v).length])) vs' p:=by
 have l1:=sX_len d fl v
 have l2:=mX_len d v
 have l3:=gX_len d v
 have hf:=fmt0 (fl:=fl ++ [35]) ok hs ht hv hx
 rw [hX_sharp] at hf
 have ef:=e_fmt (K:=47) (p:=p) (vs:=wst fl d v (sX d fl v) (.val (.str (mX d v))) s8 s9 s10) (a:=.bin .add (.var 0) (.lit (.str [35]))) (b:=.lit (.int 0)) (c:=.neg (.lit (.int 1))) (f:=.var 1) (w:=.item (.var 1) (.lit (.int 10))) (by decide) ok hval (fl:=fl ++ [35]) (fun c hc=>by
  rcases memA hc with hc | hc
  ·exact hfl c hc
  ·rcases memc hc with rfl | hc
   ·rfl
   ·exact nM hc) (by rw [List.length_append,List.length_singleton];lia) ⟨by decide,.inl (by decide)⟩ ⟨by decide,.inl (by decide)⟩ hf (e_bin rfl rfl (add_str (by lia) (by exact Nat.succ_pos _))) rfl rfl rfl rfl
 have hwm:=wh_mark (fl:=fl) ok hs hv
 obtain ⟨b1,b2,b3⟩:=bsN_bd (so1 d)
 obtain ⟨c0,t0,e0,hc0⟩:=dgN_head (up:=[so1 d] == [88]) b1 b2 (k_bd (d:=d) hv)
 have hcase:=dg_case (up:=[so1 d] == [88]) b1 b2 (kX d v).natAbs
 have hup : ([so1 d] == [88]) = ([d.so] == [88]):=by have:=ws_up d.so hs (d.fs.sn == BIG);rwa [← so1_eq] at this
 rw [hup] at hcase
 have hg : gX d v = dgN (bsN (so1 d)) ([d.so] == [88]) (kX d v).natAbs:=by unfold gX;rw [hup]
 have hg0 : gX d v = c0 :: t0:=e0
 rw [← hg] at hcase
 obtain ⟨vs',hH⟩:=wl_H (p:=p) (s8:=.val (.str (sX d fl v ++ mX d v ++ gX d v))) (s10:=s10) ok hval hs ht hv hx hfl hfn
 have hlen : (sX d fl v ++ mX d v).length < 100000:=by rw [List.length_append];lia
 have hup9 : cev (lay 47) (.ite (.cmp (.var 3) .eq (.lit (.str [88]))) (.meth .upper (.var 9) .nil) (.meth .lower (.var 9) .nil)) (wst fl d v (sX d fl v) (.val (.str (mX d v))) (.val (.str (sX d fl v ++ mX d v ++ gX d v))) (.val (.str (gX d v))) s10) p = .ok (.str (gX d v)) p:=by
  refine e_ite (b_cmp rfl rfl rfl) ?_
  obtain ⟨q1,q2⟩:=hcase
  cases hb : ([d.so] == [88]) with
  | true =>
   rw [hb,if_pos rfl] at q2
   rw [if_pos rfl]
   exact e_meth rfl rfl ((upper_of q1).trans (by rw [q2]))
  | false =>
   rw [hb,if_neg Bool.false_ne_true] at q2
   rw [if_neg Bool.false_ne_true]
   exact e_meth rfl rfl ((lower_of q1).trans (by rw [q2]))
 have hb2 : ((gX d v).take 1 == [48] && !(gX d v == [48])) = false:=by
  by_cases hk : kX d v = 0
  ·have : gX d v = [48]:=by unfold gX;rw [hk];rfl
   rw [this];rfl
  ·have : c0 ≠ 48:=hc0 (by lia)
   rw [hg0]
   show ([c0] == [48] && _) = false
   rw [beq_eq_false_iff_ne.mpr (fun q=>this (by injection q)),Bool.false_and]
 have hs1 : sliceV (.str (sX d fl v ++ mX d v ++ gX d v)) (.int (sX d fl v ++ mX d v).length) .none = some (.str (gX d v)):=(slc_hi hlen).trans (by rw [List.drop_left'];rfl)
 have hs2 : sliceV (.str (sX d fl v ++ mX d v ++ gX d v)) .none (.int (sX d fl v ++ mX d v).length) = some (.str (sX d fl v ++ mX d v)):=(slc_lo hlen).trans (by rw [List.take_left'];rfl)
 exact ⟨vs',q_asg ef (q_asg (e_slc rfl (wl_len (s8:=.val _) l1 l2) rfl hs1) (q_iff (c:=false) (b_or (c:=false) (u:=false) (b_cmp (e_slc rfl rfl (wl_len (s8:=.val _) (s9:=.val _) l1 l2) hs2) (e_bin rfl rfl (add_str (by lia) (by lia))) (ne_self _)) fun Z=>b_cmp (e_call rfl (whole_of_L (by decide) hwm) rfl) rfl (ne_selfI _)) rfl rfl (q_iff (b_and (u:=!(gX d v == [48])) (b_cmp (e_slc (w:=.str ((gX d v).take 1)) rfl rfl rfl (slc_lo (n:=1) (by decide))) rfl rfl) fun Z=>b_cmp rfl rfl rfl) hb2 rfl (q_iff (c:=false) (b_cmp rfl hup9 (ne_self _)) rfl rfl hH))))⟩
theorem wl_M (ok : FdOk d) (hval : ValOk d) (hs : d.so ∈ WSORTS) (ht : WhT d.word v) (hv : v.natAbs < 2 ^ 100) (hx : okX d v) (hfl : ∀ c ∈ fl,isFl c = true) (hfn : fl.length ≤ 9) {s7 s8 s9 s10 : Sl} : ∃ vs',csx (lay 47) fuel wlM (wst fl d v (sX d fl v) s7 s8 s9 s10) p = .ok (.ret (.tup [.bool true,.int (hX d fl v).length])) vs' p:=by
 obtain ⟨vs',hF⟩:=wl_F (p:=p) (s8:=s8) (s9:=s9) (s10:=s10) ok hval hs ht hv hx hfl hfn
 have hm:=ws_mark d.so hs (d.fs.sn == BIG)
 rw [← so1_eq,sn_big ok] at hm
 have hz : ∀ {m7 : Tx},m7 = mkN (so1 d) → csx (lay 47) fuel (.ifs (.cmp (.var 4) .eq (.lit (.int 0))) (.asg 7 (.lit (.str [])) .done) .done wlF) (wst fl d v (sX d fl v) (.val (.str m7)) s8 s9 s10) p = csx (lay 47) fuel wlF (wst fl d v (sX d fl v) (.val (.str (mX d v))) s8 s9 s10) p:=fun {m7} e=>by
  subst e
  unfold mX
  cases hk : (kX d v == 0) with
  | true=>exact q_ift (b_cmp rfl rfl rfl) hk rfl rfl
  | false=>exact q_iff (b_cmp rfl rfl rfl) hk rfl rfl
 have h0 : cev (lay 47) (.bin .add (.lit (.str [48])) (.meth .lower (.var 3) .nil)) (wst fl d v (sX d fl v) s7 s8 s9 s10) p = .ok (.str [48,loc d.so]) p:=e_bin rfl (e_meth rfl rfl (lower_of (ws_low d.so hs))) rfl
 refine ⟨vs',q_asg h0 ?_⟩
 cases hc : [105,117].contains d.so with
 | true =>
  rw [hc,if_pos rfl] at hm
  refine (q_ift (b_cmp rfl rfl rfl) hc (q_asg (e_ite (c:=great d.sz || [d.so] == [105]) (z:=.str (mkN (so1 d))) (b_or rfl fun Z=>b_cmp rfl rfl rfl) ?_) rfl) (hz rfl)).trans hF
  rw [← hm]
  cases (great d.sz || [d.so] == [105]) <;> rfl
 | false =>
  rw [hc,if_neg Bool.false_ne_true] at hm
  exact (q_iff (b_cmp rfl rfl rfl) hc rfl (hz hm)).trans hF
theorem law_whole_L (h : 47 < L) (ok : FdOk d) (hval : ValOk d) (hvv : d.val = .int v) (hs : d.so ∈ WSORTS) (ht : WhT d.word v) (hv : v.natAbs < 2 ^ 100) (hx : okX d v) (hfl : ∀ c ∈ fl,isFl c = true) (hfn : fl.length ≤ 9) : lay L 47 [.str fl,tupF d] p = .ok (.tup [.bool true,.int (hX d fl v).length]) p:=by
 obtain ⟨vs',hM⟩:=wl_M (p:=p) (s7:=.un) (s8:=.un) (s9:=.un) (s10:=.un) ok hval hs ht hv hx hfl hfn
 have h9 : itemV (tupF d) (.int 9) p = some (.int v):=by show some d.val = _;rw [hvv]
 have hS : csx (lay 47) fuel wlS (wst fl d v [] .un .un .un .un) p = csx (lay 47) fuel wlM (wst fl d v (sX d fl v) .un .un .un .un) p:=by
  unfold sX
  rw [sgd_eq ok hs]
  cases hc : (great d.sz || [100,105].contains d.so) with
  | false=>exact q_iff (b_or rfl fun Z=>b_cmp rfl rfl rfl) hc rfl rfl
  | true =>
   refine q_ift (b_or rfl fun Z=>b_cmp rfl rfl rfl) hc (q_asg (e_ite (b_cmp rfl rfl rfl) (z:=.str (sgX fl (kX d v))) ?_) rfl) rfl
   unfold sgX
   by_cases h0 : kX d v < 0
   ·rw [decide_eq_true h0,if_pos rfl,if_pos h0];rfl
   ·rw [decide_eq_false h0,if_neg Bool.false_ne_true,if_neg h0]
    refine e_ite (b_cmp rfl rfl in_fl) ?_
    cases fl.contains 43
    ·exact e_ite (b_cmp rfl rfl in_fl) (by cases fl.contains 32 <;> rfl)
    ·rfl
 exact def_ret h ⟨by decide,rfl⟩ rfl (q_asgT rfl rfl (q_asg (e_call (e_cons (e_item rfl rfl h9) rfl) (kept_L (by decide)) rfl) (q_asg (e_cmp rfl rfl rfl) (q_asg rfl (hS.trans hM)))))
end
end
section
noncomputable def lyFmt (b c : CE) : CE:=.call 31 (.cons (.call 45 (.cons (.var 1) (.cons b (.cons c (.cons (.var 0) .nil))))) (.cons (.lst (.cons (.var 6) .nil)) .nil))
noncomputable def lyR : CS:=.asg 10 (.ite (.and (.cmp (.lit (.str [48])) .inn (.var 1)) (.or (.cmp (.var 3) .lt (.lit (.int 0))) (.cmp (.var 4) .inn (.lit (.str [115,99]))))) (.lit (.str [48])) (.lit (.str [32]))) (.asg 11 (.bin .mul (.var 10) (.bin .sub (.var 2) (.bi .len (.cons (.var 7) .nil)))) (.ifs (.and (.cmp (.var 10) .eq (.lit (.str [48]))) (.cmp (.var 4) .nin (.lit (.str [115,99])))) (.asg 7 (.bin .add (.bin .add (.slc (.var 7) (.lit .none) (.var 8)) (.var 11)) (.slc (.var 7) (.var 8) (.lit .none))) .done) (.asg 7 (.ite (.cmp (.lit (.str [45])) .inn (.var 1)) (.bin .add (.var 7) (.var 11)) (.bin .add (.var 11) (.var 7))) .done) (.ret (.cmp (lyFmt (.var 2) (.var 3)) .eq (.var 7)))))
noncomputable def lyQ : CS:=.ifs (.cmp (lyFmt (.lit (.int 0)) (.var 3)) .ne (.var 7)) (.ret (.lit (.bool false))) .done lyR
noncomputable def lyP : CS:=.ifs (.and (.cmp (.var 3) .ge (.lit (.int 0))) (.cmp (.var 4) .eq (.lit (.str [115])))) (.asg 7 (.slc (.var 7) (.lit .none) (.var 3)) .done) (.ifs (.and (.cmp (.var 3) .ge (.lit (.int 0))) (.cmp (.var 4) .ne (.lit (.str [99])))) (.asg 7 (.bin .add (.bin .add (.slc (.var 7) (.lit .none) (.var 8)) (.bin .mul (.lit (.str [48])) (.bin .add (.bin .sub (.var 3) (.bi .len (.cons (.var 7) .nil))) (.var 8)))) (.slc (.var 7) (.var 8) (.lit .none))) .done) .done .done) lyQ
noncomputable def lyN : CS:=.ifs (.not (.var 9)) (.ret (.lit (.bool false))) .done lyP
section
variable {L : Nat} {p : Int} {d : Fd} {fl : Tx} {v W P : Int}
noncomputable def lys (d : Fd) (fl : Tx) (W P : Int) (due : Tx) (hd : Nat) (s9 s10 s11 : Sl) : List Sl:=[.val (tupF d),.val (.str fl),.val (.int W),.val (.int P),.val (.str [d.so]),.val d.val,.val (.str d.word),.val (.str due),.val (.int hd),s9,s10,s11]
structure Ly (d : Fd) (fl : Tx) (W P : Int) : Prop where
 ok : FdOk d
 val : ValOk d
 fo : ∀ c ∈ fl,isFl c = true
 fn : fl.length ≤ 9
 w0 : 0 ≤ W
 w1 : W ≤ 20
 p : PBd P
theorem eq_self (a : Tx) : cmpV .eq (.str a) (.str a) = some true:=by show some (a == a) = _;rw [beq_self_eq_true]
theorem ly_fmt (Y : Ly d fl W P) {due t : Tx} {hd : Nat} {s9 s10 s11 : Sl} (ht : fmtX d fl W P = .ok t) : cev (lay 48) (lyFmt (.var 2) (.var 3)) (lys d fl W P due hd s9 s10 s11) p = .ok (.str t) p :=
 e_fmt (by decide) Y.ok Y.val Y.fo (by have:=Y.fn;lia) ⟨Y.w0,.inl Y.w1⟩ Y.p ht rfl rfl rfl rfl rfl
theorem ly_fmt0 (Y : Ly d fl W P) {due t : Tx} {hd : Nat} {s9 s10 s11 : Sl} (ht : fmtX d fl 0 P = .ok t) : cev (lay 48) (lyFmt (.lit (.int 0)) (.var 3)) (lys d fl W P due hd s9 s10 s11) p = .ok (.str t) p :=
 e_fmt (by decide) Y.ok Y.val Y.fo (by have:=Y.fn;lia) ⟨by decide,.inl (by decide)⟩ Y.p ht rfl rfl rfl rfl rfl
theorem ly_Q (Y : Ly d fl W P) {due : Tx} {hd : Nat} {s9 s10 s11 : Sl} (ht : fmtX d fl 0 P = .ok due) : csx (lay 48) fuel lyQ (lys d fl W P due hd s9 s10 s11) p = csx (lay 48) fuel lyR (lys d fl W P due hd s9 s10 s11) p :=
 q_iff (c:=false) (b_cmp (ly_fmt0 Y ht) rfl (ne_self _)) rfl rfl rfl
theorem ly_R (Y : Ly d fl W P) {due due2 : Tx} {hd : Nat} {s9 s10 s11 : Sl} (hl : due.length ≤ 300) (hh : hd ≤ 1000) (ht : fmtX d fl W P = .ok due2)
  (h2 : due2 = if fl.contains 48 && (decide (P < 0) || [115,99].contains d.so) then (if [115,99].contains d.so then padX fl due W 48 else due.take hd ++ filN 48 (W - due.length) ++ due.drop hd) else padX fl due W 32) : ∃ vs',csx (lay 48) fuel lyR (lys d fl W P due hd s9 s10 s11) p = .ok (.ret (.bool true)) vs' p:=by
 have w0:=Y.w0;have w1:=Y.w1
 have e10 : cev (lay 48) (.ite (.and (.cmp (.lit (.str [48])) .inn (.var 1)) (.or (.cmp (.var 3) .lt (.lit (.int 0))) (.cmp (.var 4) .inn (.lit (.str [115,99]))))) (.lit (.str [48])) (.lit (.str [32]))) (lys d fl W P due hd s9 s10 s11) p = .ok (.str [if fl.contains 48 && (decide (P < 0) || [115,99].contains d.so) then 48 else 32]) p:=by
  refine e_ite (b_and (b_cmp rfl rfl in_fl) fun Z=>b_or (b_cmp rfl rfl rfl) fun Z=>b_cmp rfl rfl rfl) ?_
  cases (fl.contains 48 && (decide (P < 0) || [115,99].contains d.so)) <;> rfl
 generalize hz : (fl.contains 48 && (decide (P < 0) || [115,99].contains d.so)) = z at *
 have e11 : ∀ {s9 s11 : Sl},cev (lay 48) (.bin .mul (.var 10) (.bin .sub (.var 2) (.bi .len (.cons (.var 7) .nil)))) (lys d fl W P due hd s9 (.val (.str [if z then 48 else 32])) s11) p = .ok (.str (filN (if z then 48 else 32) (W - due.length))) p:=fun {s9 s11}=>by
  rw [← mulT_fil]
  exact e_bin rfl (e_bin rfl rfl rfl) (mul_str (by lia) (by lia))
 have hfl:=fil_len (if z then 48 else 32) (W - due.length)
 have hpad : ∀ {c : Nat} {s9 s10 : Sl},(filN c (W - due.length)).length ≤ 1000 → cev (lay 48) (.ite (.cmp (.lit (.str [45])) .inn (.var 1)) (.bin .add (.var 7) (.var 11)) (.bin .add (.var 11) (.var 7))) (lys d fl W P due hd s9 s10 (.val (.str (filN c (W - due.length))))) p = .ok (.str (padX fl due W c)) p:=fun {c s9 s10} hc=>by
  unfold padX
  refine e_ite (b_cmp rfl rfl in_fl) ?_
  cases fl.contains 45 with
  | true=>rw [if_pos rfl,if_pos rfl];exact e_bin rfl rfl (add_str (by lia) (by lia))
  | false=>rw [if_neg Bool.false_ne_true,if_neg Bool.false_ne_true];exact e_bin rfl rfl (add_str (by lia) (by lia))
 have hcnd : ∀ {s9 s11 : Sl},cevB (lay 48) (.and (.cmp (.var 10) .eq (.lit (.str [48]))) (.cmp (.var 4) .nin (.lit (.str [115,99])))) (lys d fl W P due hd s9 (.val (.str [if z then 48 else 32])) s11) p = .ok (z && ![115,99].contains d.so) p:=fun {s9 s11}=>by
  have:=b_and (b_cmp (Γ:=lay 48) (p:=p) (vs:=lys d fl W P due hd s9 (.val (.str [if z then 48 else 32])) s11) (a:=.var 10) (b:=.lit (.str [48])) (cp:=.eq) rfl rfl rfl) fun Z=>b_cmp (a:=.var 4) (b:=.lit (.str [115,99])) (cp:=.nin) (c:=![115,99].contains d.so) rfl rfl rfl
  rw [this]
  cases z <;> rfl
 have hend : ∀ {s9 s10 s11 : Sl},cevX (lay 48) (.cmp (lyFmt (.var 2) (.var 3)) .eq (.var 7)) (lys d fl W P due2 hd s9 s10 s11) p = .ok (.bool true) p:=fun {s9 s10 s11}=>cevX_of (e_cmp (ly_fmt Y ht) rfl (eq_self _)) rfl
 cases hc : (z && ![115,99].contains d.so) with
 | true =>
  rw [Bool.and_eq_true,Bool.not_eq_true'] at hc
  rw [hc.1,hc.2,if_pos rfl,if_neg Bool.false_ne_true] at h2
  rw [hc.1] at e10 e11 hfl hcnd
  rw [hc.2] at hcnd
  subst h2
  exact ⟨_,q_asg e10 (q_asg e11 (q_ift hcnd rfl (q_asg (e_bin (e_bin (e_slc rfl rfl rfl (slc_lo (by lia))) rfl (add_str (by rw [List.length_take];lia) (by rw [hfl];lia))) (e_slc rfl rfl rfl (slc_hi (by lia))) (add_str (by rw [List.length_append,List.length_take,hfl];lia) (by rw [List.length_drop];lia))) rfl) (q_ret hend)))⟩
 | false =>
  have e2 : due2 = padX fl due W (if z then 48 else 32):=by
   rw [h2]
   cases z with
   | false=>rfl
   | true =>
    rw [Bool.true_and,Bool.not_eq_false'] at hc
    rw [if_pos rfl,if_pos rfl,hc,if_pos rfl]
  rw [hc] at hcnd
  subst e2
  exact ⟨_,q_asg e10 (q_asg e11 (q_iff hcnd rfl (q_asg (hpad (by rw [hfl];lia)) rfl) (q_ret hend)))⟩
theorem fmtS (Y : Ly d fl W P) (hs : d.so = 115) : fmtX d fl W P = .ok (padX fl (if P < 0 then d.word else d.word.take P.toNat) W (zf fl)):=by
 unfold fmtX
 have h1:=Y.ok.word;have h2:=Y.w1
 rw [if_neg (by lia),hs]
 exact (fld_of fun L p h=>s_L h h1 h2 Y.p).1
theorem fmtC (Y : Ly d fl W P) (hs : d.so = 99) (hn : NIok d.word) (hv : ni d.word = .ok v) : fmtX d fl W P = .ok (padX fl [chX v] W (zf fl)):=by
 unfold fmtX
 have h2:=Y.w1
 rw [if_neg (by lia),hs,(fld_of fun L p h=>c_L h hn h2).1]
 unfold fldC
 rw [hv]
theorem Ly.at (Y : Ly d fl W P) {W' P' : Int} (h0 : 0 ≤ W') (h1 : W' ≤ 20) (hp : PBd P') : Ly d fl W' P':=⟨Y.ok,Y.val,Y.fo,Y.fn,h0,h1,hp⟩
theorem pb1 : PBd (-1):=⟨by decide,.inl (by decide)⟩
theorem pad_zf (made : Tx) (so : Nat) (h : [115,99].contains so = true) : padX fl made W (zf fl) = if fl.contains 48 && (decide (P < 0) || [115,99].contains so) then (if [115,99].contains so then padX fl made W 48 else made.take 0 ++ filN 48 (W - made.length) ++ made.drop 0) else padX fl made W 32:=by
 rw [h,Bool.or_true,Bool.and_true,if_pos rfl]
 unfold zf
 cases fl.contains 48 <;> rfl
noncomputable def lyA : CS:=.asgT [4,5,6] (.tup (.cons (.item (.var 0) (.lit (.int 8))) (.cons (.item (.var 0) (.lit (.int 9))) (.cons (.item (.var 0) (.lit (.int 10))) .nil)))) (.asg 7 (lyFmt (.lit (.int 0)) (.neg (.lit (.int 1)))) (.asg 8 (.lit (.int 0)) (.ifs (.cmp (.var 4) .eq (.lit (.str [115]))) (.asg 9 (.cmp (.var 7) .eq (.var 5)) .done) (.ifs (.cmp (.var 4) .eq (.lit (.str [99]))) (.asg 9 (.cmp (.var 7) .eq (.ite (.cmp2 (.lit (.int 0)) .le (.var 5) .le (.lit (.int 1114111))) (.bi .chr (.cons (.var 5) .nil)) (.lit (.str [65533])))) .done) (.asgT [9,8] (.call 47 (.cons (.var 1) (.cons (.var 0) .nil))) .done) .done) lyN)))
theorem ly_0 (Y : Ly d fl W P) {t : Tx} (ht : fmtX d fl 0 (-1) = .ok t) : cev (lay 48) (lyFmt (.lit (.int 0)) (.neg (.lit (.int 1)))) [.val (tupF d),.val (.str fl),.val (.int W),.val (.int P),.val (.str [d.so]),.val d.val,.val (.str d.word),.un,.un,.un,.un,.un] p = .ok (.str t) p :=
 e_fmt (by decide) Y.ok Y.val Y.fo (by have:=Y.fn;lia) ⟨by decide,.inl (by decide)⟩ pb1 ht rfl rfl rfl rfl rfl
theorem ly_s (Y : Ly d fl W P) (hs : d.so = 115) (hv : d.val = .str d.word) : ∃ vs',csx (lay 48) fuel lyA [.val (tupF d),.val (.str fl),.val (.int W),.val (.int P),.un,.un,.un,.un,.un,.un,.un,.un] p = .ok (.ret (.bool true)) vs' p:=by
 have hw:=Y.ok.word
 have h0 : fmtX d fl 0 (-1) = .ok d.word:=by rw [fmtS (Y.at (by decide) (by decide) pb1) hs,if_pos (by decide),pad_zero (by lia)]
 have h1 : fmtX d fl 0 P = .ok (if P < 0 then d.word else d.word.take P.toNat):=by rw [fmtS (Y.at (by decide) (by decide) Y.p) hs,pad_zero (by lia)]
 have h2:=fmtS Y hs
 have hsc : [115,99].contains d.so = true:=by rw [hs];rfl
 rw [pad_zf (P:=P) _ d.so hsc] at h2
 have hlen : (if P < 0 then d.word else d.word.take P.toNat).length ≤ 300:=by split;exact hw;rw [List.length_take];lia
 have hP : ∀ {s9 s10 s11 : Sl},csx (lay 48) fuel lyP (lys d fl W P d.word 0 s9 s10 s11) p = csx (lay 48) fuel lyQ (lys d fl W P (if P < 0 then d.word else d.word.take P.toNat) 0 s9 s10 s11) p:=fun {s9 s10 s11}=>by
  have hc : ([d.so] == [115]) = true:=by rw [hs];rfl
  by_cases hn : P < 0
  ·rw [if_pos hn]
   exact q_iff (b_and (u:=[d.so] == [115]) (b_cmp rfl rfl rfl) fun Z=>b_cmp rfl rfl rfl) (by rw [decide_eq_false (by lia)];rfl) (q_iff (b_and (u:=!([d.so] == [99])) (b_cmp rfl rfl rfl) fun Z=>b_cmp rfl rfl rfl) (by rw [decide_eq_false (by lia)];rfl) rfl rfl) rfl
  ·rw [if_neg hn]
   exact q_ift (b_and (u:=[d.so] == [115]) (b_cmp rfl rfl rfl) fun Z=>b_cmp rfl rfl rfl) (by rw [decide_eq_true (by lia),hc];rfl) (q_asg (e_slc rfl rfl rfl (take_bnd Y.p hn)) rfl) rfl
 obtain ⟨vs',hR⟩:=ly_R (p:=p) (s9:=.val (.bool true)) (s10:=.un) (s11:=.un) Y (hd:=0) hlen (by decide) h2 rfl
 have h9 : ∀ {s8 s9 : Sl},cev (lay 48) (.cmp (.var 7) .eq (.var 5)) [.val (tupF d),.val (.str fl),.val (.int W),.val (.int P),.val (.str [d.so]),.val d.val,.val (.str d.word),.val (.str d.word),s8,s9,.un,.un] p = .ok (.bool true) p:=fun {s8 s9}=>by rw [hv];exact e_cmp rfl rfl (eq_self _)
 exact ⟨vs',q_asgT rfl rfl (q_asg (ly_0 Y h0) (q_asg rfl (q_ift (b_cmp rfl rfl rfl) (by rw [hs];rfl) (q_asg h9 rfl) (q_iff (c:=false) rfl rfl rfl (hP.trans ((ly_Q Y h1).trans hR))))))⟩
theorem ly_c (Y : Ly d fl W P) (hs : d.so = 99) (hvv : d.val = .int v) (hn : NIok d.word) (hv : ni d.word = .ok v) : ∃ vs',csx (lay 48) fuel lyA [.val (tupF d),.val (.str fl),.val (.int W),.val (.int P),.un,.un,.un,.un,.un,.un,.un,.un] p = .ok (.ret (.bool true)) vs' p:=by
 have h0 : fmtX d fl 0 (-1) = .ok [chX v]:=by rw [fmtC (Y.at (by decide) (by decide) pb1) hs hn hv,pad_zero (by lia)]
 have h1 : fmtX d fl 0 P = .ok [chX v]:=by rw [fmtC (Y.at (by decide) (by decide) Y.p) hs hn hv,pad_zero (by lia)]
 have h2:=fmtC Y hs hn hv
 have hsc : [115,99].contains d.so = true:=by rw [hs];rfl
 rw [pad_zf (P:=P) _ d.so hsc] at h2
 have c1 : ([d.so] == [115]) = false:=by rw [hs];rfl
 have c2 : ([d.so] == [99]) = true:=by rw [hs];rfl
 have hP : ∀ {s9 s10 s11 : Sl},csx (lay 48) fuel lyP (lys d fl W P [chX v] 0 s9 s10 s11) p = csx (lay 48) fuel lyQ (lys d fl W P [chX v] 0 s9 s10 s11) p:=fun {s9 s10 s11} =>
  q_iff (b_and (u:=[d.so] == [115]) (b_cmp rfl rfl rfl) fun Z=>b_cmp rfl rfl rfl) (by rw [c1,Bool.and_false]) (q_iff (b_and (u:=!([d.so] == [99])) (b_cmp rfl rfl rfl) fun Z=>b_cmp rfl rfl rfl) (by rw [c2];exact Bool.and_false _) rfl rfl) rfl
 obtain ⟨vs',hR⟩:=ly_R (p:=p) (s9:=.val (.bool true)) (s10:=.un) (s11:=.un) Y (due:=[chX v]) (hd:=0) (by exact Nat.succ_pos _) (by decide) h2 rfl
 have h9 : ∀ {s8 s9 : Sl},cev (lay 48) (.cmp (.var 7) .eq (.ite (.cmp2 (.lit (.int 0)) .le (.var 5) .le (.lit (.int 1114111))) (.bi .chr (.cons (.var 5) .nil)) (.lit (.str [65533])))) [.val (tupF d),.val (.str fl),.val (.int W),.val (.int P),.val (.str [d.so]),.val d.val,.val (.str d.word),.val (.str [chX v]),s8,s9,.un,.un] p = .ok (.bool true) p:=fun {s8 s9}=>by
  rw [hvv]
  refine e_cmp rfl (e_ite (z:=.str [chX v]) (b_cmp2 rfl rfl rfl rfl rfl) ?_) (eq_self _)
  unfold chX
  by_cases hr : 0 ≤ v ∧ v ≤ 1114111
  ·rw [if_pos hr,decide_eq_true hr.1,decide_eq_true hr.2]
   refine e_bi rfl ?_
   show (if 0 ≤ v ∧ v ≤ 1114111 then some (V.str [v.toNat]) else none) = _
   exact if_pos hr
  ·rw [if_neg hr]
   have : (decide (0 ≤ v) && decide (v ≤ 1114111)) = false:=by
    rw [Bool.and_eq_false_iff,decide_eq_false_iff_not,decide_eq_false_iff_not];lia
   rw [this];rfl
 exact ⟨vs',q_asgT rfl rfl (q_asg (ly_0 Y h0) (q_asg rfl (q_iff (b_cmp rfl rfl rfl) c1 (q_ift (b_cmp rfl rfl rfl) c2 (q_asg h9 rfl) rfl) (q_iff (c:=false) rfl rfl rfl (hP.trans ((ly_Q Y h1).trans hR))))))⟩
theorem hX_len (d : Fd) (fl : Tx) (v : Int) : (hX d fl v).length ≤ 3:=by
 have:=sX_len d fl v;have:=mX_len d v
 unfold hX
 rw [List.length_append]
 split <;> simp <;> lia
theorem ws_sc : ∀ so ∈ WSORTS,[115,99].contains so = false ∧ ([so] == [115]) = false ∧ ([so] == [99]) = false:=by decide
theorem ly_w (Y : Ly d fl W P) (hs : d.so ∈ WSORTS) (hvv : d.val = .int v) (ht : WhT d.word v) (hv : v.natAbs < 2 ^ 100) (hx : okX d v) (hP2 : P ≤ 20) : ∃ vs',csx (lay 48) fuel lyA [.val (tupF d),.val (.str fl),.val (.int W),.val (.int P),.un,.un,.un,.un,.un,.un,.un,.un] p = .ok (.ret (.bool true)) vs' p:=by
 refine gG fun P0 hP0=>?_
 obtain ⟨c0,c1,c2⟩:=ws_sc d.so hs
 refine hP0 ?_
 have w0:=Y.w0;have w1:=Y.w1;have hp1:=Y.p.1
 have lh:=hX_len d fl v
 have lg:=gX_len d v
 have h0:=fmt0 (fl:=fl) Y.ok hs ht hv hx
 have h1:=fmtW (fl:=fl) Y.ok hs ht hv hx (W:=0) (by decide) Y.p hP2
 have h2:=fmtW (fl:=fl) Y.ok hs ht hv hx Y.w1 Y.p hP2
 rw [pad_zero (by lia)] at h1
 have hm0 : mdX d fl v 0 P = if 0 ≤ P then hX d fl v ++ filN 48 (P - (gX d v).length) ++ gX d v else hX d fl v ++ gX d v:=by
  unfold mdX
  split
  ·rfl
  ·rw [fil_neg (n:=0 - (hX d fl v).length - (gX d v).length) (by lia),List.append_nil]
   split <;> rfl
 rw [hm0] at h1
 generalize hd1 : (if 0 ≤ P then hX d fl v ++ filN 48 (P - (gX d v).length) ++ gX d v else hX d fl v ++ gX d v) = due1 at h1
 have ff:=fil_len 48 (P - (gX d v).length)
 have l1 : due1.length ≤ 300:=by
  rw [← hd1]
  split <;> simp only [List.length_append] <;> lia
 have hP : ∀ {s9 s10 s11 : Sl},csx (lay 48) fuel lyP (lys d fl W P (hX d fl v ++ gX d v) (hX d fl v).length s9 s10 s11) p = csx (lay 48) fuel lyQ (lys d fl W P due1 (hX d fl v).length s9 s10 s11) p:=fun {s9 s10 s11}=>by
  have a1 : ∀ {c : Bool},(c && ([d.so] == [115])) = false:=fun {c}=>by rw [c1,Bool.and_false]
  by_cases hn : 0 ≤ P
  ·rw [if_pos hn] at hd1
   subst hd1
   refine q_iff (b_and (u:=[d.so] == [115]) (b_cmp rfl rfl rfl) fun Z=>b_cmp rfl rfl rfl) a1 (q_ift (b_and (u:=!([d.so] == [99])) (b_cmp rfl rfl rfl) fun Z=>b_cmp rfl rfl rfl) (by rw [decide_eq_true hn,c2];rfl) (q_asg (e_bin (z:=.str (hX d fl v ++ filN 48 (P - (gX d v).length) ++ gX d v)) (e_bin (z:=.str (hX d fl v ++ filN 48 (P - (gX d v).length))) (e_slc (w:=.str (hX d fl v)) rfl rfl rfl ((slc_lo (by lia)).trans (by rw [List.take_left'];rfl))) (e_bin (z:=.str (filN 48 (P - (gX d v).length))) rfl (e_bin (e_bin rfl rfl rfl) rfl rfl) ?_) (add_str (by lia) (by lia))) (e_slc (w:=.str (gX d v)) rfl rfl rfl ((slc_hi (by lia)).trans (by rw [List.drop_left'];rfl))) (add_str (by rw [List.length_append];lia) (by lia))) rfl) rfl) rfl
   have e : P - ((hX d fl v ++ gX d v).length : Nat) + (hX d fl v).length = P - (gX d v).length:=by rw [List.length_append];lia
   refine (mul_str (by rw [e];lia) (by rw [e];lia)).trans ?_
   rw [e,mulT_fil]
  ·rw [if_neg hn] at hd1
   subst hd1
   exact q_iff (b_and (u:=[d.so] == [115]) (b_cmp rfl rfl rfl) fun Z=>b_cmp rfl rfl rfl) a1 (q_iff (b_and (u:=!([d.so] == [99])) (b_cmp rfl rfl rfl) fun Z=>b_cmp rfl rfl rfl) (by rw [decide_eq_false hn];rfl) rfl rfl) rfl
 obtain ⟨vs',hR⟩:=ly_R (p:=p) (s9:=.val (.bool true)) (s10:=.un) (s11:=.un) Y (due:=due1) (hd:=(hX d fl v).length) l1 (by lia) h2 (by
  rw [c0,Bool.or_false]
  unfold mdX zf
  by_cases hn : 0 ≤ P
  ·rw [if_pos hn,if_pos hn,decide_eq_false (by lia),Bool.and_false,if_neg Bool.false_ne_true,← hd1,if_pos hn]
  ·rw [if_neg hn,if_neg hn,decide_eq_true (by lia),Bool.and_true,← hd1,if_neg hn]
   cases fl.contains 48 with
   | false=>rfl
   | true =>
    rw [if_pos rfl,if_pos rfl,if_pos rfl,if_neg Bool.false_ne_true,List.take_left',List.drop_left']
    ·have f2:=fil_len 48 (W - (hX d fl v).length - (gX d v).length)
     rw [pad_zero (by simp only [List.length_append];lia)]
     congr 3
     rw [List.length_append];lia
    ·rfl
    ·rfl)
 have h47:=fun s : Sl=>law_whole_L (L:=48) (p:=p) (fl:=fl) (by decide) Y.ok Y.val hvv hs ht hv hx Y.fo Y.fn
 exact ⟨vs',q_asgT rfl rfl (q_asg (ly_0 Y h0) (q_asg rfl (q_iff (b_cmp rfl rfl rfl) c1 (q_iff (b_cmp rfl rfl rfl) c2 (q_asgT (e_call rfl (h47 .un) rfl) rfl rfl) rfl) (q_iff (c:=false) rfl rfl rfl (hP.trans ((ly_Q Y h1).trans hR))))))⟩
theorem layers_L (h : 48 < L) (ok : FdOk d) (hval : ValOk d) {W0 P0 : Int} {t : Tx} (hw : wX d = .ok W0) (hp : pX d = .ok P0) (ht : fmtX d (flI d W0) (wI W0) (prI d P0) = .ok t) : lay L 48 [tupF d] p = .ok (.bool true) p:=by
 have em : measV d = .tup [.str (flI d W0),.int (wI W0),.int (prI d P0)]:=by unfold measV;rw [hw,hp];rfl
 have h44:=measures_L (p:=p) (L:=48) (by decide) ok
 rw [em] at h44
 obtain ⟨f1,f2⟩:=fl_ok ok W0
 have hW:=wI_bd ok hw
 have hP:=prI_pb ok hp
 have ht':=ht
 unfold fmtX at ht
 split at ht
 ·cases ht
 ·rename_i hW2
  have Y : Ly d (flI d W0) (wI W0) (prI d P0):=⟨ok,hval,f1,by lia,hW.1,by have:=hW.2;lia,hP⟩
  have key : ∃ vs',csx (lay 48) fuel lyA [.val (tupF d),.val (.str (flI d W0)),.val (.int (wI W0)),.val (.int (prI d P0)),.un,.un,.un,.un,.un,.un,.un,.un] p = .ok (.ret (.bool true)) vs' p:=by
   rcases hval with ⟨e,hv⟩ | ⟨e,v,hvv,hn,hv⟩ | ⟨hs,hv⟩ | hs
   ·exact ly_s Y e hv
   ·rcases hv with ⟨e2,hv⟩ | hv
    ·rw [e,(fld_of fun L p h=>c_L h hn Y.w1).1] at ht
     unfold fldC at ht
     rw [hv] at ht;cases ht
    ·exact ly_c Y e hvv hn hv
   ·rcases hv with ⟨v,hvv,hv,hwt⟩ | ⟨e,hb⟩
    ·rw [(fld_of fun L p h=>w_L h hs hwt hv Y.w1 hP).1] at ht
     unfold fldW whR at ht
     cases hu : ([soI d.so] == [117] && d.fs.sn == BIG && decide (v < 0)) with
     | true=>rw [hu,if_pos rfl] at ht;cases ht
     | false =>
      rw [hu,if_neg Bool.false_ne_true] at ht
      refine ly_w Y hs hvv hwt hv hu ?_
      unfold wfR at ht
      have:=hP.2
      by_cases hq : prI d P0 ≤ 20
      ·exact hq
      ·rw [if_pos (show 0 ≤ prI d P0 by lia),if_pos (show 2147483648 ≤ prI d P0 by lia)] at ht;cases ht
    ·rw [(fld_of fun L p h=>wb_L h hs hb).1] at ht;cases ht
   ·rw [(fld_of fun L p h=>b_L h hs).1] at ht;cases ht
  obtain ⟨vs',key⟩:=key
  exact def_ret h ⟨by decide,rfl⟩ rfl (q_asgT (e_call rfl h44 rfl) rfl key)
theorem field_right_L (h : 49 < L) (ok : FdOk d) (hv : ValOk d) : lay L 49 [tupF d] p = .ok (.bool true) p :=
 right_L h ok hv fun Z Z Z hw hp ht=>layers_L (by decide) ok hv hw hp ht
end
end
section
section
variable {L : Nat} {p : Int}
theorem q_setP {Γ : Gam} {n i : Nat} {vs : List Sl} {p1 q : Int} {R : RS} {e : CE} {k : CS} (hx : vs[i]? = some (.val .pen)) (h : cev Γ e vs p = .ok (.int q) p1) (hk : csx Γ n k vs q = R) : csx Γ n (.setP i e k) vs p = R:=sVe hx (bS h hk)
theorem draw_L (h : 33 < L) {m : Int} (hm : 0 < m ∧ m < 2 ^ 200) : lay L 33 [.pen,.int m] p = .ok (.int (p % m)) (p / m):=by
 have e1 : binV .mod (.int p) (.int m) = some (.int (p % m)):=if_pos hm
 have e2 : binV .fdiv (.int p) (.int m) = some (.int (p / m)):=if_pos hm
 exact def_ret h ⟨by decide,rfl⟩ rfl (q_asg (e_bin rfl rfl e1) (q_setP rfl (e_bin rfl rfl e2) (q_ret rfl)))
theorem m_ok {m : Int} (h0 : 0 < m) (h : m ≤ 73786976294838206464) : 0 < m ∧ m < 2 ^ 200:=⟨h0,Int.lt_of_le_of_lt h (by decide)⟩
theorem e_drawn {K : Nat} (hK : 33 < K) {vs : List Sl} {e : CE} {a m : Int} (hm : 0 < m ∧ m < 2 ^ 200) {i : Nat} (he : cev (lay K) e vs p = .ok (.int a) p) (h1 : vs[i]? = some (.val .pen)) : cev (lay K) (.bin .mod (.bin .add e (.call 33 (.cons (.var i) (.cons (.lit (.int m)) .nil)))) (.lit (.int m))) vs p = .ok (.int ((a + p % m) % m)) (p / m):=by
 have v1 : cev (lay K) (.var i) vs p = .ok .pen p:=e_var h1
 exact e_bin (e_bin he (e_call (e_cons v1 rfl) (draw_L hK hm) rfl) rfl) rfl (if_pos hm)
theorem mod_rng {a m : Int} (h : 0 < m) : 0 ≤ a % m ∧ a % m < m:=⟨Int.emod_nonneg _ (by lia),Int.emod_lt_of_pos _ h⟩
theorem pick {l : List V} {i : Int} (h : 0 ≤ i ∧ i < l.length) : ∃ x,x ∈ l ∧ ∀ q,itemV (.lst l) (.int i) q = some x:=by
 have hi : i.toNat < l.length:=by omega
 refine ⟨l[i.toNat],List.getElem_mem hi,fun q=>?_⟩
 show (if 0 ≤ i then l[i.toNat]? else none) = _
 rw [if_pos h.1,List.getElem?_eq_getElem hi]
theorem pickS {t : Tx} {i : Int} (h : 0 ≤ i ∧ i < t.length) : ∃ c,c ∈ t ∧ ∀ q,itemV (.str t) (.int i) q = some (.str [c]):=by
 have hi : i.toNat < t.length:=by omega
 refine ⟨t[i.toNat],List.getElem_mem hi,fun q=>?_⟩
 show (if 0 ≤ i then t[i.toNat]? else none).map _ = _
 rw [if_pos h.1,List.getElem?_eq_getElem hi];rfl
theorem pick_tx {l : List Tx} {i : Int} (h : 0 ≤ i ∧ i < l.length) : ∃ x,x ∈ l ∧ ∀ q,itemV (.lst (l.map .str)) (.int i) q = some (.str x):=by
 obtain ⟨v,hv,hq⟩:=pick (l:=l.map .str) (i:=i) (by rw [List.length_map];exact h)
 refine gG fun P0 hP0=>?_
 obtain ⟨x,hx,rfl⟩:=memM hv
 refine hP0 ?_
 exact ⟨x,hx,hq⟩
theorem star_L (h : 34 < L) (n : Int) : ∃ w ∈ STARS,∃ p',lay L 34 [.int n,.pen] p = .ok (.str w) p':=by
 obtain ⟨w,hw,hq⟩:=pick_tx (l:=STARS) (mod_rng (a:=n + p % 13) (m:=13) (by decide))
 exact ⟨w,hw,p / 13,def_ret h ⟨by decide,rfl⟩ rfl (q_asg (x:=.lst (STARS.map .str)) rfl (q_ret (cevX_of (e_item rfl (e_drawn (by decide) (m_ok (by decide) (by decide)) rfl rfl) (hq _)) rfl)))⟩
noncomputable def CVALS : List Int:=[65,233,37,128512,-1,1114111,1114112,0,4294967295,4294967296,-2147483648,-2147483649]
theorem cok_ok {v : Int} (h : ∀ p,stepG (lay 18) 18 [.str (itx v)] p = .ok (.int v) p) : COk (itx v) v:=by
 have hl : ∀ L p,18 < L → lay L 18 [.str (itx v)] p = .ok (.int v) p:=fun L p hL=>by rw [lay_at hL];exact h p
 have e : ni (itx v) = .ok v:=by unfold ni;rw [hl 50 0 (by decide)]
 exact ⟨fun L p hL=>by rw [e];exact hl L p hL,.inr e⟩
theorem cok_bad {v : Int} {e : EE} (h : ∀ p,stepG (lay 18) 18 [.str (itx v)] p = .exc e.1 e.2 p) : COk (itx v) v:=by
 have hl : ∀ L p,18 < L → lay L 18 [.str (itx v)] p = .exc e.1 e.2 p:=fun L p hL=>by rw [lay_at hL];exact h p
 have e' : ni (itx v) = .error e:=by unfold ni;rw [hl 50 0 (by decide)]
 exact ⟨fun L p hL=>by rw [e'];exact hl L p hL,.inl ⟨e,e'⟩⟩
noncomputable def eIO : EE:=([105,110,116,101,103,101,114,32,118,97,108,117,101,32,116,111,111,32,108,97,114,103,101,32,116,111,32,114,101,112,114,101,115,101,110,116],[[65,82,73,84,72],[73,79,86,69,82,70,76,79,87],[105,110,116,101,103,101,114,32,118,97,108,117,101,32,116,111,111,32,108,97,114,103,101,32,116,111,32,114,101,112,114,101,115,101,110,116]])
theorem cvals {v : Int} (h : v ∈ CVALS) : COk (itx v) v ∧ v.natAbs ≤ 4294967296:=by
 unfold CVALS at h
 simp only [List.mem_cons,List.not_mem_nil,or_false] at h
 rcases h with rfl | rfl | rfl | rfl | rfl | rfl | rfl | rfl | rfl | rfl | rfl | rfl
 ·exact ⟨cok_ok fun p=>by kernel_rfl,by decide⟩
 ·exact ⟨cok_ok fun p=>by kernel_rfl,by decide⟩
 ·exact ⟨cok_ok fun p=>by kernel_rfl,by decide⟩
 ·exact ⟨cok_ok fun p=>by kernel_rfl,by decide⟩
 ·exact ⟨cok_ok fun p=>by kernel_rfl,by decide⟩
 ·exact ⟨cok_ok fun p=>by kernel_rfl,by decide⟩
 ·exact ⟨cok_ok fun p=>by kernel_rfl,by decide⟩
 ·exact ⟨cok_ok fun p=>by kernel_rfl,by decide⟩
 ·exact ⟨cok_ok fun p=>by kernel_rfl,by decide⟩
 ·exact ⟨cok_bad (e:=eIO) fun p=>by kernel_rfl,by decide⟩
 ·exact ⟨cok_ok fun p=>by kernel_rfl,by decide⟩
 ·exact ⟨cok_bad (e:=eIO) fun p=>by kernel_rfl,by decide⟩
noncomputable def eNum (w : Tx) : EE:=([101,120,112,101,99,116,101,100,32,105,110,116,101,103,101,114,32,98,117,116,32,103,111,116,32,34] ++ w ++ [34],[[84,67,76],[86,65,76,85,69],[78,85,77,66,69,82]])
theorem bad4x : BadW [52,120]:=⟨eNum [52,120],fun L p h=>by rw [lay_at h];kernel_rfl⟩
theorem bad0 : BadW []:=⟨eNum [],fun L p h=>by rw [lay_at h];kernel_rfl⟩
noncomputable def BLS : List Tx:=[[],[32],[10]]
theorem wh_word {v : Int} {bl sg : Tx} (hv : v.natAbs < 2 ^ 100) (hb : bl ∈ BLS) (hs : sg = [] ∨ (sg = [43] ∧ 0 ≤ v)) : WhT (bl ++ sg ++ itx v ++ bl) v ∧ (bl ++ sg ++ itx v ++ bl).length ≤ 300:=by
 have h200 : v.natAbs < 2 ^ 200:=Nat.lt_trans hv (by decide)
 have hbl : (∀ x ∈ bl,isBl x = true) ∧ (bl = [] ∨ ∃ b,bl = [b] ∧ isBl b = true) ∧ bl.length ≤ 1:=by
  unfold BLS at hb
  simp only [List.mem_cons,List.not_mem_nil,or_false] at hb
  rcases hb with rfl | rfl | rfl
  ·exact ⟨fun x hx=>(by exact nM hx),.inl rfl,by decide⟩
  ·exact ⟨by decide,.inr ⟨_,rfl,rfl⟩,by decide⟩
  ·exact ⟨by decide,.inr ⟨_,rfl,rfl⟩,by decide⟩
 obtain ⟨hb1,hb2,hb3⟩:=hbl
 have hsl : sg.length ≤ 1:=by rcases hs with rfl | ⟨rfl,_⟩ <;> decide
 have hdl:=@dgN_len 10 false v.natAbs
 obtain ⟨c,t,ed,hc⟩:=dgN_head (up:=false) (b:=10) (by decide) (by decide) h200
 have hval:=dgN_val (up:=false) (b:=10) (by decide) (by decide) h200
 have hlen : (bl ++ sg ++ itx v ++ bl).length ≤ 300:=by
  rw [itx_eq h200]
  simp only [List.length_append]
  split <;> simp <;> lia
 refine ⟨?_,hlen⟩
 have hg : ∀ c ∈ dgN 10 false v.natAbs,0 ≤ digI c ∧ digI c < 10:=dig_range (dg10_dig _)
 have hmk : (([] : Tx) = [] ∧ (10 : Int) = 10 ∧ ((dgN 10 false v.natAbs).length ≤ 2 ∨ ∀ c t,dgN 10 false v.natAbs = c :: t → c ≠ 48)):=by
  refine ⟨rfl,rfl,?_⟩
  by_cases h0 : v.natAbs = 0
  ·rw [h0];exact .inl (by decide)
  ·refine .inr fun c' t' e=>?_
   rw [ed] at e;obtain ⟨rfl,rfl⟩:=cI e;exact hc h0
 have hv10 : dv 10 (dgN 10 false v.natAbs) 0 = (v.natAbs : Int):=hval
 by_cases h0 : v < 0
 ·have e0 : sg = []:=by rcases hs with h | ⟨_,h⟩;exact h;lia
  refine ⟨bl,[45],[],dgN 10 false v.natAbs,bl,10,?_,?_,hb1,hb2,.inr (.inr rfl),by rw [ed];simp,hg,by lia,.inl hmk⟩
  ·rw [itx_eq h200,if_pos h0,e0];simp
  ·rw [if_pos rfl,hv10];lia
 ·refine ⟨bl,sg,[],dgN 10 false v.natAbs,bl,10,?_,?_,hb1,hb2,?_,by rw [ed];simp,hg,by lia,.inl hmk⟩
  ·rw [itx_eq h200,if_neg h0];simp
  ·rw [if_neg (by rcases hs with rfl | ⟨rfl,_⟩ <;> simp),hv10];lia
  ·rcases hs with h | ⟨h,_⟩
   ·exact .inl h
   ·exact .inr (.inl h)
noncomputable def VOk (so : Nat) (val : V) (word : Tx) : Prop:=word.length ≤ 300 ∧ ((so = 115 ∧ val = .str word) ∨ (so = 99 ∧ ∃ v,val = .int v ∧ COk word v) ∨ (so ≠ 115 ∧ so ≠ 99 ∧ ((∃ v,A3 (val = .int v) (v.natAbs < 2 ^ 100) (WhT word v)) ∨ BadW word) ∧ noX val p = .ok val p))
noncomputable def SVALS : List Tx:=[[97,98,32,99,100,101],[],[233,37,100],[123,97],[49,50,51,52,53,54,55,56,57,48,49,50,51,52,53,54,55,56,57,48],[120]]
noncomputable def WVALS : List Int:=[0,255,-1,-32769,9223372036854775808,18446744073709551626,-9223372036854775809,40000,7,65536]
theorem svals_len : ∀ t ∈ SVALS,t.length ≤ 300:=by decide
theorem wvals_bd : ∀ v ∈ WVALS,v.natAbs ≤ 18446744073709551626:=by decide
theorem two66 : binV .pow (.int 2) (.int 66) = some (.int 73786976294838206464):=rfl
theorem value_L (h : 35 < L) (so : Nat) (n : Int) : Ex3 fun val word p'=>lay L 35 [.str [so],.int n,.pen] p = .ok (.tup [val,.str word]) p' ∧ VOk (p:=p) so val word:=by
 have ht : ∀ {vs : List Sl},vs[1]? = some (.val (.int n)) → vs[2]? = some (.val .pen) → cev (lay 35) (.bin .add (.var 1) (.call 33 (.cons (.var 2) (.cons (.lit (.int 12)) .nil)))) vs p = .ok (.int (n + p % 12)) (p / 12):=fun {vs} h1 h2=>by
  have v1 : cev (lay 35) (.var 1) vs p = .ok (.int n) p:=e_var h1
  have v2 : cev (lay 35) (.var 2) vs p = .ok .pen p:=e_var h2
  exact e_bin v1 (e_call (e_cons v2 rfl) (draw_L (by decide) (m_ok (by decide) (by decide))) rfl) rfl
 generalize n + p % 12 = u at ht
 generalize p / 12 = p1 at ht
 have hmod : ∀ {m : Int},(0 < m ∧ m < 2 ^ 200) → ∀ {q : Int} {vs : List Sl},vs[3]? = some (.val (.int u)) → cev (lay 35) (.bin .mod (.var 3) (.lit (.int m))) vs q = .ok (.int (u % m)) q:=fun {m} hm {q vs} h3=>by
  have v3 : cev (lay 35) (.var 3) vs q = .ok (.int u) q:=e_var h3
  exact e_bin v3 rfl (if_pos hm)
 cases h1 : ([so] == [115]) with
 | true =>
  have e : so = 115:=by have:=eq_of_beq h1;injection this
  refine gG fun P0 hP0=>?_
  obtain ⟨w,hw,hq⟩:=pick_tx (l:=SVALS) (mod_rng (a:=u) (m:=6) (by decide))
  refine hP0 ?_
  exact ⟨.str w,w,p1,def_ret h ⟨by decide,rfl⟩ rfl (q_asg (ht rfl rfl) (q_itr (b_cmp rfl rfl rfl) h1 (q_asg (e_item (x:=.lst (SVALS.map .str)) rfl (hmod (m_ok (by decide) (by decide)) rfl) (hq _)) (q_ret rfl)) fun Z=>rfl)),svals_len w hw,.inl ⟨e,rfl⟩⟩
 | false =>
  have n1 : so ≠ 115:=fun q=>by rw [q] at h1;exact tF h1
  cases h2 : ([so] == [99]) with
  | true =>
   have e : so = 99:=by have:=eq_of_beq h2;injection this
   refine gG fun P0 hP0=>?_
   obtain ⟨x,hx,hq⟩:=pick (l:=CVALS.map .int) (mod_rng (a:=u) (m:=12) (by decide))
   obtain ⟨v,hv,rfl⟩:=memM hx
   obtain ⟨c1,c2⟩:=cvals hv
   refine hP0 ?_
   have hs : biV .str [.int v] = some (.str (itx v)):=str_int (small100 c2)
   have hl : (itx v).length ≤ 300:=by
    rw [itx_eq (Nat.lt_trans (small100 c2) (by decide))]
    have:=@dgN_len 10 false v.natAbs
    split <;> simp <;> lia
   exact ⟨.int v,itx v,p1,def_ret h ⟨by decide,rfl⟩ rfl (q_asg (ht rfl rfl) (q_iff (b_cmp rfl rfl rfl) h1 rfl (q_itr (b_cmp rfl rfl rfl) h2 (q_asg (e_item (x:=.lst (CVALS.map .int)) (by rfl) (hmod (m_ok (by decide) (by decide)) rfl) (hq _)) (q_ret (cevX_of (e_tup (e_cons rfl (e_cons (e_bi rfl hs) rfl)) (by simp)) rfl))) fun Z=>rfl))),hl,.inr (.inl ⟨e,v,rfl,c1⟩)⟩
  | false =>
   have n2 : so ≠ 99:=fun q=>by rw [q] at h2;exact tF h2
   by_cases h9 : 9 < u % 12
   ·refine gG fun P0 hP0=>?_
    obtain ⟨w,hw,hq⟩:=pick_tx (l:=[[52,120],[]]) (mod_rng (a:=u) (m:=2) (by decide))
    refine hP0 ?_
    have hb : BadW w ∧ w.length ≤ 300:=by
     simp only [List.mem_cons,List.not_mem_nil,or_false] at hw
     rcases hw with rfl | rfl
     ·exact ⟨bad4x,by decide⟩
     ·exact ⟨bad0,by decide⟩
    exact ⟨.none,w,p1,def_ret h ⟨by decide,rfl⟩ rfl (q_asg (ht rfl rfl) (q_iff (b_cmp rfl rfl rfl) h1 rfl (q_iff (b_cmp rfl rfl rfl) h2 rfl (q_itr (b_cmp (hmod (m_ok (by decide) (by decide)) rfl) rfl rfl) (decide_eq_true h9) (q_ret (cevX_of (e_tup (e_cons rfl (e_cons (e_item (x:=.lst ([[52,120],[]].map .str)) rfl (hmod (m_ok (by decide) (by decide)) rfl) (hq _)) rfl)) (by simp)) rfl)) fun Z=>rfl)))),hb.2,.inr (.inr ⟨n1,n2,.inr hb.1,rfl⟩)⟩
   ·obtain ⟨x,hx,hq⟩:=pick (l:=WVALS.map .int) (i:=u % 12) ⟨(mod_rng (by decide)).1,by show u % 12 < 10;lia⟩
    refine gG fun P0 hP0=>?_
    obtain ⟨v0,hv0,rfl⟩:=memM hx
    refine hP0 ?_
    have b0:=wvals_bd v0 hv0
    have hfar : ∀ {a0 a1 a3 a4 a6 : Sl},cev (lay 35) (.call 33 (.cons (.var 2) (.cons (.bin .pow (.lit (.int 2)) (.lit (.int 66))) .nil))) [a0,a1,.val .pen,a3,a4,.un,a6] p1 = .ok (.int (p1 % 73786976294838206464)) (p1 / 73786976294838206464):=fun {a0 a1 a3 a4 a6} =>
     e_call (e_cons rfl (e_cons (e_bin rfl rfl two66) rfl)) (draw_L (by decide) (m_ok (by decide) (by decide))) rfl
    have hfr:=mod_rng (a:=p1) (m:=73786976294838206464) (by decide)
    generalize p1 % 73786976294838206464 = far at hfar hfr
    generalize p1 / 73786976294838206464 = p2 at hfar
    have hdr : ∀ {m : Int},(0 < m ∧ m < 2 ^ 200) → ∀ {q : Int} {a0 a1 a3 a4 a5 a6 : Sl},cev (lay 35) (.call 33 (.cons (.var 2) (.cons (.lit (.int m)) .nil))) [a0,a1,.val .pen,a3,a4,a5,a6] q = .ok (.int (q % m)) (q / m):=fun {m} hm {q a0 a1 a3 a4 a5 a6}=>e_call rfl (draw_L (by decide) hm) rfl
    have hsum : ∃ v : Int,v.natAbs < 2 ^ 100 ∧ ∀ {a0 a1 a3 a6 : Sl},∀ {K : CS},csx (lay 35) fuel (.ifs (.cmp (.call 33 (.cons (.var 2) (.cons (.lit (.int 2)) .nil))) .eq (.lit (.int 1))) (.asg 4 (.bin .sub (.var 4) (.var 5)) .done) (.asg 4 (.bin .add (.var 4) (.var 5)) .done) K) [a0,a1,.val .pen,a3,.val (.int v0),.val (.int far),a6] p2 = csx (lay 35) fuel K [a0,a1,.val .pen,a3,.val (.int v),.val (.int far),a6] (p2 / 2):=by
     have hB : (100000000000000000000 : Nat) < 2 ^ 100:=by decide
     cases hc : (p2 % 2 == 1) with
     | true=>exact ⟨v0 - far,by lia,fun {a0 a1 a3 a6 K}=>q_ift (b_cmp (hdr (m_ok (by decide) (by decide))) rfl rfl) hc (q_asg (e_bin rfl rfl rfl) rfl) rfl⟩
     | false=>exact ⟨v0 + far,by lia,fun {a0 a1 a3 a6 K}=>q_iff (b_cmp (hdr (m_ok (by decide) (by decide))) rfl rfl) hc (q_asg (e_bin rfl rfl rfl) rfl) rfl⟩
    refine gG fun P0 hP0=>?_
    obtain ⟨v,hv,hsum⟩:=hsum
    obtain ⟨bl,hbl,hqb⟩:=pick_tx (l:=BLS) (mod_rng (a:=p2 / 2) (m:=3) (by decide))
    refine hP0 ?_
    have hsg : ∃ sg : Tx,(sg = [] ∨ (sg = [43] ∧ 0 ≤ v)) ∧ ∀ {q : Int} {a0 a1 a2 a3 a5 : Sl},cev (lay 35) (.ite (.and (.cmp (.var 4) .gt (.lit (.int 9))) (.cmp (.var 6) .eq (.lit (.str [32])))) (.lit (.str [43])) (.lit (.str []))) [a0,a1,a2,a3,.val (.int v),a5,.val (.str bl)] q = .ok (.str sg) q:=by
     cases hc : (decide (9 < v) && bl == [32]) with
     | true =>
      have h9v : 9 < v:=by rw [Bool.and_eq_true,decide_eq_true_eq] at hc;exact hc.1
      exact ⟨[43],.inr ⟨rfl,by lia⟩,fun {q a0 a1 a2 a3 a5}=>e_ite (b_and (u:=bl == [32]) (b_cmp rfl rfl rfl) fun Z=>b_cmp rfl rfl rfl) (by rw [hc];rfl)⟩
     | false=>exact ⟨[],.inl rfl,fun {q a0 a1 a2 a3 a5}=>e_ite (b_and (u:=bl == [32]) (b_cmp rfl rfl rfl) fun Z=>b_cmp rfl rfl rfl) (by rw [hc];rfl)⟩
    refine gG fun P0 hP0=>?_
    obtain ⟨sg,hsg,hesg⟩:=hsg
    obtain ⟨wt,wl⟩:=wh_word hv hbl hsg
    refine hP0 ?_
    have lb : bl.length ≤ 300 ∧ (bl ++ sg).length ≤ 300 ∧ (bl ++ sg ++ itx v).length ≤ 300 ∧ sg.length ≤ 300 ∧ (itx v).length ≤ 300:=by simp only [List.length_append] at wl ⊢;lia
    exact ⟨.int v,bl ++ sg ++ itx v ++ bl,p2 / 2 / 3,def_ret h ⟨by decide,rfl⟩ rfl (q_asg (ht rfl rfl) (q_iff (b_cmp rfl rfl rfl) h1 rfl (q_iff (b_cmp rfl rfl rfl) h2 rfl (q_iff (b_cmp (hmod (m_ok (by decide) (by decide)) rfl) rfl rfl) (decide_eq_false h9) rfl (q_asg (e_item (x:=.lst (WVALS.map .int)) (by rfl) (hmod (m_ok (by decide) (by decide)) rfl) (hq _)) (q_asg hfar (hsum.trans (q_asg (e_item (x:=.lst (BLS.map .str)) rfl (hdr (m_ok (by decide) (by decide))) (hqb _)) (q_ret (cevX_of (e_tup (e_cons rfl (e_cons (e_bin (e_bin (e_bin rfl hesg (add_str (by lia) (by lia))) (e_bi rfl (str_int hv)) (add_str (by lia) (by lia))) rfl (add_str (by lia) (by lia))) rfl)) (by simp)) rfl)))))))))),wl,.inr (.inr ⟨n1,n2,.inl ⟨v,rfl,hv,wt⟩,rfl⟩)⟩
end
end
section
section
variable {L : Nat} {p : Int}
theorem e_cmpr {Γ : Gam} {j : Nat} {n elt cnd : CE} {vs : List Sl} {m : Int} {l : List V} (hn : cev Γ n vs p = .ok (.int m) p) (hm : 0 ≤ m ∧ m ≤ 1000) (hc : cmprL (fun i=>(okO (cevB Γ0 cnd (vs.set j (.val (.int i))) p)).bind fun c=>if c then ((okO (cev Γ0 elt (vs.set j (.val (.int i))) p)).bind flatV).map some else some .none) (ranI m) = some l) : cev Γ (.cmpr j n elt cnd) vs p = .ok (.lst l) p:=by
 refine bE hn (iP hm ?_)
 show RE.ofO ((cmprL (fun i=>(okO (cevB Γ0 cnd (vs.set j (.val (.int i))) p)).bind fun c=>if c then ((okO (cev Γ0 elt (vs.set j (.val (.int i))) p)).bind flatV).map some else some .none) (ranI m)).map V.lst) p = _
 rw [hc];rfl
theorem cmprL_sel {f : Int → Option (Option V)} {g : Int → Bool × Nat} : ∀ l : List Int,(∀ i ∈ l,f i = some (if (g i).1 then some (.str [(g i).2]) else none)) → ∃ t : Tx,cmprL f l = some (sgs t) ∧ (∀ c ∈ t,∃ i ∈ l,c = (g i).2) ∧ t.length ≤ l.length
 | [],_=>⟨[],rfl,fun c hc=>(by cases hc),Nat.le_refl _⟩
 | i :: r,h=>by
  obtain ⟨t,e1,e2,e3⟩:=cmprL_sel r fun j hj=>h j (List.mem_cons_of_mem _ hj)
  have hi:=h i List.mem_cons_self
  cases hg : (g i).1 with
  | true =>
   rw [hg,if_pos rfl] at hi
   refine ⟨(g i).2 :: t,?_,fun c hc=>?_,by rw [List.length_cons,List.length_cons];lia⟩
   ·rw [cmprL,hi,e1];rfl
   ·rcases memc hc with rfl | hc
    ·exact ⟨i,List.mem_cons_self,rfl⟩
    ·obtain ⟨j,hj,e⟩:=e2 c hc
     exact ⟨j,List.mem_cons_of_mem _ hj,e⟩
  | false =>
   rw [hg,if_neg Bool.false_ne_true] at hi
   refine ⟨t,?_,fun c hc=>?_,by rw [List.length_cons];lia⟩
   ·rw [cmprL,hi,e1];rfl
   ·obtain ⟨j,hj,e⟩:=e2 c hc
    exact ⟨j,List.mem_cons_of_mem _ hj,e⟩
noncomputable def flE : CE:=.item (.lit (.str [45,43,32,48,35])) (.var 15)
noncomputable def flC : CE:=.cmp (.bin .mod (.bin .fdiv (.var 3) (.bin .pow (.lit (.int 2)) (.var 15))) (.lit (.int 2))) .eq (.lit (.int 1))
noncomputable def flG (m i : Int) : Bool × Nat:=(m / 2 ^ i.toNat % 2 == 1,[45,43,32,48,35].getD i.toNat 0)
theorem mod_int {a m : Int} (hm : 0 < m ∧ m < 2 ^ 200) : binV .mod (.int a) (.int m) = some (.int (a % m)):=if_pos hm
theorem fl_C {m i : Int} {a0 a1 a2 a4 a5 a6 a7 a8 a9 a10 a11 a12 a13 a14 : Sl} (h : i ∈ [0,1,2,3,4]) : ((okO (cevB Γ0 flC [a0,a1,a2,.val (.int m),a4,a5,a6,a7,a8,a9,a10,a11,a12,a13,a14,.val (.int i)] p)).bind fun c=>if c then ((okO (cev Γ0 flE [a0,a1,a2,.val (.int m),a4,a5,a6,a7,a8,a9,a10,a11,a12,a13,a14,.val (.int i)] p)).bind flatV).map some else some .none) = some (if (flG m i).1 then some (.str [(flG m i).2]) else none):=by
 have hb : i = 0 ∨ i = 1 ∨ i = 2 ∨ i = 3 ∨ i = 4:=by simpa using h
 have key : ∀ {e : Int},0 < e ∧ e < 2 ^ 200 → binV .pow (.int 2) (.int i) = some (.int e) → cevB Γ0 flC [a0,a1,a2,.val (.int m),a4,a5,a6,a7,a8,a9,a10,a11,a12,a13,a14,.val (.int i)] p = .ok (m / e % 2 == 1) p:=fun {e} he hp =>
  b_cmp (e_bin (e_bin rfl (e_bin rfl rfl hp) (if_pos he)) rfl (mod_int (m_ok (by decide) (by decide)))) rfl rfl
 rcases hb with rfl | rfl | rfl | rfl | rfl
 ·rw [key (e:=1) (m_ok (by decide) (by decide)) rfl];show (if _ then _ else _) = some (if (m / 1 % 2 == 1) then _ else _);cases (m / 1 % 2 == 1) <;> rfl
 ·rw [key (e:=2) (m_ok (by decide) (by decide)) rfl];show (if _ then _ else _) = some (if (m / 2 % 2 == 1) then _ else _);cases (m / 2 % 2 == 1) <;> rfl
 ·rw [key (e:=4) (m_ok (by decide) (by decide)) rfl];show (if _ then _ else _) = some (if (m / 4 % 2 == 1) then _ else _);cases (m / 4 % 2 == 1) <;> rfl
 ·rw [key (e:=8) (m_ok (by decide) (by decide)) rfl];show (if _ then _ else _) = some (if (m / 8 % 2 == 1) then _ else _);cases (m / 8 % 2 == 1) <;> rfl
 ·rw [key (e:=16) (m_ok (by decide) (by decide)) rfl];show (if _ then _ else _) = some (if (m / 16 % 2 == 1) then _ else _);cases (m / 16 % 2 == 1) <;> rfl
theorem ran5 : ranI 5 = [0,1,2,3,4]:=rfl
theorem fl_isFl : ∀ i ∈ ([0,1,2,3,4] : List Int),∀ m : Int,isFl (flG m i).2 = true:=by
 intro i hi m
 have hb : i = 0 ∨ i = 1 ∨ i = 2 ∨ i = 3 ∨ i = 4:=by simpa using hi
 rcases hb with rfl | rfl | rfl | rfl | rfl <;> rfl
theorem flags_L (m p : Int) (a0 a1 a2 : Sl) : ∃ fl : Tx,A3 (∀ c ∈ fl,isFl c = true) (fl.length ≤ 6) (cev (lay 36) (.meth .join (.lit (.str [])) (.cons (.cmpr 15 (.lit (.int 5)) flE flC) .nil)) [a0,a1,a2,.val (.int m),.un,.un,.un,.un,.un,.un,.un,.un,.un,.un,.un,.un] p = .ok (.str fl) p):=by
 obtain ⟨t,e1,e2,e3⟩:=cmprL_sel (g:=flG m) (ranI 5) fun i hi=>fl_C (p:=p) (m:=m) (a0:=a0) (a1:=a1) (a2:=a2) (a4:=.un) (a5:=.un) (a6:=.un) (a7:=.un) (a8:=.un) (a9:=.un) (a10:=.un) (a11:=.un) (a12:=.un) (a13:=.un) (a14:=.un) (by rw [ran5] at hi;exact hi)
 have hl : (ranI 5).length = 5:=rfl
 rw [hl] at e3
 refine ⟨t,fun c hc=>?_,by lia,e_meth rfl (e_cons (e_cmpr (l:=sgs t) rfl (by decide) e1) rfl) ?_⟩
 ·obtain ⟨i,hi,rfl⟩:=e2 c hc
  exact fl_isFl i (by rw [ran5] at hi;exact hi) m
 ·show ((strsOf (sgs t)).bind fun l=>if l.flatten.length ≤ SZ then some (V.str l.flatten) else .none) = _
  rw [strs_sgs]
  show (if (t.map fun c=>[c]).flatten.length ≤ SZ then some (V.str (t.map fun c=>[c]).flatten) else .none) = _
  rw [flat_one,if_pos (by unfold SZ;lia)]
noncomputable def LITS : List Tx:=[[],[97],[49,48,48,37,37,32],[32,98],[233,37,37]]
noncomputable def SHOWNS : List Tx:=[[],[97],[49,48,48,37,32],[32,98],[233,37]]
theorem lits {i : Int} (h : 0 ≤ i ∧ i < 5) : ∃ lit shown,(∀ q,itemV (.lst (LITS.map .str)) (.int i) q = some (.str lit)) ∧ (∀ q,itemV (.lst (SHOWNS.map .str)) (.int i) q = some (.str shown)) ∧ LitOk lit shown ∧ lit.length ≤ 10 ∧ shown.length ≤ 10:=by
 have : i = 0 ∨ i = 1 ∨ i = 2 ∨ i = 3 ∨ i = 4:=by lia
 rcases this with rfl | rfl | rfl | rfl | rfl
 ·exact ⟨[],[],fun Z=>rfl,fun Z=>rfl,.inl ⟨by decide,rfl⟩,by decide,by decide⟩
 ·exact ⟨[97],[97],fun Z=>rfl,fun Z=>rfl,.inl ⟨by decide,rfl⟩,by decide,by decide⟩
 ·exact ⟨[49,48,48,37,37,32],[49,48,48,37,32],fun Z=>rfl,fun Z=>rfl,.inr ⟨[49,48,48],[32],rfl,rfl,by decide,by decide⟩,by decide,by decide⟩
 ·exact ⟨[32,98],[32,98],fun Z=>rfl,fun Z=>rfl,.inl ⟨by decide,rfl⟩,by decide,by decide⟩
 ·exact ⟨[233,37,37],[233,37],fun Z=>rfl,fun Z=>rfl,.inr ⟨[233],[],rfl,rfl,by decide,by decide⟩,by decide,by decide⟩
theorem sorts_split : ∀ so ∈ SORTS,so ≠ 115 → so ≠ 99 → so ∈ WSORTS ∨ so ∈ BSORTS:=by decide
set_option maxHeartbeats 4000000 in
theorem field_L (h : 36 < L) (a0 a1 a2 a3 a4 a5 a6 a7 a8 : Int) : Ex2 fun d p'=>A3 (lay L 36 [.tup [.int a0,.int a1,.int a2,.int a3,.int a4,.int a5,.int a6,.int a7,.int a8],.pen] p = .ok (tupF d) p') (FdOk d) (ValOk d):=by
 generalize ht : V.tup [.int a0,.int a1,.int a2,.int a3,.int a4,.int a5,.int a6,.int a7,.int a8] = T
 have hd : ∀ (k m a : Int),(0 < m ∧ m < 2 ^ 200) → (∀ q,itemV T (.int k) q = some (.int a)) → ∀ (q : Int) {vs : List Sl},vs[0]? = some (.val T) → vs[1]? = some (.val .pen) → cev (lay 36) (.bin .mod (.bin .add (.item (.var 0) (.lit (.int k))) (.call 33 (.cons (.var 1) (.cons (.lit (.int m)) .nil)))) (.lit (.int m))) vs q = .ok (.int ((a + q % m) % m)) (q / m):=fun k m a hm hi q {vs} h0 h1=>by
  have v0 : cev (lay 36) (.var 0) vs q = .ok T q:=e_var h0
  exact e_drawn (by decide) hm (e_item v0 rfl (hi q)) h1
 have hT : ∀ {q : Int},itemV T (.int 0) q = some (.int a0) ∧ itemV T (.int 1) q = some (.int a1) ∧ itemV T (.int 2) q = some (.int a2) ∧ itemV T (.int 3) q = some (.int a3) ∧ itemV T (.int 4) q = some (.int a4) ∧ itemV T (.int 5) q = some (.int a5) ∧ itemV T (.int 6) q = some (.int a6) ∧ itemV T (.int 7) q = some (.int a7) ∧ itemV T (.int 8) q = some (.int a8):=fun {q}=>by subst ht;exact ⟨rfl,rfl,rfl,rfl,rfl,rfl,rfl,rfl,rfl⟩
 clear ht
 have s2:=fun {vs}=>hd 0 5 a0 (m_ok (by decide) (by decide)) (fun q=>hT.1) p (vs:=vs)
 obtain ⟨lit,shown,hl1,hl2,hlit⟩:=lits (mod_rng (a:=a0 + p % 5) (m:=5) (by decide))
 generalize (a0 + p % 5) % 5 = i2 at s2 hl1 hl2
 generalize p / 5 = p2 at s2
 have s3:=fun {vs}=>hd 1 32 a1 (m_ok (by decide) (by decide)) (fun q=>hT.2.1) p2 (vs:=vs)
 generalize (a1 + p2 % 32) % 32 = i3 at s3
 generalize p2 / 32 = p3 at s3
 obtain ⟨fl,hfl,hfn,s4⟩:=flags_L i3 p3 (.val T) (.val .pen) (.val (.int i2))
 have s5:=fun {vs}=>hd 2 5 a2 (m_ok (by decide) (by decide)) (fun q=>hT.2.2.1) p3 (vs:=vs)
 obtain ⟨wt,hwt,q5⟩:=pick_tx (l:=WTS) (mod_rng (a:=a2 + p3 % 5) (m:=5) (by decide))
 generalize (a2 + p3 % 5) % 5 = i5 at s5 q5
 generalize p3 / 5 = p5 at s5
 obtain ⟨ww,hww,p6,s6⟩:=star_L (L:=36) (p:=p5) (by decide) a3
 have s7:=fun {vs}=>hd 4 6 a4 (m_ok (by decide) (by decide)) (fun q=>hT.2.2.2.2.1) p6 (vs:=vs)
 obtain ⟨pt,hpt,q7⟩:=pick_tx (l:=PTS) (mod_rng (a:=a4 + p6 % 6) (m:=6) (by decide))
 generalize (a4 + p6 % 6) % 6 = i7 at s7 q7
 generalize p6 / 6 = p7 at s7
 obtain ⟨pw,hpw,p8,s8⟩:=star_L (L:=36) (p:=p7) (by decide) a5
 have s9:=fun {vs}=>hd 6 9 a6 (m_ok (by decide) (by decide)) (fun q=>hT.2.2.2.2.2.2.1) p8 (vs:=vs)
 obtain ⟨sz,hsz,q9⟩:=pick_tx (l:=SIZES) (mod_rng (a:=a6 + p8 % 9) (m:=9) (by decide))
 generalize (a6 + p8 % 9) % 9 = i9 at s9 q9
 generalize p8 / 9 = p9 at s9
 have s10:=fun {vs}=>hd 7 13 a7 (m_ok (by decide) (by decide)) (fun q=>hT.2.2.2.2.2.2.2.1) p9 (vs:=vs)
 obtain ⟨so,hso,q10⟩:=pickS (t:=SORTS) (mod_rng (a:=a7 + p9 % 13) (m:=13) (by decide))
 generalize (a7 + p9 % 13) % 13 = i10 at s10 q10
 generalize p9 / 13 = p10 at s10
 obtain ⟨val,word,p11,s11,hv⟩:=value_L (L:=36) (p:=p10) (by decide) so a8
 refine ⟨⟨lit,shown,fl,wt,ww,pt,pw,sz,so,val,word⟩,p11,def_ret h ⟨by decide,rfl⟩ rfl (q_asg (s2 rfl rfl) (q_asg (s3 rfl rfl) (q_asg s4 (q_asg (e_item (x:=.lst (WTS.map .str)) rfl (s5 rfl rfl) (q5 _)) (q_asg (e_call (e_cons (e_item rfl rfl hT.2.2.2.1) rfl) s6 rfl) (q_asg (e_item (x:=.lst (PTS.map .str)) rfl (s7 rfl rfl) (q7 _)) (q_asg (e_call (e_cons (e_item rfl rfl hT.2.2.2.2.2.1) rfl) s8 rfl) (q_asg (e_item (x:=.lst (SIZES.map .str)) rfl (s9 rfl rfl) (q9 _)) (q_asg (e_item (x:=.str SORTS) rfl (s10 rfl rfl) (q10 _)) (q_asgT (e_call (e_cons rfl (e_cons (e_item rfl rfl hT.2.2.2.2.2.2.2.2) rfl)) s11 rfl) rfl (q_asg (e_item (x:=.lst (LITS.map .str)) rfl rfl (hl1 _)) (q_asg (e_item (x:=.lst (SHOWNS.map .str)) rfl rfl (hl2 _)) (q_ret rfl))))))))))))),⟨hlit,hfl,hfn,hwt,hpt,hsz,hso,stars hww,stars hpw,hv.1⟩,?_⟩
 rcases hv.2 with ⟨e,hv⟩ | ⟨e,hv⟩ | ⟨n1,n2,hv,_⟩
 ·exact .inl ⟨e,hv⟩
 ·exact .inr (.inl ⟨e,hv⟩)
 ·rcases sorts_split so hso n1 n2 with hs | hs
  ·exact .inr (.inr (.inl ⟨hs,hv⟩))
  ·exact .inr (.inr (.inr hs))
end
end
section
section
variable {L : Nat} {p : Int}
theorem chain0_len : ∀ (l : List (Fd × List Tx)) (s t : Tx),AllOk l → Cut l → chain0 s l = .ok t → t.length ≤ s.length + 2000 * l.length
 | [],s,t,_,_,h=>by obtain rfl:=Except.ok.inj h;simp
 | (d,ws) :: r,s,t,hok,hcut,h=>by
  obtain ⟨ok,hfd⟩:=hok (d,ws) List.mem_cons_self
  dsimp only at ok hfd
  unfold chain0 at h
  cases hx : putR d.fs ws false with
  | error e=>rw [hx] at h;cases h
  | ok u =>
   rw [hx] at h
   have h1:=putR_len ok hfd (ext_cut hcut.2) hx
   have h2:=ok.lit.2.2
   have:=chain0_len r _ t (fun x hx=>hok x (List.mem_cons_of_mem _ hx)) hcut.1 h
   rw [List.length_cons]
   simp only [List.length_append] at this
   lia
theorem chain_len {l : List (Fd × List Tx)} {t : Tx} (hok : AllOk l) (hcut : Cut l) (hl : l.length ≤ 10) (h : chain [] l = .ok t) : t.length ≤ SZ:=by
 unfold chain at h
 cases hc : chain0 [] l with
 | error e=>rw [hc] at h;cases h
 | ok u =>
  rw [hc] at h;obtain rfl:=Except.ok.inj h
  have:=chain0_len l [] u hok hcut hc
  rw [List.length_append]
  unfold SZ
  simp at this ⊢
  lia
theorem noX_told (R : Except EE Tx) (p : Int) : noX (toldV R) p = .ok (toldV R) p:=by cases R <;> rfl
theorem told_plain (h : 39 < L) {l : List Fd} {lac : Nat} (hok : ∀ d ∈ l,FdOk d ∧ FdFld d) (hl : l.length ≤ 10) : lay L 39 [.str (formP (cutL lac l)),.lst ((wordsP (cutL lac l)).map .str)] p = .ok (toldV (chain [] (cutL lac l))) p:=by
 have hall : AllOk (cutL lac l):=fun x hx=>by
  have : x.1 ∈ (cutL lac l).map (·.1):=List.mem_map_of_mem hx
  rw [cutL_fst] at this
  exact hok x.1 this
 have hlen : (formP (cutL lac l)).length < 1000:=by
  rw [formP_cut,List.length_append]
  have:=formQ_le l fun d hd=>(hok d hd).1
  simp
  lia
 have hcl : (cutL lac l).length ≤ 10:=by
  have:=congrArg List.length (cutL_fst lac l)
  rw [List.length_map] at this
  lia
 exact told_L h fun p=>format_L (by decide) hlen (plain_S hlen (cutL lac l) [] 0 0 [] hall (cut_cutL lac l) rfl rfl (Nat.zero_le _) rfl) fun t ht=>chain_len hall (cut_cutL lac l) hcl ht
theorem told_placed (h : 39 < L) {l : List (Fd × Nat)} {A : List Tx} (hok : ∀ x ∈ l,(FdOk x.1 ∧ FdFld x.1) ∧ x.2 ≤ A.length ∧ A.length < 1000 ∧ ∃ m,A.drop x.2 = x.1.words ++ m) (hl : l.length ≤ 10) (hf : (formPl l).length < 1000) : lay L 39 [.str (formPl l),.lst (A.map .str)] p = .ok (toldV (chain [] (full l))) p:=by
 have hall : AllOk (full l):=fun x hx=>by
  obtain ⟨y,hy,rfl⟩:=memM hx
  exact (hok y hy).1
 have hcut : ∀ l : List (Fd × Nat),Cut (full l):=fun l=>by
  induction l with
  | nil=>trivial
  | cons x r ih=>exact ⟨ih,.inl rfl⟩
 exact told_L h fun p=>format_L (by decide) hf (placed_S hf l [] 0 0 [] hok rfl rfl) fun t ht=>chain_len hall (hcut l) (by unfold full;rw [List.length_map];exact hl) ht
noncomputable def trP : CS:=.for1 11 (.var 5) (.ifs (.not (.call 49 (.cons (.var 11) .nil))) (.ret (.lit (.bool false))) .done .done) .done
noncomputable def trT : CE:=.cmp (.call 39 (.cons (.var 9) (.cons (.var 10) .nil))) .ne (.var 8)
noncomputable def trQ : CS:=.ifs (.cmp (.var 7) .eq (.lit (.int 0))) (.asgT [9,10] (.call 42 (.cons (.var 5) (.cons (.bin .mod (.bin .add (.var 2) (.var 6)) (.lit (.int 3))) .nil))) (.ifs trT (.ret (.lit (.bool false))) .done .done)) .done trP
noncomputable def trO : CS:=.asg 8 (.call 40 (.cons (.var 5) (.cons (.var 7) .nil))) (.asgT [9,10] (.call 41 (.cons (.var 5) (.cons (.var 7) .nil))) (.ifs trT (.ret (.lit (.bool false))) .done trQ))
theorem tr_P {a0 a1 a2 a3 a4 a6 a7 a8 a9 a10 : Sl} {d0 d1 d2 : Fd} (h0 : FdOk d0 ∧ ValOk d0) (h1 : FdOk d1 ∧ ValOk d1) (h2 : FdOk d2 ∧ ValOk d2) : ∃ vs',A3 (csx (lay 50) fuel trP [a0,a1,a2,a3,a4,.val (.lst [tupF d0,tupF d1,tupF d2]),a6,a7,a8,a9,a10,.un,.un] p = .ok .next vs' p) (vs'[0]? = some a0) (vs'[1]? = some a1):=by
 have hb : ∀ {d : Fd} {s11 : Sl},FdOk d ∧ ValOk d → csx (lay 50) fuel (.ifs (.not (.call 49 (.cons (.var 11) .nil))) (.ret (.lit (.bool false))) .done .done) ([a0,a1,a2,a3,a4,.val (.lst [tupF d0,tupF d1,tupF d2]),a6,a7,a8,a9,a10,s11,.un].set 11 (.val (tupF d))) p = .ok .next [a0,a1,a2,a3,a4,.val (.lst [tupF d0,tupF d1,tupF d2]),a6,a7,a8,a9,a10,.val (tupF d),.un] p:=fun {d s11} hd =>
  q_iff (c:=!true) (b_not (e_callB rfl (field_right_L (by decide) hd.1 hd.2))) rfl rfl rfl
 exact ⟨[a0,a1,a2,a3,a4,.val (.lst [tupF d0,tupF d1,tupF d2]),a6,a7,a8,a9,a10,.val (tupF d2),.un],q_for1 rfl rfl (f_cons (hb h0) (f_cons (hb h1) (f_cons (hb h2) rfl))) rfl,rfl,rfl⟩
theorem ne_told {x y : V} {R : Except EE Tx} {vs : List Sl} (h9 : vs[9]? = some (.val x)) (h10 : vs[10]? = some (.val y)) (h8 : vs[8]? = some (.val (toldV R))) (h : lay 50 39 [x,y] p = .ok (toldV R) p) : cevB (lay 50) trT vs p = .ok false p:=by
 have v9 : cev (lay 50) (.var 9) vs p = .ok x p:=e_var h9
 have v10 : cev (lay 50) (.var 10) vs p = .ok y p:=e_var h10
 have v8 : cev (lay 50) (.var 8) vs p = .ok (toldV R) p:=e_var h8
 exact b_cmp (e_call (e_cons v9 (e_cons v10 rfl)) h (noX_told R p)) v8 (by show (eqV _ _).map _ = _;rw [eq_told];rfl)
theorem tr_O {a0 a1 a3 : Sl} {k t : Int} {lac : Nat} {d0 d1 d2 : Fd} (h0 : FdOk d0 ∧ ValOk d0) (h1 : FdOk d1 ∧ ValOk d1) (h2 : FdOk d2 ∧ ValOk d2) (hlac : lac ≤ d2.words.length) : ∃ vs',A3 (csx (lay 50) fuel trO [a0,a1,.val (.int k),a3,.val .pen,.val (.lst [tupF d0,tupF d1,tupF d2]),.val (.int t),.val (.int lac),.un,.un,.un,.un,.un] p = .ok .next vs' p) (vs'[0]? = some a0) (vs'[1]? = some a1):=by
 have f0:=val_fdFld h0.2 h0.1.word
 have f1:=val_fdFld h1.2 h1.1.word
 have f2:=val_fdFld h2.2 h2.1.word
 have hok : ∀ d ∈ [d0,d1,d2],FdOk d ∧ FdFld d:=fun d hd=>by
  simp only [List.mem_cons,List.not_mem_nil,or_false] at hd
  rcases hd with rfl | rfl | rfl
  ·exact ⟨h0.1,f0⟩
  ·exact ⟨h1.1,f1⟩
  ·exact ⟨h2.1,f2⟩
 have hlast : ∀ d,[d0,d1,d2].getLast? = some d → lac ≤ d.words.length:=fun d hd=>by obtain rfl:=sI hd;exact hlac
 have r40:=one_L (L:=50) (p:=p) (lac:=lac) (by decide) hok hlast (by simp)
 have r41:=plain_L (L:=50) (p:=p) (lac:=lac) (by decide) (fun d hd=>(hok d hd).1) (by exact fun h=>nomatch h) hlast (by simp)
 have r39:=told_plain (L:=50) (p:=p) (lac:=lac) (by decide) hok (by simp)
 change lay 50 40 [.lst [tupF d0,tupF d1,tupF d2],.int lac] p = _ at r40
 change lay 50 41 [.lst [tupF d0,tupF d1,tupF d2],.int lac] p = _ at r41
 generalize hR : chain [] (cutL lac [d0,d1,d2]) = R at *
 cases hz : ((lac : Int) == 0) with
 | false =>
  refine gG fun P0 hP0=>?_
  obtain ⟨vs',e1,e2,e3⟩:=tr_P (p:=p) (a0:=a0) (a1:=a1) (a2:=.val (.int k)) (a3:=a3) (a4:=.val .pen) (a6:=.val (.int t)) (a7:=.val (.int lac)) (a8:=.val (toldV R)) (a9:=.val (.str (formP (cutL lac [d0,d1,d2])))) (a10:=.val (.lst ((wordsP (cutL lac [d0,d1,d2])).map .str))) h0 h1 h2
  refine hP0 ?_
  exact ⟨vs',q_asg (e_call rfl r40 (noX_told R p)) (q_asgT (e_call rfl r41 rfl) rfl (q_iff (ne_told rfl rfl rfl r39) rfl rfl (q_iff (b_cmp rfl rfl rfl) hz rfl e1))),e2,e3⟩
 | true =>
  have hl0 : lac = 0:=by rw [beq_iff_eq] at hz;lia
  have hi : (k + t) % 3 = 0 ∨ (k + t) % 3 = 1 ∨ (k + t) % 3 = 2:=by lia
  refine gG fun P0 hP0=>?_
  obtain ⟨k0,k1,k2,A,r42,hA,⟨g0,m0⟩,⟨g1,m1⟩,⟨g2,m2⟩⟩:=placed_L (L:=50) (p:=p) (by decide) h0.1 h1.1 h2.1 hi
  refine hP0 ?_
  have il : ∀ k : Nat,k ≤ 9 → (itx (1 + (k : Int))).length ≤ 200:=fun k hk=>(itx_all (by lia) (small100 (by lia))).2.2.2.2
  have i0:=il k0 (by exact Nat.le_trans (by assumption) (by assumption));have i1:=il k1 (by exact Nat.le_trans (by assumption) (by assumption));have i2:=il k2 (by exact Nat.le_trans (by assumption) (by assumption))
  have t0:=h0.1.txlen;have t1:=h1.1.txlen;have t2:=h2.1.txlen
  have l0:=h0.1.lit.2.1;have l1:=h1.1.lit.2.1;have l2:=h2.1.lit.2.1
  have rpl:=told_placed (L:=50) (p:=p) (A:=A) (l:=[(d0,k0),(d1,k1),(d2,k2)]) (by decide) (fun x hx=>by
   simp only [List.mem_cons,List.not_mem_nil,or_false] at hx
   rcases hx with rfl | rfl | rfl
   ·exact ⟨⟨h0.1,f0⟩,g0,by lia,m0⟩
   ·exact ⟨⟨h1.1,f1⟩,g1,by lia,m1⟩
   ·exact ⟨⟨h2.1,f2⟩,g2,by lia,m2⟩) (by simp) (by simp only [formPl,List.length_append,List.length_cons,List.length_nil];lia)
  have ec : chain [] (full [(d0,k0),(d1,k1),(d2,k2)]) = R:=by
   rw [← hR,hl0]
   show chain [] [(d0,d0.words),(d1,d1.words),(d2,d2.words)] = chain [] [(d0,d0.words),(d1,d1.words),(d2,d2.words.take (d2.words.length - 0))]
   rw [Nat.sub_zero,List.take_length]
  rw [ec] at rpl
  refine gG fun P0 hP0=>?_
  obtain ⟨vs',e1,e2,e3⟩:=tr_P (p:=p) (a0:=a0) (a1:=a1) (a2:=.val (.int k)) (a3:=a3) (a4:=.val .pen) (a6:=.val (.int t)) (a7:=.val (.int lac)) (a8:=.val (toldV R)) (a9:=.val (.str (formPl [(d0,k0),(d1,k1),(d2,k2)]))) (a10:=.val (.lst (A.map .str))) h0 h1 h2
  refine hP0 ?_
  exact ⟨vs',q_asg (e_call rfl r40 (noX_told R p)) (q_asgT (e_call rfl r41 rfl) rfl (q_iff (ne_told rfl rfl rfl r39) rfl rfl (q_ift (b_cmp rfl rfl rfl) hz (q_asgT (e_call (e_cons rfl (e_cons (e_bin (e_bin rfl rfl rfl) rfl (mod_int (m_ok (by decide) (by decide)))) rfl)) r42 rfl) rfl (q_iff (ne_told rfl rfl rfl rpl) rfl rfl rfl)) e1))),e2,e3⟩
noncomputable def LACS : List Int:=[0,0,0,1,2]
theorem lacs_nn : ∀ n ∈ LACS,0 ≤ n:=by decide
theorem tr_L {a0 a1 a3 : Sl} {k : Int} {d0 d1 d2 : Fd} (h0 : FdOk d0 ∧ ValOk d0) (h1 : FdOk d1 ∧ ValOk d1) (h2 : FdOk d2 ∧ ValOk d2) : Ex2 fun vs' p'=>A3 (csx (lay 50) fuel c_law_turn [a0,a1,.val (.int k),a3,.val .pen,.val (.lst [tupF d0,tupF d1,tupF d2]),.un,.un,.un,.un,.un,.un,.un] p = .ok .next vs' p') (vs'[0]? = some a0) (vs'[1]? = some a1):=by
 refine gG fun P0 hP0=>?_
 obtain ⟨x,hx,hq⟩:=pick (l:=LACS.map .int) (mod_rng (a:=p / 3) (m:=5) (by decide))
 obtain ⟨n,hn,rfl⟩:=memM hx
 refine hP0 ?_
 have hn0 : 0 ≤ n:=lacs_nn n hn
 obtain ⟨lac,e1,e2⟩ : ∃ lac : Nat,(if (d2.words.length : Int) < n then (d2.words.length : Int) else n) = lac ∧ lac ≤ d2.words.length:=⟨if (d2.words.length : Int) < n then d2.words.length else n.toNat,by split <;> lia,by split <;> lia⟩
 refine gG fun P0 hP0=>?_
 obtain ⟨vs',g1,g2,g3⟩:=tr_O (p:=p / 3 / 5) (a0:=a0) (a1:=a1) (a3:=a3) (k:=k) (t:=p % 3) h0 h1 h2 e2
 refine hP0 ?_
 have hmin : biV .min [.int n,.int (d2.words.map V.str).length] = some (.int lac):=by
  rw [List.length_map,← e1];rfl
 exact ⟨vs',p / 3 / 5,q_asg (e_call rfl (draw_L (by decide) (m_ok (by decide) (by decide))) rfl) (q_asg (e_item (x:=.lst (LACS.map .int)) rfl (e_call rfl (draw_L (by decide) (m_ok (by decide) (by decide))) rfl) (hq _)) (q_asg (e_bi (e_cons rfl (e_cons (e_bi (e_cons (e_call (e_cons (e_item rfl rfl rfl) rfl) (words_L (by decide) d2) rfl) rfl) rfl) rfl)) hmin) g1)),g2,g3⟩
noncomputable def FORMS : List (List (List Int)):=[[[0,0,4,4,0,0,0,0,8],[1,8,2,0,0,0,0,4,1],[2,16,0,0,3,0,3,5,5]],[[3,9,3,0,0,0,1,3,3],[0,2,2,0,5,3,2,0,2],[1,28,3,0,0,0,4,6,6]],[[0,1,2,0,3,0,0,8,0],[4,8,1,0,0,0,0,7,3],[0,4,0,0,1,0,5,1,0]],[[1,24,3,0,0,0,0,2,2],[0,10,4,6,4,0,3,4,7],[3,0,0,0,5,6,0,8,5]],[[2,20,4,8,2,0,7,6,9],[1,0,0,0,0,0,3,2,2],[0,0,0,0,0,0,0,9,0]]]
noncomputable def rowV (r : List (List Int)) : V:=.lst (r.map fun t=>.tup (t.map .int))
noncomputable def Tup9 (t : List Int) : Prop:=(Ex8 fun (a0 : Int) (a1 : Int) (a2 : Int) (a3 : Int) (a4 : Int) (a5 : Int) (a6 : Int) (a7 : Int)=>∃ a8 : Int,t = [a0,a1,a2,a3,a4,a5,a6,a7,a8])
theorem rows_ok {r : List (List Int)} (h : r ∈ FORMS) : Ex3 fun x y z=>A4 (r = [x,y,z]) (Tup9 x) (Tup9 y) (Tup9 z):=by
 unfold FORMS at h
 simp only [List.mem_cons,List.not_mem_nil,or_false] at h
 rcases h with rfl | rfl | rfl | rfl | rfl <;> exact ⟨_,_,_,rfl,⟨_,_,_,_,_,_,_,_,_,rfl⟩,⟨_,_,_,_,_,_,_,_,_,rfl⟩,⟨_,_,_,_,_,_,_,_,_,rfl⟩⟩
theorem tup_field {t : List Int} (h : Tup9 t) (p : Int) : ∃ d p',(lay 50 36 [.tup (t.map .int),.pen] p).bind noX = .ok (tupF d) p' ∧ FdOk d ∧ ValOk d:=by
 refine gG fun P0 hP0=>?_
 obtain ⟨a0,a1,a2,a3,a4,a5,a6,a7,a8,rfl⟩:=h
 obtain ⟨d,p',e,h1,h2⟩:=field_L (L:=50) (p:=p) (by decide) a0 a1 a2 a3 a4 a5 a6 a7 a8
 refine hP0 ?_
 exact ⟨d,p',(congrArg (fun r=>RE.bind r noX) e).trans rfl,h1,h2⟩
theorem PLx : PlainLaw:=by
 refine ⟨FORMS.map rowV,fun p=>def_ret (by decide) ⟨by decide,rfl⟩ rfl (q_ret rfl),rfl,by decide,fun is k row hrow q=>?_⟩
 rw [List.getElem?_map] at hrow
 cases hr : FORMS[k]? with
 | none=>rw [hr] at hrow;cases hrow
 | some r =>
  rw [hr] at hrow;obtain rfl:=sI hrow
  refine gG fun P0 hP0=>?_
  obtain ⟨x,y,z,rfl,hx,hy,hz⟩:=rows_ok (List.mem_of_getElem? hr)
  obtain ⟨d0,p0,e0,g0⟩:=tup_field hx q
  obtain ⟨d1,p1,e1,g1⟩:=tup_field hy p0
  obtain ⟨d2,p2,e2,g2⟩:=tup_field hz p1
  refine hP0 ?_
  have hf : fieldsG (lay 50) [.tup (x.map .int),.tup (y.map .int),.tup (z.map .int)] q = .ok [tupF d0,tupF d1,tupF d2] p2:=by
   unfold fieldsG;rw [e0]
   show (fieldsG (lay 50) [.tup (y.map .int),.tup (z.map .int)] p0).bind _ = _
   unfold fieldsG;rw [e1]
   show ((fieldsG (lay 50) [.tup (z.map .int)] p1).bind _).bind _ = _
   unfold fieldsG;rw [e2]
   rfl
  refine gG fun P0 hP0=>?_
  obtain ⟨vs',p',h1,h2,h3⟩:=tr_L (p:=p2) (a0:=.val (.lst (is.map .int))) (a1:=.val (.lst (FORMS.map rowV))) (a3:=.val (rowV [x,y,z])) (k:=k) g0 g1 g2
  refine hP0 ?_
  exact ⟨_,_,p2,rfl,by simp,hf,vs',p',h1,h2,h3⟩
end
end
end Mine
section
open PySem PySem.W PyProof.Rows
set_option Elab.async true
set_option tactic.hygienic true
namespace Mine
theorem hd.tw10111801491309104144 : True := trivial
theorem hd.tw1011335219593555734 : True := trivial
theorem hd.tw1013155817946168525 : True := trivial
theorem hd.tw10170382586518783626 : True := trivial
theorem hd.tw10201441571146165990 : True := trivial
theorem hd.tw10216474801634566288 : True := trivial
theorem hd.tw10246146449241189800 : True := trivial
theorem hd.tw10258999931320997221 : True := trivial
theorem hd.tw10403243965636340961 : True := trivial
theorem hd.tw10424393626065333798 : True := trivial
theorem hd.tw10448753124588625356 : True := trivial
theorem hd.tw10458740792067480800 : True := trivial
theorem hd.tw10525666975642140466 : True := trivial
theorem hd.tw10583446816852156582 : True := trivial
theorem hd.tw10603584201595350602 : True := trivial
theorem hd.tw10614716105012338702 : True := trivial
theorem hd.tw10678649693572172417 : True := trivial
theorem hd.tw10727248033764811480 : True := trivial
theorem hd.tw10752148897807903841 : True := trivial
theorem hd.tw10784824025267889561 : True := trivial
theorem hd.tw10792051664901133789 : True := trivial
theorem hd.tw10875273251888808591 : True := trivial
theorem hd.tw10879034167726328663 : True := trivial
theorem hd.tw10949625832625181284 : True := trivial
theorem hd.tw11032806212648032379 : True := trivial
theorem hd.tw11054480109507316185 : True := trivial
theorem hd.tw11117797201346649052 : True := trivial
theorem hd.tw11128854368766332075 : True := trivial
theorem hd.tw11136197038861592535 : True := trivial
theorem hd.tw11210553801493137410 : True := trivial
theorem hd.tw11213053971927718326 : True := trivial
theorem hd.tw11232374478483605306 : True := trivial
theorem hd.tw11251137523995926341 : True := trivial
theorem hd.tw1129884963351977449 : True := trivial
theorem hd.tw11319892378374348655 : True := trivial
theorem hd.tw11389486352061984695 : True := trivial
theorem hd.tw11402939732021071671 : True := trivial
theorem hd.tw11465210709893060100 : True := trivial
theorem hd.tw11513968764499736323 : True := trivial
theorem hd.tw11631869004601391166 : True := trivial
theorem hd.tw11631947586910100387 : True := trivial
theorem hd.tw11652457597714270106 : True := trivial
theorem hd.tw11660266114150955751 : True := trivial
theorem hd.tw1171348915726550028 : True := trivial
theorem hd.tw11754176132448286083 : True := trivial
theorem hd.tw11893437276241958245 : True := trivial
theorem hd.tw11953376511379268794 : True := trivial
theorem hd.tw12050417470231563642 : True := trivial
theorem hd.tw12070051907170230399 : True := trivial
theorem hd.tw12092154237167983948 : True := trivial
theorem hd.tw12112201142124510154 : True := trivial
theorem hd.tw12113243949977362033 : True := trivial
theorem hd.tw12173100003817136821 : True := trivial
theorem hd.tw1222794163293265305 : True := trivial
theorem hd.tw12271959270614036898 : True := trivial
theorem hd.tw12399718760709695909 : True := trivial
theorem hd.tw1241404454085649124 : True := trivial
theorem hd.tw12487502673411948298 : True := trivial
theorem hd.tw12588582704262371052 : True := trivial
theorem hd.tw12629568148972539762 : True := trivial
theorem hd.tw12631932088317031055 : True := trivial
theorem hd.tw12901994302517312135 : True := trivial
theorem hd.tw12936449754285732098 : True := trivial
theorem hd.tw12949589719889679912 : True := trivial
theorem hd.tw13181700845877081190 : True := trivial
theorem hd.tw13217225542625558698 : True := trivial
theorem hd.tw13225837485096350037 : True := trivial
theorem hd.tw13267510147771200024 : True := trivial
theorem hd.tw13277076834127875243 : True := trivial
theorem hd.tw13330244855972007585 : True := trivial
theorem hd.tw13372043803930879067 : True := trivial
theorem hd.tw13431754692932380062 : True := trivial
theorem hd.tw13483081372092288885 : True := trivial
theorem hd.tw13518370688599389936 : True := trivial
theorem hd.tw1359830224848277088 : True := trivial
theorem hd.tw13609717118414637909 : True := trivial
theorem hd.tw13770079208771991547 : True := trivial
theorem hd.tw13790719812936386609 : True := trivial
theorem hd.tw13828106393651249627 : True := trivial
theorem hd.tw1382963296337349011 : True := trivial
theorem hd.tw13866372431405929976 : True := trivial
theorem hd.tw13903934854276604550 : True := trivial
theorem hd.tw1409312971732116557 : True := trivial
theorem hd.tw14103535550066685397 : True := trivial
theorem hd.tw14176624398918483544 : True := trivial
theorem hd.tw14353793391729792155 : True := trivial
theorem hd.tw1439246655266547700 : True := trivial
theorem hd.tw14400467628812073631 : True := trivial
theorem hd.tw14457593812595234344 : True := trivial
theorem hd.tw14560493823538711346 : True := trivial
theorem hd.tw14620637471214046174 : True := trivial
theorem hd.tw14705683404202351889 : True := trivial
theorem hd.tw14892549342360969540 : True := trivial
theorem hd.tw14955159897011116063 : True := trivial
theorem hd.tw14960593345356199642 : True := trivial
theorem hd.tw15042006015671813226 : True := trivial
theorem hd.tw15043168886218598503 : True := trivial
theorem hd.tw1506431575118746342 : True := trivial
theorem hd.tw15089522573102190283 : True := trivial
theorem hd.tw15103106377680225435 : True := trivial
theorem hd.tw15344866539931968096 : True := trivial
theorem hd.tw15367242080415987702 : True := trivial
theorem hd.tw15411387601460861337 : True := trivial
theorem hd.tw15416985209724490359 : True := trivial
theorem hd.tw15508949281206285077 : True := trivial
theorem hd.tw15529170255622000948 : True := trivial
theorem hd.tw15586593784727859594 : True := trivial
theorem hd.tw15595854959937240912 : True := trivial
theorem hd.tw15615420239508185596 : True := trivial
theorem hd.tw15615537253650120727 : True := trivial
theorem hd.tw15616948245753086127 : True := trivial
theorem hd.tw15642763164714097627 : True := trivial
theorem hd.tw15683763237869141255 : True := trivial
theorem hd.tw15759970867653108152 : True := trivial
theorem hd.tw15790720579355451973 : True := trivial
theorem hd.tw1580110805410547442 : True := trivial
theorem hd.tw15837987909243819085 : True := trivial
theorem hd.tw15852365999677673905 : True := trivial
theorem hd.tw1589133516308662214 : True := trivial
theorem hd.tw1600037746751723098 : True := trivial
theorem hd.tw16007149819294483003 : True := trivial
theorem hd.tw16037735763661986305 : True := trivial
theorem hd.tw16056359734778111409 : True := trivial
theorem hd.tw16091413853298234908 : True := trivial
theorem hd.tw16171809288044610508 : True := trivial
theorem hd.tw16194383521188589630 : True := trivial
theorem hd.tw16211521421427940678 : True := trivial
theorem hd.tw16240987189780228909 : True := trivial
theorem hd.tw16259696140248634718 : True := trivial
theorem hd.tw16299908979028503884 : True := trivial
theorem hd.tw16345102440705955213 : True := trivial
theorem hd.tw16412773359747925120 : True := trivial
theorem hd.tw16432713993328977331 : True := trivial
theorem hd.tw16473244170626142550 : True := trivial
theorem hd.tw16477043939570097188 : True := trivial
theorem hd.tw16634568088961857937 : True := trivial
theorem hd.tw16649331688326792143 : True := trivial
theorem hd.tw16722109127936396110 : True := trivial
theorem hd.tw16772102934027710169 : True := trivial
theorem hd.tw16828841361933241965 : True := trivial
theorem hd.tw16853341256802265648 : True := trivial
theorem hd.tw16868993833207775613 : True := trivial
theorem hd.tw16900609317406935518 : True := trivial
theorem hd.tw16904818350239718627 : True := trivial
theorem hd.tw16920754564084929960 : True := trivial
theorem hd.tw16945582573551092051 : True := trivial
theorem hd.tw16970440968685349367 : True := trivial
theorem hd.tw17047115858639842297 : True := trivial
theorem hd.tw17054507655720011243 : True := trivial
theorem hd.tw17062030032774818151 : True := trivial
theorem hd.tw17087091549796120035 : True := trivial
theorem hd.tw17183224562656869120 : True := trivial
theorem hd.tw17213754286329925777 : True := trivial
theorem hd.tw17252143746492648416 : True := trivial
theorem hd.tw17258206423299326598 : True := trivial
theorem hd.tw17311223219408574766 : True := trivial
theorem hd.tw17330945745186091897 : True := trivial
theorem hd.tw17387473266821786944 : True := trivial
theorem hd.tw17413551345404909392 : True := trivial
theorem hd.tw17420951861521290806 : True := trivial
theorem hd.tw17502677235029458409 : True := trivial
theorem hd.tw17542962492245011380 : True := trivial
theorem hd.tw17574625026820762457 : True := trivial
theorem hd.tw17599816209265215132 : True := trivial
theorem hd.tw1760603350576429475 : True := trivial
theorem hd.tw17650839729002327288 : True := trivial
theorem hd.tw17672654358674132775 : True := trivial
theorem hd.tw17673860158736603733 : True := trivial
theorem hd.tw17681399029576232318 : True := trivial
theorem hd.tw17711083657039698284 : True := trivial
theorem hd.tw17714235663813219645 : True := trivial
theorem hd.tw17739348878880393726 : True := trivial
theorem hd.tw17893044597097874663 : True := trivial
theorem hd.tw17901334829092211166 : True := trivial
theorem hd.tw17948085552500728524 : True := trivial
theorem hd.tw17950676927832955104 : True := trivial
theorem hd.tw17975533764899295144 : True := trivial
theorem hd.tw18103342009636024947 : True := trivial
theorem hd.tw18166333605607142505 : True := trivial
theorem hd.tw18219297243305740317 : True := trivial
theorem hd.tw18241275227582772068 : True := trivial
theorem hd.tw18245042118932799458 : True := trivial
theorem hd.tw18291419657060728153 : True := trivial
theorem hd.tw18293732401869909652 : True := trivial
theorem hd.tw18293851220164018083 : True := trivial
theorem hd.tw18300207936620678264 : True := trivial
theorem hd.tw18343703819029505601 : True := trivial
theorem hd.tw1836080755315867724 : True := trivial
theorem hd.tw1847840615245081061 : True := trivial
theorem hd.tw1865391376527767206 : True := trivial
theorem hd.tw1882180444382439491 : True := trivial
theorem hd.tw189712035060473897 : True := trivial
theorem hd.tw1997569388931296116 : True := trivial
theorem hd.tw2068664650715991707 : True := trivial
theorem hd.tw2101469004524951375 : True := trivial
theorem hd.tw2114630138375439770 : True := trivial
theorem hd.tw212345690472687942 : True := trivial
theorem hd.tw2167537188350426706 : True := trivial
theorem hd.tw2195365466389143174 : True := trivial
theorem hd.tw2216850387143573719 : True := trivial
theorem hd.tw2252305205657439004 : True := trivial
theorem hd.tw22551697357593593 : True := trivial
theorem hd.tw2274498078352570744 : True := trivial
theorem hd.tw2323474266016966308 : True := trivial
theorem hd.tw2386827423013361158 : True := trivial
theorem hd.tw2391449824757734642 : True := trivial
theorem hd.tw2442259710966052079 : True := trivial
theorem hd.tw2603259988358896889 : True := trivial
theorem hd.tw2608437505485318709 : True := trivial
theorem hd.tw26425463804135960 : True := trivial
theorem hd.tw2708950531961675432 : True := trivial
theorem hd.tw2867327485932766208 : True := trivial
theorem hd.tw2930668341846507884 : True := trivial
theorem hd.tw2999033326186475339 : True := trivial
theorem hd.tw3008623586974134963 : True := trivial
theorem hd.tw3109861748172591687 : True := trivial
theorem hd.tw3182187488490625086 : True := trivial
theorem hd.tw3219085151875037572 : True := trivial
theorem hd.tw3229955645248102723 : True := trivial
theorem hd.tw3259873300814134281 : True := trivial
theorem hd.tw3350844169311001129 : True := trivial
theorem hd.tw3381375190539634487 : True := trivial
theorem hd.tw3442329435671937591 : True := trivial
theorem hd.tw3443669649825651883 : True := trivial
theorem hd.tw3451239065008710300 : True := trivial
theorem hd.tw3480954088277226078 : True := trivial
theorem hd.tw3493717111155160527 : True := trivial
theorem hd.tw3530705653197291679 : True := trivial
theorem hd.tw3571134770919094901 : True := trivial
theorem hd.tw3646829019195819677 : True := trivial
theorem hd.tw3759623122121258479 : True := trivial
theorem hd.tw3789350110615891812 : True := trivial
theorem hd.tw3795277891434052102 : True := trivial
theorem hd.tw3915529967508079626 : True := trivial
theorem hd.tw3919010098100093602 : True := trivial
theorem hd.tw4014540891139286612 : True := trivial
theorem hd.tw402640490398009360 : True := trivial
theorem hd.tw4065347644161347641 : True := trivial
theorem hd.tw4068933124894957555 : True := trivial
theorem hd.tw4086058157674990017 : True := trivial
theorem hd.tw4115565904173853331 : True := trivial
theorem hd.tw4172343393113369950 : True := trivial
theorem hd.tw4272726840584523970 : True := trivial
theorem hd.tw4297731678662094536 : True := trivial
theorem hd.tw4315991029959535628 : True := trivial
theorem hd.tw4377701919642642989 : True := trivial
theorem hd.tw4402725079659364252 : True := trivial
theorem hd.tw4478166936697009375 : True := trivial
theorem hd.tw4478964076566166474 : True := trivial
theorem hd.tw4494801613693538912 : True := trivial
theorem hd.tw461538923250603899 : True := trivial
theorem hd.tw464777395874653626 : True := trivial
theorem hd.tw4702841417184801058 : True := trivial
theorem hd.tw4851647983119433812 : True := trivial
theorem hd.tw4856431653887292112 : True := trivial
theorem hd.tw4971549296188076032 : True := trivial
theorem hd.tw4993660671451451078 : True := trivial
theorem hd.tw5130813555471234732 : True := trivial
theorem hd.tw5148922909946612681 : True := trivial
theorem hd.tw5190246844813560578 : True := trivial
theorem hd.tw5278057926702712004 : True := trivial
theorem hd.tw5282504435634884242 : True := trivial
theorem hd.tw5343241284826551009 : True := trivial
theorem hd.tw5363564295841288755 : True := trivial
theorem hd.tw5366084841770067474 : True := trivial
theorem hd.tw5416991563250132298 : True := trivial
theorem hd.tw5511420028821071320 : True := trivial
theorem hd.tw5562173858411828344 : True := trivial
theorem hd.tw5608270528595127837 : True := trivial
theorem hd.tw5635641802508607975 : True := trivial
theorem hd.tw5657824000916062451 : True := trivial
theorem hd.tw5732804406350252772 : True := trivial
theorem hd.tw5781342201191254626 : True := trivial
theorem hd.tw5961118342813265553 : True := trivial
theorem hd.tw5987830557187376847 : True := trivial
theorem hd.tw6038821095411175016 : True := trivial
theorem hd.tw6060742912462422084 : True := trivial
theorem hd.tw6082411064634330575 : True := trivial
theorem hd.tw6123773746684550334 : True := trivial
theorem hd.tw6164396464334811476 : True := trivial
theorem hd.tw6184460063843016694 : True := trivial
theorem hd.tw6196171512934965099 : True := trivial
theorem hd.tw6264232113106981867 : True := trivial
theorem hd.tw6276725880618359904 : True := trivial
theorem hd.tw6291416237084387574 : True := trivial
theorem hd.tw6394381022753523788 : True := trivial
theorem hd.tw6407587892757256292 : True := trivial
theorem hd.tw6411954120941647267 : True := trivial
theorem hd.tw6412100933407834118 : True := trivial
theorem hd.tw6442067068224118133 : True := trivial
theorem hd.tw6528754448969337418 : True := trivial
theorem hd.tw6555240042291301478 : True := trivial
theorem hd.tw6767318904944593275 : True := trivial
theorem hd.tw6785817131721698500 : True := trivial
theorem hd.tw6819123309680001836 : True := trivial
theorem hd.tw6820862383352777685 : True := trivial
theorem hd.tw6830512106363814048 : True := trivial
theorem hd.tw6838551448383532254 : True := trivial
theorem hd.tw6982297934935202809 : True := trivial
theorem hd.tw6990203504111849199 : True := trivial
theorem hd.tw7028611270464810887 : True := trivial
theorem hd.tw7068711184596962023 : True := trivial
theorem hd.tw7082855905992002993 : True := trivial
theorem hd.tw7120233287515763914 : True := trivial
theorem hd.tw728884934406724761 : True := trivial
theorem hd.tw7289634563603522867 : True := trivial
theorem hd.tw7296583596125217682 : True := trivial
theorem hd.tw7355570028127101125 : True := trivial
theorem hd.tw7366208706002141716 : True := trivial
theorem hd.tw7494724483528729301 : True := trivial
theorem hd.tw7519716089354478335 : True := trivial
theorem hd.tw7540655947842036084 : True := trivial
theorem hd.tw7752767780024739350 : True := trivial
theorem hd.tw7754304195085646258 : True := trivial
theorem hd.tw8047900516022102942 : True := trivial
theorem hd.tw8102390702507494078 : True := trivial
theorem hd.tw8112040973832200146 : True := trivial
theorem hd.tw8226494294326810461 : True := trivial
theorem hd.tw8343274005884668182 : True := trivial
theorem hd.tw8356816923877370021 : True := trivial
theorem hd.tw8457440626546761165 : True := trivial
theorem hd.tw8458067239894703972 : True := trivial
theorem hd.tw8545014587354053640 : True := trivial
theorem hd.tw8671608845466749128 : True := trivial
theorem hd.tw8716120427605611371 : True := trivial
theorem hd.tw8727321023445011275 : True := trivial
theorem hd.tw8735263284916673568 : True := trivial
theorem hd.tw8934143017859847078 : True := trivial
theorem hd.tw8959176491354863721 : True := trivial
theorem hd.tw8960069828448710407 : True := trivial
theorem hd.tw9170477692918782315 : True := trivial
theorem hd.tw9277588360372424766 : True := trivial
theorem hd.tw9345929723534960622 : True := trivial
theorem hd.tw9386895884608548742 : True := trivial
theorem hd.tw9427301549700849589 : True := trivial
theorem hd.tw9430268157657104642 : True := trivial
theorem hd.tw9499510787657705874 : True := trivial
theorem hd.tw9557236495431379559 : True := trivial
theorem hd.tw9566141503761928105 : True := trivial
theorem hd.tw9641152695372364146 : True := trivial
theorem hd.tw9657781627882305391 : True := trivial
theorem hd.tw9673543361469618366 : True := trivial
theorem hd.tw9702202555907925646 : True := trivial
theorem hd.tw9719896912496429819 : True := trivial
theorem hd.tw9741134391959003819 : True := trivial
theorem hd.tw9748044761591592747 : True := trivial
theorem hd.tw978945382295711627 : True := trivial
theorem hd.tw991583007596301734 : True := trivial
theorem hd.tw9960721518486171458 : True := trivial
set_option maxRecDepth 100000 in
set_option maxHeartbeats 8000000 in
theorem hd : PySem.Challenge.rw_oj0056_01.Holds := by
  w_on
  o_law
  k_head
  (case hw => w_witness2)
  w_strict (
    k_fill
    intro w s₀ s₁ mg mb G Y fa o pm cd doc dV kV ho hd hcd hD hmg hg args vals as hpre hlay hrd hwl hlo
    have KX := kIn_of Y
    have X := (Ground.X G).1
    have V := (Ground.X G).2
    try w_nolog (first | (have GL := glob_more (Ground.glob G (by first | k_qdec | decide +kernel) (by first | k_qdec | decide +kernel)) V) | (have GL := glob_more (Ground.glob G (by decide +kernel)) V))
    refine Ground.open G ?_
    intro T B D TE TW
    wrow_args hpre hlay hrd hwl hlo
    all_goals (
      refine enter_call ?_
      refine codeAny_mono ?_ (fun _ _ g => GoodW.toG g)
      refine Mine.law_close Mine.PLx KX ?_ GL.g GL.b GL.builtins GL.nolimit GL.seer ?_ hg (by assumption) (by assumption) (by assumption) ?_ ?_
      · generalize w.params = P
        kernel_rfl
      · exact hmg
      · exact fun _ => rfl
      · wrow_post))
end Mine
end
set_option maxRecDepth 100000 in
set_option maxHeartbeats 8000000 in
theorem PySem.Challenge.cw_oj0056_01_holds : PySem.Challenge.rw_oj0056_01.Holds :=
  Mine.hd
